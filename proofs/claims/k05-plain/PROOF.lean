import PyProof.Rows.All
import Wide.All
import OpenK.AllK
import Wide.FinOn
import HandS.ForMost
import HandS.EndBits
import HandS.Defaults
import HandS.WideBits
import HandS.Style
import HandS.IsInst
import HandS.NoneIn
import HandS.More
import HandS.MakeKwOnly
import HandS.CallLocal
import HandS.SortKw
import HandS.TupMul
import HandS.TupAny
import KE.DataMinMax
import KE.KMinKey
import HandS.FStr
import HandS.SlotsOwn
import HandS.Codes
import HandS.Walk
import HandS.ExcInit
import KE.KExcInit
import HandS.ExcField
import HandS.ExcIs
import HandS.ExcOwn
import HandS.Lambda
import HandS.TryMany
import KE.KExcIs
import PyProof.Rows.RuleDivmod
import HandS.EndTab
import KE.KNestM
import HandS.WordsExc
import HandS.Conv
import HandS.SetFor
import PyProof.Rows.IntBool
import PyProof.StrReplace2
import HandS.DeepEq
import PyProof.Rows.SeqMore
import PyProof.Draws
import PyProof.EnumMake
import PyProof.TupleIter
import PyProof.ListStr
import HandS.ClsMeth
import HandS.ExcValue
import PyProof.StrBlock2
import PyProof.ReprNest
import KE.GoesEnumKw
import KE.GoesMore
import KE.GoesZip
import HandS.Nested
import PyProof.IsiBase
import PyProof.FactsAll.set
import PyProof.FactsAll.object
import KE.KUnpackStar
import KE.DataCmp
import PyProof.StrBlockL
import HandS.MakeKw
import KE.KExcLine
import KE.RegKTryMore
import PySem.Challenge.RW_runsort_k05_plain_ones_and_doors
set_option Elab.async false
set_option maxRecDepth 100000
set_option maxHeartbeats 4000000
namespace Rs
open PySem PySem.Spec PyProof.Rows L2

/-! ### a promise that is kept while no text of a container is under way -/
def Clr (A : Around) : Prop := A.guards = some []
theorem Clr.deep {A : Around} (c : Clr A) (e : Env) : Clr (A.deeper e) := c

structure FnG (P : Program) (w : World) (K : PySem.W.Frag) (mg : Str → Option Value) (base : Heap) (k : Nat) (f : Addr) (fd : FuncData) (ps : List Str) (sp : Sp) : Prop where
  many : ∀ vs H Q E, sp vs H Q E → vs.length = ps.length
  go : ∀ (A : Around) (o : List Env) (s : Shared) (H : Hp) (us : List Value) (a : Args) (vs : List V) (Q : VK) (E : XK), Clr A → Room k A → Env0 P w K mg base A o s H →
    BindsTo s fd a (ps.zip us) → Vals vs us → sp vs H Q E → codeAny (model P w) A (.call (.ref f) a) (CR CX0 o P w H s Q E) s
theorem FnG.up {P : Program} {w : World} {K : PySem.W.Frag} {mg : Str → Option Value} {base : Heap} {j k : Nat} {f : Addr} {fd : FuncData} {ps : List Str} {sp : Sp}
    (F : FnG P w K mg base j f fd ps sp) (h : j ≤ k) : FnG P w K mg base k f fd ps sp :=
  ⟨F.many, fun A o s H us a vs Q E c r => F.go A o s H us a vs Q E c (r.mono h)⟩
theorem FnG.of {P : Program} {w : World} {K : PySem.W.Frag} {mg : Str → Option Value} {base : Heap} {k : Nat} {f : Addr} {fd : FuncData} {ps : List Str} {sp : Sp}
    (F : FnOk P w K mg base CX0 k f fd ps sp) : FnG P w K mg base k f fd ps sp :=
  ⟨F.len, fun A o s H us a vs Q E _ r e b v h => F.run A o s H a us vs Q E r e b v h⟩

section
variable {P : Program} {w : World} {K : PySem.W.Frag} {mg : Str → Option Value} {base : Heap}
/-- a def by its body, as FnG -/
theorem defG {x qual : Str} {st : Stmt} {f : Addr} {fd : FuncData} {N ps : List Str} {k : Nat} {sp : Sp} (F : Fun K x qual st f fd) (S : FnScope N ps (defScope st))
    (many : ∀ vs H Q E, sp vs H Q E → vs.length = ps.length)
    (body : ∀ (cdv : Value) (A : Around) (o : List Env) (s : Shared) (H : Hp) (vs : List V) (Q : VK) (E : XK), Clr A →
      Room k (A.deeper (envOfC qual (defScope st) s.heap.objs.size f cdv)) → sp vs H Q E →
      ∃ t, PSs (cxOf CX0 P w K mg base N qual (defScope st) f cdv A o s H E).nox (defBody st) t ∧ t { nx := fun _ H' => Q .non H', rt := Q } (start N vs) H) :
    FnG P w K mg base (k + 1) f fd ps sp := by
  obtain ⟨oc, od, kV, doc, pm, an, cdv, ct, osl, rfl, lk, hcd⟩ := F.ex
  refine ⟨many, ?_⟩
  intro A o s H us a vs Q E c r e0 hb rv hsp
  obtain ⟨t, ht, hq⟩ := body cdv A o s H vs Q E c (r.deeper _) hsp
  have inK : ∀ b ob, K.lookup b = some ob → s.heap.get? b = some ob := fun b ob e => (e0.bs b ob (e0.mod.kin b ob e)).1
  have noL : s.heap.NoLimit := e0.mod.nolimit.keeps fun b ob e => (e0.bs b ob e).1
  refine codeAny_call_function r.depth (inK _ _ lk) rfl S.co S.gen rfl (PySem.W.codeRec_of inK hcd) (hb _ _ _ _ ?_)
  refine wpAny_newFunctionEnv_cells S.kind ?_ ?_
  · rintro ⟨n, v⟩ hy
    rcases S.par n (List.of_mem_zip hy).1 with q | q
    · exact Or.inl q
    · exact Or.inr ⟨q, PySem.W.cellsFrom_some _ _ _ (Or.inl q)⟩
  · intro env he s1 x1
    subst he
    refine ⟨noL.keeps x1.toInCall.keep, codeAny_func ?_⟩
    have J := inv_start (CX := CX0) (mg := mg) (E := E) (qual := qual) S r.hd e0 (many _ _ _ _ hsp) rv x1
    refine wpAny_mono (ht.nox.run [] s1 _ H _ J hq) ?_ ?_
    · intro fl s2 h2
      cases fl with
      | next => obtain ⟨_, H2, J2, q2⟩ := h2; exact ⟨V.non, H2, J2.os, J2.bare, J2.base, J2.hok, rfl, q2⟩
      | ret u => obtain ⟨v, _, H2, J2, r2, q2⟩ := h2; exact ⟨v, H2, J2.os, J2.bare, J2.base, J2.hok, r2, q2⟩
      | brk => obtain ⟨_, _, _, q2⟩ := h2; exact q2.elim
      | cont => obtain ⟨_, _, _, q2⟩ := h2; exact q2.elim
    · intro e s2 h2; exact h2
end

section
variable {X : Cx} {k : Nat} {f : Addr} {fd : FuncData} {ps : List Str} {sp : Sp} {dvs : List V} {ds : List Value} {x : Str} {p pos : Pos} {e : Expr} {es : List Expr} {t : TA}
theorem goG {pins : List (Addr × Obj)} {σ : L2.St} {H : Hp} {s : Shared} {Q : VK} {us : List Value} {vs : List V} (F : FnG X.prog X.w X.K X.mg X.base k f fd ps sp) (c : Clr X.A) (hr : Room k X.A)
    (hb : Binds X.K fd ps ds) (hd : Vals dvs ds) (I : Inv X pins σ H s) (r : Vals vs us) (h : sp (vs ++ dvs) H Q E0) : wpAny (model X.prog X.w) X.A (call (.ref f) us) (EP X pins σ Q) X.xe s := by
  have r2 := r.append hd
  have hl : (us ++ ds).length = ps.length := r2.length.symm.trans (F.many _ _ _ _ h)
  apply wpAny_call
  refine codeAny_mono (F.go X.A X.stack s H (us ++ ds) ⟨us, []⟩ (vs ++ dvs) Q E0 c hr I.env0 (hb s us I.kIn hl) r2 h) ?_
  intro q s2 h2
  match q, h2 with
  | .error _, h2 => exact h2.elim
  | .ok (.ret _), h2 => exact I.after h2
  | .ok .next, h2 => exact h2.elim
  | .ok .brk, h2 => exact h2.elim
  | .ok .cont, h2 => exact h2.elim
/-- f(e, ..) of such a def -/
theorem pe_callG (F : FnG X.prog X.w X.K X.mg X.base k f fd ps sp) (c : Clr X.A) (hr : Room k X.A) (hg : Gl X x) (hm : X.mg x = some (.ref f)) (hk : PySem.W.keepIn X.K (.ref f) = true)
    (hb : Binds X.K fd ps ds) (hd : Vals dvs ds) (ha : PA X (e :: es) t) (hdb : (x == ("__debug__" : Str)) = false := by decide)
    (he : starEach (e :: es) X.env = (false, eval e X.env) :: starEach es X.env := by rfl) (hpl : (backTo pos (starEach es X.env)).any (·.1) = false := by rfl) :
    PE X (.Call (.Name x p) (e :: es) [] pos) (tCall sp dvs E0 t) := by
  constructor
  intro pins s σ H Q I h
  apply wpAny_Call_Name_kw
  refine ld_glob I hg hm ?_ hdb
  refine PySem.W.callWith_K (h₀ := X.base) I.ok.mod.kin hk ?_ he hpl
  refine thn (ha.run pos pins s σ H _ I h) ?_
  rintro us s1 ⟨vs, H1, I1, r, q⟩
  exact ⟨I1.kIn, goG F c hr hb hd I1 r q⟩
theorem pe_callG0 (F : FnG X.prog X.w X.K X.mg X.base k f fd ps sp) (c : Clr X.A) (hr : Room k X.A) (hg : Gl X x) (hm : X.mg x = some (.ref f)) (hk : PySem.W.keepIn X.K (.ref f) = true)
    (hb : Binds X.K fd ps ds) (hd : Vals dvs ds) (hdb : (x == ("__debug__" : Str)) = false := by decide) : PE X (.Call (.Name x p) [] [] pos) (tCall sp dvs E0 tNil) := by
  constructor
  intro pins s σ H Q I h
  apply wpAny_Call_Name_kw
  refine ld_glob I hg hm ?_ hdb
  exact PySem.W.callWith_K0 I.kIn hk (goG (us := []) F c hr hb hd I .nil h)
end

/-! ### repr of data -/
/-- data that can be shown -/
structure Shw (d : PyData) : Prop where
  ok : d.showable = true
  sz : d.shown.length ≤ sizeLine
def rRepr (K : PySem.W.Frag) : List V → Hp → VK → Prop := fun xs H Q => ∃ x d, xs = [x] ∧ Dp K H x d ∧ Shw d ∧ d.depth ≤ 50 ∧ Q (.str d.shown) H
mutual
theorem dp_noDict {K : PySem.W.Frag} {H : Hp} : ∀ (d : PyData) (v : V), Dp K H v d → d.hasDict = false
  | .none, _, _ => by simp only [PyData.hasDict]
  | .bool _, _, _ => by simp only [PyData.hasDict]
  | .int _, _, _ => by simp only [PyData.hasDict]
  | .str _, _, _ => by simp only [PyData.hasDict]
  | .list ds, _, h => by
    cases h with
    | lst _ ha => simp only [PyData.hasDict]; exact dps_noDict ds _ ha
  | .tuple ds, _, h => by
    cases h with
    | tup _ ha => simp only [PyData.hasDict]; exact dps_noDict ds _ ha
  | .dict _, _, h => by cases h
theorem dps_noDict {K : PySem.W.Frag} {H : Hp} : ∀ (ds : List PyData) (vs : List V), DpAll K H vs ds → PyData.hasDictAll ds = false
  | [], _, _ => by simp only [PyData.hasDictAll]
  | d :: ds, _, h => by
    cases h with
    | cons h1 h2 => simp only [PyData.hasDictAll, dp_noDict d _ h1, dps_noDict ds _ h2, Bool.or_self]
end
section
variable {X : Cx}
theorem call_repr {k : Nat} (c : Clr X.A) (hr : Room k X.A) : CallR X (.builtin "repr") (rRepr X.K) := by
  intro pins s σ H xs us Q I r h
  obtain ⟨x, d, rfl, hd, hs, hdp, q⟩ := h
  cases r with
  | cons r1 r2 =>
    cases r2
    rename_i u
    have nd := dp_noDict d x hd
    obtain ⟨as, rd⟩ := Dp.reads I d x u hd r1
    have fin : ∀ h' t tk, (∀ b o, s.heap.get? b = some o → h'.get? b = some o) → EP X pins σ Q (.str d.shown t) { s with heap := h', toks := tk } :=
      fun h' t tk kp => ⟨.str d.shown, H, I.kept kp, ⟨t, rfl⟩, q⟩
    have un := hr.units
    have room : X.A.units + (d.depth + 1) < cLine := by omega
    cases x with
    | ref a =>
      cases (show u = Value.ref a from r1)
      exact repr_of_reads' (s := s) rd hs.ok (PyData.noDict_hsm nd) c room (fun _ _ e => e) fin hs.sz
    | non =>
      cases (show u = Value.none from r1)
      cases hd
      have e : PyData.shown .none = ("None" : Str) := by simp only [PyData.shown]
      rw [e] at q
      exact PySem.P.repr_of_none ⟨.str _, H, I.tok _, ⟨_, rfl⟩, q⟩
    | bl b =>
      cases (show u = Value.bool b from r1)
      cases hd
      have e : PyData.shown (.bool b) = ((if b then "True" else "False" : String) : Str) := by cases b <;> simp only [PyData.shown] <;> rfl
      rw [e] at q
      cases b <;> exact PySem.P.repr_of_bool ⟨.str _, H, I.tok _, ⟨_, rfl⟩, q⟩
    | int i =>
      obtain ⟨t, rfl⟩ := (show ∃ t, u = Value.int i t from r1)
      cases hd
      have e : PyData.shown (.int i) = ((toString i : String) : Str) := by simp only [PyData.shown]
      have z : i.natAbs.log2 < 1920 := by simpa [PyData.showable] using hs.ok
      rw [e] at q
      exact PySem.P.repr_of_int z ⟨.str _, H, I.tok _, ⟨_, rfl⟩, q⟩
    | str x =>
      obtain ⟨t, rfl⟩ := (show ∃ t, u = Value.str x t from r1)
      cases hd
      have e : PyData.shown (.str x) = reprText x := by simp only [PyData.shown]
      have z := hs.sz
      rw [e] at q z
      exact PySem.P.repr_of_str ⟨.str _, H, I.tok _, ⟨_, rfl⟩, q⟩ z
    | byt _ => cases hd
    | flt _ => cases hd
    | ty _ => cases hd
end

/-! ### slices with a step -/
/-- the places that a slice takes -/
def slIx (n : Nat) (lo hi st : Option Int) : List Nat := sliceRange (sliceBounds lo hi st n).1 (sliceBounds lo hi st n).2.1 (sliceBounds lo hi st n).2.2
def pickV (xs : List V) (lo hi st : Option Int) : List V := (slIx xs.length lo hi st).filterMap (xs[·]?)
theorem vals_pick {xs : List V} {us : List Value} (r : Vals xs us) : ∀ ix : List Nat, Vals (ix.filterMap (xs[·]?)) (ix.filterMap (us[·]?))
  | [] => .nil
  | i :: ix => by
    have ih := vals_pick r ix
    cases e : xs[i]? with
    | none =>
      have e' := r.none_of e
      rw [List.filterMap_cons_none e, List.filterMap_cons_none e']
      exact ih
    | some x =>
      obtain ⟨u, e', ru⟩ := r.get e
      rw [List.filterMap_cons_some e, List.filterMap_cons_some e']
      exact .cons ru ih
def tSl3 (K : PySem.W.Frag) (te : TE) (tl th ts : TO) : TE := fun σ H Q => te σ H fun x H1 => tl σ H1 fun l H2 => th σ H2 fun u H3 => ts σ H3 fun st H4 => ∃ a xs, x = .ref a ∧ SqL K H4 a xs ∧ st ≠ some 0 ∧
  ∀ p, H4 p = none → Q (.ref p) (upd H4 p (.lst (pickV xs l u st)))
section
variable {X : Cx}
theorem pe_slice3 {e : Expr} {te : TE} {lo hi st : Option Expr} {tl th ts : TO} {p2 pos : Pos} (he : PE X e te) (hl : PO X lo tl) (hh : PO X hi th) (hs : PO X st ts)
    (hsub : ∀ ov iv, subscripted (.Slice lo hi st p2) false ov iv = operate [ov, iv] (getItem ov iv) := by intro _ _; with_unfolding_all rfl) : PE X (.Subscript e (.Slice lo hi st p2) pos) (tSl3 X.K te tl th ts) := by
  constructor
  intro pins s σ H Q I h
  refine PyProof.Rows.Subscript_ (thn (he.run pins s σ H _ I h) ?_)
  rintro v s1 ⟨x, H1, I1, r1, q1⟩
  refine wpAny_Slice (thn (hl.run pins s1 σ H1 _ I1 q1) ?_)
  rintro vl s2 ⟨l, H2, I2, pl, q2⟩
  refine thn (hh.run pins s2 σ H2 _ I2 q2) ?_
  rintro vu s3 ⟨u, H3, I3, pu, q3⟩
  refine thn (hs.run pins s3 σ H3 _ I3 q3) ?_
  rintro vs s4 ⟨c, H4, I4, ps, a, xs, ex, hx, h0, q4⟩
  subst ex
  cases r1
  have I5 : Inv X pins σ H4 { s4 with heap := s4.heap.push { cls := .type "slice", data := .fields #[vl, vu, vs] } } := I4.kept (t' := s4.toks) fun b ob q => Heap.get?_push_of_some _ q
  obtain ⟨its, rv, ht, hz⟩ := I5.list hx
  have hlen : its.length = xs.length := rv.length.symm
  show wpAny (model X.prog X.w) X.A (subscriptTail e (.Slice lo hi st p2) (.ref a) (.ref s4.heap.objs.size)) (EP X pins σ Q) X.xe _
  refine tail_any (ops := [.ref a, .ref s4.heap.objs.size]) ht.isList.typeIs PySem.slot_list_getitem.lookup ?_ (hsub _ _)
  refine wpAny_getItem_list_slice ht.isList (Heap.IsSliceOf.new _ vl vu vs) pl pu ps h0 ?_ (by rw [List.size_toArray, hlen]; exact hz)
  have hp : PySem.slicePick its.toArray l u c = ((slIx xs.length l u c).filterMap (its[·]?)).toArray := by
    unfold PySem.slicePick slIx
    rw [List.size_toArray, hlen]
    simp only [List.getElem?_toArray]
  have hn := PySem.slicePick_size_le its.toArray l u c
  rw [hp, List.size_toArray, List.size_toArray, hlen] at hn
  rw [hp]
  refine ⟨.ref _, _, I5.laid (t' := s4.toks) (o := .lst (pickV xs l u c)) (fun b ob q => Heap.get?_push_of_some _ q) (Nat.le_refl _) ?_, rfl, q4 _ (I5.hok.fresh (Nat.le_refl _))⟩
  refine ⟨?_, _, 0, vals_pick rv _, Heap.get?_push_size _ rfl⟩
  have e := (vals_pick rv (slIx xs.length l u c)).length
  show (List.filterMap (fun i => xs[i]?) (slIx xs.length l u c)).length ≤ sizeLine
  rw [e]
  exact Nat.le_trans hn hz
end

/-! ### a call by keywords alone -/
section
variable {X : Cx} {CX : CXT} {k : Nat} {f : Addr} {fd : FuncData} {ps ks : List Str} {sp : Sp} {E : XK} {x : Str} {p pos : Pos} {kws : List Keyword} {tk : TA} {g : List Value → List Value → List Value} {gV : List V → List V → List V}
theorem pe_callK0 (F : FnOk X.prog X.w X.K X.mg X.base CX k f fd ps sp) (hr : Room k X.A) (hg : Gl X x) (hm : X.mg x = some (.ref f)) (hk : PySem.W.keepIn X.K (.ref f) = true) (hb : KBn X.K fd ps 0 ks g gV) (hx : Passes CX X E)
    (hkw : PK X kws tk) (hall : (backToKw pos (keywordEach kws X.env)).all (·.1.isSome) = true := by rfl) (hks : (backToKw pos (keywordEach kws X.env)).filterMap (·.1) = ks := by rfl)
    (hdb : (x == ("__debug__" : Str)) = false := by decide) : PE X (.Call (.Name x p) [] kws pos) (tCallN 0 ks.length sp gV E tNil tk) := by
  constructor
  intro pins s σ H Q I h
  apply wpAny_Call_Name_kw
  refine ld_glob I hg hm ?_ hdb
  have np : ((backTo pos (starEach [] X.env)).any (·.1) || (backToKw pos (keywordEach kws X.env)).any (·.1.isNone)) = false := by
    have z : ∀ l : List (Option Str × Sem Value), l.all (·.1.isSome) = true → l.any (·.1.isNone) = false := by
      intro l hl
      induction l with
      | nil => rfl
      | cons q l ih =>
        simp only [List.all_cons, Bool.and_eq_true] at hl
        simp only [List.any_cons, ih hl.2, Bool.or_false]
        cases e : q.1 with
        | none => rw [e] at hl; exact absurd hl.1 (by decide)
        | some _ => rfl
    rw [z _ hall]; rfl
  refine PySem.W.callWith_KW0 (h₀ := X.base) I.ok.mod.kin hk hall ?_ np
  refine thn (hkw.run pos pins s σ H _ I h) ?_
  rintro ws s1 ⟨zs, H1, I1, rz, _, l2, q⟩
  refine ⟨I1.kIn, ?_⟩
  rw [hks]
  exact run_fnN (us := []) F hr hb hx I1 .nil rz rfl l2 q
end

/-! ### the law's own call -/
/-- the heap that knows of nothing but the script (at a, where it stands apart) -/
def scriptH (own : Bool) (a : Addr) (o : Obj) (ns : List Int) : Hp := fun b => if own = true ∧ b = a then some (.frz o (.lst (ns.map V.int))) else none
theorem scriptH_only (own : Bool) (a : Addr) (o : Obj) (ns : List Int) : Only (scriptH own a o ns) := fun b => by
  unfold scriptH
  split
  · exact Or.inr ⟨_, _, rfl⟩
  · exact Or.inl rfl
theorem scriptH_some {own : Bool} {a b : Addr} {o : Obj} {ns : List Int} {u : HO} (h : scriptH own a o ns b = some u) : own = true ∧ b = a ∧ u = .frz o (.lst (ns.map V.int)) := by
  unfold scriptH at h
  split at h
  · rename_i z; exact ⟨z.1, z.2, (Option.some.inj h).symm⟩
  · cases h
theorem lawG {P : Program} {w : World} {K : PySem.W.Frag} {mg mb : Str → Option Value} {k : Nat} {fa a : Addr} {fd : FuncData} {x : Str} {sp : Sp} {s : Shared} {vs : List Value} {ns : List Int}
    (KX : K.In s.heap) (hm : s.heap.Ns mainGlobals mg) (hb : s.heap.Ns builtinsNs mb) (hbb : ∀ x : Str, x ≠ "__name__" → mb x = bootBuiltins x) (hlim : s.heap.NoLimit) (hg : s.gens = #[])
    (ha : s.heap.get? a = some { cls := .type "list", data := .seq vs.toArray }) (hi : IntsAre vs ns) (hl : ns.length ≤ sizeLine) (hr : Room k callerA)
    (F : ∀ base : Heap, K.In base → base.Ns mainGlobals mg → FnG P w K mg base k fa fd [x] sp) (hbind : ∀ (s : Shared) (u : Value), BindsTo s fd ⟨[u], []⟩ [(x, u)])
    (hsp : ∀ H : Hp, Only H → SqL K H a (ns.map V.int) → sp [.ref a] H (fun v _ => v = .bl true) E0) :
    codeAny (model P w) callerA (.call (.ref fa) ⟨[.ref a], []⟩) (fun r s' => r = .ok (.ret (.bool true)) ∧ OldK s.heap s'.heap ∧ s'.os = s.os ∧ AllBare s'.gens) s := by
  have rv := vals_ints hi
  have lv := hi.length
  -- own: the script is no object of the written part
  have key : ∀ own : Bool, (own = true → K.lookup a = none) → (own = false → ∃ o, K.lookup a = some o) →
      codeAny (model P w) callerA (.call (.ref fa) ⟨[.ref a], []⟩) (fun r s' => r = .ok (.ret (.bool true)) ∧ OldK s.heap s'.heap ∧ s'.os = s.os ∧ AllBare s'.gens) s := by
    intro own h1 h2
    have hO := scriptH_only own a { cls := .type "list", data := .seq vs.toArray } ns
    have hS := fun {b : Addr} {u : HO} => scriptH_some (own := own) (a := a) (b := b) (o := { cls := .type "list", data := .seq vs.toArray }) (ns := ns) (u := u)
    generalize eH : scriptH own a { cls := .type "list", data := .seq vs.toArray } ns = H at hO hS
    have frs0 : ∀ {b : Addr} {o : Obj} {es : Array DictEntry} {n : Nat}, s.heap.get? b = some o → o.data = .dict es n → H b = none := by
      intro b o es n e d
      cases q : H b with
      | none => rfl
      | some u =>
        obtain ⟨_, rfl, _⟩ := hS q
        rw [ha] at e
        cases e
        have d' : Data.seq vs.toArray _ = Data.dict es n := d
        cases d'
    have ns0 : ∀ {b : Addr} {m : Str → Option Value}, s.heap.Ns b m → (hidT s.heap H).Ns b m := by
      rintro b m ⟨o, es, n, e, d, r⟩
      exact ⟨o, es, n, hidT_get e (frs0 e d), d, r⟩
    have K0 : K.In (hidT s.heap H) := by
      intro b o e
      refine hidT_get (KX b o e) ?_
      cases q : H b with
      | none => rfl
      | some u =>
        obtain ⟨z, rfl, _⟩ := hS q
        rw [h1 z] at e
        cases e
    have hok : HOk P w H s.heap := by
      intro b u q
      obtain ⟨_, rfl, rfl⟩ := hS q
      exact ⟨ha, by rw [List.length_map]; exact hl, vs, _, rv, ha⟩
    have M0 : Mod K mg (hidT s.heap H) := by
      refine ⟨K0, ns0 hm, ⟨mb, ns0 hb, hbb⟩, ?_⟩
      obtain ⟨mc, q1, q2⟩ := hlim
      exact ⟨mc, ns0 q1, q2⟩
    have env : Env0 P w K mg (hidT s.heap H) callerA [] s H := by
      refine ⟨rfl, M0, fun b o e => of_hidT e, Nat.le_of_eq (hidT_size _ _), trivial, ?_, hok, .of_eq hg⟩
      intro b hb'
      cases hb'
    have sq : SqL K H a (ns.map V.int) := by
      cases own with
      | true => exact Or.inl (Or.inr ⟨_, by rw [← eH]; exact if_pos ⟨rfl, rfl⟩⟩)
      | false =>
        obtain ⟨o, e⟩ := h2 rfl
        have e' := KX a o e
        rw [ha] at e'
        cases e'
        exact Or.inr ⟨_, vs.toArray, _, e, rfl, rfl, rfl, by rw [List.size_toArray, lv]; exact hl, by simpa using rv⟩
    refine codeAny_mono ((F _ K0 (ns0 hm)).go callerA [] s H [.ref a] ⟨[.ref a], []⟩ [.ref a] _ E0 rfl hr env (hbind s (.ref a)) (.cons rfl .nil) (hsp H hO sq)) ?_
    intro r s' h
    match r, h with
    | .error _, h => exact h.elim
    | .ok .next, h => exact h.elim
    | .ok .brk, h => exact h.elim
    | .ok .cont, h => exact h.elim
    | .ok (.ret u), h =>
      obtain ⟨v, H', os, bare, un, hok', r', q⟩ := h
      cases (show v = .bl true from q)
      cases (show u = Value.bool true from r')
      refine ⟨rfl, OldK.of_keep ?_, os, bare⟩
      intro b o e
      cases q : H b with
      | none => exact un.keep b o e q (fun z => nomatch z) (fun z => nomatch z)
      | some u =>
        obtain ⟨_, rfl, rfl⟩ := hS q
        rw [ha] at e
        cases e
        obtain ⟨e2, _⟩ := hok' b _ (un.frzs b _ _ q)
        exact e2
  cases hk : K.lookup a with
  | some o => exact key false (fun z => Bool.noConfusion z) (fun _ => ⟨o, hk⟩)
  | none => exact key true (fun _ => hk) (fun z => Bool.noConfusion z)
theorem walkG {l : PySem.W.OpenLaw} {n k : Nat} {q : Program} {loose : List Str} {XP : (Str → Option Value) → Heap → Prop} {YP : World → Heap → Prop} {d : DefRec} {K : Params → PySem.W.Frag} {sp : PySem.W.Frag → Sp} {x : Str}
    (hn : l.most = some n) (hn2 : n ≤ sizeLine) (hdf : d.params.defaults = []) (hr : Room k callerA) (hY : ∀ (w : World) (h : Heap), YP w h → (K w.params).In h)
    (F : ∀ (w : World) (mg : Str → Option Value) (fa : Addr) (h : Heap), (K w.params).In h → h.Ns mainGlobals mg → mg d.name = some (.ref fa) →
      ∃ fd : FuncData, (∀ (s : Shared) (u : Value), BindsTo s fd ⟨[u], []⟩ [(x, u)]) ∧
        ∀ base : Heap, (K w.params).In base → base.Ns mainGlobals mg → FnG l.prog w (K w.params) mg base k fa fd [x] (sp (K w.params)))
    (hsp : ∀ (K : PySem.W.Frag) (H : Hp) (a : Addr) (ns : List Int), ns.length ≤ n → (∀ z ∈ ns, Builtin.Int.intBits z ≤ 1048576) → SqL K H a (ns.map V.int) → sp K [.ref a] H (fun v _ => v = .bl true) E0) :
    PySem.W.WalkO q loose XP YP l.row.toRowW d [] (fun f vs => PySem.call f vs) := by
  apply Att.attach_callB hn hdf
  intro w s0 s1 mg mb fa o pm cd doc a vs ns G Y ho hd hcd hmg hobj hints hlen hbits hg
  have KX := hY w _ Y
  obtain ⟨fd, hb, hF⟩ := F w mg fa _ KX G.T.g hmg
  exact lawG KX G.T.g G.T.b G.T.builtins G.T.nolimit hg hobj hints (Nat.le_trans hlen hn2) hr hF hb fun H _ hS => hsp _ H a ns hlen hbits hS
end Rs

namespace Rs
open PySem PySem.Spec PyProof.Rows L2

/-! ### what is known of the heap -/
abbrev Led := List (Addr × HO)
/-- H0: the heap at the entry; M: the objects of it that may have changed; L: what stands now -/
structure Hs (H0 : Hp) (M : List Addr) (H : Hp) (L : Led) : Prop where
  nd : (L.map (·.1)).Nodup
  is : ∀ q ∈ L, H q.1 = some q.2
  old : ∀ b o, H0 b = some o → b ∉ M → H b = some o
  mu : ∀ b ∈ M, H b ≠ none
/-- one entry exchanged -/
inductive Chg (a : Addr) (o o' : HO) : Led → Led → Prop where
  | here {L : Led} : Chg a o o' ((a, o) :: L) ((a, o') :: L)
  | there {q : Addr × HO} {L L' : Led} : Chg a o o' L L' → Chg a o o' (q :: L) (q :: L')
theorem Chg.keys {a : Addr} {o o' : HO} {L L' : Led} (c : Chg a o o' L L') : L'.map (·.1) = L.map (·.1) := by
  induction c with
  | here => rfl
  | there _ ih => simp only [List.map_cons, ih]
theorem Chg.mem {a : Addr} {o o' : HO} {L L' : Led} (c : Chg a o o' L L') : (a, o) ∈ L := by
  induction c with
  | here => exact List.mem_cons_self
  | there _ ih => exact List.mem_cons_of_mem _ ih
theorem Chg.of {a : Addr} {o o' : HO} {L L' : Led} (c : Chg a o o' L L') (nd : (L.map (·.1)).Nodup) : ∀ q ∈ L', q = (a, o') ∨ (q ∈ L ∧ q.1 ≠ a) := by
  induction c with
  | @here L =>
    intro q hq
    rcases List.mem_cons.mp hq with e | hq
    · exact Or.inl e
    · refine Or.inr ⟨List.mem_cons_of_mem _ hq, ?_⟩
      intro e
      simp only [List.map_cons, List.nodup_cons] at nd
      exact nd.1 (e ▸ List.mem_map_of_mem hq)
  | @there p L L' c ih =>
    intro q hq
    simp only [List.map_cons, List.nodup_cons] at nd
    rcases List.mem_cons.mp hq with e | hq
    · subst e
      refine Or.inr ⟨List.mem_cons_self, ?_⟩
      intro e
      exact nd.1 (e ▸ List.mem_map_of_mem (f := (·.1)) c.mem)
    · rcases ih nd.2 q hq with e | ⟨h1, h2⟩
      · exact Or.inl e
      · exact Or.inr ⟨List.mem_cons_of_mem _ h1, h2⟩
section
variable {H0 H H' : Hp} {M : List Addr} {L L' : Led} {a : Addr} {o o' : HO}
theorem Hs.new (S : Hs H0 M H L) (hp : H a = none) (o : HO) : H0 a = none ∧ Hs H0 M (upd H a o) ((a, o) :: L) := by
  have n0 : H0 a = none := by
    cases e : H0 a with
    | none => rfl
    | some u =>
      by_cases hm : a ∈ M
      · exact absurd hp (S.mu a hm)
      · have := S.old a u e hm
        rw [hp] at this
        cases this
  have ne : ∀ q ∈ L, q.1 ≠ a := fun q hq e => by
    have := S.is q hq
    rw [e, hp] at this
    cases this
  refine ⟨n0, ?_, ?_, ?_, ?_⟩
  · simp only [List.map_cons, List.nodup_cons]
    refine ⟨fun hm => ?_, S.nd⟩
    obtain ⟨q, hq, e⟩ := List.mem_map.mp hm
    exact ne q hq e
  · intro q hq
    rcases List.mem_cons.mp hq with e | hq
    · subst e; exact upd_same
    · rw [upd_ne (ne q hq)]; exact S.is q hq
  · intro b u e hm
    have hb : b ≠ a := fun z => by rw [z, n0] at e; cases e
    rw [upd_ne hb]
    exact S.old b u e hm
  · intro b hb
    unfold upd
    split
    · simp
    · exact S.mu b hb
theorem Hs.put (S : Hs H0 M H L) (c : Chg a o o' L L') (hm : H0 a = none ∨ a ∈ M) : Hs H0 M (upd H a o') L' := by
  refine ⟨by rw [c.keys]; exact S.nd, ?_, ?_, ?_⟩
  · intro q hq
    rcases c.of S.nd q hq with e | ⟨h1, h2⟩
    · subst e; exact upd_same
    · rw [upd_ne h2]; exact S.is q h1
  · intro b u e hb
    have ne : b ≠ a := fun z => by
      subst z
      rcases hm with z | z
      · rw [z] at e; cases e
      · exact hb z
    rw [upd_ne ne]
    exact S.old b u e hb
  · intro b hb
    unfold upd
    split
    · simp
    · exact S.mu b hb
/-- behind a call that changed at most the objects of C (each fresh or in M), and left L' -/
theorem Hs.call (S : Hs H0 M H L) {C : List Addr} (k : ∀ b u, H b = some u → b ∉ C → H' b = some u) (hC : ∀ b ∈ C, (H0 b = none ∨ b ∈ M) ∧ H' b ≠ none) (nd : (L'.map (·.1)).Nodup)
    (is : ∀ q ∈ L', H' q.1 = some q.2) : Hs H0 M H' L' := by
  refine ⟨nd, is, ?_, ?_⟩
  · intro b u e hb
    refine k b u (S.old b u e hb) fun hc => ?_
    rcases (hC b hc).1 with z | z
    · rw [z] at e; cases e
    · exact hb z
  · intro b hb
    by_cases hc : b ∈ C
    · exact (hC b hc).2
    · intro z
      cases e : H b with
      | none => exact S.mu b hb e
      | some u =>
        rw [k b u e hc] at z
        cases z
/-- nothing was changed -/
theorem Hs.more (S : Hs H0 M H L) (k : Same H H') : Hs H0 M H' L :=
  S.call (C := []) (fun b u e _ => k b u e) (fun b hb => nomatch hb) S.nd fun q hq => k _ _ (S.is q hq)
/-- nothing was changed, one object is new -/
theorem Hs.more1 (S : Hs H0 M H L) (k : Same H H') (hp : H a = none) (h' : H' a = some o) : H0 a = none ∧ Hs H0 M H' ((a, o) :: L) := by
  obtain ⟨n0, S'⟩ := S.new hp o
  refine ⟨n0, (S.more k).call (C := []) (fun b u e _ => e) (fun b hb => nomatch hb) S'.nd ?_⟩
  intro q hq
  rcases List.mem_cons.mp hq with e | hq
  · subst e; exact h'
  · exact k _ _ (S.is q hq)
/-- one object was changed, to o' -/
theorem Hs.one (S : Hs H0 M H L) (c : Chg a o o' L L') (hm : H0 a = none ∨ a ∈ M) (k : ∀ b u, H b = some u → b ≠ a → H' b = some u) (h' : H' a = some o') : Hs H0 M H' L' := by
  have S' := S.put c hm
  refine S.call (C := [a]) (fun b u e hb => k b u e fun z => hb (by simp [z])) ?_ S'.nd ?_
  · intro b hb
    have e : b = a := by simpa using hb
    subst e
    exact ⟨hm, by rw [h']; simp⟩
  · intro q hq
    rcases c.of S.nd q hq with e | ⟨h1, h2⟩
    · subst e; exact h'
    · exact k _ _ (S.is q h1) h2
/-- one object was changed, one is new -/
theorem Hs.one1 {p : Addr} {u : HO} (S : Hs H0 M H L) (c : Chg a o o' L L') (hm : H0 a = none ∨ a ∈ M) (k : ∀ b u, H b = some u → b ≠ a → H' b = some u) (h' : H' a = some o') (hp : H p = none) (hp' : H' p = some u) : H0 p = none ∧ Hs H0 M H' ((p, u) :: L') := by
  have S' := S.one c hm k h'
  have S2 := S.new hp u
  refine ⟨S2.1, ?_, ?_, S'.old, S'.mu⟩
  · simp only [List.map_cons, List.nodup_cons]
    refine ⟨fun hq => ?_, S'.nd⟩
    rw [c.keys] at hq
    obtain ⟨q, hq, e⟩ := List.mem_map.mp hq
    have := S.is q hq
    rw [e, hp] at this
    cases this
  · intro q hq
    rcases List.mem_cons.mp hq with e | hq
    · subst e; exact hp'
    · exact S'.is q hq
theorem Hs.sub (S : Hs H0 M H L) (h : L'.Sublist L) : Hs H0 M H L' := ⟨S.nd.sublist (h.map _), fun q hq => S.is q (h.subset hq), S.old, S.mu⟩
theorem Hs.start (H : Hp) (M : List Addr) (L : Led) (nd : (L.map (·.1)).Nodup) (is : ∀ q ∈ L, H q.1 = some q.2) (hM : ∀ b ∈ M, H b ≠ none) : Hs H M H L := ⟨nd, is, fun b u e _ => e, hM⟩
theorem Hs.start0 (H : Hp) : Hs H [] H [] := ⟨List.nodup_nil, fun q hq => (nomatch hq), fun b u e _ => e, fun b hb => nomatch hb⟩
theorem Hs.start1 {H : Hp} {a : Addr} {o : HO} (h : H a = some o) (M : List Addr) (hM : M = [] ∨ M = [a]) : Hs H M H [(a, o)] := by
  refine ⟨by simp, fun q hq => ?_, fun b u e _ => e, fun b hb => ?_⟩
  · have e : q = (a, o) := by simpa using hq
    subst e; exact h
  · rcases hM with rfl | rfl
    · cases hb
    · have e : b = a := by simpa using hb
      subst e; rw [h]; simp
theorem Hs.get (S : Hs H0 M H L) (m : (a, o) ∈ L) : H a = some o := S.is _ m
theorem Hs.old1 {d b : Addr} {u : HO} (S : Hs H0 [d] H L) (e : H0 b = some u) (hb : b ≠ d) : H b = some u := S.old b u e (by simpa using hb)
theorem Hs.same (S : Hs H0 [] H L) : Same H0 H := fun b o e => S.old b o e (fun z => nomatch z)
theorem Hs.lst {K : PySem.W.Frag} {xs : List V} (S : Hs H0 M H L) (m : (a, HO.lst xs) ∈ L) : SqL K H a xs := SqL.of (S.is _ m)
theorem Hs.tup {K : PySem.W.Frag} {xs : List V} (S : Hs H0 M H L) (m : (a, HO.tup xs) ∈ L) : SqT K H a xs := SqT.of (S.is _ m)
/-- the script, or what else stands in the written part, at a list -/
theorem Hs.sq {K : PySem.W.Frag} {xs : List V} (S : Hs H0 M H L) (h : SqL K H0 a xs) (hm : a ∉ M) : SqL K H a xs := by
  rcases h with (h | ⟨u, h⟩) | h
  · exact Or.inl (Or.inl (S.old _ _ h hm))
  · exact Or.inl (Or.inr ⟨u, S.old _ _ h hm⟩)
  · exact Or.inr h
end

/-! ### readings, step by step -/
/-- the slots at the entry -/
def stV : List Str → List V → L2.St
  | [], _ => []
  | _ :: N, vs => vs.head? :: stV N vs.tail
theorem start_eq : ∀ (N : List Str) (vs : List V), vs.length ≤ N.length → L2.start N vs = stV N vs
  | [], [], _ => by simp [L2.start, stV]
  | [], v :: vs, h => by simp at h
  | n :: N, [], _ => by
    have ih := start_eq N [] (Nat.zero_le _)
    simp only [stV, List.tail_nil, ← ih]
    simp [L2.start, List.replicate_succ]
  | n :: N, v :: vs, h => by
    have ih := start_eq N vs (by simpa using h)
    simp only [stV, List.tail_cons, ← ih]
    simp [L2.start]
section
variable {σ : L2.St} {H H0 : Hp} {M : List Addr} {L L' : Led} {Q : VK} {v x y : V} {nx : L2.St → Hp → Prop} {rt : VK} {bk ct : L2.St → Hp → Prop} {t u : TS} {te ta tb tc : TE} {g : TG} {tt tu : TT} {r r' : R2} {A B : Prop}
theorem rd_start {t : TS} {D : Ends} {N : List Str} {vs : List V} (h : t D (stV N vs) H) (hl : vs.length ≤ N.length := by exact Nat.le_of_ble_eq_true rfl) : t D (L2.start N vs) H := by rw [start_eq N vs hl]; exact h
theorem rd_seq (h : t ⟨fun σ H => u ⟨nx, rt, bk, ct⟩ σ H, rt, bk, ct⟩ σ H) : tSeq t u ⟨nx, rt, bk, ct⟩ σ H := h
theorem rd_asg (h : te σ H fun x H1 => g x σ H1 nx) : tAsg te g ⟨nx, rt, bk, ct⟩ σ H := h
theorem rd_name {i : Nat} {σ' : L2.St} {N : L2.St → Hp → Prop} (e : σ.set i (some v) = σ') (h : N σ' H) : gName i v σ H N := by subst e; exact h
theorem rd_ret (h : te σ H rt) : tRet te ⟨nx, rt, bk, ct⟩ σ H := h
theorem rd_retN (h : rt .non H) : tRetN ⟨nx, rt, bk, ct⟩ σ H := h
theorem rd_drop (h : te σ H fun _ H1 => nx σ H1) : tDrop te ⟨nx, rt, bk, ct⟩ σ H := h
theorem rd_next (h : nx σ H) : tNext ⟨nx, rt, bk, ct⟩ σ H := h
theorem rd_ifS (h : tt σ H fun b H1 => if b = true then t ⟨nx, rt, bk, ct⟩ σ H1 else u ⟨nx, rt, bk, ct⟩ σ H1) : tIfS tt t u ⟨nx, rt, bk, ct⟩ σ H := h
theorem rd_par {i j : Nat} {ta : TA} (h : ta σ H fun vs H1 => ∃ v w, vs = [v, w] ∧ nx ((σ.set i (some v)).set j (some w)) H1) : tPar i j ta ⟨nx, rt, bk, ct⟩ σ H := h
theorem rd_par3 {i j l : Nat} {ta : TA} (h : ta σ H fun vs H1 => ∃ u v w, vs = [u, v, w] ∧ nx (((σ.set i (some u)).set j (some v)).set l (some w)) H1) : tPar3 i j l ta ⟨nx, rt, bk, ct⟩ σ H := h
theorem rd_two {R : V → V → Prop} (h : R x y) : ∃ v w, [x, y] = [v, w] ∧ R v w := ⟨_, _, rfl, h⟩
theorem rd_three {z : V} {R : V → V → V → Prop} (h : R x y z) : ∃ u v w, [x, y, z] = [u, v, w] ∧ R u v w := ⟨_, _, _, rfl, h⟩
theorem rd_var {i : Nat} (e : σ[i]? = some (some v)) (h : Q v H) : tVar i σ H Q := ⟨v, e, h⟩
theorem rd_c (h : Q v H) : tC v σ H Q := h
theorem rd_op (h : ta σ H fun x H1 => tb σ H1 fun y H2 => r x y H2 Q) : tOp r ta tb σ H Q := h
theorem rd_un {r : V → Hp → VK → Prop} (h : ta σ H fun x H1 => r x H1 Q) : tUn r ta σ H Q := h
theorem rd_I0 {f : Int → Int → V} {i j : Int} (h : Q (f i j) H) : rI0 f (.int i) (.int j) H Q := ⟨i, j, rfl, rfl, h⟩
theorem rd_I {C : Int → Int → Prop} {f : Int → Int → V} {i j : Int} (hc : C i j) (h : Q (f i j) H) : rI C f (.int i) (.int j) H Q := ⟨i, j, rfl, rfl, hc, h⟩
theorem rd_U {f : Int → V} {i : Int} (h : Q (f i) H) : rU f (.int i) H Q := ⟨i, rfl, h⟩
theorem rd_eqI {i j : Int} (h : Q (.bl (decide (i = j))) H) : rEq (.int i) (.int j) H Q := by
  refine ⟨rfl, ?_⟩
  have e : decide (V.int i = V.int j) = decide (i = j) := by simp
  rw [e]; exact h
theorem rd_neI {i j : Int} (h : Q (.bl (decide (¬ i = j))) H) : rNe (.int i) (.int j) H Q := by
  refine ⟨rfl, ?_⟩
  have e : (!decide (V.int i = V.int j)) = decide (¬ i = j) := by simp
  rw [e]; exact h
theorem rd_eqS {i j : Str} (h : Q (.bl (decide (i = j))) H) : rEq (.str i) (.str j) H Q := by
  refine ⟨rfl, ?_⟩
  have e : decide (V.str i = V.str j) = decide (i = j) := by simp
  rw [e]; exact h
theorem rd_neS {i j : Str} (h : Q (.bl (decide (¬ i = j))) H) : rNe (.str i) (.str j) H Q := by
  refine ⟨rfl, ?_⟩
  have e : (!decide (V.str i = V.str j)) = decide (¬ i = j) := by simp
  rw [e]; exact h
theorem rd_eqB {i j : Bool} (h : Q (.bl (decide (i = j))) H) : rEq (.bl i) (.bl j) H Q := by
  refine ⟨rfl, ?_⟩
  have e : decide (V.bl i = V.bl j) = decide (i = j) := by simp
  rw [e]; exact h
theorem rd_test {Q : Bool → Hp → Prop} (h : te σ H fun x H' => ∃ k, x = .bl k ∧ Q k H') : tTest te σ H Q := h
theorem rd_tB {Q : Bool → Hp → Prop} (h : te σ H fun x H' => ∃ k, x = .bl k ∧ Q k H') : tB te σ H Q := h
theorem rd_bl {b : Bool} {R : Bool → Prop} (h : R b) : ∃ k, V.bl b = .bl k ∧ R k := ⟨b, rfl, h⟩
theorem rd_and {Q : Bool → Hp → Prop} (h : tt σ H fun c H1 => if c = true then tu σ H1 Q else Q false H1) : tAnd tt tu σ H Q := h
theorem rd_or {Q : Bool → Hp → Prop} (h : tt σ H fun c H1 => if c = true then Q true H1 else tu σ H1 Q) : tOr tt tu σ H Q := h
theorem rd_not {Q : Bool → Hp → Prop} (h : tt σ H fun c H1 => Q (!c) H1) : tNot tt σ H Q := h
theorem rd_andV (h : ta σ H fun x H1 => ∃ c, x = .bl c ∧ if c = true then tb σ H1 Q else Q (.bl false) H1) : tAndV ta tb σ H Q := h
theorem rd_orV (h : ta σ H fun x H1 => ∃ c, x = .bl c ∧ if c = true then Q (.bl true) H1 else tb σ H1 Q) : tOrV ta tb σ H Q := h
theorem rd_notV (h : ta σ H fun x H1 => ∃ c, x = .bl c ∧ Q (.bl (!c)) H1) : tNotV ta σ H Q := h
theorem rd_if (h : tt σ H fun c H1 => if c = true then ta σ H1 Q else tb σ H1 Q) : tIf tt ta tb σ H Q := h
theorem rd_cons {tr : TA} {Q : List V → Hp → Prop} (h : te σ H fun x H1 => tr σ H1 fun xs H2 => Q (x :: xs) H2) : tCons te tr σ H Q := h
theorem rd_nil {Q : List V → Hp → Prop} (h : Q [] H) : tNil σ H Q := h
/-- what is wanted of a new object -/
def nw (Q : VK) (H : Hp) (o : HO) : Prop := ∀ p, H p = none → Q (.ref p) (upd H p o)
def nwL (Q : VK) (H : Hp) (xs : List V) : Prop := xs.length ≤ sizeLine ∧ nw Q H (.lst xs)
def nwT (Q : VK) (H : Hp) (xs : List V) : Prop := xs.length ≤ sizeLine ∧ nw Q H (.tup xs)
theorem rd_tup {ta : TA} (h : ta σ H fun xs H1 => nwT Q H1 xs) : tTup ta σ H Q := h
theorem rd_lst {ta : TA} (h : ta σ H fun xs H1 => nwL Q H1 xs) : tLst ta σ H Q := h
theorem rd_cb {r : List V → Hp → VK → Prop} {ta : TA} (h : ta σ H fun vs H1 => r vs H1 Q) : tCB r ta σ H Q := h
theorem rd_call {sp : Sp} {dvs : List V} {E : XK} {ta : TA} (h : ta σ H fun vs H1 => sp (vs ++ dvs) H1 Q E) : tCall sp dvs E ta σ H Q := h
theorem rd_call0 {sp : Sp} {E : XK} {ta : TA} (h : ta σ H fun vs H1 => sp vs H1 Q E) : tCall sp [] E ta σ H Q := by
  have e : (fun (vs : List V) H1 => sp (vs ++ []) H1 Q E) = fun vs H1 => sp vs H1 Q E := by funext vs H1; rw [List.append_nil]
  show ta σ H (fun vs H1 => sp (vs ++ []) H1 Q E)
  rw [e]; exact h
theorem rd_callN {n m : Nat} {sp : Sp} {gV : List V → List V → List V} {E : XK} {ta tk : TA} (h : ta σ H fun vs H1 => tk σ H1 fun zs H2 => vs.length = n ∧ zs.length = m ∧ sp (gV vs zs) H2 Q E) : tCallN n m sp gV E ta tk σ H Q := h
theorem rd_chain (h : ta σ H fun x H1 => tb σ H1 fun y H2 => r x y H2 fun z H3 => ∃ k, z = .bl k ∧ (if k = true then tc σ H3 fun w H4 => r' y w H4 Q else Q (.bl false) H3)) : tChain r r' ta tb tc σ H Q := h
theorem rd_bits (h : te σ H fun x H1 => ∃ i, x = .int i ∧ Q (.int (Builtin.Int.intBits i : Nat)) H1) : tBits te σ H Q := h
theorem rd_int1 {i : Int} {R : Int → Prop} (h : R i) : ∃ j, V.int i = .int j ∧ R j := ⟨i, rfl, h⟩
theorem rd_int2 {i j : Int} {R : Int → Int → Prop} (h : R i j) : ∃ i' j', [V.int i, V.int j] = [.int i', .int j'] ∧ R i' j' := ⟨i, j, rfl, h⟩
theorem rd_dget {td ty : TE} (h : td σ H fun x H1 => ty σ H1 fun y H2 => ∃ a v, x = .ref a ∧ DGet H2 a y (some v) ∧ Q v H2) : tDGet td ty σ H Q := h
theorem rd_dput {td ty tv : TE} (h : tv σ H fun v H1 => td σ H1 fun x H2 => ty σ H2 fun y H3 => ∃ a H4, x = .ref a ∧ DPut H3 a y v H4 ∧ nx σ H4) : sDPut td ty tv ⟨nx, rt, bk, ct⟩ σ H := h
theorem rd_slice3 {K : PySem.W.Frag} {tl th ts : TO} (h : te σ H fun x H1 => tl σ H1 fun l H2 => th σ H2 fun u H3 => ts σ H3 fun st H4 => ∃ a xs, x = .ref a ∧ SqL K H4 a xs ∧ st ≠ some 0 ∧ nw Q H4 (.lst (pickV xs l u st))) : tSl3 K te tl th ts σ H Q := h
theorem rd_sl {r : V → Option Int → Option Int → Hp → VK → Prop} {tl th : TO} (h : te σ H fun x H1 => tl σ H1 fun l H2 => th σ H2 fun u H3 => r x l u H3 Q) : tSl r te tl th σ H Q := h
theorem rd_noPart {Q : Option Int → Hp → Prop} (h : Q none H) : tNoPart σ H Q := h
theorem rd_part {Q : Option Int → Hp → Prop} (h : te σ H fun x H1 => ∃ i, x = .int i ∧ Q (some i) H1) : tPart te σ H Q := h
theorem sz {n : Nat} (h : n ≤ 1000000) : n ≤ sizeLine := Nat.le_trans h (by decide)
theorem sz' {n : Nat} (h : n ≤ 1000000) : n < sizeLine := Nat.lt_of_le_of_lt h (by decide)
theorem rd_mod {i j : Int} (hj : 0 < j) (h : ∀ r, r = i % j → 0 ≤ r → r < j → Q (.int r) H) : rI (fun _ j => 0 < j) (fun i j => .int (i % j)) (.int i) (.int j) H Q :=
  ⟨i, j, rfl, rfl, hj, h _ rfl (Int.emod_nonneg _ (by omega)) (Int.emod_lt_of_pos _ hj)⟩
theorem rd_div {i j : Int} (hj : 0 < j) (hb : j < 2 ^ 64) (h : Q (.int (i / j)) H) : rI CDivW (fun i j => .int (i / j)) (.int i) (.int j) H Q :=
  ⟨i, j, rfl, rfl, wide_div (b := 64) hj (by omega) (by decide) (by decide), h⟩
theorem rd_mulL {i j : Int} (h0 : -(2 ^ 64) < i) (h1 : i < 2 ^ 64) (h : Q (.int (i * j)) H) : rI CMul (fun i j => .int (i * j)) (.int i) (.int j) H Q := ⟨i, j, rfl, rfl, .inl ⟨h0, h1⟩, h⟩
theorem rd_mulR {i j : Int} (h0 : -(2 ^ 64) < j) (h1 : j < 2 ^ 64) (h : Q (.int (i * j)) H) : rI CMul (fun i j => .int (i * j)) (.int i) (.int j) H Q := ⟨i, j, rfl, rfl, .inr ⟨h0, h1⟩, h⟩
theorem rd_pow {f : Int → Int → V} {i j : Int} (h0 : 0 ≤ j) (h1 : j ≤ 1000000) (h2 : i.natAbs < 2 ^ 64) (h : Q (f i j) H) : rI CPow f (.int i) (.int j) H Q := ⟨i, j, rfl, rfl, ⟨h0, h1, h2⟩, h⟩
/-! tests -/
theorem rd_dec {p : Prop} [Decidable p] (h1 : p → A) (h2 : ¬ p → B) : if decide p = true then A else B := by
  by_cases h : p
  · rw [if_pos (decide_eq_true h)]; exact h1 h
  · rw [if_neg (by simp [h])]; exact h2 h
theorem rd_decT {p : Prop} [Decidable p] (h : p) (h1 : A) : if decide p = true then A else B := by rw [if_pos (decide_eq_true h)]; exact h1
theorem rd_decF {p : Prop} [Decidable p] (h : ¬ p) (h1 : B) : if decide p = true then A else B := by rw [if_neg (by simp [h])]; exact h1
theorem rd_ite {b : Bool} (h1 : b = true → A) (h2 : b = false → B) : if b = true then A else B := by
  cases b with
  | true => rw [if_pos rfl]; exact h1 rfl
  | false => rw [if_neg Bool.false_ne_true]; exact h2 rfl
theorem rd_iteT (h : A) : if true = true then A else B := by rw [if_pos rfl]; exact h
theorem rd_iteF (h : B) : if false = true then A else B := by rw [if_neg Bool.false_ne_true]; exact h
theorem rd_ndec {p : Prop} [Decidable p] (h1 : ¬ p → A) (h2 : p → B) : if (!decide p) = true then A else B := by
  by_cases h : p
  · rw [if_neg (by simp [h])]; exact h2 h
  · rw [if_pos (by simp [h])]; exact h1 h
theorem rd_ndecT {p : Prop} [Decidable p] (h : p) (h2 : B) : if (!decide p) = true then A else B := by rw [if_neg (by simp [h])]; exact h2
theorem rd_ndecF {p : Prop} [Decidable p] (h : ¬ p) (h1 : A) : if (!decide p) = true then A else B := by rw [if_pos (by simp [h])]; exact h1
theorem rd_nT (h : B) : if (!true) = true then A else B := by rw [if_neg (by decide)]; exact h
theorem rd_nF (h : A) : if (!false) = true then A else B := by rw [if_pos (by decide)]; exact h
/-! with the ledger -/
theorem rd_newL {xs : List V} (S : Hs H0 M H L) (hz : xs.length ≤ sizeLine) (h : ∀ p H', H0 p = none → Hs H0 M H' ((p, .lst xs) :: L) → Q (.ref p) H') : nwL Q H xs :=
  ⟨hz, fun p hp => h p _ (S.new hp (.lst xs)).1 (S.new hp (.lst xs)).2⟩
theorem rd_newT {xs : List V} (S : Hs H0 M H L) (hz : xs.length ≤ sizeLine) (h : ∀ p H', H0 p = none → Hs H0 M H' ((p, .tup xs) :: L) → Q (.ref p) H') : nwT Q H xs :=
  ⟨hz, fun p hp => h p _ (S.new hp (.tup xs)).1 (S.new hp (.tup xs)).2⟩
theorem rd_newO {o : HO} (S : Hs H0 M H L) (h : ∀ p H', H0 p = none → Hs H0 M H' ((p, o) :: L) → Q (.ref p) H') : nw Q H o :=
  fun p hp => h p _ (S.new hp o).1 (S.new hp o).2
theorem rd_ixL {K : PySem.W.Frag} {a : Addr} {xs : List V} {i : Int} (S : Hs H0 M H L) (m : (a, HO.lst xs) ∈ L) (e : atI xs i = some v) (h : Q v H) : rIxL K (.ref a) (.int i) H Q := ⟨a, xs, i, v, rfl, rfl, S.lst m, e, h⟩
theorem atI_any {α : Type} {xs : List α} {i : Int} (h0 : 0 ≤ i) (h1 : i < xs.length) : ∃ v, v ∈ xs ∧ xs[i.toNat]? = some v ∧ atI xs i = some v := by
  have hl : i.toNat < xs.length := by omega
  have e : xs[i.toNat]? = some xs[i.toNat] := by simp [hl]
  refine ⟨xs[i.toNat], List.getElem_mem hl, e, ?_⟩
  have z : ((i.toNat : Nat) : Int) = i := by omega
  have q := atI_nat e
  rw [z] at q
  exact q
theorem rd_ixAny {K : PySem.W.Frag} {a : Addr} {xs : List V} {i : Int} (S : Hs H0 M H L) (m : (a, HO.lst xs) ∈ L) (h0 : 0 ≤ i) (h1 : i < xs.length) (h : ∀ v, v ∈ xs → xs[i.toNat]? = some v → Q v H) : rIxL K (.ref a) (.int i) H Q := by
  obtain ⟨v, hv, e, he⟩ := atI_any h0 h1
  exact ⟨a, xs, i, v, rfl, rfl, S.lst m, he, h v hv e⟩
theorem rd_ixT {K : PySem.W.Frag} {a : Addr} {xs : List V} {i : Int} (S : Hs H0 M H L) (m : (a, HO.tup xs) ∈ L) (e : atI xs i = some v) (h : Q v H) : rIxT K (.ref a) (.int i) H Q := ⟨a, xs, i, v, rfl, rfl, S.tup m, e, h⟩
theorem rd_len {K : PySem.W.Frag} {a : Addr} {xs : List V} (S : Hs H0 M H L) {R : List V → Prop} (m : (a, HO.lst xs) ∈ L) (h : R xs) : ∃ p ys, [V.ref a] = [.ref p] ∧ (SqL K H p ys ∨ SqT K H p ys) ∧ R ys := ⟨a, xs, rfl, Or.inl (S.lst m), h⟩
theorem rd_lenT {K : PySem.W.Frag} {a : Addr} {xs : List V} (S : Hs H0 M H L) {R : List V → Prop} (m : (a, HO.tup xs) ∈ L) (h : R xs) : ∃ p ys, [V.ref a] = [.ref p] ∧ (SqL K H p ys ∨ SqT K H p ys) ∧ R ys := ⟨a, xs, rfl, Or.inr (S.tup m), h⟩
theorem rd_getS {a : Addr} {kvs : List (Key × V)} {k : Str} (S : Hs H0 M H L) (m : (a, HO.dK kvs) ∈ L) (e : valV kvs (.inr k) = some v) {R : V → Prop} (h : R v) : ∃ a' v', V.ref a = .ref a' ∧ DGet H a' (.str k) (some v') ∧ R v' :=
  ⟨a, v, rfl, by rw [← e]; exact DGet.k (k := Sum.inr k) (S.is _ m), h⟩
theorem rd_putS {a : Addr} {kvs kvs' : List (Key × V)} {k : Str} {R : Hp → Prop} (S : Hs H0 M H L) (c : Chg a (.dK kvs) (.dK kvs') L L') (hm : H0 a = none ∨ a ∈ M) (hl : kvs.length < sizeLine) (e : putK kvs (.inr k) v = kvs')
    (h : ∀ H', Hs H0 M H' L' → R H') : ∃ a' H4, V.ref a = .ref a' ∧ DPut H a' (.str k) v H4 ∧ R H4 := by
  subst e
  exact ⟨a, _, rfl, DPut.k (k := Sum.inr k) (S.is _ c.mem) hl, h _ (S.put c hm)⟩
theorem gt_ref {K : PySem.W.Frag} {a : Addr} {xs : List V} {n : Nat} {ts : TGs} {N : L2.St → Hp → Prop} (S : Hs H0 M H L) (m : (a, HO.tup xs) ∈ L) (hn : xs.length = n) (h : ts xs σ H N) : gTup K n ts (.ref a) σ H N := ⟨a, xs, rfl, S.tup m, hn, h⟩
theorem gt_cons {ts : TGs} {w : V} {vs : List V} {N : L2.St → Hp → Prop} (h : g w σ H fun σ' H' => ts vs σ' H' N) : gCons g ts (w :: vs) σ H N := ⟨w, vs, rfl, h⟩
theorem gt_nil {N : L2.St → Hp → Prop} (h : N σ H) : gNil [] σ H N := ⟨rfl, h⟩
end
/-! ### a def as it is called by its name -/
structure Cal (K : PySem.W.Frag) (mg : Str → Option Value) (x : Str) (st : Stmt) (ps : List Str) (f : Addr) (fd : FuncData) : Prop where
  F : Fun K x x st f fd
  b : Binds K fd ps []
  m : mg x = some (.ref f)
end Rs

namespace Rs
open PySem PySem.Spec PyProof.Rows L2

/-! ### kinds of values -/
inductive Kn where
  | int | bool | str | none | list | tup | dict
  deriving DecidableEq
def Kn.nm : Kn → String
  | .int => "int" | .bool => "bool" | .str => "str" | .none => "NoneType" | .list => "list" | .tup => "tuple" | .dict => "dict"
inductive Kin (K : PySem.W.Frag) (H : Hp) : V → Kn → Prop where
  | int (i : Int) : Kin K H (.int i) .int
  | bl (b : Bool) : Kin K H (.bl b) .bool
  | str (x : Str) : Kin K H (.str x) .str
  | non : Kin K H .non .none
  | ref {a : Addr} {k : Kn} (h : TyX K H (.ref a) (.type k.nm)) (n : k = .list ∨ k = .tup ∨ k = .dict) : Kin K H (.ref a) k
section
variable {K : PySem.W.Frag} {H H0 : Hp} {M : List Addr} {L : Led} {x : V} {k : Kn} {Q : VK} {a : Addr}
theorem Kin.ty (h : Kin K H x k) : TyX K H x (.type k.nm) := by
  cases h with
  | int i => exact .base (.int i)
  | bl b => exact .base (.bl b)
  | str x => exact .base (.str x)
  | non => exact .base .non
  | ref h n => exact h
theorem Kin.lst {xs : List V} (h : H a = some (.lst xs)) : Kin K H (.ref a) .list := .ref (.base (.lst h)) (.inl rfl)
theorem Kin.tup {xs : List V} (h : H a = some (.tup xs)) : Kin K H (.ref a) .tup := .ref (.base (.tup h)) (.inr (.inl rfl))
theorem Kin.dK {kvs : List (Key × V)} (h : H a = some (.dK kvs)) : Kin K H (.ref a) .dict := .ref (.base (.dK h)) (.inr (.inr rfl))
theorem kit_int (k : Kn) : kitB k.nm "int" = some (k == .int || k == .bool) := by cases k <;> decide +kernel
theorem kit_bool (k : Kn) : kitB k.nm "bool" = some (k == .bool) := by cases k <;> decide +kernel
theorem kit_list (k : Kn) : kitB k.nm "list" = some (k == .list) := by cases k <;> decide +kernel
theorem kit_tuple (k : Kn) : kitB k.nm "tuple" = some (k == .tup) := by cases k <;> decide +kernel
theorem kit_str (k : Kn) : kitB k.nm "str" = some (k == .str) := by cases k <;> decide +kernel
theorem rd_isi {T : String} {b : Bool} (h : Kin K H x k) (e : kitB k.nm T = some b) (q : Q (.bl b) H) : rIsi K [x, .ty T] H Q := ⟨x, .ty T, .type k.nm, .type T, b, rfl, .ty T, h.ty, kit_ty e, q⟩
end
/-- a def with keyword-only defaults, as it is called by its name -/
structure CalK (K : PySem.W.Frag) (mg : Str → Option Value) (x : Str) (st : Stmt) (f : Addr) (fd : FuncData) : Prop where
  F : Fun K x x st f fd
  m : mg x = some (.ref f)
/-- whether a thing is a whole number from l to m -/
def isWh (x : V) (l m : Int) : Bool := match x with
  | .int t => decide (l ≤ t) && decide (t ≤ m)
  | _ => false
theorem isWh_int (t l m : Int) : isWh (.int t) l m = (decide (l ≤ t) && decide (t ≤ m)) := rfl

/-! ### more readings -/
section
variable {X : Cx}
/-- a module's constant -/
theorem pe_gl {x : Str} {v : V} {pos : Pos} (hg : Gl X x) (h : ∃ u, X.mg x = some u ∧ RelV v u) (hd : (x == ("__debug__" : Str)) = false := by decide) : PE X (.Name x pos) (tC v) := by
  obtain ⟨u, h1, h2⟩ := h
  exact pe_glob hg h1 h2 hd
end
/-- the keys of written pairs -/
def toK : List (V × V) → List (Key × V)
  | [] => []
  | (.int i, v) :: r => (.inl i, v) :: toK r
  | (.str x, v) :: r => (.inr x, v) :: toK r
  | _ :: r => toK r
def dspEnd (Q : VK) (p : Addr) (ps : List (V × V)) (H : Hp) : Prop := H p = some (.dK []) ∧ ∃ kvs : List (Key × V), ps = kvs.map (fun kv => (kV kv.1, kv.2)) ∧ kvs.length ≤ 15 ∧ Q (.ref p) (upd H p (.dK (mergeK [] kvs)))
def forW (J : It) (g : TG) (tb : TS) (D : Ends) (σ : L2.St) (H : Hp) : Prop := ∃ W : Nat → Nat → L2.St → Hp → Prop, (∃ m, W 0 m σ H) ∧ ∀ i m σ H, W i m σ H →
  (J.stop i H ∧ D.nx σ H) ∨ (J.go i H ∧ ∃ N : L2.St → Hp → Prop, (∀ σ' H', N σ' H' → ∃ m', m' < m ∧ W (i + 1) m' σ' H') ∧ ∀ x H', J.yld i H x H' → g x σ H' fun σ2 H2 => tb { D with nx := N, ct := N, bk := D.nx } σ2 H2)
def wl (W : Nat → L2.St → Hp → Prop) (m : Nat) (tw : TS) (nx : L2.St → Hp → Prop) (rt : VK) (σ : L2.St) (H : Hp) : Prop := ∃ N : L2.St → Hp → Prop, (∀ σ' H', N σ' H' → ∃ m', m' < m ∧ W m' σ' H') ∧ tw ⟨N, rt, nx, N⟩ σ H
def rng1 (R : It → Hp → Prop) (vs : List V) (H : Hp) : Prop := ∃ j : Int, vs = [.int j] ∧ -(2 ^ 62) ≤ j ∧ j < 2 ^ 62 ∧ R (Itr 0 j.toNat) H
def rng2 (R : It → Hp → Prop) (vs : List V) (H : Hp) : Prop := ∃ i j : Int, vs = [.int i, .int j] ∧ (-(2 ^ 62) ≤ i ∧ i < 2 ^ 62 ∧ -(2 ^ 62) ≤ j ∧ j < 2 ^ 62) ∧ R (Itr i (j - i).toNat) H
def lstI (K : PySem.W.Frag) (R : It → Hp → Prop) (x : V) (H : Hp) : Prop := ∃ a, x = .ref a ∧ (∃ xs, SqL K H a xs) ∧ R (Itl K a) H
def tupI (K : PySem.W.Frag) (R : It → Hp → Prop) (x : V) (H : Hp) : Prop := ∃ a, x = .ref a ∧ (∃ xs, SqT K H a xs) ∧ R (Itt K a) H
section
variable {σ : L2.St} {H H0 : Hp} {M : List Addr} {L L' : Led} {Q : VK} {v x y : V} {nx : L2.St → Hp → Prop} {rt : VK} {bk ct : L2.St → Hp → Prop} {t u : TS} {te ta tb tc : TE} {g : TG} {tt tu : TT} {tw : TS} {wi : TI}
theorem rd_disp {trs : List (TE × TE)} (S : Hs H0 M H L) (h : ∀ p H', H0 p = none → Hs H0 M H' ((p, .dK []) :: L) → tPairs trs σ H' fun ps H2 => dspEnd Q p ps H2) : tDisp trs σ H Q :=
  fun p hp => h p _ (S.new hp (.dK [])).1 (S.new hp (.dK [])).2
theorem rd_dspEnd {p : Addr} {ps : List (V × V)} {kvs : List (Key × V)} (S : Hs H0 M H L) (c : Chg p (.dK []) (.dK kvs) L L') (hm : H0 p = none ∨ p ∈ M) (e : ps = (toK ps).map fun kv => (kV kv.1, kv.2)) (hl : (toK ps).length ≤ 15)
    (ek : mergeK [] (toK ps) = kvs) (h : ∀ H', Hs H0 M H' L' → Q (.ref p) H') : dspEnd Q p ps H := by
  subst ek
  exact ⟨S.is _ c.mem, toK ps, e, hl, h _ (S.put c hm)⟩
theorem rd_prs {r : List (TE × TE)} {R : List (V × V) → Hp → Prop} (h : ta σ H fun k H1 => tb σ H1 fun v H2 => tPairs r σ H2 fun ps H3 => R ((k, v) :: ps) H3) : tPairs ((ta, tb) :: r) σ H R := h
theorem rd_prs0 {R : List (V × V) → Hp → Prop} (h : R [] H) : tPairs [] σ H R := h
theorem rd_for (h : wi σ H fun J H1 => forW J g tw ⟨nx, rt, bk, ct⟩ σ H1) : tFor wi g tw ⟨nx, rt, bk, ct⟩ σ H := h
theorem rd_rng1 {ta : TA} {R : It → Hp → Prop} (h : ta σ H fun vs H1 => rng1 R vs H1) : iRng1 ta σ H R := h
theorem rd_rng2 {ta : TA} {R : It → Hp → Prop} (h : ta σ H fun vs H1 => rng2 R vs H1) : iRng2 ta σ H R := h
theorem rd_rng1v {R : It → Hp → Prop} {j : Int} (h1 : -(2 ^ 62) ≤ j) (h2 : j < 2 ^ 62) (h : R (Itr 0 j.toNat) H) : rng1 R [.int j] H := ⟨j, rfl, h1, h2, h⟩
theorem rd_rng2v {R : It → Hp → Prop} {i j : Int} (h1 : -(2 ^ 62) ≤ i) (h2 : i < 2 ^ 62) (h3 : -(2 ^ 62) ≤ j) (h4 : j < 2 ^ 62) (h : R (Itr i (j - i).toNat) H) : rng2 R [.int i, .int j] H := ⟨i, j, rfl, ⟨h1, h2, h3, h4⟩, h⟩
theorem rd_iList {K : PySem.W.Frag} {R : It → Hp → Prop} (h : te σ H fun x H1 => lstI K R x H1) : iList K te σ H R := h
theorem rd_iTup {K : PySem.W.Frag} {R : It → Hp → Prop} (h : te σ H fun x H1 => tupI K R x H1) : iTup K te σ H R := h
theorem rd_lstI {K : PySem.W.Frag} {R : It → Hp → Prop} {a : Addr} {xs : List V} (S : Hs H0 M H L) (m : (a, HO.lst xs) ∈ L) (h : R (Itl K a) H) : lstI K R (.ref a) H := ⟨a, rfl, ⟨xs, S.lst m⟩, h⟩
theorem rd_tupI {K : PySem.W.Frag} {R : It → Hp → Prop} {a : Addr} {xs : List V} (S : Hs H0 M H L) (m : (a, HO.tup xs) ∈ L) (h : R (Itt K a) H) : tupI K R (.ref a) H := ⟨a, rfl, ⟨xs, S.tup m⟩, h⟩
/-- over lo, lo + 1, .. -/
theorem fw_range {lo : Int} {n : Nat} (Pv : Nat → L2.St → Hp → Prop) (h0 : Pv 0 σ H) (hs : ∀ i σ H, i < n → Pv i σ H → g (.int (lo + i)) σ H fun σ2 H2 => tw ⟨Pv (i + 1), rt, nx, Pv (i + 1)⟩ σ2 H2) (hd : ∀ σ H, Pv n σ H → nx σ H) :
    forW (Itr lo n) g tw ⟨nx, rt, bk, ct⟩ σ H := for_range Pv h0 hs hd
/-- over a list that stays as it is -/
theorem fw_list {K : PySem.W.Frag} {a : Addr} {xs : List V} (Pv : Nat → L2.St → Hp → Prop) (h0 : Pv 0 σ H) (hl : ∀ i σ H, i ≤ xs.length → Pv i σ H → SqL K H a xs)
    (hs : ∀ i x σ H, xs[i]? = some x → Pv i σ H → g x σ H fun σ2 H2 => tw ⟨Pv (i + 1), rt, nx, Pv (i + 1)⟩ σ2 H2) (hd : ∀ σ H, Pv xs.length σ H → nx σ H) : forW (Itl K a) g tw ⟨nx, rt, bk, ct⟩ σ H := for_list Pv h0 hl hs hd
theorem fw_tup {K : PySem.W.Frag} {a : Addr} {xs : List V} (Pv : Nat → L2.St → Hp → Prop) (h0 : Pv 0 σ H) (hl : ∀ i σ H, i ≤ xs.length → Pv i σ H → SqT K H a xs)
    (hs : ∀ i x σ H, xs[i]? = some x → Pv i σ H → g x σ H fun σ2 H2 => tw ⟨Pv (i + 1), rt, nx, Pv (i + 1)⟩ σ2 H2) (hd : ∀ σ H, Pv xs.length σ H → nx σ H) : forW (Itt K a) g tw ⟨nx, rt, bk, ct⟩ σ H := for_tup Pv h0 hl hs hd
/-- while: W a word with a number that falls -/
theorem rd_while (W : Nat → L2.St → Hp → Prop) (m0 : Nat) (h0 : W m0 σ H) (hs : ∀ m σ H, W m σ H → tt σ H fun b H1 => if b = true then wl W m tw nx rt σ H1 else nx σ H1) : tWhile tt tw ⟨nx, rt, bk, ct⟩ σ H := ⟨W, ⟨m0, h0⟩, hs⟩
theorem rd_wl {W : Nat → L2.St → Hp → Prop} {m : Nat} (h : tw ⟨fun σ' H' => ∃ m', m' < m ∧ W m' σ' H', rt, nx, fun σ' H' => ∃ m', m' < m ∧ W m' σ' H'⟩ σ H) : wl W m tw nx rt σ H := ⟨_, fun _ _ h => h, h⟩
end
end Rs

namespace Rs
open PySem PySem.Spec PyProof.Rows L2

/-! ### plain data: how far it reaches -/
mutual
/-- whole numbers below 10 ^ 12, short texts of small signs, no dicts -/
def tame : PyData → Bool
  | .none | .bool _ => true
  | .int i => decide (i.natAbs < 10 ^ 12)
  | .str x => PyData.strOk x && decide (x.cps.size ≤ 40) && x.cps.toList.all fun c => decide (c < 16 ^ 8)
  | .list xs | .tuple xs => tames xs
  | .dict _ => false
def tames : List PyData → Bool
  | [] => true
  | x :: xs => tame x && tames xs
end
mutual
/-- how many there are in all -/
def cnt : PyData → Nat
  | .list xs | .tuple xs => 1 + cnts xs
  | _ => 1
def cnts : List PyData → Nat
  | [] => 0
  | x :: xs => cnt x + cnts xs
end
mutual
theorem tame_show : ∀ d : PyData, tame d = true → d.showable = true ∧ d.canLay0 = true ∧ d.intsShort 13 = true ∧ d.weight + 1 ≤ 46 * cnt d
  | .none, _ => by simp [PyData.showable, PyData.canLay0, PyData.intsShort, PyData.weight, cnt]
  | .bool _, _ => by simp [PyData.showable, PyData.canLay0, PyData.intsShort, PyData.weight, cnt]
  | .int i, h => by
    have h1 : i.natAbs < 10 ^ 12 := by simpa [tame] using h
    have h2 : i.natAbs.log2 < 40 := by
      by_cases z : i.natAbs = 0
      · rw [z]; decide
      · exact (Nat.log2_lt z).mpr (by omega)
    have h3 := PyData.shown_int_le h1
    refine ⟨by simp [PyData.showable]; omega, by simp [PyData.canLay0], by simp [PyData.intsShort]; omega, ?_⟩
    simp only [PyData.weight, cnt]
    split <;> omega
  | .str x, h => by
    simp only [tame, Bool.and_eq_true, decide_eq_true_eq] at h
    refine ⟨by simp [PyData.showable], by simpa [PyData.canLay0] using h.1.1, by simp [PyData.intsShort], ?_⟩
    simp only [PyData.weight, cnt]
    omega
  | .list xs, h => by
    obtain ⟨h1, h2, h3, h4⟩ := tames_show xs (by simpa [tame] using h)
    refine ⟨by simpa [PyData.showable] using h1, by simpa [PyData.canLay0] using h2, by simpa [PyData.intsShort] using h3, ?_⟩
    simp only [PyData.weight, cnt]
    omega
  | .tuple xs, h => by
    obtain ⟨h1, h2, h3, h4⟩ := tames_show xs (by simpa [tame] using h)
    refine ⟨by simpa [PyData.showable] using h1, by simpa [PyData.canLay0] using h2, by simpa [PyData.intsShort] using h3, ?_⟩
    simp only [PyData.weight, cnt]
    omega
  | .dict _, h => by simp [tame] at h
theorem tames_show : ∀ xs : List PyData, tames xs = true → PyData.showableAll xs = true ∧ PyData.canLayAll0 xs = true ∧ PyData.intsShortAll 13 xs = true ∧ PyData.weightAll xs ≤ 46 * cnts xs
  | [], _ => by simp [PyData.showableAll, PyData.canLayAll0, PyData.intsShortAll, PyData.weightAll, cnts]
  | x :: xs, h => by
    have h' : tame x = true ∧ tames xs = true := by simpa [tames] using h
    obtain ⟨a1, a2, a3, a4⟩ := tame_show x h'.1
    obtain ⟨b1, b2, b3, b4⟩ := tames_show xs h'.2
    simp only [PyData.showableAll, PyData.canLayAll0, PyData.intsShortAll, PyData.weightAll, cnts, a1, a2, a3, b1, b2, b3, Bool.and_self, true_and]
    omega
end
theorem shw_of {d : PyData} (h : tame d = true) (hc : cnt d ≤ 20000) : Shw d := by
  obtain ⟨h1, h2, h3, h4⟩ := tame_show d h
  exact ⟨h1, PyData.shown_fits (B := 13) (by decide) (by decide) (PyData.leavesShort_of_canLay0 13 d h2 h3) (by omega)⟩
theorem shaped_of {d : PyData} (h : tame d = true) (hd : d.depth ≤ 64) : SeqAt.shaped d = true := by
  obtain ⟨_, h2, _, _⟩ := tame_show d h
  unfold SeqAt.shaped
  rw [h2, Bool.true_and]
  exact decide_eq_true hd
/-! ### lists of whole numbers -/
def dI (ns : List Int) : PyData := .list (ns.map .int)
section
variable {K : PySem.W.Frag} {H H0 : Hp} {M : List Addr} {L L' : Led} {Q : VK} {a b : Addr}
theorem dps_ints : ∀ ns : List Int, DpAll K H (ns.map V.int) (ns.map .int)
  | [] => .nil
  | n :: ns => .cons (.int n) (dps_ints ns)
theorem dp_ints {ns : List Int} (h : SqL K H a (ns.map V.int)) : Dp K H (.ref a) (dI ns) := .lst h (dps_ints ns)
theorem depth_ints : ∀ ns : List Int, PyData.depthAll (ns.map .int) = 0
  | [] => by simp [PyData.depthAll]
  | n :: ns => by simp [PyData.depthAll, PyData.depth, depth_ints ns]
theorem depth_dI (ns : List Int) : (dI ns).depth = 1 := by simp [dI, PyData.depth, depth_ints]
theorem canLay_ints : ∀ ns : List Int, PyData.canLayAll0 (ns.map .int) = true
  | [] => by simp [PyData.canLayAll0]
  | n :: ns => by simp [PyData.canLayAll0, PyData.canLay0, canLay_ints ns]
theorem shaped_dI (ns : List Int) : SeqAt.shaped (dI ns) = true := by
  unfold SeqAt.shaped
  rw [depth_dI]
  simp [dI, PyData.canLay0, canLay_ints]
theorem eqv_ints : ∀ ns ms : List Int, PyData.eqvAll (ns.map .int) (ms.map .int) = decide (ns = ms)
  | [], [] => by simp [PyData.eqvAll]
  | [], m :: ms => by simp [PyData.eqvAll]
  | n :: ns, [] => by simp [PyData.eqvAll]
  | n :: ns, m :: ms => by
    simp only [List.map_cons, PyData.eqvAll, PyData.eqv, eqv_ints ns ms, List.cons.injEq, Bool.decide_and]
    rfl
theorem eqv_dI (ns ms : List Int) : PyData.eqv (dI ns) (dI ms) = decide (ns = ms) := by
  simp only [dI, PyData.eqv, eqv_ints]
theorem tames_ints : ∀ ns : List Int, (∀ n ∈ ns, n.natAbs < 10 ^ 12) → tames (ns.map .int) = true
  | [], _ => by simp [tames]
  | n :: ns, h => by
    simp only [List.map_cons, tames, tame, Bool.and_eq_true, decide_eq_true_eq]
    exact ⟨h n List.mem_cons_self, tames_ints ns fun m hm => h m (List.mem_cons_of_mem _ hm)⟩
theorem cnts_ints : ∀ ns : List Int, cnts (ns.map .int) = ns.length
  | [] => by simp [cnts]
  | n :: ns => by simp only [List.map_cons, cnts, cnt, cnts_ints ns, List.length_cons]; omega
theorem shw_dI {ns : List Int} (h : ∀ n ∈ ns, n.natAbs < 10 ^ 12) (hl : ns.length ≤ 10000) : Shw (dI ns) :=
  shw_of (by simp [dI, tame, tames_ints ns h]) (by simp only [dI, cnt, cnts_ints]; omega)
/-- == and != of two lists of whole numbers -/
theorem rd_eqIs {xs ys : List V} {ns ms : List Int} (S : Hs H0 M H L) (m1 : (a, HO.lst xs) ∈ L) (m2 : (b, HO.lst ys) ∈ L) (e1 : xs = ns.map V.int) (e2 : ys = ms.map V.int) (h : Q (.bl (decide (ns = ms))) H) : rEqD K (.ref a) (.ref b) H Q := by
  subst e1 e2
  exact ⟨_, _, dp_ints (S.lst m1), dp_ints (S.lst m2), shaped_dI ns, shaped_dI ms, by rw [eqv_dI]; exact h⟩
theorem rd_neIs {xs ys : List V} {ns ms : List Int} (S : Hs H0 M H L) (m1 : (a, HO.lst xs) ∈ L) (m2 : (b, HO.lst ys) ∈ L) (e1 : xs = ns.map V.int) (e2 : ys = ms.map V.int) (h : Q (.bl (decide (¬ ns = ms))) H) : rNeD K (.ref a) (.ref b) H Q := by
  subst e1 e2
  refine ⟨_, _, dp_ints (S.lst m1), dp_ints (S.lst m2), shaped_dI ns, shaped_dI ms, ?_⟩
  rw [eqv_dI]
  have e : (!decide (ns = ms)) = decide (¬ ns = ms) := by simp
  rw [e]; exact h
theorem rd_reprI {xs : List V} {ns : List Int} (S : Hs H0 M H L) (m : (a, HO.lst xs) ∈ L) (e : xs = ns.map V.int) (hb : ∀ n ∈ ns, n.natAbs < 10 ^ 12) (hl : ns.length ≤ 10000) (h : Q (.str (dI ns).shown) H) : rRepr K [.ref a] H Q := by
  subst e
  exact ⟨.ref a, dI ns, rfl, dp_ints (S.lst m), shw_dI hb hl, by rw [depth_dI]; decide, h⟩
theorem pick_ints (ns : List Int) (lo hi st : Option Int) : ∃ ks : List Int, pickV (ns.map V.int) lo hi st = ks.map V.int ∧ (∀ k ∈ ks, k ∈ ns) := by
  have e : ∀ ix : List Nat, ix.filterMap ((ns.map V.int)[·]?) = (ix.filterMap (ns[·]?)).map V.int := fun ix => by
    induction ix with
    | nil => rfl
    | cons i ix ih =>
      cases h : ns[i]? with
      | none => rw [List.filterMap_cons_none (by rw [List.getElem?_map, h]; rfl), List.filterMap_cons_none h, ih]
      | some z => rw [List.filterMap_cons_some (by rw [List.getElem?_map, h]; rfl), List.filterMap_cons_some h, ih]; rfl
  refine ⟨(slIx (ns.map V.int).length lo hi st).filterMap (ns[·]?), e _, fun k hk => ?_⟩
  obtain ⟨i, _, hi⟩ := List.mem_filterMap.mp hk
  exact List.mem_of_getElem? hi
end
/-- how keywords are put in the parameters' order -/
theorem kb_of {K : PySem.W.Frag} {x qual : Str} {st : Stmt} {f : Addr} {fd : FuncData} {ps ks : List Str} {n : Nat} (F : Fun K x qual st f fd) (ix : List Nat)
    (h : ∀ (kV doc pm : Value) (an : Option Addr) (cdv ct : Value) (us ws : List Value), us.length = n → ws.length = ks.length →
      bindArgs (PySem.W.fnOf x qual (defArgs st) (defBody st) (defScope st) .none kV doc pm an cdv ct) ⟨us, ks.zip ws⟩ = pure (ps.zip (us ++ ix.filterMap (ws[·]?)))) :
    KBn K fd ps n ks (fun us ws => us ++ ix.filterMap (ws[·]?)) (fun us ws => us ++ ix.filterMap (ws[·]?)) := by
  obtain ⟨oc, od, kV, doc, pm, an, cdv, ct, osl, rfl, lk, hcd⟩ := F.ex
  exact ⟨fun s us ws _ h1 h2 => .of_eq (h kV doc pm an cdv ct us ws h1 h2), fun r1 r2 => r1.append (vals_pick r2 ix)⟩
end Rs

namespace Rs
open PySem PySem.Spec PyProof.Rows L2
section
variable {K : PySem.W.Frag} {mg : Str → Option Value} {h : Heap}
theorem ex_calK {x : Str} {st : Stmt} {f : Addr} {oc : Value} {od an : Option Addr} {osl : Array (Option Value)} {kV doc pm cdv ct : Value} (X : K.In h) (G : h.Ns mainGlobals mg) (a : PySem.W.nsIn K mainGlobals x = some (some (.ref f)))
    (l : K.lookup f = some ⟨oc, od, .func (PySem.W.fnOf x x (defArgs st) (defBody st) (defScope st) .none kV doc pm an cdv ct), osl⟩) (c : PySem.W.codeIn K cdv x = true) (k : PySem.W.keepIn K (.ref f) = true) : ∃ f fd, CalK K mg x st f fd :=
  ⟨_, _, fun_mk l c k, PySem.W.mg_of X G a⟩
theorem ex_cal {x : Str} {st : Stmt} {ps : List Str} {f : Addr} {oc : Value} {od an : Option Addr} {osl : Array (Option Value)} {kV doc pm cdv ct : Value} (X : K.In h) (G : h.Ns mainGlobals mg) (a : PySem.W.nsIn K mainGlobals x = some (some (.ref f)))
    (l : K.lookup f = some ⟨oc, od, .func (PySem.W.fnOf x x (defArgs st) (defBody st) (defScope st) .none kV doc pm an cdv ct), osl⟩) (c : PySem.W.codeIn K cdv x = true) (k : PySem.W.keepIn K (.ref f) = true)
    (b : ∀ (kV doc pm : Value) (an : Option Addr) (cdv ct : Value) (us : List Value), us.length = ps.length → bindArgs (PySem.W.fnOf x x (defArgs st) (defBody st) (defScope st) .none kV doc pm an cdv ct) ⟨us, []⟩ = pure (ps.zip us)) : ∃ f fd, Cal K mg x st ps f fd :=
  ⟨_, _, fun_mk l c k, (fun_mk l c k).binds b, PySem.W.mg_of X G a⟩
theorem ex_gl {x : Str} {v : V} {u : Value} (X : K.In h) (G : h.Ns mainGlobals mg) (a : PySem.W.nsIn K mainGlobals x = some (some u)) (r : RelV v u) : ∃ u, mg x = some u ∧ RelV v u := ⟨u, PySem.W.mg_of X G a, r⟩
end
/-- the end, the law's def by its facts -/
theorem walkE {l : PySem.W.OpenLaw} {n k : Nat} {q : Program} {loose : List Str} {XP : (Str → Option Value) → Heap → Prop} {YP : World → Heap → Prop} {d : DefRec} {K : Params → PySem.W.Frag} {sp : PySem.W.Frag → Sp} {st : Stmt} {x : Str}
    (hn : l.most = some n) (hn2 : n ≤ sizeLine) (hdf : d.params.defaults = []) (hr : Room k callerA) (hY : ∀ (w : World) (h : Heap), YP w h → (K w.params).In h) (hx : d.name = "law")
    (hb : ∀ (kV doc pm : Value) (an : Option Addr) (cdv ct u : Value), bindArgs (PySem.W.fnOf "law" "law" (defArgs st) (defBody st) (defScope st) .none kV doc pm an cdv ct) ⟨[u], []⟩ = pure [(x, u)])
    (F : ∀ (w : World) (mg : Str → Option Value) (h : Heap), (K w.params).In h → h.Ns mainGlobals mg →
      ∃ (fa : Addr) (fd : FuncData), Cal (K w.params) mg "law" st [x] fa fd ∧ ∀ base : Heap, FnG l.prog w (K w.params) mg base k fa fd [x] (sp (K w.params)))
    (hsp : ∀ (K : PySem.W.Frag) (H : Hp) (a : Addr) (ns : List Int), ns.length ≤ n → (∀ z ∈ ns, Builtin.Int.intBits z ≤ 1048576) → SqL K H a (ns.map V.int) → sp K [.ref a] H (fun v _ => v = .bl true) E0) :
    PySem.W.WalkO q loose XP YP l.row.toRowW d [] (fun f vs => PySem.call f vs) := by
  refine walkG (x := x) hn hn2 hdf hr hY (fun w mg fa h KX G hmg => ?_) hsp
  obtain ⟨f, fd, C, ok⟩ := F w mg h KX G
  rw [hx] at hmg
  have e := C.m.symm.trans hmg
  cases e
  obtain ⟨oc, od, kV, doc, pm, an, cdv, ct, osl, rfl, lk, hcd⟩ := C.F.ex
  exact ⟨_, fun s u => .of_eq (hb kV doc pm an cdv ct u), fun base _ _ => ok base⟩
end Rs

namespace Rs
open PySem PySem.Spec PyProof.Rows L2

/-- xs[i:j] = another list -/
def gSlc (to : TE) (tl th : L2.St → Hp → (Option Int → Hp → Prop) → Prop) : TG := fun v σ H Q => to σ H fun o H1 => tl σ H1 fun l H2 => th σ H2 fun u H3 => ∃ (a b : Addr) (xs ys : List V) (i j : Int), o = .ref a ∧ v = .ref b ∧ l = some i ∧ u = some j ∧
  H3 a = some (.lst xs) ∧ H3 b = some (.lst ys) ∧ a ≠ b ∧ 0 ≤ i ∧ i ≤ j ∧ j ≤ xs.length ∧ xs.length + ys.length ≤ sizeLine ∧ Q σ (upd H3 a (.lst (xs.take i.toNat ++ ys ++ xs.drop j.toNat)))
theorem pg_slc {X : Cx} {o : Expr} {lo hi : Option Expr} {p2 pos : Pos} {to : TE} {tl th : L2.St → Hp → (Option Int → Hp → Prop) → Prop} (ho : PE X o to) (hl : PO X lo tl) (hh : PO X hi th)
    (ha : ∀ v, assign (.Subscript o (.Slice lo hi none p2) pos) X.env v = (do
      let ov ← holding [v] (eval o X.env)
      let iv ← holding [v, ov] (eval (.Slice lo hi none p2) X.env)
      standAt pos
      holding [v, ov, iv] (setItem ov iv v)
      release [iv, v, ov] []) := by intro _; rfl) : PG X (.Subscript o (.Slice lo hi none p2) pos) (gSlc to tl th) := by
  refine ⟨fun pins s σ H v u Q I r h => ?_⟩
  rw [ha]
  refine wpAny_bind (wpAny_holding (thn (ho.run pins s σ H _ I h) fun ov s1 ⟨x, H1, I1, r1, q1⟩ => ?_))
  refine wpAny_bind (wpAny_holding ?_)
  refine wpAny_Slice (thn (hl.run pins s1 σ H1 _ I1 q1) fun vl s2 ⟨l, H2, I2, pl, q2⟩ => thn (hh.run pins s2 σ H2 _ I2 q2) fun vu s3 ⟨w, H3, I3, pu, q3⟩ => ?_)
  rw [evalPart_none]
  refine wpAny_pure ?_
  have I4 : Inv X pins σ H3 { s3 with heap := s3.heap.push { cls := .type "slice", data := .fields #[vl, vu, .none] } } := I3.kept (t' := s3.toks) fun b ob q => Heap.get?_push_of_some _ q
  obtain ⟨a, b, xs, ys, i, j, rfl, rfl, rfl, rfl, hA, hB, hne, h0, h1, h2, h3, q⟩ := q3
  cases r1
  cases r
  cases pl
  cases pu
  refine wpAny_bind (wpAny_standAt (wpAny_bind (wpAny_holding ?_)))
  refine set_slice I4 hA hB hne (Heap.IsSliceOf.new ..) ⟨_, rfl⟩ ⟨_, rfl⟩ h0 h1 h2 h3 fun s5 I5 => ?_
  exact wpAny_release ⟨σ, _, I5, q⟩

/-! ### classes -/
/-- a method as it stands behind the top -/
structure CalM (K : PySem.W.Frag) (x qual : Str) (st : Stmt) (ps : List Str) (f : Addr) (fd : FuncData) : Prop where
  F : Fun K x qual st f fd
  b : Binds K fd ps []
section
variable {K : PySem.W.Frag} {mg : Str → Option Value} {h : Heap}
theorem ex_calM {C : Addr} {x qual : Str} {st : Stmt} {ps : List Str} {f : Addr} {oc : Value} {od an : Option Addr} {osl : Array (Option Value)} {kV doc pm cdv ct : Value} (a : PySem.W.findIn K (.ref C) x = some (some (.ref f))) (i : PySem.W.isFn K (.ref f) = true)
    (l : K.lookup f = some ⟨oc, od, .func (PySem.W.fnOf x qual (defArgs st) (defBody st) (defScope st) .none kV doc pm an cdv ct), osl⟩) (c : PySem.W.codeIn K cdv qual = true) (k : PySem.W.keepIn K (.ref f) = true)
    (b : ∀ (kV doc pm : Value) (an : Option Addr) (cdv ct : Value) (us : List Value), us.length = ps.length → bindArgs (PySem.W.fnOf x qual (defArgs st) (defBody st) (defScope st) .none kV doc pm an cdv ct) ⟨us, []⟩ = pure (ps.zip us)) :
    ∃ f fd, Meth K C x f ∧ CalM K x qual st ps f fd := ⟨_, _, ⟨a, i, k⟩, fun_mk l c k, (fun_mk l c k).binds b⟩
/-- an __init__ with keyword-only defaults -/
structure CalI (K : PySem.W.Frag) (C : Addr) (qual : Str) (st : Stmt) (kws : List (Str × V)) (f : Addr) (fd : FuncData) : Prop where
  M : Mk K C f
  F : FunD K "__init__" qual (defArgs st) (defBody st) (defScope st) [] kws f fd
theorem ex_calI {C D : Addr} {qual : Str} {st : Stmt} {kws : List (Str × V)} {f : Addr} {oc : Value} {od an : Option Addr} {osl : Array (Option Value)} {doc pm cdv ct : Value} (m : PySem.W.makesIn K C = true) (kc : PySem.W.keepIn K (.ref C) = true)
    (a : PySem.W.findIn K (.ref C) "__init__" = some (some (.ref f))) (i : PySem.W.isFn K (.ref f) = true)
    (l : K.lookup f = some ⟨oc, od, .func (PySem.W.fnOf "__init__" qual (defArgs st) (defBody st) (defScope st) .none (.ref D) doc pm an cdv ct), osl⟩) (c : PySem.W.codeIn K cdv qual = true) (k : PySem.W.keepIn K (.ref f) = true)
    (d : ∀ q ∈ kws, ∃ u, PySem.W.nsIn K D q.1 = some (some u) ∧ RelV q.2 u) : ∃ f fd, CalI K C qual st kws f fd :=
  ⟨_, _, ⟨m, a, i, kc⟩, ⟨⟨oc, od, .none, .ref D, doc, pm, an, cdv, ct, osl, rfl, l, c, Or.inl ⟨rfl, rfl⟩, Or.inr ⟨D, rfl, d⟩⟩, k⟩⟩
end
end Rs

namespace Rs
open PySem PySem.Spec PyProof.Rows L2

/-- the part of a list of whole numbers -/
def cutI (ns : List Int) (lo hi : Option Int) : List Int := (ns.drop (HT.sIx ns.length 0 lo)).take (HT.sIx ns.length ns.length hi - HT.sIx ns.length 0 lo)
theorem cutV_map (ns : List Int) (lo hi : Option Int) : cutV (ns.map V.int) lo hi = (cutI ns lo hi).map V.int := by
  unfold cutV cutI
  rw [List.map_take, List.map_drop, List.length_map]
theorem cutI_le (ns : List Int) (lo hi : Option Int) : (cutI ns lo hi).length ≤ ns.length := by
  unfold cutI
  rw [List.length_take, List.length_drop]
  omega
section
variable {σ : L2.St} {H H0 : Hp} {M : List Addr} {L L' : Led} {Q : VK} {v x y : V} {nx : L2.St → Hp → Prop} {rt : VK} {bk ct : L2.St → Hp → Prop} {t u : TS} {te ta tb tc : TE} {g : TG} {tt tu : TT} {tw : TS} {wi : TI} {K : PySem.W.Frag} {a p : Addr}
/-! attributes -/
theorem rd_fld {f : Str} (h : ta σ H fun x H1 => ∃ a C dx fs v, x = .ref a ∧ H1 a = some (.ins C dx fs) ∧ Cls K C ∧ NoAttr K C f ∧ fs.lookup f = some v ∧ Q v H1) : tFld K ta f σ H Q := h
theorem rd_fldV {f : Str} {C dx : Addr} {fs : List (Str × V)} {R : V → Prop} (S : Hs H0 M H L) (m : (a, HO.ins C dx fs) ∈ L) (c : Cls K C) (n : NoAttr K C f) (e : fs.lookup f = some v) (h : R v) :
    ∃ a' C dx fs v', V.ref a = .ref a' ∧ H a' = some (.ins C dx fs) ∧ Cls K C ∧ NoAttr K C f ∧ fs.lookup f = some v' ∧ R v' := ⟨a, C, dx, fs, v, rfl, S.is _ m, c, n, e, h⟩
theorem rd_sfld {f : Str} {tv : TE} (h : tv σ H fun y H1 => ta σ H1 fun x H2 => ∃ a C dx fs, x = .ref a ∧ H2 a = some (.ins C dx fs) ∧ Cls K C ∧ NoAttr K C f ∧ fs.length < 1000 ∧ nx σ (upd H2 a (.ins C dx (putF f y fs)))) : sFld K ta tv f ⟨nx, rt, bk, ct⟩ σ H := h
theorem rd_sfldV {f : Str} {C dx : Addr} {fs fs' : List (Str × V)} {R : Hp → Prop} (S : Hs H0 M H L) (ch : Chg a (.ins C dx fs) (.ins C dx fs') L L') (hm : H0 a = none ∨ a ∈ M) (c : Cls K C) (n : NoAttr K C f) (hl : fs.length < 1000) (e : putF f y fs = fs') (h : ∀ H', Hs H0 M H' L' → R H') :
    ∃ a' C dx fs, V.ref a = .ref a' ∧ H a' = some (.ins C dx fs) ∧ Cls K C ∧ NoAttr K C f ∧ fs.length < 1000 ∧ R (upd H a' (.ins C dx (putF f y fs))) := by
  subst e
  exact ⟨a, C, dx, fs, rfl, S.is _ ch.mem, c, n, hl, h _ (S.put ch hm)⟩
theorem rd_meth {C : Addr} {m : Str} {sp : Sp} {E : XK} {t : TA} (h : ta σ H fun x H1 => ∃ a dx fs, x = .ref a ∧ H1 a = some (.ins C dx fs) ∧ fs.lookup m = none ∧ t σ H1 fun vs H2 => sp (x :: vs) H2 Q E) : tMeth C m sp [] E ta t σ H Q := by
  have e : ∀ x, (fun (vs : List V) H2 => sp (x :: (vs ++ [])) H2 Q E) = fun vs H2 => sp (x :: vs) H2 Q E := fun x => by funext vs H2; rw [List.append_nil]
  show ta σ H fun x H1 => ∃ a dx fs, x = .ref a ∧ H1 a = some (.ins C dx fs) ∧ fs.lookup m = none ∧ t σ H1 fun vs H2 => sp (x :: (vs ++ [])) H2 Q E
  simp only [List.append_nil]
  exact h
theorem rd_methV {C dx : Addr} {m : Str} {fs : List (Str × V)} {R : Prop} (S : Hs H0 M H L) (hm : (a, HO.ins C dx fs) ∈ L) (e : fs.lookup m = none) (h : R) : ∃ a' dx fs, V.ref a = .ref a' ∧ H a' = some (.ins C dx fs) ∧ fs.lookup m = none ∧ R :=
  ⟨a, dx, fs, rfl, S.is _ hm, e, h⟩
theorem rd_mkK {C : Addr} {n m : Nat} {sp : Sp} {gV : List V → List V → List V} {E : XK} {t tk : TA} (h : t σ H fun vs H1 => tk σ H1 fun zs H2 => vs.length = n ∧ zs.length = m ∧ ∀ x dx, H2 x = none → H2 dx = none → dx ≠ x →
    sp (gV (.ref x :: vs) zs) (upd (upd H2 dx (.own x)) x (.ins C dx [])) (fun v H3 => v = .non ∧ Q (.ref x) H3) E) : tMakeK C n m sp gV E t tk σ H Q := h
theorem rd_mkV {C : Addr} {R : Addr → Hp → Prop} (S : Hs H0 M H L) (h : ∀ x dx H', H0 x = none → Hs H0 M H' ((x, .ins C dx []) :: L) → R x H') : ∀ x dx, H x = none → H dx = none → dx ≠ x → R x (upd (upd H dx (.own x)) x (.ins C dx [])) := by
  intro x dx hx hd ne
  obtain ⟨_, S1⟩ := S.new hd (.own x)
  have hx' : upd H dx (HO.own x) x = none := by rw [upd_ne (Ne.symm ne)]; exact hx
  obtain ⟨n0, S2⟩ := S1.new hx' (.ins C dx [])
  exact h x dx _ n0 (S2.sub (List.Sublist.cons_cons _ (List.Sublist.cons _ (List.Sublist.refl _))))
theorem rd_callL {i : Nat} {f : Addr} {sp : Sp} {E : XK} {t : TA} (e : σ[i]? = some (some (.ref f))) (h : t σ H fun vs H1 => sp vs H1 Q E) : tCallL i f sp [] E t σ H Q := by
  refine ⟨e, ?_⟩
  simp only [List.append_nil]
  exact h
/-! methods of lists -/
theorem rd_bm {T : String} {r : V → List V → Hp → VK → Prop} {t : TA} (h : ta σ H fun x H1 => tyV K T x H1 ∧ t σ H1 fun xs H2 => r x xs H2 Q) : tBM K T r ta t σ H Q := h
theorem rd_bm0 {T : String} {r : V → List V → Hp → VK → Prop} (h : ta σ H fun x H1 => tyV K T x H1 ∧ r x [] H1 Q) : tBM0 K T r ta σ H Q := h
theorem rd_tyL {xs : List V} {R : Prop} (S : Hs H0 M H L) (m : (a, HO.lst xs) ∈ L) (h : R) : tyV K "list" (.ref a) H ∧ R := ⟨Or.inl ⟨rfl, xs, S.lst m⟩, h⟩
theorem rd_app {xs : List V} (S : Hs H0 M H L) (c : Chg a (.lst xs) (.lst (xs ++ [y])) L L') (hm : H0 a = none ∨ a ∈ M) (hl : xs.length < sizeLine) (h : ∀ H', Hs H0 M H' L' → Q .non H') : rAppend (.ref a) [y] H Q :=
  ⟨a, xs, y, rfl, rfl, S.is _ c.mem, hl, h _ (S.put c hm)⟩
/-! calls over lists -/
theorem rd_sumI {xs : List V} {ns : List Int} (S : Hs H0 M H L) (m : (a, HO.lst xs) ∈ L) (e : xs = ns.map V.int) (h : Q (.int ns.sum) H) : rSum K [.ref a] H Q := ⟨a, ns, rfl, by subst e; exact S.lst m, h⟩
theorem rd_slL {xs : List V} {ns : List Int} {lo hi : Option Int} (S : Hs H0 M H L) (m : (a, HO.lst xs) ∈ L) (e : xs = ns.map V.int) (h : ∀ p H', H0 p = none → Hs H0 M H' ((p, .lst ((cutI ns lo hi).map V.int)) :: L) → Q (.ref p) H') : rSlL K (.ref a) lo hi H Q := by
  subst e
  refine ⟨a, _, rfl, S.lst m, ?_⟩
  rw [cutV_map]
  exact rd_newO S h
theorem rd_catL {xs ys : List V} {b : Addr} (S : Hs H0 M H L) (m : (a, HO.lst xs) ∈ L) (m2 : (b, HO.lst ys) ∈ L) (hz : xs.length + ys.length ≤ sizeLine) (h : ∀ p H', H0 p = none → Hs H0 M H' ((p, .lst (xs ++ ys)) :: L) → Q (.ref p) H') : rCat (.ref a) (.ref b) H Q :=
  ⟨a, b, xs, ys, rfl, rfl, S.is _ m, S.is _ m2, hz, rd_newO S h⟩
theorem rd_repL {xs : List V} {k : Int} (S : Hs H0 M H L) (m : (a, HO.lst xs) ∈ L) (h1 : 0 ≤ k) (h2 : k < 2 ^ 63) (hz : xs.length * k.toNat ≤ sizeLine) (h : ∀ p H', H0 p = none → Hs H0 M H' ((p, .lst (List.replicate k.toNat xs).flatten) :: L) → Q (.ref p) H') : rRep (.ref a) (.int k) H Q :=
  ⟨a, k, xs, rfl, rfl, S.is _ m, by omega, h2, hz, rd_newO S h⟩
def revR (K : PySem.W.Frag) (Q : VK) (x : V) (H1 : Hp) : Prop := ∃ a xs, x = .ref a ∧ SqL K H1 a xs ∧ ∀ p, H1 p = none → Q (.ref p) (upd H1 p (.lst xs.reverse))
theorem rd_revL (h : te σ H fun x H1 => revR K Q x H1) : tRevL K te σ H Q := h
theorem rd_revV {xs : List V} (S : Hs H0 M H L) (m : (a, HO.lst xs) ∈ L) (h : ∀ p H', H0 p = none → Hs H0 M H' ((p, .lst xs.reverse) :: L) → Q (.ref p) H') : revR K Q (.ref a) H := ⟨a, xs, rfl, S.lst m, rd_newO S h⟩
theorem rd_isN (h : Q (.bl (decide (x = .non))) H) : (fun x y H Q => y = V.non ∧ Q (.bl (decide (x = .non))) H : R2) x .non H Q := ⟨rfl, h⟩
theorem rd_notN (h : Q (.bl (!decide (x = .non))) H) : (fun x y H Q => y = V.non ∧ Q (.bl (!decide (x = .non))) H : R2) x .non H Q := ⟨rfl, h⟩
/-! targets -/
theorem gt_unl {xs : List V} {n : Nat} {ts : TGs} {N : L2.St → Hp → Prop} (S : Hs H0 M H L) (m : (a, HO.lst xs) ∈ L) (hn : xs.length = n) (h : ts xs σ H N) : gUnl K n ts (.ref a) σ H N := ⟨a, xs, rfl, S.lst m, hn, h⟩
theorem gt_sub {to ti : TE} {ts : TSet} {N : L2.St → Hp → Prop} (h : to σ H fun o H1 => ti σ H1 fun i H2 => ts o i v H2 fun H3 => N σ H3) : gSub to ti ts v σ H N := h
theorem gt_setL {xs : List V} {k : Int} {j : Nat} {N : Hp → Prop} (S : Hs H0 M H L) (c : Chg a (.lst xs) (.lst (xs.set j v)) L L') (hm : H0 a = none ∨ a ∈ M) (e : ixN xs.length k = some j) (h : ∀ H', Hs H0 M H' L' → N H') : rSetL (.ref a) (.int k) v H N :=
  ⟨a, xs, k, j, rfl, rfl, S.is _ c.mem, e, h _ (S.put c hm)⟩
theorem gt_slc {to : TE} {tl th : L2.St → Hp → (Option Int → Hp → Prop) → Prop} {N : L2.St → Hp → Prop} (h : to σ H fun o H1 => tl σ H1 fun l H2 => th σ H2 fun u H3 => ∃ (a b : Addr) (xs ys : List V) (i j : Int), o = .ref a ∧ v = .ref b ∧ l = some i ∧ u = some j ∧
    H3 a = some (.lst xs) ∧ H3 b = some (.lst ys) ∧ a ≠ b ∧ 0 ≤ i ∧ i ≤ j ∧ j ≤ xs.length ∧ xs.length + ys.length ≤ sizeLine ∧ N σ (upd H3 a (.lst (xs.take i.toNat ++ ys ++ xs.drop j.toNat)))) : gSlc to tl th v σ H N := h
theorem gt_slcV {b : Addr} {xs ys zs : List V} {i j : Int} {N : Hp → Prop} (S : Hs H0 M H L) (c : Chg a (.lst xs) (.lst zs) L L') (m : (b, HO.lst ys) ∈ L) (hne : a ≠ b) (hm : H0 a = none ∨ a ∈ M) (h0 : 0 ≤ i) (h1 : i ≤ j) (h2 : j ≤ xs.length) (hz : xs.length + ys.length ≤ sizeLine)
    (e : xs.take i.toNat ++ ys ++ xs.drop j.toNat = zs) (h : ∀ H', Hs H0 M H' L' → N H') : ∃ (a' b' : Addr) (xs ys : List V) (i' j' : Int), V.ref a = .ref a' ∧ V.ref b = .ref b' ∧ some i = some i' ∧ some j = some j' ∧
    H a' = some (.lst xs) ∧ H b' = some (.lst ys) ∧ a' ≠ b' ∧ 0 ≤ i' ∧ i' ≤ j' ∧ j' ≤ xs.length ∧ xs.length + ys.length ≤ sizeLine ∧ N (upd H a' (.lst (xs.take i'.toNat ++ ys ++ xs.drop j'.toNat))) := by
  subst e
  exact ⟨a, b, xs, ys, i, j, rfl, rfl, rfl, rfl, S.is _ c.mem, S.is _ m, hne, h0, h1, h2, hz, h _ (S.put c hm)⟩
/-! a comprehension over a range, all its steps without new objects left behind but the list itself -/
def lcW (J : It) (g : TG) (tt : TT) (te : TE) (vs : List Nat) (σ : L2.St) (H1 : Hp) (Q : VK) : Prop := ∀ D, H1 D = none → ∃ W : Nat → Nat → Hp → Prop, (∃ m, W 0 m (upd H1 D (.lst []))) ∧ ∀ i m H, W i m H →
  (J.stop i H ∧ Q (.ref D) H) ∨ (J.go i H ∧ ∃ Nx : Hp → Prop, (∀ H', Nx H' → ∃ m', m' < m ∧ W (i + 1) m' H') ∧ ∀ x H', J.yld i H x H' → g x (wipe σ vs) H' fun σ2 H2 => wipe σ2 vs = wipe σ vs ∧ tt σ2 H2 fun b H3 =>
    if b = true then te σ2 H3 fun y H4 => ∃ acc, H4 D = some (.lst acc) ∧ acc.length < sizeLine ∧ Nx (upd H4 D (.lst (acc ++ [y]))) else Nx H3)
theorem rd_lc {vs : List Nat} (h : wi σ H fun J H1 => lcW J g tt te vs σ H1 Q) : tLc wi g tt te vs σ H Q := h
def lcSkip (H0 : Hp) (M : List Addr) (L : Led) (R1 : List V → Prop) (D : Addr) (H : Hp) : Prop := H0 D = none ∧ ∃ acc, R1 acc ∧ Hs H0 M H ((D, .lst acc) :: L)
def lcPut (H0 : Hp) (M : List Addr) (L : Led) (R1 : List V → Prop) (D : Addr) (y : V) (H : Hp) : Prop := ∃ acc, H D = some (.lst acc) ∧ acc.length < sizeLine ∧ lcSkip H0 M L R1 D (upd H D (.lst (acc ++ [y])))
theorem rd_lcPut {D : Addr} {acc : List V} {L2 L3 : Led} {R1 : List V → Prop} (S : Hs H0 M H L2) (c : Chg D (.lst acc) (.lst (acc ++ [y])) L2 L3) (n : H0 D = none) (hl : acc.length < sizeLine) (sub : ((D, HO.lst (acc ++ [y])) :: L).Sublist L3) (r : R1 (acc ++ [y])) : lcPut H0 M L R1 D y H :=
  ⟨acc, S.is _ c.mem, hl, n, _, r, (S.put c (Or.inl n)).sub sub⟩
theorem rd_lcSkip {D : Addr} {acc : List V} {L2 : Led} {R1 : List V → Prop} (S : Hs H0 M H L2) (n : H0 D = none) (sub : ((D, HO.lst acc) :: L).Sublist L2) (r : R1 acc) : lcSkip H0 M L R1 D H := ⟨n, _, r, S.sub sub⟩
theorem lcw_range {lo : Int} {n : Nat} {vs : List Nat} (S : Hs H0 M H L) (R : Nat → List V → Prop) (r0 : R 0 [])
    (hs : ∀ D i acc H', i < n → R i acc → H0 D = none → Hs H0 M H' ((D, .lst acc) :: L) → g (.int (lo + i)) (wipe σ vs) H' fun σ2 H2 => wipe σ2 vs = wipe σ vs ∧ tt σ2 H2 fun b H3 => if b = true then te σ2 H3 fun y H4 => lcPut H0 M L (R (i + 1)) D y H4 else lcSkip H0 M L (R (i + 1)) D H3)
    (hd : ∀ D acc H', R n acc → H0 D = none → Hs H0 M H' ((D, .lst acc) :: L) → Q (.ref D) H') : lcW (Itr lo n) g tt te vs σ H Q := by
  intro D hD
  have S1 := S.new hD (.lst [])
  refine lc_range (fun i H' => lcSkip H0 M L (R i) D H') ⟨S1.1, [], r0, S1.2⟩ ?_ ?_
  · rintro i H' hi ⟨n0, acc, r, S'⟩
    exact hs D i acc H' hi r n0 S'
  · rintro H' ⟨n0, acc, r, S'⟩
    exact hd D acc H' r n0 S'
theorem lcw_list {a : Addr} {xs : List V} {vs : List Nat} (S : Hs H0 M H L) (R : Nat → List V → Prop) (r0 : R 0 []) (hl : ∀ H' acc D, Hs H0 M H' ((D, .lst acc) :: L) → SqL K H' a xs)
    (hs : ∀ D i x acc H', xs[i]? = some x → R i acc → H0 D = none → Hs H0 M H' ((D, .lst acc) :: L) → g x (wipe σ vs) H' fun σ2 H2 => wipe σ2 vs = wipe σ vs ∧ tt σ2 H2 fun b H3 => if b = true then te σ2 H3 fun y H4 => lcPut H0 M L (R (i + 1)) D y H4 else lcSkip H0 M L (R (i + 1)) D H3)
    (hd : ∀ D acc H', R xs.length acc → H0 D = none → Hs H0 M H' ((D, .lst acc) :: L) → Q (.ref D) H') : lcW (Itl K a) g tt te vs σ H Q := by
  intro D hD
  have S1 := S.new hD (.lst [])
  refine lc_list (xs := xs) (fun i H' => lcSkip H0 M L (R i) D H') ⟨S1.1, [], r0, S1.2⟩ (fun i H' _ ⟨_, acc, _, S'⟩ => hl H' acc D S') ?_ ?_
  · rintro i x H' hi ⟨n0, acc, r, S'⟩
    exact hs D i x acc H' hi r n0 S'
  · rintro H' ⟨n0, acc, r, S'⟩
    exact hd D acc H' r n0 S'
theorem lcw_tup {a : Addr} {xs : List V} {vs : List Nat} (S : Hs H0 M H L) (R : Nat → List V → Prop) (r0 : R 0 []) (hl : ∀ H' acc D, Hs H0 M H' ((D, .lst acc) :: L) → SqT K H' a xs)
    (hs : ∀ D i x acc H', xs[i]? = some x → R i acc → H0 D = none → Hs H0 M H' ((D, .lst acc) :: L) → g x (wipe σ vs) H' fun σ2 H2 => wipe σ2 vs = wipe σ vs ∧ tt σ2 H2 fun b H3 => if b = true then te σ2 H3 fun y H4 => lcPut H0 M L (R (i + 1)) D y H4 else lcSkip H0 M L (R (i + 1)) D H3)
    (hd : ∀ D acc H', R xs.length acc → H0 D = none → Hs H0 M H' ((D, .lst acc) :: L) → Q (.ref D) H') : lcW (Itt K a) g tt te vs σ H Q := by
  intro D hD
  have S1 := S.new hD (.lst [])
  refine lc_tup (xs := xs) (fun i H' => lcSkip H0 M L (R i) D H') ⟨S1.1, [], r0, S1.2⟩ (fun i H' _ ⟨_, acc, _, S'⟩ => hl H' acc D S') ?_ ?_
  · rintro i x H' hi ⟨n0, acc, r, S'⟩
    exact hs D i x acc H' hi r n0 S'
  · rintro H' ⟨n0, acc, r, S'⟩
    exact hd D acc H' r n0 S'
end
end Rs
namespace Rs
open PySem PySem.Spec PyProof.Rows L2
/-- an expression that the proof never comes to -/
def tNevE : TE := fun _ _ _ => False
theorem pe_nev {X : Cx} {e : Expr} : PE X e tNevE := ⟨fun _ _ _ _ _ _ h => h.elim⟩
end Rs
namespace Rs
open PySem PySem.Spec PyProof.Rows L2
theorem ex_u {K : PySem.W.Frag} {D : Addr} {x : Str} {v : V} {u : Value} (a : PySem.W.nsIn K D x = some (some u)) (r : RelV v u) : ∃ u, PySem.W.nsIn K D x = some (some u) ∧ RelV v u := ⟨u, a, r⟩
end Rs

namespace Rs
open PySem PySem.Spec PyProof.Rows L2
section
variable {H0 H H' : Hp} {M : List Addr} {L L' N : Led} {a p : Addr} {o o' : HO} {K : PySem.W.Frag}
theorem Hs.perm (S : Hs H0 M H L) (h : L'.Perm L) : Hs H0 M H L' := ⟨(h.map (·.1)).nodup_iff.mpr S.nd, fun q hq => S.is q (h.mem_iff.mp hq), S.old, S.mu⟩
/-- the objects of N are new, each another -/
structure NewL (H H' : Hp) (N : Led) : Prop where
  nd : (N.map (·.1)).Nodup
  nw : ∀ q ∈ N, H q.1 = none
  is : ∀ q ∈ N, H' q.1 = some q.2
/-- one object was changed, those of N are new -/
theorem Hs.oneN (S : Hs H0 M H L) (c : Chg a o o' L L') (hm : H0 a = none ∨ a ∈ M) (k : ∀ b u, H b = some u → b ≠ a → H' b = some u) (h' : H' a = some o') (n : NewL H H' N) : (∀ q ∈ N, H0 q.1 = none) ∧ Hs H0 M H' (N ++ L') := by
  have S' := S.one c hm k h'
  refine ⟨fun q hq => (S.new (n.nw q hq) q.2).1, ?_, ?_, S'.old, S'.mu⟩
  · rw [List.map_append, List.nodup_append]
    refine ⟨n.nd, S'.nd, ?_⟩
    intro x hx y hy e
    subst e
    obtain ⟨q, hq, rfl⟩ := List.mem_map.mp hx
    rw [c.keys] at hy
    obtain ⟨r, hr, e⟩ := List.mem_map.mp hy
    have := S.is r hr
    rw [e, n.nw q hq] at this
    cases this
  · intro q hq
    rcases List.mem_append.mp hq with h | h
    · exact n.is q h
    · exact S'.is q h
/-- nothing was changed, those of N are new -/
theorem Hs.moreN (S : Hs H0 M H L) (k : Same H H') (n : NewL H H' N) : (∀ q ∈ N, H0 q.1 = none) ∧ Hs H0 M H' (N ++ L) := by
  have S' := S.more k
  refine ⟨fun q hq => (S.new (n.nw q hq) q.2).1, ?_, ?_, S'.old, S'.mu⟩
  · rw [List.map_append, List.nodup_append]
    refine ⟨n.nd, S'.nd, ?_⟩
    intro x hx y hy e
    subst e
    obtain ⟨q, hq, rfl⟩ := List.mem_map.mp hx
    obtain ⟨r, hr, e⟩ := List.mem_map.mp hy
    have := S.is r hr
    rw [e, n.nw q hq] at this
    cases this
  · intro q hq
    rcases List.mem_append.mp hq with h | h
    · exact n.is q h
    · exact S'.is q h
/-- what a ledger tells of new ones -/
theorem Hs.news (S : Hs H0 M H L) (h : N.Sublist L) (n : ∀ q ∈ N, H0 q.1 = none) : NewL H0 H N := ⟨S.nd.sublist (h.map _), n, fun q hq => S.is q (h.subset hq)⟩
/-- plain data that a ledger holds: refs of tuples of whole numbers -/
def TupL (rs : List V) (T : Led) : Prop := (∀ r ∈ rs, ∃ q ∈ T, r = .ref q.1) ∧ ∀ q ∈ T, ∃ ns : List Int, q.2 = .tup (ns.map V.int)
theorem TupL.nil : TupL [] [] := ⟨fun r h => (nomatch h), fun q h => (nomatch h)⟩
theorem TupL.app {rs rs2 : List V} {T T2 : Led} (h : TupL rs T) (h2 : TupL rs2 T2) : TupL (rs ++ rs2) (T2 ++ T) := by
  refine ⟨fun r hr => ?_, fun q hq => ?_⟩
  · rcases List.mem_append.mp hr with z | z
    · obtain ⟨q, hq, e⟩ := h.1 r z; exact ⟨q, List.mem_append_right _ hq, e⟩
    · obtain ⟨q, hq, e⟩ := h2.1 r z; exact ⟨q, List.mem_append_left _ hq, e⟩
  · rcases List.mem_append.mp hq with z | z
    · exact h2.2 q z
    · exact h.2 q z
theorem TupL.snoc {rs : List V} {T : Led} (h : TupL rs T) (q : Addr) (ns : List Int) : TupL (rs ++ [.ref q]) ((q, .tup (ns.map V.int)) :: T) :=
  h.app (T2 := [(q, .tup (ns.map V.int))]) ⟨fun r hr => ⟨_, List.mem_cons_self, by simpa using hr⟩, fun z hz => ⟨ns, by simp at hz; rw [hz]⟩⟩
theorem dpT {rs : List V} {T : Led} (h : TupL rs T) (is : ∀ q ∈ T, H q.1 = some q.2) : ∃ nss : List (List Int), nss.length = rs.length ∧ DpAll K H rs (nss.map fun ns => .tuple (ns.map .int)) := by
  induction rs with
  | nil => exact ⟨[], rfl, .nil⟩
  | cons r rs ih =>
    obtain ⟨nss, e, d⟩ := ih ⟨fun x hx => h.1 x (List.mem_cons_of_mem _ hx), h.2⟩
    obtain ⟨q, hq, rfl⟩ := h.1 r List.mem_cons_self
    obtain ⟨ns, e2⟩ := h.2 q hq
    have hi := is q hq
    rw [e2] at hi
    exact ⟨ns :: nss, by simp [e], .cons (.tup (SqT.of hi) (dps_ints ns)) d⟩
theorem lay_T : ∀ nss : List (List Int), PyData.canLayAll0 (nss.map fun ns => .tuple (ns.map .int)) = true ∧ PyData.depthAll (nss.map fun ns => .tuple (ns.map .int)) ≤ 1
  | [] => by simp [PyData.canLayAll0, PyData.depthAll]
  | ns :: nss => by
    obtain ⟨a, b⟩ := lay_T nss
    simp only [List.map_cons, PyData.canLayAll0, PyData.canLay0, canLay_ints, a, Bool.and_self, PyData.depthAll, PyData.depth, depth_ints, true_and]
    omega
/-- a list of such tuples: data -/
theorem dpLT {rs : List V} {T : Led} (h : TupL rs T) (S : Hs H0 M H L) (m : (a, HO.lst rs) ∈ L) (sub : ∀ q ∈ T, q ∈ L) : ∃ nss : List (List Int), nss.length = rs.length ∧ Dp K H (.ref a) (.list (nss.map fun ns => .tuple (ns.map .int))) ∧ SeqAt.shaped (.list (nss.map fun ns => .tuple (ns.map .int))) = true := by
  obtain ⟨nss, e, d⟩ := dpT (K := K) (H := H) h fun q hq => S.is q (sub q hq)
  obtain ⟨y, z⟩ := lay_T nss
  refine ⟨nss, e, .lst (S.lst m) d, ?_⟩
  unfold SeqAt.shaped
  have e1 : PyData.canLay0 (.list (nss.map fun ns => .tuple (ns.map .int))) = true := by simp only [PyData.canLay0, y]
  rw [e1, Bool.true_and]
  refine decide_eq_true ?_
  simp only [PyData.depth]
  omega
theorem eqv_nil (xs : List PyData) : PyData.eqv (.list xs) (.list []) = decide (xs.length = 0) := by
  cases xs <;> simp [PyData.eqv, PyData.eqvAll]
/-- == [] and != [] of a list of such tuples -/
theorem rd_eqT0 {Q : VK} {rs : List V} {T : Led} {b : Addr} (h : TupL rs T) (S : Hs H0 M H L) (m : (a, HO.lst rs) ∈ L) (m2 : (b, HO.lst []) ∈ L) (sub : ∀ q ∈ T, q ∈ L) (k : Q (.bl (decide (rs.length = 0))) H) : rEqD K (.ref a) (.ref b) H Q := by
  obtain ⟨nss, e, d, sh⟩ := dpLT (K := K) h S m sub
  refine ⟨_, .list [], d, .lst (S.lst m2) .nil, sh, by decide, ?_⟩
  rw [eqv_nil, List.length_map, e]
  exact k
theorem rd_neT0 {Q : VK} {rs : List V} {T : Led} {b : Addr} (h : TupL rs T) (S : Hs H0 M H L) (m : (a, HO.lst rs) ∈ L) (m2 : (b, HO.lst []) ∈ L) (sub : ∀ q ∈ T, q ∈ L) (k : Q (.bl (!decide (rs.length = 0))) H) : rNeD K (.ref a) (.ref b) H Q := by
  obtain ⟨nss, e, d, sh⟩ := dpLT (K := K) h S m sub
  refine ⟨_, .list [], d, .lst (S.lst m2) .nil, sh, by decide, ?_⟩
  rw [eqv_nil, List.length_map, e]
  exact k
end
end Rs
namespace Rs
open PySem PySem.Spec PyProof.Rows L2
theorem rd_nn {R : Prop} (h : R) : V.non = V.non ∧ R := ⟨rfl, h⟩
end Rs
namespace Rs
open PySem PySem.Spec PyProof.Rows L2
section
variable {σ : L2.St} {H : Hp} {nx : L2.St → Hp → Prop} {rt : VK} {bk ct : L2.St → Hp → Prop} {te : TE}
theorem rd_aug {i : Nat} {v : V} {rd : V → V → Hp → VK → Prop} (e : σ[i]? = some (some v)) (h : te σ H fun y H1 => rd v y H1 fun z H2 => nx (σ.set i (some z)) H2) : tAug i te rd ⟨nx, rt, bk, ct⟩ σ H := ⟨v, e, h⟩
theorem rd_ipI {f : Int → Int → Int} {Q : VK} {i j : Int} (h : Q (.int (f i j)) H) : ipI f (.int i) (.int j) H Q := ⟨i, j, rfl, rfl, h⟩
end
end Rs
namespace Rs
open PySem PySem.Spec PyProof.Rows L2
theorem Hs.made {C x dx : Addr} {H0 H : Hp} {M : List Addr} {L : Led} (S : Hs H0 M H L) (hx : H x = none) (hd : H dx = none) (ne : dx ≠ x) : H0 x = none ∧ Hs H0 M (upd (upd H dx (.own x)) x (.ins C dx [])) ((x, .ins C dx []) :: L) := by
  obtain ⟨_, S1⟩ := S.new hd (.own x)
  have hx' : upd H dx (HO.own x) x = none := by rw [upd_ne (Ne.symm ne)]; exact hx
  obtain ⟨n0, S2⟩ := S1.new hx' (.ins C dx [])
  exact ⟨n0, S2.sub (List.Sublist.cons_cons _ (List.Sublist.cons _ (List.Sublist.refl _)))⟩
end Rs

namespace Rs
open PySem PySem.Spec PyProof.Rows L2

/-! ### sum and max over tuples, with a start, with a default -/
section
variable {prog : Program} {w : World} {A : Around} {s : Shared} {R : Result → Shared → Prop} {E : Value → Shared → Prop}
/-- a walk with one more in front, that is over -/
theorem walk_more {I : Addr} {fp wr : List Addr} {n : Nat} {P : Nat → Value → Prop} {St : Nat → Heap → Prop} (W : Walks prog w A I fp wr n P St) :
    Walks prog w A I fp wr (n + 1) (fun i v => 0 < i ∧ P (i - 1) v) (fun i h => 0 < i ∧ St (i - 1) h) where
  sub := W.sub
  frame := fun i h h' st k => ⟨st.1, W.frame _ h h' st.2 k⟩
  item := fun i s Q E hi st hq => by
    obtain ⟨j, rfl⟩ : ∃ j, i = j + 1 := ⟨i - 1, by have := st.1; omega⟩
    refine W.item j s Q E (by omega) st.2 fun v h' tk p st' k => hq v h' tk ⟨Nat.succ_pos _, p⟩ ⟨Nat.succ_pos _, st'⟩ k
  done := fun s Q E st hq => W.done s Q E st.2 hq
  self := fun i s Q E st hq => W.self _ s Q E st.2 hq
theorem sumK_args (a v : Value) : argsOk "sum" ⟨[a], [(Str.ofString "start", v)]⟩ := by unfold argsOk; kernel_rfl
theorem maxD_args (a v : Value) : argsOk "max" ⟨[a], [(Str.ofString "default", v)]⟩ := by unfold argsOk; kernel_rfl
def shiftV (k : Int) (val : Nat → Int) : Nat → Int
  | 0 => k
  | i + 1 => val i
theorem preSum_shift (k : Int) (val : Nat → Int) : ∀ n, preSum (shiftV k val) (n + 1) = k + preSum val n
  | 0 => by simp [preSum, shiftV]
  | n + 1 => by
    rw [preSum, preSum_shift k val n, preSum]
    simp [shiftV]
    omega
/-- sum(x, start=k) -/
theorem sum_from {x : Value} {k : Int} {tok : Tok} {Q : Value → Shared → Prop}
    (h : wpAny (model prog w) A.in1 (pyIter x) (fun it s₂ => ∃ I fp wr n P St val, it = .ref I ∧ Walks prog w A.in1 I fp wr n P St ∧ St 0 s₂.heap ∧ (∀ b ∈ fp, b < s₂.heap.objs.size) ∧ (∀ i v, P i v → ∃ t, v = .int (val i) t) ∧
      ∀ h' tk t', (∀ b o, b ∉ wr → s₂.heap.get? b = some o → h'.get? b = some o) → Q (.int (k + preSum val n) t') { s₂ with heap := h', toks := tk }) E s) :
    wpAny (model prog w) A (call (.builtin "sum") [x] [(Str.ofString "start", .int k tok)]) Q E s := by
  refine PyProof.Rows.kmk_tree F.kind_sum F.plain_sum F.entry_sum (sumK_args _ _) ?_
  unfold Builtin.«sum»
  simp only [List.length_cons, List.length_nil]
  rw [if_neg (by decide)]
  refine wpAny_bind (wpAny_of_eq (a := [some (.int k tok)]) rfl ?_)
  refine wpAny_bind (wpAny_mono h (fun it s₂ q => ?_) fun _ _ e => e)
  obtain ⟨I, fp, wr, n, P, St, val, rfl, W, st, hfp, hval, hQ⟩ := q
  have hv' : ∀ i v, (0 < i ∧ P (i - 1) v) → ∃ t, v = .int (shiftV k val i) t := fun i v z => by
    obtain ⟨j, rfl⟩ : ∃ j, i = j + 1 := ⟨i - 1, by omega⟩
    exact hval j v z.2
  have hS : s₂.heap.objs.size ∉ fp := fun m => Nat.lt_irrefl _ (hfp _ m)
  show wpAny _ A.in1 (if (_ : Bool) = true then _ else _) _ _ _
  split
  · refine wpAny_bind (wpAny_rule (wpAny_bind (wpAny_mkInt (wpAny_bind (wpAny_pure ?_)))))
    simp only [List.forIn_cons, List.forIn_nil]
    refine wpAny_bind (wpAny_bind (wpAny_bind (wpAny_isInstance (T := "int") (b := false) (typeIs_int _ _ _) PySem.sub_int_str ?_)))
    refine wpAny_pure (wpAny_bind (wpAny_bind (wpAny_isInstance (T := "int") (b := false) (typeIs_int _ _ _) PySem.sub_int_bytes ?_)))
    refine wpAny_pure (wpAny_bind (wpAny_bind (wpAny_isInstance (T := "int") (b := false) (typeIs_int _ _ _) PySem.sub_int_bytearray ?_)))
    refine wpAny_pure (wpAny_pure ?_)
    refine wpAny_bind (wpAny_newObj_type (wpAny_pure ⟨plainId_quiet F.plain_sum_loop _, codeAny_sum_loopG (walk_more W) (shiftV k val) hv' s₂.heap.objs.size hS n 1 _ _ 0 0 (Or.inl rfl) rfl (by omega)
      ⟨Nat.one_pos, W.frame _ _ _ st fun b _ o e => Heap.get?_push_of_some _ e⟩ (by rw [show preSum (shiftV k val) 1 = k by simp [preSum, shiftV]]; exact Heap.get?_push_size _ rfl) fun h' tk t' kp => ?_⟩))
    rw [preSum_shift]
    exact hQ h' tk t' fun b o hb e => kp b o hb (Nat.ne_of_lt (Heap.lt_size e)) (Heap.get?_push_of_some _ e)
  · refine wpAny_bind (wpAny_pure ?_)
    simp only [List.forIn_cons, List.forIn_nil]
    refine wpAny_bind (wpAny_bind (wpAny_bind (wpAny_isInstance (T := "int") (b := false) (typeIs_int _ _ _) PySem.sub_int_str ?_)))
    refine wpAny_pure (wpAny_bind (wpAny_bind (wpAny_isInstance (T := "int") (b := false) (typeIs_int _ _ _) PySem.sub_int_bytes ?_)))
    refine wpAny_pure (wpAny_bind (wpAny_bind (wpAny_isInstance (T := "int") (b := false) (typeIs_int _ _ _) PySem.sub_int_bytearray ?_)))
    refine wpAny_pure (wpAny_pure ?_)
    refine wpAny_bind (wpAny_newObj_type (wpAny_pure ⟨plainId_quiet F.plain_sum_loop _, codeAny_sum_loopG (walk_more W) (shiftV k val) hv' s₂.heap.objs.size hS n 1 _ _ 0 2 (Or.inr rfl) rfl (by omega)
      ⟨Nat.one_pos, W.frame _ _ _ st fun b _ o e => Heap.get?_push_of_some _ e⟩ (by rw [show preSum (shiftV k val) 1 = k by simp [preSum, shiftV]]; exact Heap.get?_push_size _ rfl) fun h' tk t' kp => ?_⟩))
    rw [preSum_shift]
    exact hQ h' tk t' fun b o hb e => kp b o hb (Nat.ne_of_lt (Heap.lt_size e)) (Heap.get?_push_of_some _ e)
/-- max(x, default=d): the loop -/
theorem max_loopD {I : Addr} {fp wr : List Addr} {n : Nat} {P : Nat → Value → Prop} {St : Nat → Heap → Prop} (W : Walks prog w A.in1 I fp wr n P St) (val : Nat → Int) (hval : ∀ i v, P i v → ∃ t, v = .int (val i) t) (T : Addr) (hT : T ∉ fp) (d : Value) :
    ∀ (k i : Nat) (s : Shared) (c : Nat) (best : Option (Int × Tok)), n - i = k → i ≤ n → St i s.heap →
      s.heap.get? T = some { cls := .type "list", dict := none, data := .seq (match best with | none => #[] | some b => #[.int b.1 b.2, .int b.1 b.2]) c, slots := #[] } →
      (∀ v h' tk, (best = none → i = n → v = d) → (best ≠ none ∨ i < n → ∃ m t, v = .int m t ∧ ((∃ b, best = some b ∧ m = b.1) ∨ ∃ j, i ≤ j ∧ j < n ∧ m = val j) ∧ (∀ b, best = some b → b.1 ≤ m) ∧ ∀ j, i ≤ j → j < n → val j ≤ m) →
        (∀ b o, b ∉ wr → b ≠ T → s.heap.get? b = some o → h'.get? b = some o) → R (.ok (.ret v)) { s with heap := h', toks := tk }) →
      codeAny (model prog w) A (.builtin "max.loop" ⟨[.ref I, .none, .ref T], [(Str.ofString "default", d)]⟩) R s := by
  have hTw : T ∉ wr := fun z => hT (W.sub _ z)
  have hname : (toString "max" ++ toString ".loop" : String) = "max.loop" := by decide
  intro k
  induction k with
  | zero =>
    intro i s c best hk hi hst hS hR
    have hin : i = n := by omega
    subst hin
    refine codeAny_builtin F.entry_max_loop ?_
    rw [Around.under_plainId F.plain_max_loop _]
    show wpAny _ A.in1 (seqItems? (.ref T) >>= _) _ _ s
    refine wpAny_bind (wpAny_seqItems hS rfl ?_)
    show wpAny _ A.in1 (tryCatch (pyNext (.ref I)) _ >>= _) _ _ s
    refine wpAny_bind (wpAny_tryCatch (W.done s _ _ hst fun h' tk kp => ?_))
    have hS' := kp T _ hTw hS
    cases best with
    | none =>
      show wpAny _ A.in1 (rule _ >>= _) _ _ _
      refine wpAny_bind (wpAny_rule (wpAny_pure ?_))
      exact hR d h' tk (fun _ _ => rfl) (fun z => by rcases z with z | z; exact absurd rfl z; omega) fun b o hb _ e => kp b o hb e
    | some b =>
      show wpAny _ A.in1 (updateSeq T (fun _ => #[]) >>= _) _ _ _
      refine wpAny_bind ?_
      refine wpAny_updateSeq hS' rfl (wpAny_bind (wpAny_letGo (wpAny_pure ?_)))
      refine hR (.int b.1 b.2) _ tk (fun z => nomatch z) (fun _ => ⟨b.1, b.2, rfl, Or.inl ⟨b, rfl, rfl⟩, fun b' e => by cases e; exact Int.le_refl _, fun j h1 h2 => by omega⟩) fun b o hb hbT e => (Heap.get?_update_other _ _ (Ne.symm hbT)).trans (kp b o hb e)
  | succ k ih =>
    intro i s c best hk hi hst hS hR
    have hlt : i < n := by omega
    refine codeAny_builtin F.entry_max_loop ?_
    rw [Around.under_plainId F.plain_max_loop _]
    show wpAny _ A.in1 (seqItems? (.ref T) >>= _) _ _ s
    refine wpAny_bind (wpAny_seqItems hS rfl ?_)
    show wpAny _ A.in1 (tryCatch (pyNext (.ref I)) _ >>= _) _ _ s
    refine wpAny_bind (wpAny_tryCatch (W.item i s _ _ hlt hst fun v h' tk hP hst' kp => ?_))
    have hS' := kp T _ hTw hS
    obtain ⟨t, rfl⟩ := hval i v hP
    have next : ∀ (b : Int × Tok) (h2 : Heap) (tk2 c2 : Nat), (b.1 = val i ∨ ∃ b0, best = some b0 ∧ b.1 = b0.1) → val i ≤ b.1 → (∀ b0, best = some b0 → b0.1 ≤ b.1) → St (i + 1) h2 →
        h2.get? T = some { cls := .type "list", dict := none, data := .seq #[.int b.1 b.2, .int b.1 b.2] c2, slots := #[] } → (∀ y o, y ∉ wr → y ≠ T → s.heap.get? y = some o → h2.get? y = some o) →
        codeAny (model prog w) A (.builtin "max.loop" ⟨[.ref I, .none, .ref T], [(Str.ofString "default", d)]⟩) R { s with heap := h2, toks := tk2 } := by
      intro b h2 tk2 c2 e1 e2 e3 st2 g2 kp2
      refine ih (i + 1) { s with heap := h2, toks := tk2 } c2 (some b) (by clear e1 e2 e3; omega) hlt st2 g2 fun v h3 tk3 _ z kp3 => ?_
      obtain ⟨m, t3, rfl, z1, z2, z3⟩ := z (Or.inl (by simp))
      have zb := z2 b rfl
      refine hR _ h3 tk3 (fun _ q => by omega) (fun _ => ⟨m, t3, rfl, ?_, fun b0 q => Int.le_trans (e3 b0 q) zb, fun j h1 h2 => ?_⟩) fun y o hy hyT e => kp3 y o hy hyT (kp2 y o hy hyT e)
      · rcases z1 with ⟨b', q1, rfl⟩ | ⟨j, q1, q2, rfl⟩
        · cases q1
          rcases e1 with e1 | ⟨b0, q2, e1⟩
          · exact Or.inr ⟨i, Nat.le_refl _, hlt, e1⟩
          · exact Or.inl ⟨b0, q2, e1⟩
        · exact Or.inr ⟨j, by omega, q2, rfl⟩
      · by_cases q : j = i
        · subst q; omega
        · exact z3 j (by omega) h2
    cases best with
    | none =>
      show wpAny _ A.in1 (updateSeq T (fun _ => #[.int (val i) t, .int (val i) t]) >>= _) _ _ _
      refine wpAny_bind ?_
      refine wpAny_updateSeq hS' rfl ?_
      rw [hname]
      refine wpAny_pure ⟨plainId_quiet F.plain_max_loop _, next (val i, t) _ _ _ (Or.inl rfl) (Int.le_refl _) (fun b0 q => nomatch q) (W.frame _ _ _ hst' fun b hb o e => ?_) (Heap.get?_update_self _ hS' rfl) fun b o hb hbT e => ?_⟩
      · exact (Heap.get?_update_other _ _ (fun z : T = b => hT (z ▸ hb))).trans e
      · exact (Heap.get?_update_other _ _ (Ne.symm hbT)).trans (kp b o hb e)
    | some b =>
      have cmp := CmpOf.ints_gt (prog := prog) (w := w) (A := A.in1) (P := fun (z : Nat) v => ∃ t, v = Value.int (if z = 0 then val i else b.1) t) (fun z => if z = 0 then val i else b.1) (fun _ _ z => z)
      show wpAny _ A.in1 (tryCatch (holding [Value.int (val i) t, Value.int (val i) t] (richCompare .Gt (.int (val i) t) (.int b.1 b.2) >>= _)) _ >>= _) _ _ _
      refine wpAny_bind (wpAny_tryCatch (wpAny_holding (wpAny_bind (cmp 0 1 _ _ _ _ _ ⟨t, rfl⟩ ⟨b.2, rfl⟩ ?_))))
      refine wpAny_bind (wpAny_holding (wpAny_truthy_bool ?_))
      refine wpAny_bind (wpAny_letGo (wpAny_pure ?_))
      simp only [if_true, Nat.one_ne_zero, if_false]
      by_cases q : val i > b.1
      · rw [decide_eq_true q]
        simp only [if_true]
        refine wpAny_bind ?_
        refine wpAny_updateSeq hS' rfl (wpAny_bind (wpAny_letGo ?_))
        rw [hname]
        refine wpAny_pure ⟨plainId_quiet F.plain_max_loop _, next (val i, t) _ _ _ (Or.inl rfl) (Int.le_refl _) (fun b0 z => by cases z; exact Int.le_of_lt q) (W.frame _ _ _ hst' fun y hb o e => ?_) (Heap.get?_update_self _ hS' rfl) fun y o hb hbT e => ?_⟩
        · exact (Heap.get?_update_other _ _ (fun z : T = y => hT (z ▸ hb))).trans e
        · exact (Heap.get?_update_other _ _ (Ne.symm hbT)).trans (kp y o hb e)
      · rw [decide_eq_false q]
        simp only [Bool.false_eq_true, if_false]
        refine wpAny_bind (wpAny_letGo ?_)
        rw [hname]
        exact wpAny_pure ⟨plainId_quiet F.plain_max_loop _, next b _ _ c (Or.inr ⟨b, rfl, rfl⟩) (by omega) (fun b0 z => by cases z; exact Int.le_refl _) hst' hS' fun y o hb _ e => kp y o hb e⟩
/-- max(x, default=d) -/
theorem max_dflt {x d : Value} {Q : Value → Shared → Prop}
    (h : wpAny (model prog w) A.in1 (pyIter x) (fun it s₂ => ∃ I fp wr n P St, ∃ val : Nat → Int, it = .ref I ∧ Walks prog w A.in1 I fp wr n P St ∧ St 0 s₂.heap ∧ (∀ b ∈ fp, b < s₂.heap.objs.size) ∧ (∀ i v, P i v → ∃ t, v = .int (val i) t) ∧
      ∀ v h' tk, (n = 0 → v = d) → (0 < n → ∃ m t, v = .int m t ∧ (∃ j, j < n ∧ m = val j) ∧ ∀ j, j < n → val j ≤ m) → (∀ b o, b ∉ wr → s₂.heap.get? b = some o → h'.get? b = some o) → Q v { s₂ with heap := h', toks := tk }) E s) :
    wpAny (model prog w) A (call (.builtin "max") [x] [(Str.ofString "default", d)]) Q E s := by
  have hname : (toString "max" ++ toString ".loop" : String) = "max.loop" := by decide
  refine PyProof.Rows.kmk_tree F.kind_max F.plain_max F.entry_max (maxD_args _ _) ?_
  show wpAny _ A.in1 (Builtin.Builtins.bindParams "max" ["key", "default"] 0 ⟨[], [(Str.ofString "default", d)]⟩ >>= _) _ _ s
  refine wpAny_bind (wpAny_of_eq (a := [none, some d]) rfl ?_)
  refine wpAny_bind (wpAny_pure ?_)
  refine wpAny_bind (wpAny_mono h (fun it s₂ q => ?_) fun _ _ e => e)
  obtain ⟨I, fp, wr, n, P, St, val, rfl, W, st, hfp, hval, hQ⟩ := q
  refine wpAny_bind (wpAny_newObj_type ?_)
  have hT : s₂.heap.objs.size ∉ fp := fun m => Nat.lt_irrefl _ (hfp _ m)
  rw [hname]
  refine wpAny_pure ⟨plainId_quiet F.plain_max_loop _, max_loopD W val hval s₂.heap.objs.size hT d n 0 _ 0 none (by omega) (Nat.zero_le _) (W.frame _ _ _ st fun b _ o e => Heap.get?_push_of_some _ e) (Heap.get?_push_size _ rfl) fun v h' tk z1 z2 kp => ?_⟩
  refine hQ v h' tk (fun z => z1 rfl z.symm) (fun z => ?_) fun b o hb e => kp b o hb (Nat.ne_of_lt (Heap.lt_size e)) (Heap.get?_push_of_some _ e)
  obtain ⟨m, t, e, y1, _, y3⟩ := z2 (Or.inr z)
  refine ⟨m, t, e, ?_, fun j hj => y3 j (Nat.zero_le _) hj⟩
  rcases y1 with ⟨b, q, _⟩ | ⟨j, _, q, r⟩
  · cases q
  · exact ⟨j, q, r⟩
end
end Rs
namespace Rs
open PySem PySem.Spec PyProof.Rows L2
theorem preSum_take (ns : List Int) : ∀ n, n ≤ ns.length → preSum (fun i => ns.getD i 0) n = (ns.take n).sum
  | 0, _ => by simp [preSum]
  | n + 1, h => by
    rw [preSum, preSum_take ns n (by omega), List.take_succ, List.getElem?_eq_getElem (by omega), List.sum_append]
    simp [List.getD_eq_getElem?_getD, List.getElem?_eq_getElem (show n < ns.length by omega)]
theorem preSum_all (ns : List Int) : preSum (fun i => ns.getD i 0) ns.length = ns.sum := by rw [preSum_take ns _ (Nat.le_refl _), List.take_length]
theorem vals_at {ns : List Int} {us : List Value} (r : Vals (ns.map V.int) us) (i : Nat) (v : Value) (h : us.toArray[i]? = some v) : ∃ t, v = .int (ns.getD i 0) t := by
  rw [List.getElem?_toArray] at h
  obtain ⟨hl, e⟩ := List.getElem?_eq_some_iff.mp h
  have hl2 : i < ns.length := by rw [← r.length, List.length_map] at hl; exact hl
  have e1 : (ns.map V.int)[i]? = some (.int (ns.getD i 0)) := by rw [List.getElem?_map, List.getD_eq_getElem?_getD, List.getElem?_eq_getElem hl2]; rfl
  obtain ⟨u, e2, ru⟩ := r.get e1
  rw [h] at e2
  cases e2
  exact ru
section
variable {prog : Program} {w : World} {A : Around} {s : Shared} {E : Value → Shared → Prop}
/-- iter(l) of a list, of a tuple: a walk over its items -/
theorem walk_list {l : Addr} {its : Array Value} {Q : Value → Shared → Prop} (hh : A.handled = none) (hl : s.heap.IsList l its)
    (h : ∀ s₂ : Shared, s₂ = { s with heap := s.heap.push { cls := .type "list_iterator", data := .fields #[.ref l, .int 0 0] } } → ∀ (St : Nat → Heap → Prop), Walks prog w A s.heap.objs.size [s.heap.objs.size, l] [s.heap.objs.size] its.size (fun i v => its[i]? = some v) St → St 0 s₂.heap →
      (∀ b ∈ [s.heap.objs.size, l], b < s₂.heap.objs.size) → Q (.ref s.heap.objs.size) s₂) : wpAny (model prog w) A (pyIter (.ref l)) Q E s := by
  have hlt : l < s.heap.objs.size := by obtain ⟨_, e, _⟩ := hl; exact Heap.lt_size e
  refine wpAny_pyIter_list hl (h _ rfl _ (Walks.list (A := A) hh _ l (Nat.ne_of_lt hlt) its) ⟨⟨_, Heap.get?_push_size _ rfl, rfl, rfl⟩, hl.push _⟩ ?_)
  intro b hb
  show b < (s.heap.push _).objs.size
  rw [Heap.size_push]
  simp only [List.mem_cons, List.not_mem_nil, or_false] at hb
  rcases hb with rfl | rfl
  · exact Nat.lt_succ_self _
  · exact Nat.lt_succ_of_lt hlt
theorem walk_tup {l : Addr} {its : Array Value} {Q : Value → Shared → Prop} (hh : A.handled = none) (hl : s.heap.IsTuple l its)
    (h : ∀ s₂ : Shared, s₂ = { s with heap := s.heap.push { cls := .type "tuple_iterator", data := .fields #[.ref l, .int 0 0] } } → ∀ (St : Nat → Heap → Prop), Walks prog w A s.heap.objs.size [s.heap.objs.size, l] [s.heap.objs.size] its.size (fun i v => its[i]? = some v) St → St 0 s₂.heap →
      (∀ b ∈ [s.heap.objs.size, l], b < s₂.heap.objs.size) → Q (.ref s.heap.objs.size) s₂) : wpAny (model prog w) A (pyIter (.ref l)) Q E s := by
  have hlt : l < s.heap.objs.size := by obtain ⟨_, e, _⟩ := hl; exact Heap.lt_size e
  refine wpAny_pyIter_tuple hl (h _ rfl _ (Walks.tuple (A := A) hh _ l (Nat.ne_of_lt hlt) its) ⟨⟨_, Heap.get?_push_size _ rfl, rfl, rfl⟩, hl.push _⟩ ?_)
  intro b hb
  show b < (s.heap.push _).objs.size
  rw [Heap.size_push]
  simp only [List.mem_cons, List.not_mem_nil, or_false] at hb
  rcases hb with rfl | rfl
  · exact Nat.lt_succ_self _
  · exact Nat.lt_succ_of_lt hlt
end
section
variable {X : Cx}
/-- what stood, stands -/
theorem it_old {s : Shared} {o : Obj} {h' : Heap} (k : ∀ b u, b ∉ [s.heap.objs.size] → (s.heap.push o).get? b = some u → h'.get? b = some u) : ∀ b u, s.heap.get? b = some u → h'.get? b = some u := fun b u e =>
  k b u (fun z => absurd (Heap.lt_size e) ((List.mem_singleton.mp z) ▸ Nat.lt_irrefl _)) (Heap.get?_push_of_some _ e)
def rSumT (K : PySem.W.Frag) : List V → Hp → VK → Prop := fun vs H Q => ∃ (a : Addr) (ns : List Int), vs = [V.ref a] ∧ SqT K H a (ns.map V.int) ∧ Q (.int ns.sum) H
theorem cr_sumT (hc : X.calm = true) : CallR X (.builtin "sum") (rSumT X.K) := by
  intro pins s σ H vs us Q I r h
  obtain ⟨a, ns, rfl, hs, q⟩ := h
  obtain ⟨its, rv, ht, hz⟩ := I.tuple hs
  rw [Vals.ref1 r]
  obtain ⟨o, e1, e2, n, e3⟩ := id ht
  refine call_sum_walkG (walk_tup (A := X.A.in1) (I.ok.hd hc) ⟨o, e1, e2, n, e3⟩ fun s₂ es St W st hfp => ?_)
  subst es
  refine ⟨_, _, _, _, _, _, fun i => ns.getD i 0, rfl, W, st, hfp, vals_at rv, fun h' tk t' hk => ⟨.int _, H, I.kept (it_old hk), ⟨_, rfl⟩, ?_⟩⟩
  rw [List.size_toArray, ← rv.length, List.length_map, preSum_all]
  exact q
def rSumK (K : PySem.W.Frag) : List V → List V → Hp → VK → Prop := fun vs zs H Q => ∃ (a : Addr) (ns : List Int) (k : Int), vs = [V.ref a] ∧ zs = [V.int k] ∧ SqL K H a (ns.map V.int) ∧ Q (.int (k + ns.sum)) H
theorem cr_sumK (hc : X.calm = true) : CallRK X (.builtin "sum") [Str.ofString "start"] (rSumK X.K) := by
  intro pins s σ H vs zs us ws Q I r rz h
  obtain ⟨a, ns, k, rfl, rfl, hs, q⟩ := h
  obtain ⟨its, rv, ht, hz⟩ := I.list hs
  rw [Vals.ref1 r]
  obtain ⟨u, rfl, t, rfl⟩ := vals1 rz
  refine sum_from (walk_list (A := X.A.in1) (I.ok.hd hc) ht.isList fun s₂ es St W st hfp => ?_)
  subst es
  refine ⟨_, _, _, _, _, _, fun i => ns.getD i 0, rfl, W, st, hfp, vals_at rv, fun h' tk t' hk => ⟨.int _, H, I.kept (it_old hk), ⟨_, rfl⟩, ?_⟩⟩
  rw [List.size_toArray, ← rv.length, List.length_map, preSum_all]
  exact q
def maxD (d : Int) : List Int → Int
  | [] => d
  | x :: xs => xs.foldl max x
theorem fold_max : ∀ (xs : List Int) (x : Int), (xs.foldl max x = x ∨ xs.foldl max x ∈ xs) ∧ x ≤ xs.foldl max x ∧ ∀ y ∈ xs, y ≤ xs.foldl max x
  | [], x => ⟨Or.inl rfl, Int.le_refl _, fun y h => (nomatch h)⟩
  | z :: xs, x => by
    obtain ⟨h1, h2, h3⟩ := fold_max xs (max x z)
    simp only [List.foldl_cons]
    have a1 : x ≤ max x z := by omega
    have a2 : z ≤ max x z := by omega
    refine ⟨?_, by omega, fun y hy => ?_⟩
    · rcases h1 with h1 | h1
      · rw [h1]
        by_cases c : x ≤ z
        · right; rw [show max x z = z by omega]; exact List.mem_cons_self
        · left; omega
      · exact Or.inr (List.mem_cons_of_mem _ h1)
    · rcases List.mem_cons.mp hy with rfl | hy
      · omega
      · exact h3 y hy
theorem maxD_is {d m : Int} {ns : List Int} (h0 : ns ≠ []) (h1 : m ∈ ns) (h2 : ∀ y ∈ ns, y ≤ m) : maxD d ns = m := by
  cases ns with
  | nil => exact absurd rfl h0
  | cons x xs =>
    obtain ⟨a, b, c⟩ := fold_max xs x
    show xs.foldl max x = m
    have z1 : xs.foldl max x ≤ m := by
      rcases a with a | a
      · rw [a]; exact h2 x List.mem_cons_self
      · exact h2 _ (List.mem_cons_of_mem _ a)
    have z2 : m ≤ xs.foldl max x := by
      rcases List.mem_cons.mp h1 with rfl | h
      · exact b
      · exact c m h
    omega
def rMaxDT (K : PySem.W.Frag) : List V → List V → Hp → VK → Prop := fun vs zs H Q => ∃ (a : Addr) (ns : List Int) (d : Int), vs = [V.ref a] ∧ zs = [V.int d] ∧ SqT K H a (ns.map V.int) ∧ Q (.int (maxD d ns)) H
theorem cr_maxDT (hc : X.calm = true) : CallRK X (.builtin "max") [Str.ofString "default"] (rMaxDT X.K) := by
  intro pins s σ H vs zs us ws Q I r rz h
  obtain ⟨a, ns, d, rfl, rfl, hs, q⟩ := h
  obtain ⟨its, rv, ht, hz⟩ := I.tuple hs
  rw [Vals.ref1 r]
  obtain ⟨u, rfl, t, rfl⟩ := vals1 rz
  obtain ⟨o, e1, e2, n, e3⟩ := id ht
  refine max_dflt (walk_tup (A := X.A.in1) (I.ok.hd hc) ⟨o, e1, e2, n, e3⟩ fun s₂ es St W st hfp => ?_)
  subst es
  have hl : its.toArray.size = ns.length := by rw [List.size_toArray, ← rv.length, List.length_map]
  refine ⟨_, _, _, _, _, _, fun i => ns.getD i 0, rfl, W, st, hfp, vals_at rv, fun v h' tk z1 z2 hk => ?_⟩
  rw [hl] at z1 z2
  by_cases h0 : ns = []
  · subst h0
    rw [z1 rfl]
    exact ⟨.int d, H, I.kept (it_old hk), ⟨t, rfl⟩, q⟩
  · have hp : 0 < ns.length := List.length_pos_iff.mpr h0
    obtain ⟨m, t2, rfl, ⟨j, hj, rfl⟩, hm⟩ := z2 hp
    refine ⟨.int _, H, I.kept (it_old hk), ⟨t2, rfl⟩, ?_⟩
    have em : maxD d ns = ns.getD j 0 := by
      refine maxD_is h0 ?_ fun y hy => ?_
      · rw [List.getD_eq_getElem?_getD, List.getElem?_eq_getElem hj]
        exact List.getElem_mem hj
      · obtain ⟨i, hi, rfl⟩ := List.mem_iff_getElem.mp hy
        have z : ns.getD i 0 ≤ ns.getD j 0 := hm i hi
        rw [List.getD_eq_getElem?_getD, List.getElem?_eq_getElem hi] at z
        exact z
    show Q (.int (ns.getD j 0)) H
    rw [← em]
    exact q
end
end Rs
namespace Rs
open PySem PySem.Spec PyProof.Rows L2
/-! ### a tuple's slice with a step -/
def ixT (n : Nat) (lo hi : Option Int) (st : Int) : List Nat := (List.range (Builtin.Slice.slicePlaces (Builtin.Slice.sliceAdjust lo hi st n).1 (Builtin.Slice.sliceAdjust lo hi st n).2 st)).map fun (k : Nat) => ((Builtin.Slice.sliceAdjust lo hi st n).1 + (k : Int) * st).toNat
def pickT (xs : List V) (lo hi : Option Int) (st : Int) : List V := (ixT xs.length lo hi st).filterMap (xs[·]?)
def pickI (ns : List Int) (lo hi : Option Int) (st : Int) : List Int := (ixT ns.length lo hi st).filterMap (ns[·]?)
theorem pickT_map (ns : List Int) (lo hi : Option Int) (st : Int) : pickT (ns.map V.int) lo hi st = (pickI ns lo hi st).map V.int := by
  unfold pickT pickI
  rw [List.length_map]
  generalize ixT ns.length lo hi st = ix
  induction ix with
  | nil => rfl
  | cons i ix ih =>
    cases h : ns[i]? with
    | none => rw [List.filterMap_cons_none (by rw [List.getElem?_map, h]; rfl), List.filterMap_cons_none h, ih]
    | some z => rw [List.filterMap_cons_some (by rw [List.getElem?_map, h]; rfl), List.filterMap_cons_some h, ih]; rfl
section
variable {prog : Program} {w : World} {A : Around} {s : Shared} {E : Value → Shared → Prop}
theorem part_ {v : Value} {o : Option Int} {Q : Option Int → Shared → Prop} (p : IsPart v o) (h : Q o s) : wpAny (model prog w) A (Builtin.Slice.slicePartIndex v) Q E s := HT.slicePart_ p h
theorem stepped {sl : Addr} {vl vu vs : Value} {lo hi : Option Int} {st : Int} {n : Nat} {Q : Int × Int × Nat → Shared → Prop} (hs : s.heap.IsSliceOf sl vl vu vs) (pl : IsPart vl lo) (pu : IsPart vu hi) (ps : IsPart vs (some st)) (h0 : st ≠ 0)
    (h : Q ((Builtin.Slice.sliceAdjust lo hi st n).1, st, Builtin.Slice.slicePlaces (Builtin.Slice.sliceAdjust lo hi st n).1 (Builtin.Slice.sliceAdjust lo hi st n).2 st) s) : wpAny (model prog w) A (Builtin.Slice.sliceApplied (.ref sl) (pure (n : Int))) Q E s := by
  obtain ⟨os, hos, hcs, hds⟩ := id hs
  unfold Builtin.Slice.sliceApplied Builtin.Slice.sliceFields
  refine wpAny_bind (wpAny_bind (wpAny_field hos hds (x := vl) rfl (wpAny_bind (wpAny_field hos hds (x := vu) rfl (wpAny_bind (wpAny_field hos hds (x := vs) rfl (wpAny_pure ?_)))))))
  refine wpAny_bind (part_ ps ?_)
  show wpAny _ _ (if (st == 0) = true then _ else _) _ _ s
  rw [if_neg (by simpa using h0)]
  exact wpAny_bind (part_ pl (wpAny_bind (part_ pu (wpAny_bind (wpAny_pure (wpAny_pure h))))))
theorem getItem_step {t sl : Addr} {items : Array Value} {vl vu vs : Value} {lo hi : Option Int} {st : Int} {Q : Value → Shared → Prop} (ht : IsTup s.heap t items) (hs : s.heap.IsSliceOf sl vl vu vs) (pl : IsPart vl lo) (pu : IsPart vu hi) (ps : IsPart vs (some st))
    (h0 : st ≠ 0) (h1 : st ≠ 1) (hz : ((ixT items.size lo hi st).filterMap (items[·]?)).length ≤ sizeLine)
    (h : Q (.ref s.heap.objs.size) { s with heap := s.heap.push { cls := .type "tuple", data := .seq ((ixT items.size lo hi st).filterMap (items[·]?)).toArray } }) : wpAny (model prog w) A (getItem (.ref t) (.ref sl)) Q E s := by
  obtain ⟨os, hos, hcs, hds⟩ := id hs
  have hT : s.TypeIs (.ref sl) "slice" := ⟨os, hos, hcs⟩
  have hk : sizeOk (.seq ((ixT items.size lo hi st).filterMap (items[·]?)).toArray) := by
    show ((ixT items.size lo hi st).filterMap (items[·]?)).toArray.size ≤ sizeLine
    rw [List.size_toArray]
    exact hz
  have ep : ((List.range (Builtin.Slice.slicePlaces (Builtin.Slice.sliceAdjust lo hi st items.size).1 (Builtin.Slice.sliceAdjust lo hi st items.size).2 st)).filterMap fun (k : Nat) => items[((Builtin.Slice.sliceAdjust lo hi st items.size).1 + (k : Int) * st).toNat]?) = (ixT items.size lo hi st).filterMap (items[·]?) := by
    unfold ixT
    rw [List.filterMap_map]
    rfl
  unfold getItem
  try with_reducible refine wpAny_holding ?_
  first | refine wpAny_bind (wpAny_pure ?_) | skip
  refine wpAny_bind (wpAny_sequenceKey ht.typeIs (by decide) ?_)
  refine wpAny_bind (wpAny_callSpecial?_slot (name := Str.ofString "__getitem__") ht.typeIs PyProof.Rows.slot_tuple_getitem (wpAny_call_entry PyProof.Rows.slot_tuple_getitem ht.typeIs entry_tuple_getitem ?_ (args_tuple_getitem _ _)))
  show wpAny _ _ (Builtin.Tuple.tupleItemsOf (.ref t) >>= _) _ _ s
  refine wpAny_bind (tupleItemsOf_ ht ?_)
  refine wpAny_bind (wpAny_typeOf hT ?_)
  rw [if_pos (by decide)]
  refine wpAny_bind (stepped hs pl pu ps h0 ?_)
  show wpAny _ _ (if (_ && st == 1 && _) = true then _ else _) _ _ s
  rw [if_neg (by
    have e : (st == 1) = false := by simpa using h1
    simp [e])]
  rw [ep]
  first
    | exact wpAny_bind (m := Builtin.Tuple.tupleExact _) (wpAny_newObj_type (wpAny_pure ⟨_, rfl, wpAny_pure h⟩) hk)
    | exact wpAny_bind (m := Builtin.Tuple.tupleExact _) (wpAny_newObj_type (wpAny_bind (wpAny_pure (wpAny_pure ⟨_, rfl, wpAny_pure h⟩))) hk)
    | exact wpAny_bind (wpAny_bind (m := Builtin.Tuple.tupleExact _) (wpAny_newObj_type (wpAny_pure (wpAny_pure ⟨_, rfl, wpAny_pure h⟩)) hk))
    | exact wpAny_bind (wpAny_bind (m := Builtin.Tuple.tupleExact _) (wpAny_newObj_type (wpAny_pure ⟨_, rfl, wpAny_pure h⟩) hk))
end
def tSlT3 (K : PySem.W.Frag) (te : TE) (tl th ts : TO) : TE := fun σ H Q => te σ H fun x H1 => tl σ H1 fun l H2 => th σ H2 fun u H3 => ts σ H3 fun st H4 => ∃ a xs k, x = .ref a ∧ SqT K H4 a xs ∧ st = some k ∧ k ≠ 0 ∧ k ≠ 1 ∧ (pickT xs l u k).length ≤ sizeLine ∧
  ∀ p, H4 p = none → Q (.ref p) (upd H4 p (.tup (pickT xs l u k)))
theorem pe_slT3 {X : Cx} {e : Expr} {te : TE} {lo hi st : Option Expr} {tl th ts : TO} {p2 pos : Pos} (he : PE X e te) (hl : PO X lo tl) (hh : PO X hi th) (hs : PO X st ts)
    (hsub : ∀ ov iv, subscripted (.Slice lo hi st p2) false ov iv = operate [ov, iv] (getItem ov iv) := by intro _ _; with_unfolding_all rfl) : PE X (.Subscript e (.Slice lo hi st p2) pos) (tSlT3 X.K te tl th ts) := by
  constructor
  intro pins s σ H Q I h
  refine PyProof.Rows.Subscript_ (thn (he.run pins s σ H _ I h) ?_)
  rintro v s1 ⟨x, H1, I1, r1, q1⟩
  refine wpAny_Slice (thn (hl.run pins s1 σ H1 _ I1 q1) ?_)
  rintro vl s2 ⟨l, H2, I2, pl, q2⟩
  refine thn (hh.run pins s2 σ H2 _ I2 q2) ?_
  rintro vu s3 ⟨u, H3, I3, pu, q3⟩
  refine thn (hs.run pins s3 σ H3 _ I3 q3) ?_
  rintro vs s4 ⟨c, H4, I4, ps, a, xs, k, ex, hx, ek, h0, h1, hz, q4⟩
  subst ex ek
  cases r1
  have I5 : Inv X pins σ H4 { s4 with heap := s4.heap.push { cls := .type "slice", data := .fields #[vl, vu, vs] } } := I4.kept (t' := s4.toks) fun b ob q => Heap.get?_push_of_some _ q
  obtain ⟨its, rv, ht, hz2⟩ := I5.tuple hx
  have hlen : its.length = xs.length := rv.length.symm
  have ei : ∀ ix : List Nat, ix.filterMap (its.toArray[·]?) = ix.filterMap (its[·]?) := fun ix => by simp only [List.getElem?_toArray]
  have vp := vals_pick rv (ixT xs.length l u k)
  show wpAny (model X.prog X.w) X.A (subscriptTail e (.Slice lo hi st p2) (.ref a) (.ref s4.heap.objs.size)) (EP X pins σ Q) X.xe _
  refine tail_any (ops := [.ref a, .ref s4.heap.objs.size]) ht.typeIs PyProof.Rows.slot_tuple_getitem.lookup ?_ (hsub _ _)
  refine getItem_step ht (Heap.IsSliceOf.new _ vl vu vs) pl pu ps h0 h1 ?_ ?_
  · rw [ei, List.size_toArray, hlen, ← vp.length]
    exact hz
  · rw [ei, show its.toArray.size = xs.length by rw [List.size_toArray, hlen]]
    refine ⟨.ref _, _, I5.laid (t' := s4.toks) (o := .tup (pickT xs l u k)) (fun b ob q => Heap.get?_push_of_some _ q) (Nat.le_refl _) ?_, rfl, q4 _ (I5.hok.fresh (Nat.le_refl _))⟩
    exact ⟨hz, _, vp, IsTup.new _ _⟩
end Rs

namespace Rs
open PySem PySem.Spec PyProof.Rows L2
/-- a def with keyword-only defaults -/
structure CalD (K : PySem.W.Frag) (mg : Str → Option Value) (x : Str) (st : Stmt) (kws : List (Str × V)) (f : Addr) (fd : FuncData) : Prop where
  F : FunD K x x (defArgs st) (defBody st) (defScope st) [] kws f fd
  m : mg x = some (.ref f)
def slR3 (K : PySem.W.Frag) (Q : VK) (x : V) (l u st : Option Int) (H : Hp) : Prop := ∃ a xs k, x = .ref a ∧ SqT K H a xs ∧ st = some k ∧ k ≠ 0 ∧ k ≠ 1 ∧ (pickT xs l u k).length ≤ sizeLine ∧ ∀ p, H p = none → Q (.ref p) (upd H p (.tup (pickT xs l u k)))
section
variable {σ : L2.St} {H H0 : Hp} {M : List Addr} {L L' : Led} {Q : VK} {v x y : V} {nx : L2.St → Hp → Prop} {rt : VK} {bk ct : L2.St → Hp → Prop} {t u : TS} {te ta tb tc : TE} {K : PySem.W.Frag} {a p : Addr}
theorem rd_sumT {xs : List V} {ns : List Int} (S : Hs H0 M H L) (m : (a, HO.tup xs) ∈ L) (e : xs = ns.map V.int) (h : Q (.int ns.sum) H) : rSumT K [.ref a] H Q := ⟨a, ns, rfl, by subst e; exact S.tup m, h⟩
theorem rd_cbk {r : List V → List V → Hp → VK → Prop} {t tk : TA} (h : t σ H fun vs H1 => tk σ H1 fun zs H2 => r vs zs H2 Q) : tCKw r t tk σ H Q := h
theorem rd_sumK {xs : List V} {ns : List Int} {k : Int} (S : Hs H0 M H L) (m : (a, HO.lst xs) ∈ L) (e : xs = ns.map V.int) (h : Q (.int (k + ns.sum)) H) : rSumK K [.ref a] [.int k] H Q := ⟨a, ns, k, rfl, rfl, by subst e; exact S.lst m, h⟩
theorem rd_maxDT {xs : List V} {ns : List Int} {k : Int} (S : Hs H0 M H L) (m : (a, HO.tup xs) ∈ L) (e : xs = ns.map V.int) (h : Q (.int (maxD k ns)) H) : rMaxDT K [.ref a] [.int k] H Q := ⟨a, ns, k, rfl, rfl, by subst e; exact S.tup m, h⟩
theorem rd_slT3 {tl th ts : TO} (h : te σ H fun x H1 => tl σ H1 fun l H2 => th σ H2 fun u H3 => ts σ H3 fun st H4 => slR3 K Q x l u st H4) : tSlT3 K te tl th ts σ H Q := h
theorem rd_slR3 {xs : List V} {ns : List Int} {l u : Option Int} {k : Int} (S : Hs H0 M H L) (m : (a, HO.tup xs) ∈ L) (e : xs = ns.map V.int) (h0 : k ≠ 0) (h1 : k ≠ 1) (hz : (pickI ns l u k).length ≤ sizeLine)
    (h : ∀ p H', H0 p = none → Hs H0 M H' ((p, .tup ((pickI ns l u k).map V.int)) :: L) → Q (.ref p) H') : slR3 K Q (.ref a) l u (some k) H := by
  subst e
  refine ⟨a, _, k, rfl, S.tup m, rfl, h0, h1, ?_, ?_⟩
  · rw [pickT_map, List.length_map]; exact hz
  · rw [pickT_map]; exact rd_newO S h
theorem rd_slTp {xs ys : List V} {lo hi : Option Int} (S : Hs H0 M H L) (m : (a, HO.tup xs) ∈ L) (w : ¬ (HT.sIx xs.length 0 lo = 0 ∧ HT.sIx xs.length xs.length hi = xs.length)) (e : cutV xs lo hi = ys) (h : ∀ p H', H0 p = none → Hs H0 M H' ((p, .tup ys) :: L) → Q (.ref p) H') : rSlT K (.ref a) lo hi H Q := by
  subst e
  exact ⟨a, xs, rfl, S.tup m, w, rd_newO S h⟩
theorem rd_repT {xs : List V} {k : Int} (S : Hs H0 M H L) (m : (a, HO.tup xs) ∈ L) (h0 : xs ≠ []) (h1 : 2 ≤ k) (h2 : k ≤ 1000) (h3 : xs.length ≤ 1000) (h : ∀ p H', H0 p = none → Hs H0 M H' ((p, .tup (List.replicate k.toNat xs).flatten) :: L) → Q (.ref p) H') : rRepT K (.ref a) (.int k) H Q :=
  ⟨a, k, xs, rfl, rfl, S.tup m, h0, h1, h2, h3, rd_newO S h⟩
theorem rd_catT {xs ys : List V} {b : Addr} (S : Hs H0 M H L) (m : (a, HO.tup xs) ∈ L) (m2 : (b, HO.tup ys) ∈ L) (h0 : xs ≠ []) (h1 : ys ≠ []) (hz : xs.length + ys.length ≤ sizeLine) (h : ∀ p H', H0 p = none → Hs H0 M H' ((p, .tup (xs ++ ys)) :: L) → Q (.ref p) H') : rCatT K (.ref a) (.ref b) H Q :=
  ⟨a, b, xs, ys, rfl, rfl, S.tup m, S.tup m2, h0, hz, fun z => absurd z h1, fun _ => rd_newO S h⟩
theorem rd_all {xs : List V} {bs : List Bool} (S : Hs H0 M H L) (m : (a, HO.lst xs) ∈ L) (e : xs = bs.map V.bl) (h : Q (.bl (bs.all id)) H) : rAll K [.ref a] H Q := ⟨a, bs, rfl, by subst e; exact S.lst m, h⟩
theorem rd_int1b {b : Bool} {R : Int → Prop} (h : R (if b then 1 else 0)) : (∃ i, [V.bl b] = [V.int i] ∧ R i) ∨ ∃ k, [V.bl b] = [.bl k] ∧ R (if k then 1 else 0) := Or.inr ⟨b, rfl, h⟩
end
theorem rd_yes {σ : L2.St} {H : Hp} {Q : Bool → Hp → Prop} (h : Q true H) : tYes σ H Q := h
theorem pick_le (ns : List Int) (lo : Option Int) (h : lo = none ∨ lo = some 1) : (pickI ns lo none 2).length ≤ ns.length := by
  unfold pickI
  refine Nat.le_trans (List.length_filterMap_le _ _) ?_
  unfold ixT
  rw [List.length_map, List.length_range]
  rcases h with rfl | rfl
  · simp [Builtin.Slice.sliceAdjust, Builtin.Slice.slicePlaces]
    split <;> omega
  · simp [Builtin.Slice.sliceAdjust, Builtin.Slice.slicePlaces]
    split <;> omega
theorem pick_mem {ns : List Int} {lo hi : Option Int} {k z : Int} (h : z ∈ pickI ns lo hi k) : z ∈ ns := by
  obtain ⟨i, _, hi⟩ := List.mem_filterMap.mp h
  exact List.mem_of_getElem? hi
end Rs

namespace Rs
open PySem PySem.Spec PyProof.Rows L2
section
variable {X : Cx} {CX : CXT} {k n : Nat} {f C : Addr} {fd : FuncData} {ps ks : List Str} {sp : Sp} {E : XK} {m : Str} {p pos apos : Pos} {o : Expr} {kws : List Keyword} {ta : TE} {tk : TA} {g : List Value → List Value → List Value} {gV : List V → List V → List V}
/-- o.m(k = v, ..) -/
def tMethK (C : Addr) (m : Str) (n : Nat) (sp : Sp) (gV : List V → List V → List V) (E : XK) (ta : TE) (tk : TA) : TE := fun σ H Q => ta σ H fun x H1 => ∃ a dx fs, x = .ref a ∧ H1 a = some (.ins C dx fs) ∧ fs.lookup m = none ∧ tk σ H1 fun zs H2 => zs.length = n ∧ sp (gV [x] zs) H2 Q E
theorem pe_methK {pl : Sem Bool} (he : PE X o ta) (c : Cls X.K C) (hm : Meth X.K C m f) (F : FnOk X.prog X.w X.K X.mg X.base CX k f fd ps sp) (hr : Room k X.A) (hb : KBn X.K fd ps 1 ks g gV) (hx : Passes CX X E) (hkw : PK X kws tk)
    (hall : (backToKw pos (keywordEach kws X.env)).all (·.1.isSome) = true := by rfl) (hks : (backToKw pos (keywordEach kws X.env)).filterMap (·.1) = ks := by rfl)
    (ht : eval (.Call (.Attribute o m apos) [] kws pos) X.env = (do
      let ov ← eval o X.env
      standAt apos.atName
      let (f, first) ← holding [ov] (getMethod ov m pl)
      callWith pos f first (backTo pos (starEach [] X.env)) (backToKw pos (keywordEach kws X.env))) := by rfl) :
    PE X (.Call (.Attribute o m apos) [] kws pos) (tMethK C m ks.length sp gV E ta tk) := by
  constructor
  intro pins s σ H Q I h
  refine PySem.W.methodCall_KW (pl := pl) (thn (he.run pins s σ H _ I h) ?_) ht
  rintro u s1 ⟨x, H1, I1, rx, a, dx, fs, ex, ea, l, q⟩
  subst ex
  obtain rfl : u = Value.ref a := rx
  refine getmeth_ok I1 ea c hm l ?_
  have np : ((backTo pos (starEach [] X.env)).any (·.1) || (backToKw pos (keywordEach kws X.env)).any (·.1.isNone)) = false := by
    have z : ∀ l : List (Option Str × Sem Value), l.all (·.1.isSome) = true → l.any (·.1.isNone) = false := by
      intro l hl
      induction l with
      | nil => rfl
      | cons q l ih =>
        simp only [List.all_cons, Bool.and_eq_true] at hl
        simp only [List.any_cons, ih hl.2, Bool.or_false]
        cases e : q.1 with
        | none => rw [e] at hl; exact absurd hl.1 (by decide)
        | some _ => rfl
    rw [z _ hall]; rfl
  refine PySem.W.callWith_KW0 (first := [.ref a]) (h₀ := X.base) I1.ok.mod.kin hm.kp hall ?_ np
  refine thn (hkw.run pos pins s1 σ H1 _ I1 q) ?_
  rintro ws s2 ⟨zs, H2, I2, rz, l2, q2⟩
  refine ⟨I2.kIn, ?_⟩
  rw [hks]
  exact run_fnN (us := [.ref a]) (vs := [.ref a]) F hr hb hx I2 (.cons rfl .nil) rz rfl l2 q2
/-- a def called by a builtin -/
theorem run_in {A : Around} {pins : List (Addr × Obj)} {σ : L2.St} {H : Hp} {s : Shared} {Q : VK} {a : Addr} (F : FnOk X.prog X.w X.K X.mg X.base CX k f fd ["self"] sp) (hr : Room k A) (e0 : Env0 X.prog X.w X.K X.mg X.base A X.stack s H) (hb : Binds X.K fd ["self"] []) (hx : Passes CX X E)
    (I : Inv X pins σ H s) (h : sp [.ref a] H Q E) : wpAny (model X.prog X.w) A (call (.ref f) [.ref a]) (EP X pins σ Q) X.xe s := by
  refine wpAny_call (codeAny_mono (F.run A X.stack s H ⟨[.ref a], []⟩ [.ref a] [.ref a] Q E hr e0 (hb s [.ref a] I.kIn rfl) (.cons rfl .nil) h) fun r s' hq => ?_)
  cases r with
  | error e => exact hx pins σ H s e s' I hq
  | ok fl =>
    cases fl with
    | ret u => exact I.after hq
    | next => exact False.elim hq
    | brk => exact False.elim hq
    | cont => exact False.elim hq
def rLenO (C : Addr) (sp : Sp) (E : XK) : List V → Hp → VK → Prop := fun xs H Q => ∃ a dx fs, xs = [V.ref a] ∧ H a = some (.ins C dx fs) ∧ sp [.ref a] H (fun z H' => ∃ n : Int, z = .int n ∧ 0 ≤ n ∧ n < 2 ^ 63 ∧ Q (.int n) H') E
theorem call_lenO (hs : PySem.W.findIn X.K (.ref C) "__len__" = some (some (.ref f))) (hf : PySem.W.isFn X.K (.ref f) = true) (F : FnOk X.prog X.w X.K X.mg X.base CX k f fd ["self"] sp) (hr : Room (k + 1) X.A) (hb : Binds X.K fd ["self"] []) (hx : Passes CX X E) : CallR X (.builtin "len") (rLenO C sp E) := by
  intro pins s σ H xs us Q I r h
  obtain ⟨a, dx, fs, rfl, ha, q⟩ := h
  rw [Vals.ref1 r]
  obtain ⟨mA, O, _, _, _, _⟩ := ins_get I.hok ha
  obtain ⟨od, J, _⟩ := O.look
  obtain ⟨m, fr⟩ := I.fr
  refine PySem.W.len_K fr I.ok.mod.kin J hs hf (wpAny_mono (run_in F hr.in1 I.env0.in1 hb hx I q) (fun w s' z => ?_) fun _ _ x => x)
  obtain ⟨z', H', I', rz, n, e, h0, h1, qz⟩ := z
  subst e
  obtain ⟨t, rfl⟩ := rz
  exact ⟨⟨h0, h1⟩, .int n, H', I'.tok _, ⟨_, rfl⟩, qz⟩
def rReprO (C : Addr) (sp : Sp) (E : XK) : List V → Hp → VK → Prop := fun xs H Q => ∃ a dx fs, xs = [V.ref a] ∧ H a = some (.ins C dx fs) ∧ sp [.ref a] H (fun z H' => ∃ x : Str, z = .str x ∧ Q (.str x) H') E
theorem call_reprO (hs : PySem.W.findIn X.K (.ref C) "__repr__" = some (some (.ref f))) (hf : PySem.W.isFn X.K (.ref f) = true) (F : FnOk X.prog X.w X.K X.mg X.base CX k f fd ["self"] sp) (hr : Room (k + 1) X.A) (hb : Binds X.K fd ["self"] []) (hx : Passes CX X E) : CallR X (.builtin "repr") (rReprO C sp E) := by
  intro pins s σ H xs us Q I r h
  obtain ⟨a, dx, fs, rfl, ha, q⟩ := h
  rw [Vals.ref1 r]
  obtain ⟨mA, O, _, _, _, _⟩ := ins_get I.hok ha
  obtain ⟨od, J, _⟩ := O.look
  obtain ⟨m, fr⟩ := I.fr
  have hu : X.A.in1.units < cLine := Nat.lt_of_le_of_lt (Nat.le_add_right _ _) hr.in1.units
  refine PySem.W.repr_K hu fr I.ok.mod.kin J hs hf (wpAny_mono (run_in F hr.in1 I.env0.in1 hb hx I q) (fun w s' z => ?_) fun _ _ x => x)
  obtain ⟨z', H', I', rz, x, e, qz⟩ := z
  subst e
  obtain ⟨t, rfl⟩ := rz
  exact ⟨.str x, H', I', ⟨_, rfl⟩, qz⟩
end
end Rs

namespace Rs
open PySem PySem.Spec PyProof.Rows L2
section
variable {H0 H H' : Hp} {M : List Addr} {L L1 L2 L' N : Led} {a p : Addr} {o o' u u' : HO} {K : PySem.W.Frag} {Q : VK}
/-- two objects were changed, those of N are new -/
theorem Hs.twoN (S : Hs H0 M H L) (c1 : Chg a o o' L L1) (c2 : Chg p u u' L1 L2) (ha : H0 a = none ∨ a ∈ M) (hp : H0 p = none ∨ p ∈ M) (ne : a ≠ p) (k : ∀ b w, H b = some w → b ≠ a → b ≠ p → H' b = some w) (e1 : H' a = some o') (e2 : H' p = some u') (n : NewL H H' N) :
    (∀ q ∈ N, H0 q.1 = none) ∧ Hs H0 M H' (N ++ L2) := by
  have S1 := S.put c1 ha
  have S2 := S1.put c2 hp
  have h1 : H a = some o := S.is _ c1.mem
  have h2 : H p ≠ none := by
    have := S1.is _ c2.mem
    rw [upd_ne (Ne.symm ne)] at this
    rw [this]; simp
  refine S2.moreN (fun b w e => ?_) ⟨n.nd, fun q hq => ?_, n.is⟩
  · by_cases hb : b = p
    · subst hb; rw [upd_same] at e; cases e; exact e2
    · rw [upd_ne hb] at e
      by_cases hb2 : b = a
      · subst hb2; rw [upd_same] at e; cases e; exact e1
      · rw [upd_ne hb2] at e
        exact k b w e hb2 hb
  · have z := n.nw q hq
    rw [upd_ne (fun y => h2 (by rw [← y]; exact z)), upd_ne (fun y => by rw [y, h1] at z; cases z)]
    exact z
theorem rd_popAt {xs xs' : List V} {i : Nat} {y : V} (S : Hs H0 M H L) (c : Chg a (.lst xs) (.lst xs') L L') (hm : H0 a = none ∨ a ∈ M) (hk : xs[i]? = some y) (hz : i < 2 ^ 40) (e : xs.eraseIdx i = xs') (h : ∀ H', Hs H0 M H' L' → Q y H') : rPopAt (.ref a) [.int i] H Q := by
  subst e
  have hl : i < xs.length := (List.getElem?_eq_some_iff.mp hk).1
  refine ⟨a, xs, i, i, y, rfl, rfl, S.is _ c.mem, by omega, by omega, ?_, hk, h _ (S.put c hm)⟩
  unfold seqIndex?
  simp
  omega
theorem rd_pop {xs xs' : List V} {y : V} (S : Hs H0 M H L) (c : Chg a (.lst xs) (.lst xs') L L') (hm : H0 a = none ∨ a ∈ M) (e : xs = xs' ++ [y]) (h : ∀ H', Hs H0 M H' L' → Q y H') : rPop (.ref a) [] H Q := by
  subst e
  refine ⟨a, _, y, rfl, rfl, S.is _ c.mem, by simp, ?_⟩
  have e2 : (xs' ++ [y]).dropLast = xs' := by simp
  rw [e2]
  exact h _ (S.put c hm)
theorem rd_clear {xs : List V} (S : Hs H0 M H L) (c : Chg a (.lst xs) (.lst []) L L') (hm : H0 a = none ∨ a ∈ M) (h : ∀ H', Hs H0 M H' L' → Q .non H') : rClear (.ref a) [] H Q := ⟨a, xs, rfl, rfl, S.is _ c.mem, h _ (S.put c hm)⟩
/-- a list of refs of tuples of whole numbers, just these -/
structure TL (rs : List V) (T : Led) (ts : List (List Int)) : Prop where
  rs : rs = T.map fun q => .ref q.1
  ts : T.map (·.2) = ts.map fun t => HO.tup (t.map V.int)
theorem TL.nil : TL [] [] [] := ⟨rfl, rfl⟩
theorem TL.snoc {rs : List V} {T : Led} {ts : List (List Int)} (h : TL rs T ts) (q : Addr) (t : List Int) : TL (rs ++ [V.ref q]) (T ++ [(q, .tup (t.map V.int))]) (ts ++ [t]) := ⟨by simp [h.rs], by simp [h.ts]⟩
theorem TL.len {rs : List V} {T : Led} {ts : List (List Int)} (h : TL rs T ts) : rs.length = ts.length := by
  have := congrArg List.length h.ts
  rw [h.rs]
  simpa using this
def dT (ts : List (List Int)) : PyData := .list (ts.map fun t => .tuple (t.map .int))
theorem dpTL : ∀ {T : Led} {ts : List (List Int)}, T.map (·.2) = (ts.map fun t => HO.tup (t.map V.int)) → (∀ q ∈ T, H q.1 = some q.2) → DpAll K H (T.map fun q => .ref q.1) (ts.map fun t => .tuple (t.map .int))
  | [], [], _, _ => .nil
  | [], t :: ts, h, _ => by simp at h
  | q :: T, [], h, _ => by simp at h
  | q :: T, t :: ts, h, is => by
    simp only [List.map_cons, List.cons.injEq] at h
    have hi := is q List.mem_cons_self
    rw [h.1] at hi
    exact .cons (.tup (SqT.of hi) (dps_ints t)) (dpTL h.2 fun z hz => is z (List.mem_cons_of_mem _ hz))
theorem dp_TL {rs : List V} {T : Led} {ts : List (List Int)} (h : TL rs T ts) (S : Hs H0 M H L) (m : (a, HO.lst rs) ∈ L) (sub : ∀ q ∈ T, q ∈ L) : Dp K H (.ref a) (dT ts) := by
  refine .lst (S.lst m) ?_
  rw [h.rs]
  exact dpTL h.ts fun q hq => S.is q (sub q hq)
theorem tame_T : ∀ {ts : List (List Int)}, (∀ t ∈ ts, ∀ n ∈ t, n.natAbs < 10 ^ 12) → tames (ts.map fun t => .tuple (t.map .int)) = true
  | [], _ => by simp [tames]
  | t :: ts, h => by
    have h1 := tames_ints t (h t List.mem_cons_self)
    have h2 := tame_T (ts := ts) fun z hz => h z (List.mem_cons_of_mem _ hz)
    simp only [List.map_cons, tames, tame, h1, h2, Bool.and_self]
theorem cnt_T : ∀ {ts : List (List Int)}, (∀ t ∈ ts, t.length ≤ 10) → cnts (ts.map fun t => .tuple (t.map .int)) ≤ 11 * ts.length
  | [], _ => by simp [cnts]
  | t :: ts, h => by
    have h1 := h t List.mem_cons_self
    have h2 := cnt_T (ts := ts) fun z hz => h z (List.mem_cons_of_mem _ hz)
    simp only [List.map_cons, cnts, cnt, cnts_ints, List.length_cons]
    omega
theorem shw_T {ts : List (List Int)} (h : ∀ t ∈ ts, t.length ≤ 10 ∧ ∀ n ∈ t, n.natAbs < 10 ^ 12) (hl : ts.length ≤ 1000) : Shw (dT ts) := by
  refine shw_of ?_ ?_
  · simp [dT, tame, tame_T fun t ht => (h t ht).2]
  · have := cnt_T fun t ht => (h t ht).1
    simp only [dT, cnt]
    omega
theorem depth_T (ts : List (List Int)) : (dT ts).depth ≤ 2 := by
  obtain ⟨_, b⟩ := lay_T ts
  simp only [dT, PyData.depth]
  omega
theorem rd_reprT {rs : List V} {T : Led} {ts : List (List Int)} (h : TL rs T ts) (S : Hs H0 M H L) (m : (a, HO.lst rs) ∈ L) (sub : ∀ q ∈ T, q ∈ L) (hb : ∀ t ∈ ts, t.length ≤ 10 ∧ ∀ n ∈ t, n.natAbs < 10 ^ 12) (hl : ts.length ≤ 1000) (k : Q (.str (dT ts).shown) H) : rRepr K [.ref a] H Q :=
  ⟨.ref a, dT ts, rfl, dp_TL h S m sub, shw_T hb hl, Nat.le_trans (depth_T ts) (by decide), k⟩
end
end Rs

namespace Rs
open PySem PySem.Spec PyProof.Rows L2
section
variable {H : Hp} {σ : L2.St} {ts : List TE} {te : TE} {acc : Str} {J : Str → Hp → Prop}
theorem len_app (x y : Str) : (x ++ y).length = x.length + y.length := by
  rw [TL.len_tl, TL.len_tl, TL.len_tl, TL.tl_append, List.length_append]
theorem len_num {n : Int} (h0 : 0 ≤ n) (h : n < 10 ^ 12) : (((toString n : String)) : Str).length ≤ 12 := by
  obtain ⟨k, rfl⟩ : ∃ k : Nat, n = k := ⟨n.toNat, by omega⟩
  have e := TL.tl_num k
  show (Str.ofString (toString (k : Int))).length ≤ 12
  rw [TL.len_tl, e]
  exact TL.numL_len (by decide) (by omega)
theorem rd_jsS {y : Str} (hz : acc.length ≤ 1000) (hy : y.length ≤ 1000) (h : tJs ts (acc ++ y) σ H J) : tJs (tC (.str y) :: ts) acc σ H J := ⟨y, rfl, by rw [len_app]; exact sz (by omega), h⟩
def kF (ts : List TE) (acc : Str) (σ : L2.St) (J : Str → Hp → Prop) : VK := fun x H1 => (∃ y : Str, x = .str y ∧ y.length ≤ sizeLine ∧ ∃ z : Str, V.str y = .str z ∧ (acc ++ z).length ≤ sizeLine ∧ tJs ts (acc ++ z) σ H1 J) ∨
  ∃ i : Int, x = .int i ∧ i.natAbs.log2 < 1920 ∧ ∃ z : Str, V.str (toString i) = .str z ∧ (acc ++ z).length ≤ sizeLine ∧ tJs ts (acc ++ z) σ H1 J
theorem rd_jsF (h : te σ H (kF ts acc σ J)) : tJs (tFmt te :: ts) acc σ H J := h
theorem rd_kFI {n : Int} (h0 : 0 ≤ n) (h1 : n < 10 ^ 12) (hz : acc.length ≤ 1000) (h : tJs ts (acc ++ toString n) σ H J) : kF ts acc σ J (.int n) H := by
  refine Or.inr ⟨n, rfl, ?_, toString n, rfl, ?_, h⟩
  · by_cases e : n.natAbs = 0
    · rw [e]; decide
    · exact (Nat.log2_lt e).2 (Nat.lt_of_lt_of_le (show n.natAbs < 2 ^ 40 by omega) (Nat.pow_le_pow_right (by omega) (by omega)))
  · have := len_num h0 h1
    rw [len_app]
    exact sz (by omega)
theorem rd_jsN (h : J acc H) : tJs [] acc σ H J := h
end
end Rs

namespace Rs
open PySem PySem.Spec PyProof.Rows L2
section
variable {X : Cx}
theorem ix_tupK {K : PySem.W.Frag} (h : X.K = K) : IxR X (rIxT K) := by subst h; exact ix_tup
end
end Rs

namespace Rs
open PySem PySem.Spec PyProof.Rows L2
/-! ### promises by ledgers -/
section
variable {H0 H H' : Hp} {M C : List Addr} {L L' LL F : Led}
/-- what is known behind a call: C the objects that may have changed, L what was known of, L' what is known now -/
theorem Hs.frame (S : Hs H0 M H (L ++ F)) (S' : Hs H C H' L') (hC : ∀ c ∈ C, c ∈ L.map (·.1) ∧ (H0 c = none ∨ c ∈ M)) (hk : ∀ q ∈ L', q.1 ∈ L.map (·.1) ∨ H q.1 = none) : Hs H0 M H' (L' ++ F) := by
  have nd := S.nd
  rw [List.map_append, List.nodup_append] at nd
  obtain ⟨_, nF, dis⟩ := nd
  refine ⟨?_, ?_, ?_, ?_⟩
  · rw [List.map_append, List.nodup_append]
    refine ⟨S'.nd, nF, ?_⟩
    intro x hx y hy e
    subst e
    obtain ⟨q, hq, rfl⟩ := List.mem_map.mp hx
    rcases hk q hq with h | h
    · exact dis _ h _ hy rfl
    · obtain ⟨r, hr, e⟩ := List.mem_map.mp hy
      have := S.is r (List.mem_append_right _ hr)
      rw [e, h] at this
      cases this
  · intro q hq
    rcases List.mem_append.mp hq with h | h
    · exact S'.is q h
    · refine S'.old _ _ (S.is q (List.mem_append_right _ h)) fun hc => ?_
      exact dis _ (hC _ hc).1 _ (List.mem_map_of_mem (f := (·.1)) h) rfl
  · intro b o e hb
    refine S'.old _ _ (S.old b o e hb) fun hc => ?_
    rcases (hC _ hc).2 with z | z
    · rw [z] at e; cases e
    · exact hb z
  · intro b hb
    by_cases hc : b ∈ C
    · exact S'.mu b hc
    · cases e : H b with
      | none => exact absurd e (S.mu b hb)
      | some u => rw [S'.old b u e hc]; simp
theorem Hs.none0 (S : Hs H0 M H L) {a : Addr} (h : H a = none) : H0 a = none := (S.new h (.lst [])).1
end
end Rs
namespace Rs
open PySem PySem.Spec PyProof.Rows L2
abbrev SepR := List V → List Addr → Led → (V → Led → Prop) → Prop
/-- R: the arguments, the objects that may change, what is known ahead, what is promised -/
def Sep (R : SepR) : Sp := fun vs H Q _ => ∃ C L post, R vs C L post ∧ (L.map (·.1)).Nodup ∧ (∀ q ∈ L, H q.1 = some q.2) ∧ (∀ c ∈ C, c ∈ L.map (·.1)) ∧
  ∀ v H' L', post v L' → Hs H C H' L' → (∀ q ∈ L', q.1 ∈ L.map (·.1) ∨ H q.1 = none) → Q v H'
theorem Sep.led {H : Hp} {C : List Addr} {L : Led} (nd : (L.map (·.1)).Nodup) (is : ∀ q ∈ L, H q.1 = some q.2) (hC : ∀ c ∈ C, c ∈ L.map (·.1)) : Hs H C H L := by
  refine Hs.start H C L nd is fun b hb => ?_
  obtain ⟨q, hq, e⟩ := List.mem_map.mp (hC b hb)
  rw [← e, is q hq]; simp
/-- one entry taken out -/
inductive Pick (q : Addr × HO) : Led → Led → Prop where
  | here {L : Led} : Pick q (q :: L) L
  | there {r : Addr × HO} {L L' : Led} : Pick q L L' → Pick q (r :: L) (r :: L')
  | app {N L L' : Led} : Pick q L L' → Pick q (N ++ L) (N ++ L')
theorem Pick.perm {q : Addr × HO} {L L' : Led} (h : Pick q L L') : L.Perm (q :: L') := by
  induction h with
  | here => exact .refl _
  | there _ ih => exact (List.Perm.cons _ ih).trans (.swap _ _ _)
  | app _ ih => exact (List.Perm.append_left _ ih).trans List.perm_middle
/-- several taken out -/
inductive Sel : Led → Led → Led → Prop where
  | nil {L : Led} : Sel [] L L
  | cons {q : Addr × HO} {K L L' F : Led} : Pick q L L' → Sel K L' F → Sel (q :: K) L F
theorem Sel.perm {K L F : Led} (h : Sel K L F) : L.Perm (K ++ F) := by
  induction h with
  | nil => exact .refl _
  | cons p _ ih => exact p.perm.trans (.cons _ ih)
section
variable {H0 H H' : Hp} {M C : List Addr} {L L' LL F : Led} {R : SepR} {vs : List V} {post : V → Led → Prop} {Q : VK} {E : XK}
theorem sep_use (S : Hs H0 M H LL) (r : R vs C L post) (pm : LL.Perm (L ++ F)) (hC : ∀ c ∈ C, c ∈ L.map (·.1) ∧ (H0 c = none ∨ c ∈ M))
    (h : ∀ v H' L', post v L' → (∀ q ∈ L', q.1 ∈ L.map (·.1) ∨ H0 q.1 = none) → Hs H0 M H' (L' ++ F) → Q v H') : Sep R vs H Q E := by
  have S1 := S.perm pm.symm
  refine ⟨C, L, post, r, ?_, fun q hq => S1.is q (List.mem_append_left _ hq), fun c hc => (hC c hc).1, fun v H' L' p S' hk => ?_⟩
  · have := S1.nd
    rw [List.map_append, List.nodup_append] at this
    exact this.1
  · refine h v H' L' p (fun q hq => ?_) (S1.frame S' hC hk)
    rcases hk q hq with z | z
    · exact Or.inl z
    · exact Or.inr (S.none0 z)
/-- what is said of own objects, told of those of a ledger -/
theorem own_of {K : Led} (h : ∀ q ∈ L', q.1 ∈ L.map (·.1) ∨ H0 q.1 = none) (hL : ∀ q ∈ L, H0 q.1 = none ∨ q.1 ∈ M) : ∀ q ∈ L', H0 q.1 = none ∨ q.1 ∈ M := fun q hq => by
  rcases h q hq with z | z
  · obtain ⟨r, hr, e⟩ := List.mem_map.mp z
    rw [← e]; exact hL r hr
  · exact Or.inl z
end
end Rs
namespace Rs
open PySem PySem.Spec PyProof.Rows L2
/-! ### ledgers put in another order, by counting -/
open Classical in
noncomputable def one (a b : Addr × HO) : Nat := if b = a then 1 else 0
noncomputable def cn (a : Addr × HO) : Led → Nat
  | [] => 0
  | b :: L => one a b + cn a L
theorem cn_nil (a : Addr × HO) : cn a [] = 0 := rfl
theorem cn_cons (a b : Addr × HO) (L : Led) : cn a (b :: L) = one a b + cn a L := rfl
theorem cn_app (a : Addr × HO) : ∀ L L' : Led, cn a (L ++ L') = cn a L + cn a L'
  | [], L' => by simp [cn]
  | b :: L, L' => by rw [List.cons_append, cn_cons, cn_cons, cn_app a L L']; omega
theorem one_self (a : Addr × HO) : one a a = 1 := by simp [one]
theorem one_ne {a b : Addr × HO} (h : b ≠ a) : one a b = 0 := by simp [one, h]
theorem cn_pos {a : Addr × HO} : ∀ {L : Led}, 0 < cn a L ↔ a ∈ L
  | [] => by simp [cn]
  | b :: L => by
    rw [cn_cons]
    by_cases h : b = a
    · subst h; rw [one_self]; simp; omega
    · rw [one_ne h]
      have := cn_pos (a := a) (L := L)
      simp [Ne.symm h, this]
theorem cn_le {L : Led} (h : (L.map (·.1)).Nodup) (a : Addr × HO) : cn a L ≤ 1 := by
  induction L with
  | nil => simp [cn]
  | cons b L ih =>
    rw [List.map_cons, List.nodup_cons] at h
    rw [cn_cons]
    by_cases e : b = a
    · subst e
      rw [one_self]
      have : cn b L = 0 := by
        by_cases z : 0 < cn b L
        · exact absurd (List.mem_map_of_mem (f := (·.1)) (cn_pos.mp z)) h.1
        · omega
      omega
    · rw [one_ne e]; have := ih h.2; omega
theorem nodup_re {L L' : Led} (h : (L.map (·.1)).Nodup) (c : ∀ a, cn a L' ≤ cn a L) : (L'.map (·.1)).Nodup := by
  have sub : ∀ q ∈ L', q ∈ L := fun q hq => cn_pos.mp (Nat.lt_of_lt_of_le (cn_pos.mpr hq) (c q))
  have c1 : ∀ a, cn a L' ≤ 1 := fun a => Nat.le_trans (c a) (cn_le h a)
  have inj : ∀ {L : Led}, (L.map (·.1)).Nodup → ∀ q ∈ L, ∀ r ∈ L, q.1 = r.1 → q = r := by
    intro L
    induction L with
    | nil => intro _ q hq; cases hq
    | cons b L ih =>
      intro h q hq r hr e
      rw [List.map_cons, List.nodup_cons] at h
      rcases List.mem_cons.mp hq with rfl | hq'
      · rcases List.mem_cons.mp hr with rfl | hr'
        · rfl
        · exact absurd (by rw [e]; exact List.mem_map_of_mem (f := (·.1)) hr') h.1
      · rcases List.mem_cons.mp hr with rfl | hr'
        · exact absurd (by rw [← e]; exact List.mem_map_of_mem (f := (·.1)) hq') h.1
        · exact ih h.2 q hq' r hr' e
  clear c
  induction L' with
  | nil => simp
  | cons b L' ih =>
    rw [List.map_cons, List.nodup_cons]
    refine ⟨fun hm => ?_, ih (fun q hq => sub q (List.mem_cons_of_mem _ hq)) fun a => ?_⟩
    · obtain ⟨r, hr, e⟩ := List.mem_map.mp hm
      have := inj h _ (sub r (List.mem_cons_of_mem _ hr)) _ (sub b List.mem_cons_self) e
      subst this
      have z := c1 r
      rw [cn_cons, one_self] at z
      have := cn_pos.mpr hr
      omega
    · have := c1 a; rw [cn_cons] at this; omega
theorem Hs.re {H0 H : Hp} {M : List Addr} {L L' : Led} (S : Hs H0 M H L) (c : ∀ a, cn a L' ≤ cn a L) : Hs H0 M H L' :=
  ⟨nodup_re S.nd c, fun q hq => S.is q (cn_pos.mp (Nat.lt_of_lt_of_le (cn_pos.mpr hq) (c q))), S.old, S.mu⟩
section
variable {H0 H H' : Hp} {M C : List Addr} {L L' LL F : Led} {R : SepR} {vs : List V} {post : V → Led → Prop} {Q : VK} {E : XK}
theorem sep_use' (S : Hs H0 M H LL) (r : R vs C L post) (pm : ∀ a, cn a (L ++ F) ≤ cn a LL) (hC : ∀ c ∈ C, c ∈ L.map (·.1) ∧ (H0 c = none ∨ c ∈ M))
    (h : ∀ v H' L', post v L' → (∀ q ∈ L', q.1 ∈ L.map (·.1) ∨ H0 q.1 = none) → Hs H0 M H' (L' ++ F) → Q v H') : Sep R vs H Q E :=
  sep_use (S.re pm) r (.refl _) hC h
end
end Rs
namespace Rs
open PySem PySem.Spec PyProof.Rows L2
theorem Chg.app {a : Addr} {o o' : HO} {L L' : Led} (h : Chg a o o' L L') : ∀ N : Led, Chg a o o' (N ++ L) (N ++ L')
  | [] => h
  | _ :: N => .there (h.app N)
theorem Chg.appR {a : Addr} {o o' : HO} {L L' N : Led} (h : Chg a o o' L L') : Chg a o o' (N ++ L) (N ++ L') := h.app N
theorem Chg.appL {a : Addr} {o o' : HO} {L L' N : Led} (h : Chg a o o' L L') : Chg a o o' (L ++ N) (L' ++ N) := by
  induction h with
  | here => exact .here
  | there _ ih => exact .there ih
end Rs

namespace Rs
open PySem PySem.Spec PyProof.Rows L2
section
variable {σ : L2.St} {H H0 : Hp} {M : List Addr} {L L' : Led} {Q : VK} {v x y : V} {nx : L2.St → Hp → Prop} {rt : VK} {bk ct : L2.St → Hp → Prop} {ta : TA} {g : TG} {tw : TS} {K : PySem.W.Frag}
def enI (K : PySem.W.Frag) (R : It → Hp → Prop) (vs : List V) (H : Hp) : Prop := ∃ a xs, vs = [V.ref a] ∧ SqL K H a xs ∧ R (Ite K a) H
theorem rd_enum {R : It → Hp → Prop} (h : ta σ H fun vs H1 => enI K R vs H1) : iEnum K ta σ H R := h
theorem rd_enI {R : It → Hp → Prop} {a : Addr} {xs : List V} (S : Hs H0 M H L) (m : (a, HO.lst xs) ∈ L) (h : R (Ite K a) H) : enI K R [.ref a] H := ⟨a, xs, rfl, S.lst m, h⟩
/-- over enumerate of a list that stays as it is -/
theorem fw_enum {a : Addr} {xs : List V} (Pv : Nat → L2.St → Hp → Prop) (h0 : Pv 0 σ H) (hl : ∀ i σ H, i ≤ xs.length → Pv i σ H → SqL K H a xs)
    (hs : ∀ i x σ H T, xs[i]? = some x → Pv i σ H → H T = none → g (.ref T) σ (upd H T (.tup [.int (i : Nat), x])) fun σ2 H2 => tw ⟨Pv (i + 1), rt, nx, Pv (i + 1)⟩ σ2 H2) (hd : ∀ σ H, Pv xs.length σ H → nx σ H) : forW (Ite K a) g tw ⟨nx, rt, bk, ct⟩ σ H := by
  refine for_it walk_enum Pv h0 hl ?_ hd
  rintro i x σ H H' hi hp ⟨T, y, z, rfl, hT, rfl, e1, e2⟩
  cases e1
  exact hs i z σ H T e2 hp hT
/-- an own new object, as the rules hand it -/
theorem Hs.newAt (S : Hs H0 M H L) {p : Addr} {o : HO} (hp : H p = none) : H0 p = none ∧ Hs H0 M (upd H p o) ((p, o) :: L) := S.new hp o
theorem rd_methK {C : Addr} {m : Str} {n : Nat} {sp : Sp} {gV : List V → List V → List V} {E : XK} {te : TE} {tk : TA} (h : te σ H fun x H1 => ∃ a dx fs, x = .ref a ∧ H1 a = some (.ins C dx fs) ∧ fs.lookup m = none ∧ tk σ H1 fun zs H2 => zs.length = n ∧ sp (gV [x] zs) H2 Q E) : tMethK C m n sp gV E te tk σ H Q := h
end
end Rs

namespace Rs
open PySem PySem.Spec PyProof.Rows L2
abbrev SepM := List V → List Addr → Led → (V → Led → Led → Prop) → Prop
/-- a promise by ledgers; the new objects told apart -/
def SepN (R : SepM) : Sp := fun vs H Q _ => ∃ C L post, R vs C L post ∧ (L.map (·.1)).Nodup ∧ (∀ q ∈ L, H q.1 = some q.2) ∧ (∀ c ∈ C, c ∈ L.map (·.1)) ∧
  ∀ v H' N L', post v N L' → Hs H C H' (N ++ L') → (∀ q ∈ L', q.1 ∈ L.map (·.1)) → (∀ q ∈ N, H q.1 = none) → Q v H'
section
variable {H0 H H' : Hp} {M C : List Addr} {L L' LL F : Led} {R : SepM} {vs : List V} {post : V → Led → Led → Prop} {Q : VK} {E : XK}
theorem sepn_use (S : Hs H0 M H LL) (r : R vs C L post) (pm : ∀ a, cn a (L ++ F) ≤ cn a LL) (hC : ∀ c ∈ C, c ∈ L.map (·.1) ∧ (H0 c = none ∨ c ∈ M))
    (h : ∀ v H' N L', post v N L' → (∀ q ∈ N, H0 q.1 = none) → Hs H0 M H' (N ++ (L' ++ F)) → Q v H') : SepN R vs H Q E := by
  have S1 := S.re pm
  refine ⟨C, L, post, r, ?_, fun q hq => S1.is q (List.mem_append_left _ hq), fun c hc => (hC c hc).1, fun v H' N L' p S' h1 h2 => ?_⟩
  · have := S1.nd
    rw [List.map_append, List.nodup_append] at this
    exact this.1
  · refine h v H' N L' p (fun q hq => S.none0 (h2 q hq)) ?_
    rw [← List.append_assoc]
    refine S1.frame S' hC fun q hq => ?_
    rcases List.mem_append.mp hq with z | z
    · exact Or.inr (h2 q z)
    · exact Or.inl (h1 q z)
end
end Rs

namespace Rs
open PySem PySem.Spec PyProof.Rows L2
section
variable {H H0 : Hp} {M : List Addr} {L L' : Led} {Q : VK} {a : Addr}
theorem rd_rev {xs : List V} (S : Hs H0 M H L) (c : Chg a (.lst xs) (.lst xs.reverse) L L') (hm : H0 a = none ∨ a ∈ M) (h : ∀ H', Hs H0 M H' L' → Q .non H') : rReverse (.ref a) [] H Q := ⟨a, xs, rfl, rfl, S.is _ c.mem, h _ (S.put c hm)⟩
end
end Rs
namespace Rs
open PySem PySem.Spec PyProof.Rows L2
theorem at_nat {ns : List Int} {i : Nat} (h : i < ns.length) : atI (ns.map V.int) (i : Int) = some (.int (ns.getD i 0)) := by
  have e : ixN (ns.map V.int).length (i : Int) = some i := by
    unfold ixN
    rw [if_pos (by omega)]
    simp [h]
  unfold atI
  rw [e]
  show (ns.map V.int)[i]? = _
  rw [List.getElem?_map, List.getD_eq_getElem?_getD, List.getElem?_eq_getElem h]
  rfl
end Rs

/-! Xe1: own exceptions over a built-in base whose __new__ may be another's (KeyError: LookupError's) -/
namespace Xc
open PySem
/-- what is told of the base B; NB is the one whose __new__ is taken -/
structure XB (B NB newId initId : String) (bm : List Value) : Prop where
  nf : ExcNewFacts NB newId
  quiet : newId.startsWith "lifetime." = false
  nsplit : splitId newId = some (NB, "__new__")
  nkind : builtinKind newId = some .builtinFn
  nrow : Manifest.signature? newId = some ⟨.any, NB, NB, .cls, [⟨"args", .varPos, false⟩, ⟨"kwargs", .varKw, false⟩]⟩
  canon : Manifest.canonical newId = Manifest.canonical "BaseException.__new__"
  hasN : bm.contains (.type NB) = true
  has : bm.contains (.type B) = true
  noA : bm.contains (.type "AttributeError") = false
  noN : bm.contains (.type "NameError") = false
  starN : (NB != "*") = true
  star : (B != "*") = true
  ini : Slot B "__init__" initId
  ientry : entryFor table initId = some Builtin.«BaseException.__init__»
  isplit : splitId initId = some (B, "__init__")
  ikind : builtinKind initId = some .slot
  irow : Manifest.signature? initId = some ⟨.positional, "*", B, .self, [⟨"args", .varPos, false⟩]⟩
theorem XB.of {B newId initId : String} {bm : List Value} (F : ExcBaseFacts B newId initId bm) : XB B B newId initId bm :=
  ⟨F.toExcNewFacts, F.quiet, F.newSplit, F.newKind, F.newRow, F.canon, F.hasB, F.hasB, F.noAttr, F.noName, F.noStar, F.noStar, F.init, F.initEntry, F.initSplit, F.initKind, F.initRow⟩
/-- a class over it, with its own ones between -/
def ClX (h : Heap) (C : Addr) (bmB : List Value) (newId : String) : Prop := ∃ nm N qn bs bm hdct sn sub ab col dd k0 k1 k2 k3 k5, h.get? C = some (excClassObj nm qn C N bs bm hdct sn sub ab col dd k0 k1 k2 k3 k5 newId) ∧ ∀ T : String, bm.contains (.type T) = bmB.contains (.type T)
section
variable {M : Model} {A : Around} {E : Value → Shared → Prop} {h : Heap} {g : Array GenState} {d : Drawn} {t : Nat} {os : OsState} {C : Addr} {bmB : List Value} {B NB newId initId : String}
theorem xb_checkN (F : XB B NB newId initId bmB) (hx : ClX h C bmB newId) {xs : List Value} {Q : Unit → Shared → Prop} (k : Q () ⟨h, g, d, t, os⟩) : wpAny M A (checkBuiltinCall newId ⟨.ref C :: xs, []⟩) Q E ⟨h, g, d, t, os⟩ := by
  obtain ⟨nm, N, qn, bs, bm, hdct, sn, sub, ab, col, dd, k0, k1, k2, k3, k5, hC, hT⟩ := hx
  have c1 : (Value.ref C :: bm).contains (.type NB) = true := by
    rw [List.contains_cons, hT NB, F.hasN]
    exact Bool.or_true _
  have c2 := F.starN
  simp only [checkBuiltinCall, F.nkind, F.nsplit, F.nrow]
  repeat (first
    | refine wpAny_loadPart_at hC ?_
    | (refine wpAny_isSubtype_exc hC ?_; rw [c1])
    | refine wpAny_staticBase_exc hC ?_
    | refine wpAny_madeBy_exc hC ?_
    | simp only [bne_self_eq_false, Bool.false_eq_true, if_false]
    | wp_step)
  exact k
theorem xb_checkI (F : XB B NB newId initId bmB) (hx : ClX h C bmB newId) {e : Addr} {oe : Obj} {xs : List Value} {Q : Unit → Shared → Prop} (he : h.get? e = some oe) (hc : oe.cls = .ref C) (k : Q () ⟨h, g, d, t, os⟩) :
    wpAny M A (checkBuiltinCall initId ⟨.ref e :: xs, []⟩) Q E ⟨h, g, d, t, os⟩ := by
  obtain ⟨nm, N, qn, bs, bm, hdct, sn, sub, ab, col, dd, k0, k1, k2, k3, k5, hC, hT⟩ := hx
  have c1 : (Value.ref C :: bm).contains (.type B) = true := by
    rw [List.contains_cons, hT B, F.has]
    exact Bool.or_true _
  have c2 := F.star
  simp only [checkBuiltinCall, F.ikind, F.isplit, F.irow]
  repeat (first
    | (with_reducible refine wpAny_loadPart_at he ?_; rw [hc])
    | with_reducible refine wpAny_loadPart_at hC ?_
    | (with_reducible refine wpAny_isSubtype_exc hC ?_; rw [c1])
    | wp_step)
  refine wpAny_onRaise ?_
  have z : ∀ (a b : String) (n : Nat), Bind.check ⟨.positional, "*", B, .self, [⟨"args", .varPos, false⟩]⟩ a b n (List.map (fun x => x.fst) ({ pos := Value.ref e :: xs } : Args).kw) = pure () := fun a b n => check_star_args _ _ _ _ _ _
  rw [z]
  exact wpAny_pure k
end
section
variable {prog : Program} {w : World} {A : Around} {E : Value → Shared → Prop} {R : Result → Shared → Prop} {h : Heap} {g : Array GenState} {d : Drawn} {t : Nat} {os : OsState} {C : Addr} {bmB : List Value} {B NB newId initId : String}
theorem xb_new (F : XB B NB newId initId bmB) (hx : ClX h C bmB newId) {xs : List Value} (hl : xs.length ≤ sizeLine)
    (k : R (.ok (.ret (.ref (h.objs.size + 1)))) ⟨(h.push (W.kdv_tup xs)).push (PySem.HandSPX.excO C h.objs.size), g, d, t, os⟩) :
    codeAny (model prog w) A (.builtin newId ⟨.ref C :: xs, []⟩) R ⟨h, g, d, t, os⟩ := by
  obtain ⟨nm, N, qn, bs, bm, hdct, sn, sub, ab, col, dd, k0, k1, k2, k3, k5, hC, hT⟩ := hx
  have e1 := F.nf.ends
  have c1 : (Value.ref C :: bm).contains (.type NB) = true := by
    rw [List.contains_cons, hT NB, F.hasN]
    exact Bool.or_true _
  have c2 : (Value.ref C :: bm).contains (.type "AttributeError") = false := by
    rw [List.contains_cons, hT _, F.noA]
    rfl
  have c3 : (Value.ref C :: bm).contains (.type "NameError") = false := by
    rw [List.contains_cons, hT _, F.noN]
    rfl
  have hrest := hl
  refine codeAny_builtinAt F.nf.entry ?_
  unfold Builtin.«BaseException.__new__»
  refine wpAt_bind ?_
  show wpAt _ _ _ (stack >>= _) _ _ _
  refine wpAt_bind (wpAt_stack fun p z => wpAt_of_wpAny ?_)
  wp_walk
  refine wpAt_of_wpAny ?_
  rw [F.nf.owner]
  repeat (first
    | with_reducible refine wpAny_madeHere_exc F.canon hC ?_
    | with_reducible refine wpAny_loadPart_at hC ?_
    | (with_reducible refine wpAny_isSubtype_exc hC ?_; first | rw [c1] | rw [c2] | rw [c3])
    | wp_step)
  show R _ _
  rw [Heap.size_push]
  exact k
theorem xb_tcall (F : XB B NB newId initId bmB) (hx : ClX h C bmB newId) {xs : List Value} {fI : Addr} {Q : Fin → Shared → Prop}
    (li : W.Looks (model prog w) h (typeLookup (.ref C) "__init__") (some (.ref fI))) (lb : ∀ z, W.Looks (model prog w) h (bindSpecial (.ref fI) z) (.ref fI, [z])) (hl : xs.length ≤ sizeLine)
    (k : codeAny (model prog w) A (.call (.ref fI) ⟨.ref (h.objs.size + 1) :: xs, []⟩)
      (fun r s' => match r with | .ok (.ret v) => v = .none ∧ Q (.done (.ret (.ref (h.objs.size + 1)))) s' | .ok _ => False | .error e => E e s')
      ⟨(h.push (W.kdv_tup xs)).push (PySem.HandSPX.excO C h.objs.size), g, d, t, os⟩) :
    wpAny (model prog w) A (Builtin.«type.__call__» ⟨.ref C :: xs, []⟩) Q E ⟨h, g, d, t, os⟩ := by
  have hx0 := hx
  obtain ⟨nm, N, qn, bs, bm, hdct, sn, sub, ab, col, dd, k0, k1, k2, k3, k5, hC, hT⟩ := hx
  repeat (first
    | with_reducible refine wpAny_loadPart_at hC ?_
    | with_reducible refine wpAny_madeBy_exc hC ?_
    | wp_step)
  refine codeAny_call_builtin_code (Code.quiet_builtin _ F.quiet) (xb_checkN F hx0 ?_)
  refine xb_new F hx0 hl ?_
  show wpAny _ _ _ _ _ _
  have kp : ∀ b o, h.get? b = some o → ((h.push (W.kdv_tup xs)).push (PySem.HandSPX.excO C h.objs.size)).get? b = some o := fun b o z => Heap.get?_push_of_some _ (Heap.get?_push_of_some _ z)
  have hC2 := kp _ _ hC
  have hg : ((h.push (W.kdv_tup xs)).push (PySem.HandSPX.excO C h.objs.size)).get? (h.objs.size + 1) = some (PySem.HandSPX.excO C h.objs.size) := by heap_get
  have c1 : (Value.ref C :: bm).contains (.ref C) = true := by simp
  have i1 := li.keeps kp
  have b1 := (lb (.ref (h.objs.size + 1))).keeps kp
  unfold isInstance
  repeat (first
    | with_reducible refine wpAny_loadPart_at hg ?_
    | (with_reducible refine wpAny_isSubtype_exc hC2 ?_; rw [c1])
    | wp_step)
  show wpAny _ _ (typeLookup (.ref C) _) _ _ _
  refine i1.at ?_
  refine wpAny_holding (wpAny_bind (b1.at ?_))
  refine wpAny_bind (wpAny_call (codeAny_mono k fun r s' z => ?_))
  cases r with
  | error e => exact z
  | ok fl =>
    cases fl with
    | ret v =>
      obtain ⟨rfl, z⟩ := z
      first
        | exact wpAny_pure (wpAny_pure z)
        | (wp_walk; exact z)
    | next => exact z.elim
    | brk => exact z.elim
    | cont => exact z.elim
theorem xb_call (F : XB B NB newId initId bmB) (hx : ClX h C bmB newId) {xs : List Value} {fI : Addr}
    (li : W.Looks (model prog w) h (typeLookup (.ref C) "__init__") (some (.ref fI))) (lb : ∀ z, W.Looks (model prog w) h (bindSpecial (.ref fI) z) (.ref fI, [z])) (hl : xs.length ≤ sizeLine)
    (k : codeAny (model prog w) (A.under (.builtin "type.__call__" ⟨.ref C :: xs, []⟩)) (.call (.ref fI) ⟨.ref (h.objs.size + 1) :: xs, []⟩) (W.InitBack (h.objs.size + 1) R)
      ⟨(h.push (W.kdv_tup xs)).push (PySem.HandSPX.excO C h.objs.size), g, d, t, os⟩) :
    codeAny (model prog w) A (.call (.ref C) ⟨xs, []⟩) R ⟨h, g, d, t, os⟩ := by
  have hx0 := hx
  obtain ⟨nm, N, qn, bs, bm, hdct, sn, sub, ab, col, dd, k0, k1, k2, k3, k5, hC, hT⟩ := hx
  have f1 := tc_lookup
  have f2 := tc_bind (.ref C)
  have ty : (⟨h, g, d, t, os⟩ : Shared).TypeIs (.ref C) "type" := ⟨_, hC, rfl⟩
  refine codeAny_of_tree ?_
  show wpAny _ _ (callAny (.ref C) _) _ _ _
  repeat (any_goals (first
    | assumption
    | with_reducible refine wpAny_loadPart_at hC ?_
    | wp_step))
  refine ⟨rfl, ?_⟩
  refine codeAny_call_builtin_at (Code.quiet_builtin _ (by decide +kernel)) entry_typeCall (wpAny_check_type_call_sub hC (xb_tcall F hx0 li lb hl ?_))
  refine codeAny_mono k fun r s' z => ?_
  cases r with
  | error e => exact z
  | ok fl => cases fl <;> exact z
/-- B.__init__(e, ..): the arguments are kept anew -/
theorem xb_init (F : XB B NB newId initId bmB) (hx : ClX h C bmB newId) {e t0 : Addr} {xs : List Value} (he : h.get? e = some (PySem.HandSPX.excO C t0)) (hl : xs.length ≤ sizeLine)
    (k : ∀ h' t1, (∀ b o, b ≠ e → h.get? b = some o → h'.get? b = some o) → h'.get? e = some (PySem.HandSPX.excO C t1) → R (.ok (.ret .none)) ⟨h', g, d, t, os⟩) :
    codeAny (model prog w) A (.call (.builtin initId) ⟨.ref e :: xs, []⟩) R ⟨h, g, d, t, os⟩ := by
  have hrest := hl
  refine codeAny_call_builtin F.ini.plain F.ientry (xb_checkI F hx he rfl ?_)
  wp_walk
  refine k _ h.objs.size (fun b o nb z => ?_) ?_
  · rw [Heap.get?_update_other _ _ (Ne.symm nb)]
    exact Heap.get?_push_of_some _ z
  · rw [Heap.get?_update_self _ (Heap.get?_push_of_some _ he) rfl]
    rfl
end
/-! KeyError -/
theorem xb_KeyError : XB "KeyError" "LookupError" "LookupError.__new__" "KeyError.__init__" [.type "KeyError", .type "LookupError", .type "Exception", .type "BaseException", .type "object"] where
  nf := PySem.F.excBase_LookupError.toExcNewFacts
  quiet := PySem.F.excBase_LookupError.quiet
  nsplit := PySem.F.excBase_LookupError.newSplit
  nkind := PySem.F.excBase_LookupError.newKind
  nrow := PySem.F.excBase_LookupError.newRow
  canon := PySem.F.excBase_LookupError.canon
  hasN := by decide +kernel
  has := by decide +kernel
  noA := by decide +kernel
  noN := by decide +kernel
  starN := by decide +kernel
  star := by decide +kernel
  ini := .of (owner := "KeyError") (n := "__init__") (by rw [typeLookup_type, builtinLookup_eq_fast]; kernel_rfl) (by decide +kernel) (by decide +kernel) (by decide +kernel) (by first | exact .inl (by decide +kernel) | exact .inr (by decide +kernel)) (by rw [isSubtype_type]; kernel_rfl)
  ientry := entryFor_alias (id' := "BaseException.__init__") (by rw [fastTable_eq_tree]; kernel_rfl) (by first | rfl | decide +kernel) (by decide +kernel) (by rw [fastTable_eq_tree]; kernel_rfl)
  isplit := by kernel_rfl
  ikind := by kernel_rfl
  irow := by kernel_rfl
theorem store_KeyError : StoreFacts "KeyError" [.type "KeyError", .type "LookupError", .type "Exception", .type "BaseException", .type "object"] "object.__setattr__" "object" :=
  ⟨by kernel_rfl,
    .of (owner := "object") (n := "__setattr__") (by rw [typeLookup_type, builtinLookup_eq_fast]; kernel_rfl) (by decide +kernel) (by decide +kernel) (by decide +kernel) (by first | exact .inl (by decide +kernel) | exact .inr (by decide +kernel)) (by rw [isSubtype_type]; kernel_rfl),
    PySem.F.store_Exception.entry, by decide +kernel, by decide +kernel, by decide +kernel, PySem.F.store_Exception.args, fun z => by kernel_rfl⟩
end Xc

/-! Xc1: own exceptions over any built-in base, with an own __init__ -/
namespace Xc
open PySem PySem.Spec PyProof.Rows L2
/-- C: an own class over the built-in B (others of one's own between) -/
structure Own (K : PySem.W.Frag) (C : Addr) (B newId initId : String) (bmB : List Value) : Prop where
  fb : ∃ NB, XB B NB newId initId bmB
  st : StoreFacts B bmB "object.__setattr__" "object"
  ini : PySem.W.excInitIn K C bmB newId = true
  ovr : PySem.W.excOver K C bmB = true
  dic : PySem.W.hasDictIn K C = true
  sav : PySem.W.findIn K (.ref C) "__setattr__" = some (some (.builtin "object.__setattr__"))
  bex : PySem.W.subIn K (.ref C) (.type "BaseException") = some true
  tyc : PySem.W.typeIn K (.ref C) = some (.type "type")
  kpc : PySem.W.keepIn K (.ref C) = true
section
variable {X : Cx} {pins : List (Addr × Obj)} {σ : L2.St} {H : Hp} {s : Shared} {a C dx : Addr} {f : Str} {y : V} {u : Value} {fs : List (Str × V)} {Q : Unit → Shared → Prop} {E : Value → Shared → Prop} {A : Around} {B newId initId : String} {bmB : List Value}
theorem put0 (T : Own X.K C B newId initId bmB) (I : Inv X pins σ H s) (e : H a = some (exo a C none)) (hno : PySem.W.takerIn X.K C f = some none) (ry : RelV y u)
    (k : ∀ d1 s1, H d1 = none → d1 ≠ a → Inv X pins σ (upd (upd H d1 (exd d1 [(f, y)])) a (exo a C (some d1))) s1 → Q () s1) : wpAny (model X.prog X.w) A (setAttr (.ref a) f u) Q E s := by
  obtain ⟨tA, hA⟩ := exo_at I.hok e
  obtain ⟨hp, gn, dr, tk0, osS⟩ := s
  have J : PySem.W.InstAt hp a { cls := .ref C, dict := none, data := .fields #[.ref tA, .none, .none, .none, .bool false, .none] } C none := ⟨hA, rfl, rfl, trivial⟩
  refine PySem.W.set_plain I.kIn J T.sav (PySem.W.osa_openX T.st I.kIn J T.ovr hno fun _ => ?_)
  obtain ⟨cd, hcd, hdc⟩ := PySem.W.any_some T.dic
  refine wpAny_bind (wpAny_pure (wpAny_bind (PySem.W.instanceDict_exc hA (PySem.W.looks_clsIn I.kIn hcd) hdc ?_)))
  have lt : a < hp.objs.size := Heap.lt_size hA
  show wpAny _ _ (Builtin.ObjectAttr.storeInDict hp.objs.size _ f u) _ _ _
  refine PySem.HandSPX.store_in_new ⟨_, #[], _, (Heap.get?_update_ne _ _ _ _ (Nat.ne_of_gt lt)).trans (Heap.get?_push_at rfl rfl), rfl, fun e he => absurd he (by simp), fun _ => rfl⟩ fun h2 tk2 hn sb => ?_
  have new : H hp.objs.size = none := I.hok.fresh (Nat.le_refl _)
  have neA : hp.objs.size ≠ a := Nat.ne_of_gt lt
  have oldK : ∀ b o, b ≠ a → hp.get? b = some o → h2.get? b = some o := fun b o hb q =>
    (sb.2 b (Nat.ne_of_lt (Heap.lt_size q))).trans ((Heap.get?_update_ne _ _ _ _ hb).trans (Heap.get?_push_of_some _ q))
  have atA : h2.get? a = some { cls := .ref C, dict := some hp.objs.size, data := .fields #[.ref tA, .none, .none, .none, .bool false, .none] } :=
    (sb.2 a (Ne.symm neA)).trans (Heap.get?_update_self _ (Heap.get?_push_of_some _ hA) rfl)
  have nn : ∀ {b : Addr}, H b = none → b ≠ a := fun {b} n z => by
    rw [z, e] at n; cases n
  have nD : ∀ {b : Addr} {o : Obj}, hp.get? b = some o → b ≠ hp.objs.size := fun {b o} q => Nat.ne_of_lt (Heap.lt_size q)
  refine k hp.objs.size ⟨h2, gn, dr, tk2, osS⟩ new neA (I.un (t' := tk2) ⟨fun b o q n _ _ => oldK b o (nn n) q, fun b o q n _ _ => ⟨o.slots, oldK b o (nn n) q⟩, fun b o q n _ => by
      rw [upd_ne (nn n), upd_ne (nD q)]; exact n, fun b o q _ => ?_, fun b xs q => by rw [upd_ne (at_ne e q exo_tup), upd_ne (ne_of_none q new)]; exact q,
      fun b o v q => by rw [upd_ne (at_ne e q exo_frz), upd_ne (ne_of_none q new)]; exact q, fun b ps q => ⟨#[], by rw [upd_ne (at_ne e q exo_tbl), upd_ne (ne_of_none q new), q]; simp⟩⟩ fun b o q => ?_)
  · by_cases hb : b = a
    · exact ⟨_, by rw [hb]; exact atA⟩
    · exact ⟨o, oldK b o hb q⟩
  · by_cases hb : b = a
    · subst hb; rw [upd_same] at q; cases q; exact exo_ok atA
    · rw [upd_ne hb] at q
      by_cases hd : b = hp.objs.size
      · subst hd; rw [upd_same] at q; cases q
        exact exd_ok hn (relO_put (fs := []) ry fun g => True.intro)
      · rw [upd_ne hd] at q
        refine (I.hok b o q).stay (fun c v hc z => oldK c v ?_ z) (fun c hc => by rw [upd_ne (at_ne e hc exo_own), upd_ne (ne_of_none hc new)]; exact hc)
          (fun c xs hc => by rw [upd_ne (at_ne e hc exo_tup), upd_ne (ne_of_none hc new)]; exact hc)
        rcases hc with hc | hc
        · rw [hc]; exact hb
        · exact at_ne e hc exo_own
theorem put1 (T : Own X.K C B newId initId bmB) (I : Inv X pins σ H s) (e : H a = some (exo a C (some dx))) (ed : H dx = some (exd dx fs)) (hl : fs.length ≤ 900) (hno : PySem.W.takerIn X.K C f = some none) (ry : RelV y u)
    (k : ∀ s1, Inv X pins σ (upd H dx (exd dx ((f, y) :: fs))) s1 → Q () s1) : wpAny (model X.prog X.w) A (setAttr (.ref a) f u) Q E s := by
  obtain ⟨tA, hA⟩ := exo_at I.hok e
  obtain ⟨mA, hns, rel⟩ := exd_at I.hok ed
  have wi := within_of rel
  obtain ⟨hp, gn, dr, tk0, osS⟩ := s
  obtain ⟨oD, _, _, hoD, _, _⟩ := hns.count wi
  have J : PySem.W.InstAt hp a { cls := .ref C, dict := some dx, data := .fields #[.ref tA, .none, .none, .none, .bool false, .none] } C (some oD) := ⟨hA, rfl, rfl, hoD⟩
  refine PySem.W.set_plain I.kIn J T.sav (PySem.W.osa_openX T.st I.kIn J T.ovr hno fun _ => ?_)
  obtain ⟨cd, hcd, hdc⟩ := PySem.W.any_some T.dic
  refine wpAny_bind (wpAny_pure (wpAny_bind (wpAny_bind (wpAny_loadPart hA (wpAny_bind ((PySem.W.looks_clsIn I.kIn hcd).at ?_))))))
  rw [hdc]
  refine wpAny_pure (a := some dx) ?_
  refine PySem.OEX.store_in_old hns wi (by rw [List.length_map]; omega) fun h2 tk2 hn sb => ?_
  obtain ⟨oN, _, _, eN, _⟩ := id hn
  exact k _ (I.write (t' := tk2) (x := dx) (e := dx) (o := exd dx ((f, y) :: fs)) (by rw [ed]; exact True.intro) (.inl rfl) (fun b o hb q => (sb.2 b hb).trans q) ⟨oN, eN⟩ (exd_ok hn (relO_put ry rel)))
/-- B.__init__(self, ..): the args are laid anew, nothing of them is told -/
theorem binit {us : List Value} {Q : Value → Shared → Prop} (T : Own X.K C B newId initId bmB) (I : Inv X pins σ H s) (e : H a = some (exo a C none)) (hl : us.length ≤ sizeLine) (k : ∀ s1, Inv X pins σ H s1 → Q .none s1) :
    wpAny (model X.prog X.w) A (call (.builtin initId) (.ref a :: us)) Q E s := by
  obtain ⟨tA, hA⟩ := exo_at I.hok e
  have hC := PySem.W.excInit_of I.kIn T.ini
  obtain ⟨NB, fb⟩ := T.fb
  obtain ⟨hp, gn, dr, tk0, osS⟩ := s
  refine wpAny_call (xb_init fb hC hA hl fun h2 t2 kp hx => ?_)
  have J := I.write (t' := tk0) (x := a) (e := a) (o := exo a C none) (by rw [e]; exact True.intro) (.inl rfl) kp ⟨_, hx⟩ (exo_ok hx)
  have same : upd H a (exo a C none) = H := by
    funext b
    by_cases hb : b = a
    · subst hb; rw [upd_same, e]
    · rw [upd_ne hb]
  exact k _ (same ▸ J)
end
/-! ### the rules -/
/-- B.__init__(self, ..) -/
def tBI (K : PySem.W.Frag) (B newId initId : String) (bmB : List Value) (ta : TA) : TE := fun σ H Q => ta σ H fun vs H1 => ∃ (a C : Addr) (ws : List V), vs = .ref a :: ws ∧ ws.length ≤ 1000 ∧ Own K C B newId initId bmB ∧ H1 a = some (exo a C none) ∧ Q .non H1
/-- self.f = e -/
def tPut (K : PySem.W.Frag) (B newId initId : String) (bmB : List Value) (f : Str) (to te : TE) : TS := fun D σ H => te σ H fun y H1 => to σ H1 fun x H2 => ∃ a C : Addr, x = .ref a ∧ Own K C B newId initId bmB ∧ PySem.W.takerIn K C f = some none ∧
  ((H2 a = some (exo a C none) ∧ ∀ dx, H2 dx = none → dx ≠ a → D.nx σ (upd (upd H2 dx (exd dx [(f, y)])) a (exo a C (some dx)))) ∨
    ∃ (dx : Addr) (fs : List (Str × V)), H2 a = some (exo a C (some dx)) ∧ H2 dx = some (exd dx fs) ∧ fs.length ≤ 900 ∧ D.nx σ (upd H2 dx (exd dx ((f, y) :: fs))))
section
variable {X : Cx} {o e : Expr} {es : List Expr} {to te : TE} {ta : TA} {f : Str} {p p' p1 p2 pos : Pos} {B newId initId : String} {bmB : List Value}
theorem pe_binit {n : Str} {pl : Sem Bool} {C : Addr} (_o : Own X.K C B newId initId bmB) (hg : Gl X n) (hm : X.mg n = none) (hv : bootBuiltins n = some (.type B)) (hty : typeOf (.type B) = pure (.type "type")) (hst : Manifest.isStub B = false) (hin : PySem.W.handedIn (.builtin initId) = true)
    (vV : PySem.W.findCls X.K (.type B) (.type "type") "__init__" = some (.val (.builtin initId))) (ha : PA X (e :: es) ta)
    (hc : eval (.Call (.Attribute (.Name n p1) "__init__" p2) (e :: es) [] pos) X.env = (do
      let ov ← eval (.Name n p1) X.env
      standAt p2.atName
      let (fn, fst) ← holding [ov] (getMethod ov "__init__" pl)
      callWith pos fn fst (backTo pos (starEach (e :: es) X.env)) (backToKw pos (keywordEach [] X.env))) := by rfl)
    (hn1 : n ≠ "__name__" := by decide) (hn2 : (n == ("__debug__" : Str)) = false := by decide) (he : starEach (e :: es) X.env = (false, eval e X.env) :: starEach es X.env := by rfl) (hp : (backTo pos (starEach es X.env)).any (·.1) = false := by rfl) :
    PE X (.Call (.Attribute (.Name n p1) "__init__" p2) (e :: es) [] pos) (tBI X.K B newId initId bmB ta) := by
  refine ⟨fun pins s σ H Q I k => PySem.W.methodCall_KW (ld_blt I hg hm hv ?_ hn1 hn2) hc⟩
  obtain ⟨m, fr⟩ := I.fr
  refine PySem.W.method_type fr I.ok.mod.kin hty hst vV hin ?_
  show wpAny _ _ (callWith pos (Value.builtin initId) [] (backTo pos (starEach (e :: es) X.env)) []) _ _ _
  refine PyProof.Rows.callWith_method1 (thn (ha.run pos pins _ σ H _ (I.tok _) k) fun us s1 ⟨vs, H1, I1, rv, a, C, ws, ev, hl, T, ea, q⟩ => ?_) he hp
  subst ev
  cases rv with
  | @cons _ u1 _ ur rA rW =>
    obtain rfl : u1 = Value.ref a := rA
    exact binit T I1 ea (by rw [← Paired.length rW, sizeLine_eq]; omega) fun s2 J => ⟨.non, H1, J, rfl, q⟩
theorem ps_put {C : Addr} (_o : Own X.K C B newId initId bmB) (ho : PE X o to) (he : PE X e te) (hs : swapsWith e (some (.Attribute o f p')) pos.line X.env = pure false := by rfl) : PS X (.Assign [.Attribute o f p'] e pos) (tPut X.K B newId initId bmB f to te) := by
  refine ⟨fun pins s σ H D I k => plainObj_wpAny_Assign_Attribute (thn (he.run pins s σ H _ I k) fun v s1 ⟨y, H1, I1, ry, k1⟩ => thn (ho.run pins s1 σ H1 _ I1 k1) fun u s2 ⟨x, H2, I2, rx, a, C, ex, T, hno, q⟩ => ?_) hs⟩
  subst ex
  obtain rfl : u = Value.ref a := rx
  rcases q with ⟨ea, q⟩ | ⟨dx, fs, ea, ed, hl, q⟩
  · exact put0 T I2 ea hno ry fun dx s3 n1 n2 J => ⟨σ, _, J, q dx n1 n2⟩
  · exact put1 T I2 ea ed hl hno ry fun s3 J => ⟨σ, _, J, q⟩
/-- C(e, ..) with C's own __init__ -/
theorem pmk_own {CX : CXT} {x : Str} {C fI : Addr} {k : Nat} {fd : FuncData} {ps : List Str} {sp : Sp} {ds : List Value} {dvs : List V} (T : Own X.K C B newId initId bmB) (iC : PySem.W.findIn X.K (.ref C) "__init__" = some (some (.ref fI))) (tI : PySem.W.typeIn X.K (.ref fI) = some (.type "function"))
    (F1 : FnOk X.prog X.w X.K X.mg X.base CX k fI fd ps sp) (hr : Room (k + 1) X.A) (hb : Binds X.K fd ps ds) (hd : Vals dvs ds) (hx : Passes CX X (fun _ _ _ => False)) (hg : Gl X x) (hm : X.mg x = some (.ref C)) (ha : PA X (e :: es) ta)
    (hdb : (x == ("__debug__" : Str)) = false := by decide) (he : starEach (e :: es) X.env = (false, eval e X.env) :: starEach es X.env := by rfl) (hp : (backTo pos (starEach es X.env)).any (·.1) = false := by rfl) :
    PMk X (.Call (.Name x p) (e :: es) [] pos) (tMkO C sp dvs ta) := by
  intro pins s σ H Q I hh
  refine wpAny_Call_Name_kw (ld_glob I hg hm ?_ hdb)
  refine PySem.W.callWith_K (h₀ := X.base) I.ok.mod.kin T.kpc (thn (ha.run pos pins s σ H _ I hh) fun us s1 ⟨vs, H1, I1, rv, hz, k1⟩ => ⟨I1.kIn, ?_⟩) he hp
  show wpAny _ _ (call (.ref C) us) _ _ _
  have hC := PySem.W.excInit_of I1.kIn T.ini
  obtain ⟨NB, fb⟩ := T.fb
  obtain ⟨hp1, gn, dr, tk, osS⟩ := s1
  have up1 : hp1.objs.size ≤ hp1.objs.size + 1 := Nat.le_succ _
  have new : H1 (hp1.objs.size + 1) = none := I1.hok.fresh up1
  have body := k1 (hp1.objs.size + 1) new
  have kept : ∀ b o, hp1.get? b = some o → ((hp1.push (PySem.W.kdv_tup us)).push (PySem.HandSPX.excO C hp1.objs.size)).get? b = some o := fun b o q => Heap.get?_push_of_some _ (Heap.get?_push_of_some _ q)
  have there : ((hp1.push (PySem.W.kdv_tup us)).push (PySem.HandSPX.excO C hp1.objs.size)).get? (hp1.objs.size + 1) = some (PySem.HandSPX.excO C hp1.objs.size) := by heap_get
  have I2 : Inv X pins σ (upd H1 (hp1.objs.size + 1) (exo (hp1.objs.size + 1) C none)) ⟨(hp1.push (PySem.W.kdv_tup us)).push (PySem.HandSPX.excO C hp1.objs.size), gn, dr, tk, osS⟩ :=
    I1.laid (t' := tk) (a := hp1.objs.size + 1) (o := exo (hp1.objs.size + 1) C none) (h' := (hp1.push (PySem.W.kdv_tup us)).push (PySem.HandSPX.excO C hp1.objs.size)) kept up1 (exo_ok there)
  have rels : Vals (V.ref (hp1.objs.size + 1) :: (vs ++ dvs)) (Value.ref (hp1.objs.size + 1) :: (us ++ ds)) := .cons rfl (rv.append hd)
  have len1 : (Value.ref (hp1.objs.size + 1) :: us ++ ds).length = ps.length := (F1.len _ _ _ _ body).symm.trans rels.length |>.symm
  have lus : us.length ≤ sizeLine := by rw [← Paired.length rv, sizeLine_eq]; omega
  refine wpAny_call (xb_call fb hC (PySem.W.looks_findIn I1.kIn iC) (fun self => PySem.W.bind_fn I1.kIn self tI) lus
    (codeAny_mono (F1.run _ X.stack _ _ ⟨Value.ref (hp1.objs.size + 1) :: us, []⟩ (Value.ref (hp1.objs.size + 1) :: (us ++ ds)) _ _ (fun _ _ _ => False) (hr.make C us []) (I2.env0.make C us []) (hb _ (Value.ref (hp1.objs.size + 1) :: us) I2.kIn len1) rels body) fun r s2 z => ?_))
  cases r with
  | error er => exact hx pins σ _ _ er s2 I2 z
  | ok fl =>
    cases fl with
    | ret u =>
      obtain ⟨v, H2, o2, b2, u2, hok2, rv2, ev, d, fs, ea, ed, hd1, q2⟩ := z
      subst ev
      obtain ⟨h2, g2, d2, t2, os2⟩ := s2
      exact ⟨rv2, mk_end (raises_own T.bex T.tyc) I1 up1 kept u2 hok2 o2 b2 ea ed hd1 q2⟩
    | next => exact False.elim z
    | brk => exact False.elim z
    | cont => exact False.elim z
end
end Xc

/-! Xc2: except (A, B, ..) as e: the exception is kept as a value -/
namespace Xc
open PySem PySem.Spec PySem.Calls PyProof.Rows L2 PySem.W
section
variable {M : Model} {A : Around} {E : Value → Shared → Prop} {s : Shared} {β : Type}
theorem loop_all {f : Value → β → Sem (ForInStep β)} {r : β} : ∀ {cs : List Value} {Q : β → Shared → Prop}, (∀ c ∈ cs, ∀ Q : ForInStep β → Shared → Prop, Q (.yield r) s → wpAny M A (f c r) Q E s) → Q r s → wpAny M A (forIn cs r f) Q E s
  | [], Q, _, k => by rw [List.forIn_nil]; exact wpAny_pure k
  | c :: cs, Q, h, k => by
    rw [List.forIn_cons]
    refine wpAny_bind (h c List.mem_cons_self _ ?_)
    exact loop_all (fun c hc => h c (List.mem_cons_of_mem _ hc)) k
theorem loop_any {f : Value → β → Sem (ForInStep β)} {r d : β} {K : Frag} {cls : Value} : ∀ {cs : List Value} {b : Bool} {Q : β → Shared → Prop}, exmAny K cls cs = some b →
    (∀ c b, exmOne K cls c = some b → ∀ Q : ForInStep β → Shared → Prop, Q (if b = true then .done d else .yield r) s → wpAny M A (f c r) Q E s) → Q (if b = true then d else r) s → wpAny M A (forIn cs r f) Q E s
  | [], b, Q, e, _, k => by
    obtain rfl : false = b := Option.some.inj e
    rw [List.forIn_nil]; exact wpAny_pure k
  | c :: cs, b, Q, e, h, k => by
    obtain ⟨b1, d1, e1, e2, rfl⟩ := exmAny_cons e
    rw [List.forIn_cons]
    refine wpAny_bind (h c b1 e1 _ ?_)
    cases b1 with
    | true => exact wpAny_pure k
    | false =>
      rw [Bool.false_or] at k
      exact loop_any e2 h k
end
section
variable {M : Model} {K : Frag}
theorem exm_of_any {cls : Value} : ∀ {cs : List Value} {b : Bool}, exmAny K cls cs = some b → ∀ c ∈ cs, ∃ b, exmOne K cls c = some b
  | [], _, _, c, hc => nomatch hc
  | x :: cs, b, e, c, hc => by
    obtain ⟨b1, d1, e1, e2, _⟩ := exmAny_cons e
    rcases List.mem_cons.mp hc with rfl | hc
    · exact ⟨_, e1⟩
    · exact exm_of_any e2 c hc
theorem exm_tupN {cs : List Value} {cls : Value} {tp e : Addr} {b : Bool} {h : Heap} (X : K.In h) (LT : Looks M h (typeOf (.ref e)) cls) (hp : h.get? tp = some { cls := .type "tuple", data := .seq cs.toArray }) (hx : exmAny K cls cs = some b) :
    Looks M h (excMatches (.ref e) (.ref tp)) b := by
  intro A Q E s k q
  obtain ⟨hh, g, d, tk, os⟩ := s
  have isT : Looks M h (isInstance (.ref tp) (.type "tuple")) true := ((Looks.ld hp).andThen .now).andThen (Looks.of_pure isSubtype_tuple_tuple)
  have hp2 := k _ _ hp
  have LT2 := LT.keeps k
  have X2 := X.keeps k
  unfold excMatches
  refine wpAny_bind ((isT.keeps k).at ?_)
  dsimp only
  rw [if_pos rfl]
  first
    | refine wpAny_bind (wpAny_seqItems hp2 rfl ?_)
    | refine wpAny_bind (wpAny_bind (wpAny_seqItems hp2 rfl (wpAny_pure ?_)))
  dsimp only [Option.getD_some, Option.getD]
  refine wpAny_bind (wpAny_pure ?_)
  refine wpAny_bind (loop_all (fun c hc Q' q' => ?_) ?_)
  · obtain ⟨b1, e1⟩ := exm_of_any hx c hc
    obtain ⟨l1, _⟩ := exm_cls (M := M) X2 e1
    refine wpAny_bind (l1.at ?_)
    simp only [Bool.not_true, Bool.false_eq_true, if_false]
    exact wpAny_pure q'
  · refine wpAny_bind (LT2.at ?_)
    refine wpAny_bind (loop_any (d := (some true, ())) hx (fun c b1 e1 Q' q' => ?_) ?_)
    · obtain ⟨_, l2⟩ := exm_cls (M := M) X2 e1
      refine wpAny_bind (l2.at ?_)
      cases b1 with
      | true =>
        rw [if_pos rfl] at q' ⊢
        exact wpAny_pure q'
      | false =>
        rw [if_neg Bool.false_ne_true] at q' ⊢
        exact wpAny_pure q'
    · cases b with
      | true => exact wpAny_pure q
      | false => exact wpAny_pure q
end
end Xc
namespace Xc
open PySem PySem.Spec PySem.Calls PyProof.Rows L2
/-- the names of a clause and their classes -/
inductive Nms (X : Cx) : List Expr → List Value → Prop
  | nil : Nms X [] []
  | cons {x : Str} {c : Value} {np : Pos} {es : List Expr} {cs : List Value} : Names X x c → Nms X es cs → Nms X (.Name x np :: es) (c :: cs)
theorem Nms.len {X : Cx} {es : List Expr} {cs : List Value} (h : Nms X es cs) : cs.length = es.length := by
  induction h with
  | nil => rfl
  | cons _ _ ih => simp [ih]
theorem nms_eval {X : Cx} {pins : List (Addr × Obj)} {σ : L2.St} {H : Hp} {s : Shared} {pos : Pos} {E : Value → Shared → Prop} (I : Inv X pins σ H s) {es : List Expr} {cs : List Value} (h : Nms X es cs) :
    ∀ {Q : List Value → Shared → Prop}, Q cs s → wpAny (model X.prog X.w) X.A (spliced (backTo pos (starEach es X.env))) Q E s := by
  induction h with
  | nil => intro Q k; exact wpAny_items_nil k
  | @cons x c np es cs hx _ ih =>
    intro Q k
    refine wpAny_items_cons ?_
    obtain ⟨hg, hdbg, hm | ⟨hm, hv, hnn⟩⟩ := hx
    · exact ld_glob I hg hm (ih k) hdbg
    · exact ld_blt I hg hm hv (ih k) hnn hdbg
/-- a caught exception, held -/
def Exv (a : Addr) (cls : Value) (d : Option Addr) : HO := .ext fun h => ∃ (oe : Obj) (vs : Array Value), h.get? a = some oe ∧ Zc cls d oe ∧ oe.data = .fields vs
theorem exv_ok {P : Program} {w : World} {H : Hp} {h : Heap} {a : Addr} {cls : Value} {d : Option Addr} {oe : Obj} {vs : Array Value} (e : h.get? a = some oe) (z : Zc cls d oe) (hd : oe.data = .fields vs) : ObjOk P w H h a (Exv a cls d) :=
  ⟨⟨oe, vs, e, z, hd⟩, ⟨oe, e⟩, fun _ _ ⟨o, v, q, r⟩ k => ⟨o, v, k o q, r⟩⟩
theorem exv_at {P : Program} {w : World} {H : Hp} {h : Heap} {a : Addr} {cls : Value} {d : Option Addr} (ok : HOk P w H h) (e : H a = some (Exv a cls d)) : ∃ oe vs, h.get? a = some oe ∧ Zc cls d oe ∧ oe.data = .fields vs := by
  have x : ObjOk P w H h a (.ext fun h => ∃ (oe : Obj) (vs : Array Value), h.get? a = some oe ∧ Zc cls d oe ∧ oe.data = .fields vs) := ok a _ e
  exact x.1
section
variable {X : Cx} {pins : List (Addr × Obj)} {σ : L2.St} {H : Hp} {s : Shared}
theorem track {a : Addr} {o : HO} (I : Inv X pins σ H s) (na : H a = none) (n0 : ∀ u, X.s_0.heap.get? a = some u → X.H_0 a = none → a ∈ X.ex) (nL : a ≠ X.env.locals) (nC : ∀ x c, X.env.cells.lookup x = some c → c ≠ a) (nP : ∀ p ∈ X.pn ++ pins, p.1 ≠ a)
    (ok : ObjOk X.prog X.w (upd H a o) s.heap a o) : Inv X pins σ (upd H a o) s := by
  have ne : ∀ {b : Addr} {u : HO}, H b = some u → b ≠ a := fun {b u} e z => by rw [z, na] at e; cases e
  refine ⟨I.ok, I.os, I.bare, ⟨I.base.keep, I.base.slot, fun b u e n hx => ?_, I.base.there, fun b xs e => ?_, fun b u v e => ?_, fun b ps e => ?_⟩, I.loc, I.cell, ?_, fun x c e => ?_, fun p hp => ?_, fun b u e => ?_, I.len⟩
  · by_cases hb : b = a
    · subst hb; exact absurd (n0 u e n) hx
    · rw [upd_ne hb]; exact I.base.free b u e n hx
  · have q := I.base.tups b xs e
    rw [upd_ne (ne q)]; exact q
  · have q := I.base.frzs b u v e
    rw [upd_ne (ne q)]; exact q
  · obtain ⟨more, q⟩ := I.base.tbls b ps e
    exact ⟨more, by rw [upd_ne (ne q)]; exact q⟩
  · rw [upd_ne (Ne.symm nL)]; exact I.free
  · rw [upd_ne (nC x c e)]; exact I.freeC x c e
  · obtain ⟨q1, q2, q3, q4, q5⟩ := I.pin p hp
    exact ⟨q1, by rw [upd_ne (nP p hp)]; exact q2, q3, q4, q5⟩
  · by_cases hb : b = a
    · subst hb; rw [upd_same] at e; cases e; exact ok
    · rw [upd_ne hb] at e
      exact (I.hok b u e).stay (fun c v _ q => q) (fun c q => by rw [upd_ne (ne q)]; exact q) fun c xs q => by rw [upd_ne (ne q)]; exact q
end
theorem fly_keeps {B h h' : Heap} {l : List Env} {a : Addr} {Z : Obj → Prop} (fl : HandSPX.FlyingZ B l a Z h) (k : ∀ b o, h.get? b = some o → h'.get? b = some o) : HandSPX.FlyingZ B l a Z h' := by
  obtain ⟨f1, f2, f3, oe, vs, T, oT, ts, he, hz, hd, h1, hn, ht, hT, hdT, h3⟩ := fl
  exact ⟨fun b o q => k b o (f1 b o q), f2, f3.of_keeps fun b o q _ => ⟨o, k b o q, rfl⟩, oe, vs, T, oT, ts, k _ _ he, hz, hd, h1, hn, ht, k _ _ hT, hdT, h3⟩
/-- what 'except (A, B, ..) as n' wishes; slot i is n's -/
def wKeep (K : PySem.W.Frag) (cs : List Value) (i : Nat) (ts : Addr → Value → Option Addr → TS) (Wout : WX) (D : Ends) : WX := fun cls d σ H =>
  ∃ b, PySem.W.exmAny K cls cs = some b ∧ (b = true → ∀ a, H a = none → ts a cls d { nx := fun σ' H' => D.nx (σ'.set i none) (upd H' a (Exv a cls d)), rt := fun v H' => D.rt v (upd H' a (Exv a cls d)), bk := fun σ' H' => D.bk (σ'.set i none) (upd H' a (Exv a cls d)), ct := fun σ' H' => D.ct (σ'.set i none) (upd H' a (Exv a cls d)) } (σ.set i (some (.ref a))) H) ∧
    (b = false → Wout cls d σ H)
section
variable {X : Cx} {n : Str} {cs : List Value} {i kt : Nat} {body suite : List Stmt} {b₀ : Stmt} {es : List Expr} {tpos pos pos' : Pos} {tb : WX → TS} {ts : Addr → Value → Option Addr → TS} {Wout : WX}
theorem ps_try_keep (hs : X.stack = X.env :: X.outer) (hf : X.env.frame = some X.env.locals) (hN : X.N.Nodup) (hi : X.N[i]? = some n) (hln : X.env.kindOf n = some .local) (hc : Nms X es cs) (hz : cs.length ≤ 100) (tk : Takes X Wout)
    (hb : ∀ (W : WX) (pn : List (Addr × Obj)) (xe : Value → Shared → Prop), Takes (X.tr pn xe) W → PassesOwn (model X.prog X.w) X.A X.env xe → PSs (X.tr pn xe) body (tb W))
    (hsu : ∀ (a : Addr) (oe : Obj) (cls : Value) (d : Option Addr) (pn : List (Addr × Obj)), Zc cls d oe → (∃ vs, oe.data = .fields vs) → PSs (X.suite a ((a, oe) :: pn)) (b₀ :: suite) (ts a cls d)) :
    PS X (.Try body [.ExceptHandler (some (.Tuple es kt tpos)) (some n) (b₀ :: suite) pos'] [] [] pos) (fun D σ H => tb (wKeep X.K cs i ts Wout D) D σ H) := by
  refine ⟨fun pins s σ H D I kk => ?_⟩
  have okX := I.ok
  have frm : X.A.frames = some (X.env :: X.outer) := by rw [okX.frames, hs]
  have lcl : Loc X.env.scope n := .inl hln
  refine wpAny_Try_except (wpAny_mono ((hb (wKeep X.K cs i ts Wout D) (X.pn ++ pins) (fun e s1 => wpAny (model X.prog X.w) X.A (noteFrame e X.env) (fun _ s2 => wpAny (model X.prog X.w) X.A (setFlight e none) (fun _ s3 =>
    wpAny (model X.prog X.w) X.A (handleBy e X.env [.ExceptHandler (some (.Tuple es kt tpos)) (some n) (b₀ :: suite) pos']) (SP X pins D) X.xe s3) X.xe s2) X.xe s1) (fun u s1 xx => ?_) PassesOwn.looking).run [] s σ H D (I.toTry _) kk) (fun fl s1 z => ?_) (fun _ _ z => z))
  · obtain ⟨a, B, sI, pins1, σ1, H1, cls, d, rfl, J0, nb, up, sky, na, osE, agE, b, hb1, yes, no⟩ := xx
    have J : Inv X pins σ1 H1 sI := J0.ofTry okX
    have sky1 : Sky B (X.env :: X.outer) a (Zc cls d) X.env.locals s1.heap := by rw [← hs]; exact sky
    show wpAny (model X.prog X.w) X.A (noteFrame (.ref a) X.env) _ _ _
    refine Sky.land Zc.steady frm hf sky1 fun h3 fl3 up3 => ?_
    have J3 : Inv X pins σ1 H1 { s1 with heap := h3 } := J.landed nb fl3.1 (up.trans up3) osE agE
    obtain ⟨oe3, vs3, he3, hz3, hd3⟩ := fl3.there
    have nfr : a ∉ frs (X.env :: X.outer) := fun hm => by
      obtain ⟨_, o1, q1, nf1⟩ := fl3.2.2.1.mem hm
      rw [he3] at q1; cases q1
      exact nf1 _ hd3
    have nL : a ≠ X.env.locals := fun z => nfr (List.mem_filterMap.mpr ⟨X.env, List.mem_cons_self, by rw [hf, z]⟩)
    have nF : a ∉ X.fs := fun hm => by
      obtain ⟨e1, he1, q1⟩ := List.mem_filterMap.mp hm
      exact nfr (List.mem_filterMap.mpr ⟨e1, List.mem_cons_of_mem _ he1, q1⟩)
    have nst : a ∉ frs X.stack := by rw [hs]; exact nfr
    have bn : B.get? a = none := fl3.2.1
    have n0 : ∀ u, X.s_0.heap.get? a = some u → X.H_0 a = none → a ∈ X.ex := fun u e1 e2 => Classical.byContradiction fun hx => by
      have q1 := nb a u (J.base.keep a u e1 e2 nF hx) nst
      rw [bn] at q1; cases q1
    have nP : ∀ p ∈ X.pn ++ pins, p.1 ≠ a := fun p hp z => by
      obtain ⟨q1, q2, q3, q4, q5⟩ := J.pin p hp
      have q6 : p.1 ∉ frs X.stack := by rw [z]; exact nst
      have q7 := nb p.1 p.2 q1 q6
      rw [z, bn] at q7; cases q7
    have S3 := J3.suite he3 hd3 na nL nF
    refine wpAny_handleBy_cons (codeAny_handlers_test ?_) (by intro q; cases q)
    refine wpAny_Tuple (nms_eval (X := X.suite a ((a, oe3) :: (X.pn ++ pins))) S3 (by
      have g : ∀ {es cs}, Nms X es cs → Nms (X.suite a ((a, oe3) :: (X.pn ++ pins))) es cs := fun h => by
        induction h with
        | nil => exact .nil
        | cons hx _ ih => exact .cons hx ih
      exact g hc) ⟨by rw [sizeLine_eq]; omega, ?_⟩)
    have kp : ∀ b o, h3.get? b = some o → (h3.push { cls := .type "tuple", data := .seq cs.toArray }).get? b = some o := fun _ _ q => Heap.get?_push_of_some _ q
    have LT : PySem.W.Looks (model X.prog X.w) (h3.push { cls := .type "tuple", data := .seq cs.toArray }) (typeOf (.ref a)) cls := fun A Q E s k q => wpAny_typeOf_ref (k _ _ (kp _ _ he3)) (by rw [hz3.1]; exact q)
    refine (exm_tupN (M := model X.prog X.w) (J3.kIn.keeps kp) LT (Heap.get?_push_size h3 rfl) hb1).here ?_
    have fl4 := fly_keeps fl3 kp
    have up4 : sI.heap.UpToSlots (h3.push { cls := .type "tuple", data := .seq cs.toArray }) := (up.trans up3).trans (Heap.UpToSlots.of_keeps kp)
    cases b with
    | true =>
      refine codeAny_handlers_suite_as (HandSPX.lands_againZ fl4 fun h5 fl5 up5 => ?_)
      have J5 : Inv X pins σ1 H1 { s1 with heap := h5 } := J.landed nb fl5.1 (up4.trans up5) osE agE
      obtain ⟨oe5, vs5, he5, hz5, hd5⟩ := fl5.there
      have S5 := J5.suite he5 hd5 na nL nF
      refine store_ok (X := X.suite a ((a, oe5) :: (X.pn ++ pins))) (v := .ref a) S5 hN hi lcl rfl (fun s6 S6 => ?_) (.inr hln)
      refine wpAny_mono ((hsu a oe5 cls d (X.pn ++ pins) hz5 ⟨_, hd5⟩).run [] s6 _ H1 _ S6 (yes rfl a na)) (fun fl s7 z => ?_) (fun _ _ z => False.elim z)
      have fin : ∀ {σ7 : L2.St} {H7 : Hp} {Q : Shared → Prop}, Inv (X.suite a ((a, oe5) :: (X.pn ++ pins))) [] σ7 H7 s7 → (∀ s8, Inv X pins (σ7.set i none) (upd H7 a (Exv a cls d)) s8 → Q s8) →
          wpAny (model X.prog X.w) X.A (do bindName X.env n .none; unbindBehindTheSuite X.env n pos') (fun _ s8 => Q s8) X.xe s7 := fun {σ7 H7 Q} S7 hq => by
        obtain ⟨p1, p2, p3, p4, p5⟩ := S7.pin (a, oe5) (List.mem_append_left _ List.mem_cons_self)
        have J7 := S7.unsuite okX
        refine gone_ok (track J7 p2 n0 nL (fun x c e z => ?_) nP (exv_ok p1 hz5 hd5)) hN hi hln hq
        obtain ⟨v, oc, q1, q2⟩ := J7.cell x c e
        rw [z, p1] at q1; cases q1
        rw [hd5] at q2; cases q2
      cases fl with
      | next =>
        obtain ⟨σ7, H7, S7, q7⟩ := z
        exact fin S7 fun s8 J8 => ⟨_, _, J8, q7⟩
      | brk =>
        obtain ⟨σ7, H7, S7, q7⟩ := z
        exact fin S7 fun s8 J8 => ⟨_, _, J8, q7⟩
      | cont =>
        obtain ⟨σ7, H7, S7, q7⟩ := z
        exact fin S7 fun s8 J8 => ⟨_, _, J8, q7⟩
      | ret u =>
        obtain ⟨v7, σ7, H7, S7, r7, q7⟩ := z
        exact fin S7 fun s8 J8 => ⟨_, _, _, J8, r7, q7⟩
    | false =>
      show wpAny _ X.A (handleBy (.ref a) X.env []) _ _ _
      refine wpAny_handleBy_nil ?_
      obtain ⟨k1, k2, k3, oe, vs, T, oT, ts1, he, hz, hd, h1, hr⟩ := id fl4
      unfold PySem.passOn
      refine wpAny_bind (wpAny_field he hd h1 ?_)
      rw [if_neg (show ¬ ((Value.ref T == Value.none) = true) from by simp)]
      have last : wpAny (model X.prog X.w) X.A (setFlight (.ref a) X.env.frame) (fun _ s5 => wpAny (model X.prog X.w) X.A (throw (.ref a) : Sem Flow) (SP X pins D) X.xe s5) X.xe { s1 with heap := h3.push { cls := .type "tuple", data := .seq cs.toArray } } := by
        rw [hf]
        refine HandSPX.setFlight_upZ fl4 fun h5 hh5 up5 => wpAny_throw (tk _ _ ⟨a, B, sI, pins, σ1, H1, cls, d, rfl, J, nb, up4.trans up5, .inr (.inr (by rw [hs]; exact hh5)), na, osE, agE, no rfl⟩)
      first
        | exact wpAny_bind (wpAny_pure (wpAny_bind last))
        | exact wpAny_bind last
  · cases fl with
    | next =>
      obtain ⟨σ1, H1, J1, q⟩ := z
      exact wpAny_execs_nil ⟨σ1, H1, J1.ofTry okX, q⟩
    | brk =>
      obtain ⟨σ1, H1, J1, q⟩ := z
      exact ⟨σ1, H1, J1.ofTry okX, q⟩
    | cont =>
      obtain ⟨σ1, H1, J1, q⟩ := z
      exact ⟨σ1, H1, J1.ofTry okX, q⟩
    | ret u =>
      obtain ⟨v, σ1, H1, J1, r, q⟩ := z
      exact ⟨v, σ1, H1, J1.ofTry okX, r, q⟩
end
end Xc

/-! Xc3: held exceptions looked at; divmod -/
namespace Xc
open PySem PySem.Spec PySem.Calls PyProof.Rows L2 Rs
/-- what a class says when its instances are looked at -/
structure Lk (K : PySem.W.Frag) (C : Addr) : Prop where
  cl : (PySem.W.clsIn K C).isSome = true
  ga : PySem.W.findIn K (.ref C) "__getattribute__" = some (some (.builtin "BaseException.__getattribute__"))
  gg : PySem.W.findIn K (.ref C) "__getattr__" = some none
  bx : PySem.W.subIn K (.ref C) (.type "BaseException") = some true
  hd : PySem.W.hasDictIn K C = true
  ha : PySem.W.findIn K (.ref C) "__class__" = some (some (.builtin "object.__class__"))
  hn : PySem.W.specialIn K (.builtin "object.__class__") "__get__" = some (some (.builtin "getset_descriptor.__get__"))
  ht : PySem.W.takesIn K (.builtin "object.__class__") = some true
  hm : PySem.W.mroIn K C (.type "object") = some true
/-- held at a: an exception of the class at C, its fields fs in the dict at dx -/
structure Held (H : Hp) (a C dx : Addr) (fs : List (Str × V)) : Prop where
  ex : H a = some (Exv a (.ref C) (some dx))
  dk : H dx = some (.xd fs)
section
variable {X : Cx} {pins : List (Addr × Obj)} {σ : L2.St} {H : Hp} {s : Shared} {a C dx : Addr} {fs : List (Str × V)}
theorem held_inst (I : Inv X pins σ H s) (h : Held H a C dx fs) : ∃ (oe od : Obj) (mA : Str → Option Value), PySem.W.InstAt s.heap a oe C (some od) ∧ (∀ f, RelO (fs.lookup f) (mA f)) ∧ ∀ n : Str, PySem.W.lookIn n od = some (mA n) := by
  obtain ⟨oe, vs, h1, h2, h3⟩ := exv_at I.hok h.ex
  have hx : ObjOk X.prog X.w H s.heap dx (.xd fs) := I.hok dx _ h.dk
  obtain ⟨mA, hns, hr⟩ := hx
  obtain ⟨od, ho, hl⟩ := lookIn_ns hns
  exact ⟨oe, od, mA, ⟨h1, h2.1, by unfold PySem.W.notCls; rw [h3] <;> rfl, by rw [h2.2]; exact ho⟩, hr, hl⟩
/-- isinstance(e, c) of a held one -/
def rIsX (K : PySem.W.Frag) : List V → Hp → VK → Prop := fun xs H Q => ∃ (a C dx : Addr) (fs : List (Str × V)) (c : V) (u : Value) (b : Bool), xs = [.ref a, c] ∧ ClsV c u ∧ Lk K C ∧ Held H a C dx fs ∧ PySem.W.kitOne K (.ref C) u = some b ∧ Q (.bl b) H
theorem call_isX : CallR X (.builtin "isinstance") (rIsX X.K) := by
  intro pins s σ H xs us Q I r h
  obtain ⟨a, C, dx, fs, c, u, b, rfl, k, l, hh, e, q⟩ := h
  obtain ⟨u1, u2, rfl, r1, r2⟩ := vals2 r
  have e2 := k.eq r2
  subst e2
  cases (show u1 = Value.ref a from r1)
  obtain ⟨oe, od, mA, J, _, _⟩ := held_inst I hh
  exact PySem.W.kia_one (PySem.W.kitx_exc l.cl l.ga l.gg l.bx l.ha l.hn l.ht l.hm) I.kIn J e (fun z => nomatch z) fun tk => ⟨.bl b, H, I.tok tk, rfl, q⟩
/-- e.f of a held one -/
def tXv (K : PySem.W.Frag) (f : Str) (te : TE) : TE := fun σ H Q => te σ H fun x H1 => ∃ (a C dx : Addr) (fs : List (Str × V)) (v : V), x = .ref a ∧ Lk K C ∧ PySem.W.findIn K (.ref C) f = some none ∧ Held H1 a C dx fs ∧ fs.lookup f = some v ∧ Q v H1
theorem pe_xv {e : Expr} {te : TE} {pos : Pos} {n : Str} (he : PE X e te) (hb : attributeBase e n X.env (eval e X.env) = eval e X.env := by rfl) : PE X (.Attribute e n pos) (tXv X.K n te) := by
  refine ⟨fun pins s σ H Q I h => attr_of hb (thn (he.run pins s σ H _ I h) fun u s1 hh => ?_)⟩
  obtain ⟨x, H1, I1, rx, a, C, dx, fs, v, ex, l, hno, hd, lk, q⟩ := hh
  subst ex
  obtain rfl : u = Value.ref a := rx
  obtain ⟨oe, od, mA, J, hr, hl⟩ := held_inst I1 hd
  obtain ⟨u2, hu, ru⟩ := RelO.some_of (v := v) (o := mA n) (by rw [← lk]; exact hr n)
  exact HandSPX.exc_get I1.kIn J l.ga l.gg l.bx (PySem.W.findObj_own l.hd hno rfl (by rw [hl, hu])) (handed_of ru) ⟨v, H1, I1.tok _, ru, q⟩
/-- divmod of whole numbers -/
def rDm : List V → Hp → VK → Prop := fun xs H Q => ∃ (a b : Int), xs = [.int a, .int b] ∧ 0 < b ∧ b < 2 ^ 30 ∧ -(2 ^ 30) < a ∧ a < 2 ^ 30 ∧ ∀ p, H p = none → Q (.ref p) (upd H p (.tup [.int (a / b), .int (a % b)]))
theorem call_dm : CallR X (.builtin "divmod") rDm := by
  intro pins s σ H xs us Q I r h
  obtain ⟨a, b, rfl, h1, h2, h3, h4, q⟩ := h
  obtain ⟨u1, u2, rfl, r1, r2⟩ := vals2 r
  obtain ⟨t1, rfl⟩ := (show ∃ t, u1 = Value.int a t from r1)
  obtain ⟨t2, rfl⟩ := (show ∃ t, u2 = Value.int b t from r2)
  have hf : H s.heap.objs.size = none := I.hok.fresh (Nat.le_refl _)
  refine PyProof.Rows.divmod_int (by omega) ?_ (Or.inl (PyProof.noPylong_small (by omega)))
  have e1 : a.fdiv b = a / b := Int.fdiv_eq_ediv_of_nonneg _ (by omega)
  have e2 : a.fmod b = a % b := Int.fmod_eq_emod_of_nonneg _ (by omega)
  rw [e1, e2]
  refine ⟨.ref s.heap.objs.size, upd H s.heap.objs.size (.tup [.int (a / b), .int (a % b)]), I.laid (t' := s.toks + 1 + 1) (fun b o e => Heap.get?_push_of_some _ e) (Nat.le_refl _) ?_, rfl, q _ hf⟩
  exact ⟨by rw [sizeLine_eq]; simp, _, .cons ⟨_, rfl⟩ (.cons ⟨_, rfl⟩ .nil), ⟨_, Heap.get?_push_size _ rfl, rfl, _, rfl⟩⟩
end
end Xc
namespace Xc
open PySem PySem.Spec PySem.Calls PyProof.Rows L2 Rs
theorem ip_or {X : Cx} : PIp X .BitOr (ipI fun i j => Builtin.bitOr i j) := by
  intro pins s σ H x y v u Q I r1 r2 h
  obtain ⟨i, j, rfl, rfl, q⟩ := h
  obtain ⟨t, rfl⟩ := r1
  obtain ⟨t2, rfl⟩ := r2
  exact ior_int ⟨.int (Builtin.bitOr i j), H, I.tok _, ⟨_, rfl⟩, q⟩
end Xc

/-! Xc4: the end with tables of code objects, for promises kept while no text is under way -/
namespace Xc
open PySem PySem.Spec PySem.Calls PyProof.Rows L2 Rs LamX
/-- what is known at the law's call: the script, the tables -/
def headH (own : Bool) (a : Addr) (o : Obj) (ns : List Int) (ts : List Addr) : Hp := fun b => if own = true ∧ b = a then some (.frz o (.lst (ns.map V.int))) else if b ∈ ts then some (.tbl #[]) else none
theorem headH_some {own : Bool} {a b : Addr} {o : Obj} {ns : List Int} {ts : List Addr} {u : HO} (h : headH own a o ns ts b = some u) : (own = true ∧ b = a ∧ u = .frz o (.lst (ns.map V.int))) ∨ (b ∈ ts ∧ u = .tbl #[]) := by
  unfold headH at h
  split at h
  · rename_i z; exact .inl ⟨z.1, z.2, (Option.some.inj h).symm⟩
  · split at h
    · rename_i z; exact .inr ⟨z, (Option.some.inj h).symm⟩
    · cases h
theorem lawGT {P : Program} {w : World} {K : PySem.W.Frag} {mg mb : Str → Option Value} {k : Nat} {fa a : Addr} {fd : FuncData} {x : Str} {sp : Sp} {s : Shared} {vs : List Value} {ns : List Int} {cs : List (Addr × Addr)}
    (KX : K.In s.heap) (hm : s.heap.Ns mainGlobals mg) (hb : s.heap.Ns builtinsNs mb) (hbb : ∀ x : Str, x ≠ "__name__" → mb x = bootBuiltins x) (hlim : s.heap.NoLimit) (hg : s.gens = #[])
    (hT : ∀ p ∈ cs, s.heap.get? p.2 = some (PySem.W.tabObj #[])) (nT : ∀ p ∈ cs, K.lookup p.2 = none) (C : ∀ p ∈ cs, PySem.W.CodeHd s.heap p.1 p.2)
    (hbm : ∃ (bm : Addr) (ob : Obj), mg "__builtins__" = some (.ref bm) ∧ bm ≠ builtinsNs ∧ s.heap.get? bm = some ob ∧ ob.cls = .type "module" ∧ ob.dict = some builtinsNs ∧ ob.data = .plain)
    (ha : s.heap.get? a = some { cls := .type "list", data := .seq vs.toArray }) (hi : IntsAre vs ns) (hl : ns.length ≤ sizeLine) (hr : Room k callerA)
    (F : ∀ base : Heap, K.In base → base.Ns mainGlobals mg → (∀ p ∈ cs, TabB base mg p.1 p.2) → FnG P w K mg base k fa fd [x] sp) (hbind : ∀ (s : Shared) (u : Value), BindsTo s fd ⟨[u], []⟩ [(x, u)])
    (hsp : ∀ H : Hp, (∀ p ∈ cs, H p.2 = some (.tbl #[])) → SqL K H a (ns.map V.int) → sp [.ref a] H (fun v _ => v = .bl true) E0) :
    codeAny (model P w) callerA (.call (.ref fa) ⟨[.ref a], []⟩) (fun r s' => r = .ok (.ret (.bool true)) ∧ OldK s.heap s'.heap ∧ s'.os = s.os ∧ AllBare s'.gens) s := by
  have rv := vals_ints hi
  have lv := hi.length
  have tabOf : ∀ b : Addr, b ∈ cs.map (·.2) → s.heap.get? b = some (PySem.W.tabObj #[]) := fun b hb => by
    obtain ⟨p, hp, rfl⟩ := List.mem_map.mp hb
    exact hT p hp
  have aNot : a ∉ cs.map (·.2) := fun z => by
    have q := tabOf a z
    rw [ha] at q
    have d : Data.seq vs.toArray _ = Data.fields #[] := congrArg Obj.data (Option.some.inj q)
    cases d
  have key : ∀ own : Bool, (own = true → K.lookup a = none) → (own = false → ∃ o, K.lookup a = some o) →
      codeAny (model P w) callerA (.call (.ref fa) ⟨[.ref a], []⟩) (fun r s' => r = .ok (.ret (.bool true)) ∧ OldK s.heap s'.heap ∧ s'.os = s.os ∧ AllBare s'.gens) s := by
    intro own h1 h2
    have hS := fun {b : Addr} {u : HO} => headH_some (own := own) (a := a) (b := b) (o := { cls := .type "list", data := .seq vs.toArray }) (ns := ns) (ts := cs.map (·.2)) (u := u)
    have hTb : ∀ p ∈ cs, headH own a { cls := .type "list", data := .seq vs.toArray } ns (cs.map (·.2)) p.2 = some (.tbl #[]) := fun p hp => by
      have mp : p.2 ∈ cs.map (·.2) := List.mem_map_of_mem (f := (·.2)) hp
      unfold headH
      rw [if_neg (fun z => aNot (by rw [← z.2]; exact mp)), if_pos mp]
    generalize eH : headH own a { cls := .type "list", data := .seq vs.toArray } ns (cs.map (·.2)) = H at hS hTb
    -- an object that is neither a row nor a table is not tracked
    have noH : ∀ {b : Addr} {o : Obj}, s.heap.get? b = some o → (∀ xs n, o.data ≠ .seq xs n) → o.data ≠ .fields #[] → H b = none := fun {b o} e d1 d2 => by
      cases q : H b with
      | none => rfl
      | some u =>
        rcases hS q with ⟨_, rfl, _⟩ | ⟨hb2, _⟩
        · rw [ha] at e; cases e; exact absurd rfl (d1 _ _)
        · rw [tabOf b hb2] at e; cases e; exact absurd rfl d2
    have noD : ∀ {b : Addr} {o : Obj} {es : Array DictEntry} {n : Nat}, s.heap.get? b = some o → o.data = .dict es n → H b = none := fun {b o es n} e d =>
      noH e (fun xs n z => by rw [d] at z; cases z) (fun z => by rw [d] at z; cases z)
    have ns0 : ∀ {b : Addr} {m : Str → Option Value}, s.heap.Ns b m → (hidT s.heap H).Ns b m := fun {b m} ⟨o, es, n, e, d, r⟩ => ⟨o, es, n, hidT_get e (noD e d), d, r⟩
    have K0 : K.In (hidT s.heap H) := fun b o e => by
      refine hidT_get (KX b o e) ?_
      cases q : H b with
      | none => rfl
      | some u =>
        rcases hS q with ⟨z, rfl, _⟩ | ⟨hb2, _⟩
        · rw [h1 z] at e; cases e
        · obtain ⟨p, hp, rfl⟩ := List.mem_map.mp hb2
          rw [nT p hp] at e; cases e
    have hok : HOk P w H s.heap := fun b u q => by
      rcases hS q with ⟨_, rfl, rfl⟩ | ⟨hb2, rfl⟩
      · exact ⟨ha, by rw [List.length_map]; exact hl, vs, _, rv, ha⟩
      · exact tabOf b hb2
    obtain ⟨mc, q1, q2⟩ := hlim
    have M0 : Mod K mg (hidT s.heap H) := ⟨K0, ns0 hm, ⟨mb, ns0 hb, hbb⟩, mc, ns0 q1, q2⟩
    have TB : ∀ p ∈ cs, TabB (hidT s.heap H) mg p.1 p.2 := fun p hp => by
      have hTp := hT p hp
      refine ⟨?_, ?_, fun z => ?_⟩
      · obtain ⟨o, us, file, tf, flags, tg, inF, text, tt, e1, r1, r2, r3, rest⟩ := C p hp
        refine ⟨o, us, file, tf, flags, tg, inF, text, tt, hidT_get e1 (noH e1 (fun xs n z => by rw [r2] at z; cases z) fun z => ?_), r1, r2, r3, rest⟩
        rw [r2] at z; cases z; simp at r3
      · obtain ⟨bm, ob, b1, b2, b3, b4, b5, b6⟩ := hbm
        refine ⟨bm, ob, b1, b2, fun q => ?_, fun q => ?_, hidT_get b3 (noH b3 (fun xs n z => by rw [b6] at z; cases z) fun z => by rw [b6] at z; cases z), b4, b5, b6⟩
        · obtain ⟨o, es, n, e, d, _⟩ := hm
          rw [q, e] at b3; cases b3
          rw [d] at b6; cases b6
        · rw [q, hTp] at b3; cases b3; cases b6
      · obtain ⟨o, es, n, e, d, _⟩ := hm
        rw [z, hTp] at e; cases e; cases d
    have env : Env0 P w K mg (hidT s.heap H) callerA [] s H := ⟨rfl, M0, fun b o e => of_hidT e, Nat.le_of_eq (hidT_size _ _), trivial, fun b hb3 => (nomatch (show b ∈ ([] : List Addr) from hb3)), hok, .of_eq hg⟩
    have sq : SqL K H a (ns.map V.int) := by
      cases own with
      | true => exact Or.inl (Or.inr ⟨_, by rw [← eH]; exact if_pos ⟨rfl, rfl⟩⟩)
      | false =>
        obtain ⟨o, e⟩ := h2 rfl
        have e' := KX a o e
        rw [ha] at e'; cases e'
        exact Or.inr ⟨_, vs.toArray, _, e, rfl, rfl, rfl, by rw [List.size_toArray, lv]; exact hl, by simpa using rv⟩
    refine codeAny_mono ((F _ K0 (ns0 hm) TB).go callerA [] s H [.ref a] ⟨[.ref a], []⟩ [.ref a] _ E0 rfl hr env (hbind s (.ref a)) (.cons rfl .nil) (hsp H hTb sq)) fun r s' z => ?_
    match r, z with
    | .error _, z => exact z.elim
    | .ok .next, z => exact z.elim
    | .ok .brk, z => exact z.elim
    | .ok .cont, z => exact z.elim
    | .ok (.ret u), z =>
      obtain ⟨v, H', os, bare, un, hok', r', q⟩ := z
      cases (show v = .bl true from q)
      cases (show u = Value.bool true from r')
      have same : ∀ b o, b ∉ cs.map (·.2) → s.heap.get? b = some o → s'.heap.get? b = some o := fun b o nb e => by
        cases q : H b with
        | none => exact un.keep b o e q (fun z => nomatch z) (fun z => nomatch z)
        | some u =>
          rcases hS q with ⟨_, rfl, rfl⟩ | ⟨hb2, _⟩
          · rw [ha] at e; cases e
            obtain ⟨e2, _⟩ := hok' b _ (un.frzs b _ _ q)
            exact e2
          · exact absurd hb2 nb
      have grown : ∀ b ∈ cs.map (·.2), isCodeTable s.heap b ∧ ∃ more : Array Value, s'.heap.get? b = some (PySem.W.tabObj more) := fun b hb2 => by
        obtain ⟨p, hp, rfl⟩ := List.mem_map.mp hb2
        obtain ⟨more, q⟩ := un.tbls p.2 #[] (hTb p hp)
        exact ⟨((C p hp).tab (hT p hp)).isCodeTable, _, hok' p.2 _ q⟩
      refine ⟨rfl, ⟨fun b o e => ?_, fun b o e => ?_⟩, os, bare⟩
      · by_cases hb2 : b ∈ cs.map (·.2)
        · obtain ⟨g1, more, g2⟩ := grown b hb2
          rw [tabOf b hb2] at e; cases e
          exact .inr (.inl ⟨g1, rfl, #[], more, rfl, by rw [Array.empty_append]; exact g2⟩)
        · exact .inl (same b o hb2 e)
      · by_cases hb2 : b ∈ cs.map (·.2)
        · obtain ⟨_, more, g2⟩ := grown b hb2
          exact ⟨_, g2⟩
        · exact ⟨o, same b o hb2 e⟩
  cases hk : K.lookup a with
  | some o => exact key false (fun z => Bool.noConfusion z) (fun _ => ⟨o, hk⟩)
  | none => exact key true (fun _ => hk) (fun z => Bool.noConfusion z)
/-- a def whose code object is known by its place -/
structure FunC (K : PySem.W.Frag) (x qual : Str) (st : Stmt) (f : Addr) (fd : FuncData) (c : Addr) : Prop where
  ex : ∃ (oc : Value) (od : Option Addr) (kV doc pm : Value) (an : Option Addr) (ct : Value) (osl : Array (Option Value)),
    fd = PySem.W.fnOf x qual (defArgs st) (defBody st) (defScope st) .none kV doc pm an (.ref c) ct ∧ K.lookup f = some ⟨oc, od, .func (PySem.W.fnOf x qual (defArgs st) (defBody st) (defScope st) .none kV doc pm an (.ref c) ct), osl⟩ ∧ PySem.W.codeIn K (.ref c) qual = true
section
variable {P : Program} {w : World} {K : PySem.W.Frag} {mg : Str → Option Value} {base : Heap}
/-- such a def by its body, as FnG -/
theorem defGC {x qual : Str} {st : Stmt} {f c : Addr} {fd : FuncData} {N ps : List Str} {k : Nat} {sp : Sp} (F : FunC K x qual st f fd c) (S : FnScope N ps (defScope st)) (many : ∀ vs H Q E, sp vs H Q E → vs.length = ps.length)
    (body : ∀ (A : Around) (o : List Env) (s : Shared) (H : Hp) (vs : List V) (Q : VK) (E : XK), Clr A → Room k (A.deeper (envOfC qual (defScope st) s.heap.objs.size f (.ref c))) → sp vs H Q E →
      ∃ t, PSs (cxOf CX0 P w K mg base N qual (defScope st) f (.ref c) A o s H E).nox (defBody st) t ∧ t { nx := fun _ H' => Q .non H', rt := Q } (start N vs) H) : FnG P w K mg base (k + 1) f fd ps sp := by
  obtain ⟨oc, od, kV, doc, pm, an, ct, osl, rfl, lk, hcd⟩ := F.ex
  refine ⟨many, ?_⟩
  intro A o s H us a vs Q E cl r e0 hb rv hsp
  obtain ⟨t, ht, hq⟩ := body A o s H vs Q E cl (r.deeper _) hsp
  have inK : ∀ b ob, K.lookup b = some ob → s.heap.get? b = some ob := fun b ob e => (e0.bs b ob (e0.mod.kin b ob e)).1
  refine codeAny_call_function r.depth (inK _ _ lk) rfl S.co S.gen rfl (PySem.W.codeRec_of inK hcd) (hb _ _ _ _ ?_)
  have noL : s.heap.NoLimit := e0.mod.nolimit.keeps fun b ob e => (e0.bs b ob e).1
  refine wpAny_newFunctionEnv_cells S.kind ?_ ?_
  · rintro ⟨n, v⟩ hy
    rcases S.par n (List.of_mem_zip hy).1 with q | q
    · exact Or.inl q
    · exact Or.inr ⟨q, PySem.W.cellsFrom_some _ _ _ (Or.inl q)⟩
  · intro env he s1 x1
    subst he
    refine ⟨noL.keeps x1.toInCall.keep, codeAny_func ?_⟩
    have J := inv_start (CX := CX0) (mg := mg) (E := E) (qual := qual) S r.hd e0 (many _ _ _ _ hsp) rv x1
    refine wpAny_mono (ht.nox.run [] s1 _ H _ J hq) ?_ ?_
    · intro fl s2 h2
      cases fl with
      | next => obtain ⟨_, H2, J2, q2⟩ := h2; exact ⟨V.non, H2, J2.os, J2.bare, J2.base, J2.hok, rfl, q2⟩
      | ret u => obtain ⟨v, _, H2, J2, r2, q2⟩ := h2; exact ⟨v, H2, J2.os, J2.bare, J2.base, J2.hok, r2, q2⟩
      | brk => obtain ⟨_, _, _, q2⟩ := h2; exact q2.elim
      | cont => obtain ⟨_, _, _, q2⟩ := h2; exact q2.elim
    · intro e s2 h2; exact h2
end
/-- the end, the law's def by its facts, its code's tables known -/
theorem walkGT {l : PySem.W.OpenLaw} {n k : Nat} {q : Program} {loose : List Str} {XP : (Str → Option Value) → Heap → Prop} {YP : World → Heap → Prop} {d : DefRec} {K : Params → PySem.W.Frag} {sp : PySem.W.Frag → Sp} {st : Stmt} {x : Str} {ts : List Addr}
    (hn : l.most = some n) (hn2 : n ≤ sizeLine) (hdf : d.params.defaults = []) (hr : Room k callerA) (hY : ∀ (w : World) (h : Heap), YP w h → (K w.params).In h) (hY2 : ∀ (w : World) (h : Heap), YP w h → ∀ p ∈ ts, h.get? p = some (PySem.W.tabObj #[])) (hx : d.name = "law")
    (hb : ∀ (kV doc pm : Value) (an : Option Addr) (cdv ct u : Value), bindArgs (PySem.W.fnOf "law" "law" (defArgs st) (defBody st) (defScope st) .none kV doc pm an cdv ct) ⟨[u], []⟩ = pure [(x, u)])
    (F : ∀ (w : World) (mg : Str → Option Value) (h : Heap), (K w.params).In h → h.Ns mainGlobals mg → ∃ cs : List (Addr × Addr), cs.map (·.2) = ts ∧ (∀ p ∈ cs, (K w.params).lookup p.2 = none) ∧ (∀ p ∈ cs, PySem.W.codeHdIn (K w.params) p.1 p.2 = true) ∧
      ∃ (fa : Addr) (fd : FuncData), Cal (K w.params) mg "law" st [x] fa fd ∧ ∀ base : Heap, (∀ p ∈ cs, TabB base mg p.1 p.2) → FnG l.prog w (K w.params) mg base k fa fd [x] (sp (K w.params)))
    (hsp : ∀ (K : PySem.W.Frag) (H : Hp) (a : Addr) (ns : List Int), ns.length ≤ n → (∀ z ∈ ns, Builtin.Int.intBits z ≤ 1048576) → (∀ p ∈ ts, H p = some (.tbl #[])) → SqL K H a (ns.map V.int) → sp K [.ref a] H (fun v _ => v = .bl true) E0) :
    PySem.W.WalkO q loose XP YP l.row.toRowW d [] (fun f vs => PySem.call f vs) := by
  apply Att.attach_callB hn hdf
  intro w s0 s1 mg mb fa o pm cd doc a vs ns G Y ho hd hcd hmg hobj hints hlen hbits hg
  have KX := hY w _ Y
  obtain ⟨cs, ec, nT, cT, f, fd, C, ok⟩ := F w mg _ KX G.T.g
  subst ec
  rw [hx] at hmg
  have e := C.m.symm.trans hmg
  cases e
  obtain ⟨oc, od, kV, doc2, pm2, an2, cdv, ct, osl, rfl, lk, hcd2⟩ := C.F.ex
  exact lawGT (cs := cs) KX G.T.g G.T.b G.T.builtins G.T.nolimit hg (fun p hp => hY2 w _ Y _ (List.mem_map_of_mem (f := (·.2)) hp)) nT (fun p hp => PySem.W.codeHd_of_K KX (cT p hp)) G.T.bmain hobj hints (Nat.le_trans hlen hn2) hr (fun base _ _ TB => ok base TB) (fun s u => .of_eq (hb kV doc2 pm2 an2 cdv ct u)) fun H hH hS => hsp _ H a ns hlen hbits (fun P hP => by obtain ⟨p, hp, rfl⟩ := List.mem_map.mp hP; exact hH p hp) hS
end Xc

/-! Xc5: readings for own exceptions -/
namespace Xc
open PySem PySem.Spec PySem.Calls PyProof.Rows L2 Rs
/-- __init__(self, x) that stores x as f -/
def spInit1 (C : Addr) (f : Str) : Sp := fun vs H Q _ => ∃ (a : Addr) (v : V), vs = [.ref a, v] ∧ H a = some (exo a C none) ∧ ∀ dx, H dx = none → dx ≠ a → Q .non (upd (upd H dx (exd dx [(f, v)])) a (exo a C (some dx)))
theorem del_eq {H : Hp} {a d : Addr} {o1 o2 o3 o4 : HO} (ha : H a = none) (ne : d ≠ a) : upd (del (upd (upd (upd H a o1) d o2) a o3) a) d o4 = upd H d o4 := by
  funext b
  by_cases hb : b = d
  · subst hb; rw [upd_same, upd_same]
  · rw [upd_ne hb, upd_ne hb]
    by_cases h2 : b = a
    · subst h2; rw [del_same, ha]
    · rw [del_ne h2, upd_ne h2, upd_ne hb, upd_ne h2]
section
variable {σ : L2.St} {H H0 : Hp} {M : List Addr} {L : Led} {Q : VK} {K : PySem.W.Frag} {C : Addr} {f : Str} {x : V} {XQ : XK}
theorem rd_mk1 (k : ∀ d, H d = none → XQ (.ref C) (some d) (upd H d (.xd [(f, x)]))) : [x].length ≤ 1000 ∧ ∀ a, H a = none → spInit1 C f (.ref a :: ([x] ++ [])) (upd H a (exo a C none))
    (fun v H2 => v = .non ∧ ∃ (d : Addr) (fs : List (Str × V)), H2 a = some (exo a C (some d)) ∧ H2 d = some (exd d fs) ∧ H d = none ∧ XQ (.ref C) (some d) (upd (del H2 a) d (.xd fs))) (fun _ _ _ => False) := by
  refine ⟨by simp, fun a ha => ⟨a, x, rfl, upd_same, fun dx n1 n2 => ⟨rfl, dx, [(f, x)], upd_same, ?_, ?_, ?_⟩⟩⟩
  · rw [upd_ne n2, upd_same]
  · rw [upd_ne n2] at n1; exact n1
  · rw [del_eq ha n2]
    rw [upd_ne n2] at n1
    exact k dx n1
theorem rd_tmk {sp : Sp} {dvs : List V} {ta : TA} (h : ta σ H fun vs H1 => vs.length ≤ 1000 ∧ ∀ a, H1 a = none → sp (.ref a :: (vs ++ dvs)) (upd H1 a (exo a C none))
    (fun v H2 => v = .non ∧ ∃ (d : Addr) (fs : List (Str × V)), H2 a = some (exo a C (some d)) ∧ H2 d = some (exd d fs) ∧ H1 d = none ∧ XQ (.ref C) (some d) (upd (del H2 a) d (.xd fs))) (fun _ _ _ => False)) : tMkO C sp dvs ta σ H XQ := h
theorem rd_dm {a b : Int} (S : Hs H0 M H L) (h1 : 0 < b) (h2 : b < 2 ^ 30) (h3 : -(2 ^ 30) < a) (h4 : a < 2 ^ 30) (h : ∀ p H', H0 p = none → Hs H0 M H' ((p, .tup [.int (a / b), .int (a % b)]) :: L) → Q (.ref p) H') : rDm [.int a, .int b] H Q := ⟨a, b, rfl, h1, h2, h3, h4, rd_newO S h⟩
theorem rd_isX {a dx : Addr} {fs : List (Str × V)} {c : V} {u : Value} {b : Bool} (S : Hs H0 M H L) (m1 : (a, Exv a (.ref C) (some dx)) ∈ L) (m2 : (dx, HO.xd fs) ∈ L) (l : Lk K C) (hc : ClsV c u) (e : PySem.W.kitOne K (.ref C) u = some b) (h : Q (.bl b) H) : rIsX K [.ref a, c] H Q :=
  ⟨a, C, dx, fs, c, u, b, rfl, hc, l, ⟨S.is _ m1, S.is _ m2⟩, e, h⟩
theorem rd_xv {te : TE} (h : te σ H fun x H1 => ∃ (a C dx : Addr) (fs : List (Str × V)) (v : V), x = .ref a ∧ Lk K C ∧ PySem.W.findIn K (.ref C) f = some none ∧ Held H1 a C dx fs ∧ fs.lookup f = some v ∧ Q v H1) : tXv K f te σ H Q := h
theorem rd_put1 {B newId initId : String} {bmB : List Value} {to te : TE} {D : Ends} (h : te σ H fun y H1 => to σ H1 fun x H2 => ∃ a C : Addr, x = .ref a ∧ Own K C B newId initId bmB ∧ PySem.W.takerIn K C f = some none ∧
  ((H2 a = some (exo a C none) ∧ ∀ dx, H2 dx = none → dx ≠ a → D.nx σ (upd (upd H2 dx (exd dx [(f, y)])) a (exo a C (some dx)))) ∨
    ∃ (dx : Addr) (fs : List (Str × V)), H2 a = some (exo a C (some dx)) ∧ H2 dx = some (exd dx fs) ∧ fs.length ≤ 900 ∧ D.nx σ (upd H2 dx (exd dx ((f, y) :: fs))))) : tPut K B newId initId bmB f to te D σ H := h
theorem rd_slVx {a : Addr} {xs : List V} {lo hi : Option Int} (S : Hs H0 M H L) (m : (a, HO.lst xs) ∈ L) (h : ∀ p H', H0 p = none → Hs H0 M H' ((p, .lst (cutV xs lo hi)) :: L) → Q (.ref p) H') : rSlL K (.ref a) lo hi H Q :=
  ⟨a, xs, rfl, S.lst m, rd_newO S h⟩
theorem rd_bi {B newId initId : String} {bmB : List Value} {ta : TA} (h : ta σ H fun vs H1 => ∃ (a C : Addr) (ws : List V), vs = .ref a :: ws ∧ ws.length ≤ 1000 ∧ Own K C B newId initId bmB ∧ H1 a = some (exo a C none) ∧ Q .non H1) : tBI K B newId initId bmB ta σ H Q := h
end
end Xc
namespace Xc
open PySem PySem.Spec PySem.Calls PyProof.Rows L2 Rs
theorem rd_xvV {H H0 : Hp} {M : List Addr} {L : Led} {K : PySem.W.Frag} {C : Addr} {f : Str} {a dx : Addr} {fs : List (Str × V)} {v : V} {R : V → Prop} (S : Hs H0 M H L) (m1 : (a, Exv a (.ref C) (some dx)) ∈ L) (m2 : (dx, HO.xd fs) ∈ L) (l : Lk K C) (n : PySem.W.findIn K (.ref C) f = some none) (e : fs.lookup f = some v) (h : R v) :
    ∃ (a' C dx : Addr) (fs : List (Str × V)) (v : V), V.ref a = .ref a' ∧ Lk K C ∧ PySem.W.findIn K (.ref C) f = some none ∧ Held H a' C dx fs ∧ fs.lookup f = some v ∧ R v := ⟨a, C, dx, fs, v, rfl, l, n, ⟨S.is _ m1, S.is _ m2⟩, e, h⟩
/-- the slots' number is known of what flies -/
theorem takes_len {X : Cx} {W : WX} (t : Takes X W) : Takes X (fun cls d σ H => σ.length = X.N.length → W cls d σ H) := fun u s' ⟨a, B, sI, pins, σ, H, cls, d, e, I, nb, up, sky, na, os, ag, w⟩ =>
  t u s' ⟨a, B, sI, pins, σ, H, cls, d, e, I, nb, up, sky, na, os, ag, w I.len⟩
end Xc

/-! Xc6: repr of (text, thing), the thing data or an empty dict -/
namespace Xc
open PySem PySem.Spec PySem.Calls PyProof.Rows L2 Rs
/-- data, or an empty dict -/
inductive Tq (K : PySem.W.Frag) (H : Hp) : V → PyData → Prop where
  | dp {v : V} {d : PyData} (h : Dp K H v d) : Tq K H v d
  | emp {a : Addr} (h : H a = some (.dK [])) : Tq K H (.ref a) (.dict [])
section
variable {X : Cx} {pins : List (Addr × Obj)} {σ : L2.St} {H : Hp} {s : Shared}
theorem Tq.reads (I : Inv X pins σ H s) {v : V} {d : PyData} {u : Value} (h : Tq X.K H v d) (r : RelV v u) : ∃ as, Reads s.heap u d as ∧ (d.hasDict = true → sysModules ∉ as) := by
  cases h with
  | dp h =>
    obtain ⟨as, q⟩ := Dp.reads I d v u h r
    exact ⟨as, q, PyData.noDict_hsm (dp_noDict d v h)⟩
  | @emp a h =>
    cases (show u = Value.ref a from r)
    obtain ⟨_, ns, vs, kv, o, es, ep, e1, e2, e3, _, e5, _⟩ := dk_of I.hok h
    cases kv
    have e6 := Pairs.length e5
    have e7 : es.toList = [] := List.eq_nil_of_length_eq_zero e6
    refine ⟨[a] ++ [], ?_, fun _ hm => ?_⟩
    · have z := Reads.dict (kvs := []) (as := []) (bs := []) e1 e2.1 e3 (by rw [e7]; exact .nil) (by rw [e7]; exact .nil)
      exact z
    · have : sysModules = a := by simpa using hm
      rw [this] at ns
      simp at ns
/-- repr((text, thing)) -/
def rReprP (K : PySem.W.Frag) : List V → Hp → VK → Prop := fun xs H Q => ∃ (p : Addr) (t : Str) (v : V) (d : PyData), xs = [.ref p] ∧ SqT K H p [.str t, v] ∧ Tq K H v d ∧ Shw (.tuple [.str t, d]) ∧ (PyData.tuple [.str t, d]).depth ≤ 50 ∧ Q (.str (PyData.tuple [.str t, d]).shown) H
theorem call_reprP {k : Nat} (c : Clr X.A) (hr : Room k X.A) : CallR X (.builtin "repr") (rReprP X.K) := by
  intro pins s σ H xs us Q I r h
  obtain ⟨p, t, v, d, rfl, hs, hq, sw, dp, q⟩ := h
  cases r with
  | cons r1 r2 =>
    cases r2
    rename_i u
    cases (show u = Value.ref p from r1)
    obtain ⟨its, rv, ⟨o, ho, hc, n, hd⟩, _⟩ := I.tuple hs
    obtain ⟨u1, u2, rfl, q1, q2⟩ := vals2 rv
    obtain ⟨tk, rfl⟩ := (show ∃ tk, u1 = Value.str t tk from q1)
    obtain ⟨as, rd, hm⟩ := hq.reads I q2
    have rd2 : Reads s.heap (.ref p) (.tuple [.str t, d]) ([] ++ (as ++ [])) := Reads.tuple ho hc hd (.cons (.str t tk) (.cons rd .nil))
    have un := hr.units
    refine repr_of_reads' (s := s) rd2 sw.ok (fun z => ?_) c (by omega) (fun _ _ e => e) (fun h' t2 tk2 kp => ⟨.str _, H, I.kept kp, ⟨t2, rfl⟩, q⟩) sw.sz
    simp only [PyData.hasDict, PyData.hasDictAll, Bool.false_or, Bool.or_false] at z
    simpa using hm z
end
theorem rd_reprP {K : PySem.W.Frag} {H H0 : Hp} {M : List Addr} {L : Led} {Q : VK} {p : Addr} {t : Str} {v : V} {d : PyData} (S : Hs H0 M H L) (m : (p, HO.tup [.str t, v]) ∈ L) (h : Tq K H v d) (sw : Shw (.tuple [.str t, d])) (dp : (PyData.tuple [.str t, d]).depth ≤ 50)
    (k : Q (.str (PyData.tuple [.str t, d]).shown) H) : rReprP K [.ref p] H Q := ⟨p, t, v, d, rfl, S.tup m, h, sw, dp, k⟩
end Xc
namespace Xc
open PySem PySem.Spec PySem.Calls PyProof.Rows L2 Rs
section
variable {σ : L2.St} {H H0 : Hp} {M : List Addr} {L : Led} {Q : VK}
theorem rd_lstRg {te : L2.St → Hp → (Int → Int → Hp → Prop) → Prop} (h : te σ H fun a b H1 => RgOk a b ∧ ∀ q, H1 q = none → Q (.ref q) (upd H1 q (.lst (rgV a b)))) : tLstRg te σ H Q := h
theorem rd_rg1 {ta : TE} {R : Int → Int → Hp → Prop} (h : ta σ H fun x H1 => ∃ n, x = .int n ∧ R 0 n H1) : tRg1 ta σ H R := h
theorem rd_rg1v {n : Int} {R : Int → Prop} (h : R n) : ∃ m, V.int n = .int m ∧ R m := ⟨n, rfl, h⟩
theorem rd_rgNew {a b : Int} (S : Hs H0 M H L) (h1 : 0 ≤ a) (h2 : b ≤ 16777216) (h3 : a ≤ 16777216) (h4 : 0 ≤ b) (h : ∀ p H', H0 p = none → Hs H0 M H' ((p, .lst (rgV a b)) :: L) → Q (.ref p) H') : RgOk a b ∧ ∀ q, H q = none → Q (.ref q) (upd H q (.lst (rgV a b))) :=
  ⟨RgOk.of_le h1 h2 h3 h4, rd_newO S h⟩
end
end Xc

/-! Xc7: great numbers shown, dicts of plain pairs shown, truths counted, truths as numbers, ledgers begun anew -/
namespace Xc
open PySem PySem.Spec PySem.Calls PyProof.Rows L2 Rs
def Stat (K : PySem.W.Frag) : Prop := PySem.W.nsIn K cStatics "sys.int_max_str_digits" = some none
section
variable {prog : Program} {w : World} {A : Around} {E : Value → Shared → Prop} {s : Shared} {K : PySem.W.Frag}
/-- a whole number of less than 4300 figures that is no matter of _pylong -/
structure Fig (i : Int) : Prop where
  a : i.natAbs < 10 ^ 4300
  b : i.natAbs.log2 < 29000
theorem over_run {M : Model} {i : Int} {Q : Option Nat → Shared → Prop} (X : K.In s.heap) (st : Stat K) (f : Fig i) (q : Q none s) : wpAny M A (Builtin.overDigitLimit? i) Q E s := by
  unfold Builtin.overDigitLimit?
  by_cases h0 : i.natAbs.log2 < 1920
  · rw [if_pos h0]; exact wpAny_pure q
  · rw [if_neg h0]
    refine wpAny_bind ?_
    unfold Builtin.intMaxStrDigits
    refine wpAny_bind ((PySem.W.looks_nsIn X st).here ?_)
    refine wpAny_pure ?_
    have hb := f.b
    have h1 : ¬ (i.natAbs.log2 / 30 + 1 > 1000) := by omega
    dsimp only
    rw [if_neg h1]
    by_cases h2 : ((4300 : Nat) == 0 || decide (i.natAbs.log2 < 3 * 4300)) = true
    · rw [if_pos (by simpa using h2)]; exact wpAny_pure q
    · rw [if_neg (by simpa using h2), if_neg (Nat.not_le.mpr f.a)]; exact wpAny_pure q
theorem gives_big (i : Int) (t : Tok) (st : Stat K) (f : Fig i) : GivesAt (fun s => K.In s.heap) (Builtin.«int.__repr__» ⟨[.int i t], []⟩) (.str (toString i)) := by
  intro prog w A R s X h
  unfold Builtin.«int.__repr__»
  show wpAny _ _ (do let r ← Builtin.overDigitLimit? i; _) _ _ _
  refine wpAny_bind (over_run X st f ?_)
  exact (Gives.of_eq rfl : Gives _ (.str (toString i))) prog w A R s h
theorem reprObj_big {i : Int} {t : Tok} {Q : Value → Shared → Prop} (X : K.In s.heap) (st : Stat K) (f : Fig i) (hu : A.units < cLine) (h : Q (.str (toString i) s.toks) { s with toks := s.toks + 1 }) : wpAny (model prog w) A (pyReprObj (.int i t)) Q E s :=
  wpAny_pyReprObj_slot hu (typeIs_int s i t) F.slot_int_repr.toG (call_givesAt F.slot_int_repr (typeIs_int s i t) F.entry_int_repr (F.args_int_repr_1 _) (gives_big i t st f) X ⟨int_text_fits10 f.a, _, _, rfl, h⟩)
theorem reprK_big {as : List Addr} {h₀ : Heap} {d : Nat} {i : Int} {t : Tok} (X : K.In h₀) (st : Stat K) (f : Fig i) : ReprK prog w as h₀ d (.int i t) (toString i) := fun base hb A g E s Q hg hcl hu hk hQ => by
  have hn' : base ≤ sizeLine := by omega
  rw [pyReprUnder_leaf (v := .int i t) hn' (fun _ e => nomatch e)]
  unfold pyRepr
  exact wpAny_bind (reprObj_big (X.keeps hk) st f (by omega) (wpAny_pure (hQ s.heap _ fun _ _ e => e)))
end
/-! ### what is shown -/
/-- plain: no place in the heap -/
def plD : V → Option PyData
  | .non => some .none
  | .bl b => some (.bool b)
  | .int i => some (.int i)
  | .str x => some (.str x)
  | _ => none
def keyD : Key → PyData
  | .inl i => .int i
  | .inr x => .str x
inductive PlKv : List (Key × V) → List (PyData × PyData) → Prop where
  | nil : PlKv [] []
  | cons {k : Key} {v : V} {d : PyData} {kv : List (Key × V)} {kds : List (PyData × PyData)} : plD v = some d → PlKv kv kds → PlKv ((k, v) :: kv) ((keyD k, d) :: kds)
theorem plD_reads {h : Heap} {v : V} {d : PyData} {u : Value} (e : plD v = some d) (r : RelV v u) : Reads h u d [] := by
  cases v with
  | non => cases e; cases (show u = Value.none from r); exact .none
  | bl b => cases e; cases (show u = Value.bool b from r); exact .bool b
  | int i => cases e; obtain ⟨t, rfl⟩ := (show ∃ t, u = Value.int i t from r); exact .int i t
  | str x => cases e; obtain ⟨t, rfl⟩ := (show ∃ t, u = Value.str x t from r); exact .str x t
  | _ => cases e
theorem plKv_reads {P : Program} {w : World} {h : Heap} : ∀ {kv : List (Key × V)} {kds : List (PyData × PyData)} {vs : List (Key × Value)} {es : List DictEntry}, PlKv kv kds → KV kv vs → Pairs (mixKind P w) es vs →
    ReadsAll h (es.map (·.key)) (kds.map (·.1)) [] ∧ ReadsAll h (es.map (·.val)) (kds.map (·.2)) []
  | _, _, _, _, .nil, .nil, .nil => ⟨.nil, .nil⟩
  | _, _, _, _, .cons (k := k) e p, .cons ⟨e1, r⟩ q, .cons hk hv rest => by
    obtain ⟨h1, h2⟩ := plKv_reads p q rest
    refine ⟨?_, ?_⟩
    · refine ReadsAll.cons (as := []) (bs := []) ?_ h1
      dsimp only at e1
      rw [← e1] at hk
      rcases keyIs_shape hk with ⟨i, t, e2, e3⟩ | ⟨x, t, e2, e3⟩
      · show Reads h _ (keyD k) []
        rw [e2]; dsimp only; rw [e3]; exact .int i t
      · show Reads h _ (keyD k) []
        rw [e2]; dsimp only; rw [e3]; exact .str x t
    · refine ReadsAll.cons (as := []) (bs := []) ?_ h2
      dsimp only
      rw [hv]
      exact plD_reads e r
/-- data without dicts, a dict of plain pairs, a great number -/
inductive Tz (K : PySem.W.Frag) (H : Hp) : V → PyData → Prop where
  | dp {v : V} {d : PyData} (h : Dp K H v d) (s : d.showable = true) : Tz K H v d
  | dk {a : Addr} {kv : List (Key × V)} {kds : List (PyData × PyData)} (h : H a = some (.dK kv)) (p : PlKv kv kds) (s : (PyData.dict kds).showable = true) : Tz K H (.ref a) (.dict kds)
  | big {i : Int} (f : Fig i) : Tz K H (.int i) (.int i)
section
variable {X : Cx} {pins : List (Addr × Obj)} {σ : L2.St} {H : Hp} {s : Shared}
theorem Tz.shows (I : Inv X pins σ H s) (st : Stat X.K) {v : V} {d : PyData} {u : Value} (h : Tz X.K H v d) (r : RelV v u) (hz : d.shown.length ≤ sizeLine) (hd : d.depth ≤ 50) :
    ∃ bs, ReadAtMost s.heap d.depth bs ∧ ReprK X.prog X.w bs s.heap 50 u d.shown := by
  cases h with
  | dp h sw =>
    obtain ⟨as, q⟩ := Dp.reads I d v u h r
    obtain ⟨bs, h1, h2⟩ := ReprK.of_reads (prog := X.prog) (w := X.w) q sw (PyData.noDict_hsm (dp_noDict d v h)) hz
    exact ⟨bs, h1, h2.level_le hd⟩
  | @dk a kv kds h p sw =>
    cases (show u = Value.ref a from r)
    obtain ⟨_, ns, vs, kv', o, es, ep, e1, e2, e3, _, e5, _⟩ := dk_of I.hok h
    obtain ⟨r1, r2⟩ := plKv_reads (h := s.heap) p kv' e5
    have q : Reads s.heap (.ref a) (.dict kds) ([a] ++ [] ++ []) := Reads.dict (as := []) (bs := []) e1 e2.1 e3 r1 r2
    obtain ⟨bs, h1, h2⟩ := ReprK.of_reads (prog := X.prog) (w := X.w) q sw (fun _ hm => by
      have z : sysModules = a := by simpa using hm
      rw [z] at ns
      simp at ns) hz
    exact ⟨bs, h1, h2.level_le hd⟩
  | @big i f =>
    obtain ⟨t, rfl⟩ := (show ∃ t, u = Value.int i t from r)
    exact ⟨[], fun _ h => (nomatch h), by simp only [PyData.shown]; exact reprK_big I.kIn st f⟩
/-- repr((text, thing)) -/
def rReprZ (K : PySem.W.Frag) : List V → Hp → VK → Prop := fun xs H Q => ∃ (p : Addr) (t : Str) (v : V) (d : PyData), xs = [.ref p] ∧ SqT K H p [.str t, v] ∧ Tz K H v d ∧ (PyData.tuple [.str t, d]).shown.length ≤ sizeLine ∧ d.depth ≤ 30 ∧ Q (.str (PyData.tuple [.str t, d]).shown) H
theorem call_reprZ {k : Nat} (st : Stat X.K) (c : Clr X.A) (hr : Room k X.A) : CallR X (.builtin "repr") (rReprZ X.K) := by
  intro pins s σ H xs us Q I r h
  obtain ⟨p, t, v, d, rfl, hs, hq, sw, dp, q⟩ := h
  cases r with
  | cons r1 r2 =>
    cases r2
    rename_i u
    cases (show u = Value.ref p from r1)
    obtain ⟨its, rv, ⟨o, ho, hc, n, hd⟩, _⟩ := I.tuple hs
    obtain ⟨u1, u2, rfl, q1, q2⟩ := vals2 rv
    obtain ⟨tk, rfl⟩ := (show ∃ tk, u1 = Value.str t tk from q1)
    have un := hr.units
    have sz := sw
    rw [show (PyData.tuple [.str t, d]).shown = tupleText [reprText t, d.shown] by simp [PyData.shown, PyData.shownAll]] at sz q
    have z1 := Nat.le_trans (tupleText_mem_le (ts := [reprText t, d.shown]) (t := reprText t) (by simp)) sz
    have z2 := Nat.le_trans (tupleText_mem_le (ts := [reprText t, d.shown]) (t := d.shown) (by simp)) sz
    obtain ⟨bs, hb, rk⟩ := hq.shows I st q2 z2 (by omega)
    have hall : ReprAllK X.prog X.w bs s.heap 50 [.str t tk, u2] [reprText t, d.shown] := .cons (ReprK.of_is (ReprIs.str t tk z1) _ _ _) (.cons rk .nil)
    have hna : p ∉ bs := fun hm => by
      obtain ⟨d', as', r', hd'⟩ := hb p hm
      cases r' with
      | list h1 h2 h3 h4 => rw [ho] at h1; cases h1; rw [hc] at h2; exact absurd (Value.type.inj h2) (by decide)
      | dict h1 h2 h3 h4 h5 => rw [ho] at h1; cases h1; rw [hc] at h2; exact absurd (Value.type.inj h2) (by decide)
      | @tuple a' o' vs' n' xs' as' h1 h2 h3 h4 =>
        rw [ho] at h1; cases h1
        rw [hd] at h3; cases h3
        cases h4 with
        | cons ra rb =>
          cases rb with
          | cons rc rd =>
            cases rd
            have e9 : ∃ dd aa, Reads s.heap u2 dd aa ∧ dd.depth < d.depth := ⟨_, _, rc, by
              simp only [PyData.depth, PyData.depthAll] at hd'
              omega⟩
            obtain ⟨dd, aa, e10, e11⟩ := e9
            cases hq with
            | dp h _ =>
              obtain ⟨as, q9⟩ := Dp.reads I d v u2 h q2
              have := (PyProof.Rows.reads_det (fun _ _ e _ => e) q9 e10).1
              rw [this] at e11; omega
            | dk h p _ =>
              cases (show u2 = Value.ref _ from q2)
              obtain ⟨_, ns, vs, kv', o, es, ep, e1, e2, e3, _, e5, _⟩ := dk_of I.hok h
              obtain ⟨r1, r2⟩ := plKv_reads (h := s.heap) p kv' e5
              have q9 := Reads.dict (as := []) (bs := []) e1 e2.1 e3 r1 r2
              have := (PyProof.Rows.reads_det (fun _ _ e _ => e) q9 e10).1
              rw [this] at e11; omega
            | big f => simp only [PyData.depth] at e11; omega
    refine call_repr_slot (by omega) ⟨o, ho, hc⟩ F.slot_tuple_repr ?_
    exact call_tuple_reprK ho hc hd hna hall c (fun b _ => Clear.nil b) (by show X.A.units + 1 + (50 + 1) < cLine; omega) (fun _ _ e => e) (fun h' t2 tk2 kp => ⟨_, _, rfl, ⟨.str _, H, I.kept kp, ⟨t2, rfl⟩, q⟩⟩) sz
end
theorem rd_reprZ {K : PySem.W.Frag} {H H0 : Hp} {M : List Addr} {L : Led} {Q : VK} {p : Addr} {t : Str} {v : V} {d : PyData} (S : Hs H0 M H L) (m : (p, HO.tup [.str t, v]) ∈ L) (h : Tz K H v d) (sw : (PyData.tuple [.str t, d]).shown.length ≤ sizeLine) (dp : d.depth ≤ 30)
    (k : Q (.str (PyData.tuple [.str t, d]).shown) H) : rReprZ K [.ref p] H Q := ⟨p, t, v, d, rfl, S.tup m, h, sw, dp, k⟩
end Xc
namespace Xc
open PySem PySem.Spec PySem.Calls PyProof.Rows L2 Rs
/-! ### truths counted, truths as numbers -/
def rCntB (K : PySem.W.Frag) : V → List V → Hp → VK → Prop := fun x xs H Q => ∃ (p : Addr) (bs : List Bool) (k : Bool), x = .ref p ∧ xs = [.bl k] ∧ SqL K H p (bs.map V.bl) ∧ Q (.int (PySem.Spec.countIn (.bool k) (bs.map PyData.bool))) H
def b01 (b : Bool) : Int := if b = true then 1 else 0
section
variable {X : Cx}
theorem bools_read {h : Heap} : ∀ {bs : List Bool} {vs : List Value}, Vals (bs.map V.bl) vs → ReadsAll h vs (bs.map PyData.bool) []
  | [], _, .nil => .nil
  | b :: bs, _, .cons r q => by
    rename_i u vs
    cases (show u = Value.bool b from r)
    exact ReadsAll.cons (as := []) (bs := []) (.bool b) (bools_read q)
theorem mt_bcount : MtR X "list.count" (rCntB X.K) := by
  intro pins s σ H x xs v us Q I rx rxs h
  obtain ⟨p, bs, k, rfl, rfl, hs, q⟩ := h
  cases rx
  obtain ⟨u, rfl, ru⟩ := rxs.one
  cases (show u = Value.bool k from ru)
  obtain ⟨its, rv, ⟨o, n, ho, hc, hdn, hd⟩, hlen⟩ := I.list hs
  exact count_list_bools (hp := s.heap) ⟨o, ho, hc, n, hd⟩ (bools_read rv) (by simp [Shape.has]) ⟨.int _, H, I.tok _, ⟨_, rfl⟩, q⟩
def rBI (f : Int → Int → Int) : R2 := fun x y H Q => ∃ (b : Bool) (i : Int), x = .bl b ∧ y = .int i ∧ Q (.int (f (b01 b) i)) H
def rIB (f : Int → Int → Int) : R2 := fun x y H Q => ∃ (i : Int) (b : Bool), x = .int i ∧ y = .bl b ∧ Q (.int (f i (b01 b))) H
theorem op_addBI : OpR X (binaryOp .Add) (rBI (· + ·)) := by
  intro pins s σ H x y v u Q I rx ry h
  obtain ⟨b, i, rfl, rfl, q⟩ := h
  cases (show v = Value.bool b from rx)
  obtain ⟨t, rfl⟩ := (show ∃ t, u = Value.int i t from ry)
  exact PySem.IntBool.add_bool_int ⟨.int _, H, I.tok _, ⟨_, rfl⟩, q⟩
theorem op_mulIB : OpR X (binaryOp .Mult) (rIB (· * ·)) := by
  intro pins s σ H x y v u Q I rx ry h
  obtain ⟨i, b, rfl, rfl, q⟩ := h
  obtain ⟨t, rfl⟩ := (show ∃ t, v = Value.int i t from rx)
  cases (show u = Value.bool b from ry)
  exact PySem.IntBool.mul_int_bool ⟨.int _, H, I.tok _, ⟨_, rfl⟩, q⟩
end
section
variable {H H0 : Hp} {M : List Addr} {L : Led} {Q : VK} {a : Addr} {K : PySem.W.Frag} {σ : L2.St}
theorem rd_cntB {xs : List V} {bs : List Bool} {k : Bool} (S : Hs H0 M H L) (m : (a, HO.lst xs) ∈ L) (e : xs = bs.map V.bl) (h : Q (.int (PySem.Spec.countIn (.bool k) (bs.map PyData.bool))) H) : rCntB K (.ref a) [.bl k] H Q := by
  subst e
  exact ⟨a, bs, k, rfl, rfl, S.lst m, h⟩
theorem rd_bi2 {f : Int → Int → Int} {b : Bool} {i : Int} (h : Q (.int (f (b01 b) i)) H) : rBI f (.bl b) (.int i) H Q := ⟨b, i, rfl, rfl, h⟩
theorem rd_ib2 {f : Int → Int → Int} {b : Bool} {i : Int} (h : Q (.int (f i (b01 b))) H) : rIB f (.int i) (.bl b) H Q := ⟨i, b, rfl, rfl, h⟩
theorem rd_divB {i j : Int} {b : Nat} (hj : 0 < j) (hb : j.natAbs < 2 ^ b) (h0 : 0 < b) (h9 : b ≤ 9000) (h : Q (.int (i / j)) H) : rI CDivW (fun i j => .int (i / j)) (.int i) (.int j) H Q :=
  ⟨i, j, rfl, rfl, wide_div (b := b) hj hb h0 h9, h⟩
theorem rd_mulB {i j : Int} {a b : Nat} (ha : i.natAbs < 2 ^ a) (hb : j.natAbs < 2 ^ b) (h0 : 0 < a) (h1 : 0 < b) (h9 : a + b ≤ 1000000) (h : Q (.int (i * j)) H) : rI CMulW (fun i j => .int (i * j)) (.int i) (.int j) H Q :=
  ⟨i, j, rfl, rfl, wide_mul ha hb h0 h1 h9, h⟩
theorem rd_isBl {a b : Bool} (h : Q (.bl (decide (a = b))) H) : rIsB (.bl a) (.bl b) H Q := ⟨a, b, rfl, rfl, h⟩
theorem rd_notBl {a b : Bool} (h : Q (.bl (!decide (a = b))) H) : rNotB (.bl a) (.bl b) H Q := ⟨a, b, rfl, rfl, h⟩
/-- a ledger begun anew behind what leaves all but tables -/
theorem Hs.anew {H' : Hp} (S : Hs H0 M H L) (k : ∀ b o, H b = some o → (∀ ps, o ≠ .tbl ps) → H' b = some o) (nt : ∀ q ∈ L, ∀ ps, q.2 ≠ .tbl ps) : Hs H' (L.map (·.1)) H' L :=
  Rs.Hs.start H' _ L S.nd (fun q hq => k _ _ (S.is q hq) (nt q hq)) fun b hb z => by
    obtain ⟨q, hq, rfl⟩ := List.mem_map.mp hb
    rw [k _ _ (S.is q hq) (nt q hq)] at z
    cases z
end
end Xc

/-! Xc8: ledgers over all but tables; comprehensions whose steps change tables -/
namespace Xc
open PySem PySem.Spec PySem.Calls PyProof.Rows L2 Rs
/-- the heap less its tables -/
def noT (H : Hp) : Hp := fun b => match H b with | some (.tbl _) => none | o => o
theorem noT_some {H : Hp} {b : Addr} {o : HO} (e : H b = some o) (n : ∀ ps, o ≠ .tbl ps) : noT H b = some o := by
  unfold noT
  rw [e]
  cases o <;> first | rfl | exact absurd rfl (n _)
theorem noT_of {H : Hp} {b : Addr} {o : HO} (e : noT H b = some o) : H b = some o ∧ ∀ ps, o ≠ .tbl ps := by
  unfold noT at e
  split at e
  · cases e
  · rename_i h
    exact ⟨e, fun ps z => h ps (by rw [e, z])⟩
theorem noT_none {H : Hp} {b : Addr} (e : H b = none) : noT H b = none := by
  unfold noT
  rw [e]
section
variable {H H0 H1 H2 : Hp} {M : List Addr} {L : Led} {Q : VK} {K : PySem.W.Frag} {σ : L2.St}
theorem Hs.noT0 (H : Hp) : Hs (noT H) [] H [] := ⟨List.nodup_nil, fun q hq => (nomatch hq), fun b u e _ => (noT_of e).1, fun b hb => nomatch hb⟩
theorem Hs.begin (L : Led) (nd : (L.map (·.1)).Nodup) (is : ∀ q ∈ L, H q.1 = some q.2) : Hs (noT H) (L.map (·.1)) H L :=
  ⟨nd, is, fun b u e _ => (noT_of e).1, fun b hb z => by
    obtain ⟨q, hq, rfl⟩ := List.mem_map.mp hb
    rw [is q hq] at z
    cases z⟩
theorem Hs.extN (S : Hs (noT H0) M H1 L) (e : LamX.ExtN H1 H2) (nt : ∀ q ∈ L, ∀ ps, q.2 ≠ .tbl ps) (m : ∀ b ∈ M, b ∈ L.map (·.1)) : Hs (noT H0) M H2 L :=
  ⟨S.nd, fun q hq => e _ _ (S.is q hq) (nt q hq), fun b u eb hm => e _ _ (S.old b u eb hm) (noT_of eb).2, fun b hb z => by
    obtain ⟨q, hq, rfl⟩ := List.mem_map.mp (m b hb)
    rw [e _ _ (S.is q hq) (nt q hq)] at z
    cases z⟩
theorem Hs.toN (S : Hs (noT H0) [] H1 L) : LamX.ExtN H0 H1 := fun b o e n => S.old b o (noT_some e n) (fun z => nomatch z)
/-- what holds of the heap whatever lists are made or written -/
structure Lsts (J : Hp → Prop) : Prop where
  nw : ∀ H D, J H → H D = none → J (upd H D (.lst []))
  up : ∀ H D xs ys, J H → H D = some (.lst xs) → J (upd H D (.lst ys))
theorem tabs_upd {TT : List (Addr × Str)} {H : Hp} {D : Addr} {xs ys : List V} (h : LamX.Tabs TT H) (e : H D = some (.lst xs)) : LamX.Tabs TT (upd H D (.lst ys)) := fun p hp => by
  obtain ⟨ps, h1, h2, h3⟩ := h p hp
  have ne : ∀ b o, H b = some o → (∀ xs, o ≠ .lst xs) → upd H D (.lst ys) b = some o := fun b o eb n => by
    rw [upd_ne (fun z => n xs (by rw [z, e] at eb; exact (Option.some.inj eb).symm))]
    exact eb
  refine ⟨ps, ne _ _ h1 (fun _ z => by cases z), h2, fun pos cv hc => ?_⟩
  obtain ⟨c, e1, e2⟩ := h3 pos cv hc
  exact ⟨c, e1, ne _ _ e2 (fun _ z => by unfold LamX.CodeO at z; cases z)⟩
theorem lsts_tabs (TT : List (Addr × Str)) : Lsts (LamX.Tabs TT) :=
  ⟨fun H D h e => h.ext fun b u eb => by rw [upd_ne (ne_of_none eb e)]; exact eb, fun H D xs ys h e => tabs_upd h e⟩
def lcSkipJ (J : Hp → Prop) (H0 : Hp) (M : List Addr) (L : Led) (R1 : List V → Prop) (D : Addr) (H : Hp) : Prop := J H ∧ lcSkip H0 M L R1 D H
def lcPutJ (J : Hp → Prop) (H0 : Hp) (M : List Addr) (L : Led) (R1 : List V → Prop) (D : Addr) (y : V) (H : Hp) : Prop := ∃ acc, H D = some (.lst acc) ∧ acc.length < sizeLine ∧ lcSkipJ J H0 M L R1 D (upd H D (.lst (acc ++ [y])))
theorem rd_lcPutJ {J : Hp → Prop} {D : Addr} {y : V} {acc : List V} {L2 L3 : Led} {R1 : List V → Prop} (l : Lsts J) (j : J H) (S : Hs H0 M H L2) (c : Chg D (.lst acc) (.lst (acc ++ [y])) L2 L3) (n : H0 D = none) (hl : acc.length < sizeLine) (sub : ((D, HO.lst (acc ++ [y])) :: L).Sublist L3) (r : R1 (acc ++ [y])) : lcPutJ J H0 M L R1 D y H :=
  ⟨acc, S.is _ c.mem, hl, l.up _ _ _ _ j (S.is _ c.mem), n, _, r, (S.put c (Or.inl n)).sub sub⟩
theorem lcwj_list {J : Hp → Prop} {g : TG} {tt : TT} {te : TE} {a : Addr} {xs : List V} {vs : List Nat} (l : Lsts J) (j : J H) (S : Hs H0 M H L) (R : Nat → List V → Prop) (r0 : R 0 []) (hl : ∀ H' acc D, Hs H0 M H' ((D, .lst acc) :: L) → SqL K H' a xs)
    (hs : ∀ D i x acc H', xs[i]? = some x → R i acc → H0 D = none → J H' → Hs H0 M H' ((D, .lst acc) :: L) → g x (wipe σ vs) H' fun σ2 H2 => wipe σ2 vs = wipe σ vs ∧ tt σ2 H2 fun b H3 => if b = true then te σ2 H3 fun y H4 => lcPutJ J H0 M L (R (i + 1)) D y H4 else lcSkipJ J H0 M L (R (i + 1)) D H3)
    (hd : ∀ D acc H', R xs.length acc → H0 D = none → J H' → Hs H0 M H' ((D, .lst acc) :: L) → Q (.ref D) H') : lcW (Itl K a) g tt te vs σ H Q := by
  intro D hD
  have S1 := S.new hD (.lst [])
  refine lc_list (xs := xs) (fun i H' => lcSkipJ J H0 M L (R i) D H') ⟨l.nw _ _ j hD, S1.1, [], r0, S1.2⟩ (fun i H' _ ⟨_, _, acc, _, S'⟩ => hl H' acc D S') ?_ ?_
  · rintro i x H' hi ⟨j', n0, acc, r, S'⟩
    exact hs D i x acc H' hi r n0 j' S'
  · rintro H' ⟨j', n0, acc, r, S'⟩
    exact hd D acc H' r n0 j' S'
theorem lcwj_tup {J : Hp → Prop} {g : TG} {tt : TT} {te : TE} {a : Addr} {xs : List V} {vs : List Nat} (l : Lsts J) (j : J H) (S : Hs H0 M H L) (R : Nat → List V → Prop) (r0 : R 0 []) (hl : ∀ H' acc D, Hs H0 M H' ((D, .lst acc) :: L) → SqT K H' a xs)
    (hs : ∀ D i x acc H', xs[i]? = some x → R i acc → H0 D = none → J H' → Hs H0 M H' ((D, .lst acc) :: L) → g x (wipe σ vs) H' fun σ2 H2 => wipe σ2 vs = wipe σ vs ∧ tt σ2 H2 fun b H3 => if b = true then te σ2 H3 fun y H4 => lcPutJ J H0 M L (R (i + 1)) D y H4 else lcSkipJ J H0 M L (R (i + 1)) D H3)
    (hd : ∀ D acc H', R xs.length acc → H0 D = none → J H' → Hs H0 M H' ((D, .lst acc) :: L) → Q (.ref D) H') : lcW (Itt K a) g tt te vs σ H Q := by
  intro D hD
  have S1 := S.new hD (.lst [])
  refine lc_tup (xs := xs) (fun i H' => lcSkipJ J H0 M L (R i) D H') ⟨l.nw _ _ j hD, S1.1, [], r0, S1.2⟩ (fun i H' _ ⟨_, _, acc, _, S'⟩ => hl H' acc D S') ?_ ?_
  · rintro i x H' hi ⟨j', n0, acc, r, S'⟩
    exact hs D i x acc H' hi r n0 j' S'
  · rintro H' ⟨j', n0, acc, r, S'⟩
    exact hd D acc H' r n0 j' S'
theorem Hs.toT (S : Hs H0 M H L) : Hs (noT H0) M H L := ⟨S.nd, S.is, fun b o e hm => S.old b o (noT_of e).1 hm, S.mu⟩
/-- the heap less its tables, with the tables and the code objects that stand at H3 -/
def rb (H0 H3 : Hp) : Hp := fun b => match H3 b with | some (.tbl ps) => some (.tbl ps) | some (.ext r) => some (.ext r) | _ => noT H0 b
def MLst (M : List Addr) (H : Hp) : Prop := ∀ b ∈ M, ∃ xs, H b = some (.lst xs)
theorem Hs.toR {H3 : Hp} (S : Hs (noT H0) M H3 L) : Hs (rb H0 H3) M H3 L := by
  refine ⟨S.nd, S.is, fun b o e hm => ?_, S.mu⟩
  unfold rb at e
  split at e
  · rename_i h; rw [h]; exact e
  · rename_i h; rw [h]; exact e
  · exact S.old b o e hm
theorem Hs.ofR {H3 H' : Hp} {L' : Led} (S : Hs (noT H0) M H3 L) (S' : Hs (rb H0 H3) M H' L') : Hs (noT H0) M H' L' := by
  refine ⟨S'.nd, S'.is, fun b o e hm => S'.old b o ?_ hm, S'.mu⟩
  have h3 := S.old b o e hm
  unfold rb
  rw [h3]
  split
  · rename_i h; exact h.symm
  · rename_i h; exact h.symm
  · exact e
theorem Hs.tabR {H3 H' : Hp} {L' : Led} {TT : List (Addr × Str)} (S' : Hs (rb H0 H3) M H' L') (m : MLst M H3) (t : LamX.Tabs TT H3) : LamX.Tabs TT H' := fun p hp => by
  obtain ⟨ps, h1, h2, h3⟩ := t p hp
  have nm : ∀ b o, H3 b = some o → (∀ xs, o ≠ .lst xs) → b ∉ M := fun b o e n hm => by
    obtain ⟨xs, z⟩ := m b hm
    rw [e] at z
    exact n xs (Option.some.inj z)
  refine ⟨ps, S'.old _ _ (by unfold rb; rw [h1]) (nm _ _ h1 (fun _ z => by cases z)), h2, fun pos cv hc => ?_⟩
  obtain ⟨c, e1, e2⟩ := h3 pos cv hc
  exact ⟨c, e1, S'.old _ _ (by unfold rb; rw [e2]; rfl) (nm _ _ e2 (fun _ z => by unfold LamX.CodeO at z; cases z))⟩
theorem rb_none {H3 : Hp} {a : Addr} {o : HO} (h : noT H0 a = none) (e : H3 a = some o) (n1 : ∀ ps, o ≠ .tbl ps) (n2 : ∀ r, o ≠ .ext r) : rb H0 H3 a = none := by
  unfold rb
  rw [e]
  split
  · rename_i z; exact absurd (Option.some.inj z) (n1 _)
  · rename_i z; exact absurd (Option.some.inj z) (n2 _)
  · exact h
end
end Xc
namespace Xc
open PySem PySem.Spec PySem.Calls PyProof.Rows L2 Rs
/-- a + b of lists, handed in ones too -/
def rCatL (K : PySem.W.Frag) : R2 := fun x y H Q => ∃ l b xs zs, x = .ref l ∧ y = .ref b ∧ SqL K H l xs ∧ SqL K H b zs ∧ xs.length + zs.length ≤ sizeLine ∧ ∀ p, H p = none → Q (.ref p) (upd H p (.lst (xs ++ zs)))
theorem op_catL {X : Cx} : OpR X (binaryOp .Add) (rCatL X.K) := by
  intro pins s σ H x y v u Q I rx ry h
  obtain ⟨l, b, xs, zs, rfl, rfl, hl, hb, hz, q⟩ := h
  cases (show v = Value.ref l from rx)
  cases (show u = Value.ref b from ry)
  obtain ⟨its, r1, ⟨⟨cls, dd, data, sl⟩, n, ho, hc, hdn, hd⟩, _⟩ := I.list hl
  obtain ⟨its2, r2, ⟨⟨cls2, dd2, data2, sl2⟩, n2, ho2, hc2, hdn2, hd2⟩, _⟩ := I.list hb
  simp only at hc hd hc2 hd2
  subst hc hd hc2 hd2
  have e : its.toArray ++ its2.toArray = (its ++ its2).toArray := by simp
  refine concat_meets ⟨_, ho, rfl⟩ ⟨_, ho2, rfl⟩ noFill_list_add seq_list_add PySem.F.slot_list_add PySem.F.entry_list_add (PySem.F.args_list_add_2 _ _) (list_addW l b its.toArray its2.toArray n n2 dd dd2 sl sl2 (by rw [List.size_toArray, List.size_toArray, ← r1.length, ← r2.length]; exact hz)) ⟨ho, ho2, ?_⟩
  rw [e]
  exact ⟨.ref _, _, I.lnew (t' := s.toks) (r1.append r2) (by rw [List.length_append]; omega), rfl, q _ I.fresh⟩
end Xc

/-! Xd1: enumerate of a tuple -/
namespace Xd
open PySem PySem.Spec PySem.Calls PyProof.Rows L2 Rs
section
variable {prog : Program} {w : World} {A : Around} {E : Value → Shared → Prop} {s : Shared}
theorem tnext {ti tp : Addr} {j : Nat} {vs : Array Value} {y : Value} {Q : Value → Shared → Prop} (hi : s.heap.IsTupleIter ti tp j) (ht : s.heap.IsTuple tp vs) (hy : vs[j]? = some y)
    (k : ∀ h', h'.IsTupleIter ti tp (j + 1) → Heap.SameBut ti s.heap h' → Q y { s with heap := h' }) : wpAny (model prog w) A (Builtin.SmallTypes.nextOf (.ref ti)) Q E s := by
  obtain ⟨oi, hoi, hci, hdi⟩ := id hi
  obtain ⟨ot, hot, _, nt, hdt⟩ := ht
  unfold Builtin.SmallTypes.nextOf
  refine wpAny_bind (wpAny_callSpecial?_slot (name := Str.ofString "__next__") hi.typeIs F.slot_tuple_iterator_next (wpAny_call_entry F.slot_tuple_iterator_next hi.typeIs F.entry_tuple_iterator_next ?_ (F.args_tuple_iterator_next_1 _)))
  show wpAny _ _ (field (.ref ti) 0 >>= _) _ _ s
  refine wpAny_bind (wpAny_field hoi hdi (x := .ref tp) rfl ?_)
  show wpAny _ _ (if (Value.ref tp == Value.none) = true then _ else _) _ _ s
  rw [if_neg (show ¬ ((Value.ref tp == Value.none) = true) from Bool.false_ne_true)]
  show wpAny _ _ (field (.ref ti) 1 >>= _) _ _ s
  refine wpAny_bind (wpAny_field hoi hdi (x := .int j 0) rfl ?_)
  show wpAny _ _ (seqItems? (.ref tp) >>= _) _ _ s
  refine wpAny_bind (wpAny_seqItems hot hdt ?_)
  simp only [Int.toNat_natCast, hy]
  refine wpAny_bind (wpAny_setField hoi hdi (by simp) (wpAny_pure ⟨y, rfl, wpAny_pure (k _ ?_ (Heap.SameBut.update ..))⟩))
  exact ⟨_, Heap.get?_update_self _ hoi (Obj.isFreed_of_fields (Obj.data_mapFields hdi _)), (Obj.cls_mapFields ..).trans hci, by rw [Obj.data_mapFields hdi]; simp [rawInt]⟩
theorem tlast {ti tp : Addr} {j : Nat} {vs : Array Value} {Q : Value → Shared → Prop} (hh : A.handled = none) (hi : s.heap.IsTupleIter ti tp j) (ht : s.heap.IsTuple tp vs) (hy : vs[j]? = none)
    (k : ∀ h' e, Heap.ExtBut ti s.heap h' → (∃ o, h'.get? e = some o ∧ o.cls = .type "StopIteration") → E (.ref e) { s with heap := h' }) : wpAny (model prog w) A (Builtin.SmallTypes.nextOf (.ref ti)) Q E s := by
  obtain ⟨oi, hoi, hci, hdi⟩ := id hi
  obtain ⟨ot, hot, _, nt, hdt⟩ := ht
  unfold Builtin.SmallTypes.nextOf
  refine wpAny_bind (wpAny_callSpecial?_slot (name := Str.ofString "__next__") hi.typeIs F.slot_tuple_iterator_next (wpAny_call_entry F.slot_tuple_iterator_next hi.typeIs F.entry_tuple_iterator_next ?_ (F.args_tuple_iterator_next_1 _)))
  show wpAny _ _ (field (.ref ti) 0 >>= _) _ _ s
  refine wpAny_bind (wpAny_field hoi hdi (x := .ref tp) rfl ?_)
  show wpAny _ _ (if (Value.ref tp == Value.none) = true then _ else _) _ _ s
  rw [if_neg (show ¬ ((Value.ref tp == Value.none) = true) from Bool.false_ne_true)]
  show wpAny _ _ (field (.ref ti) 1 >>= _) _ _ s
  refine wpAny_bind (wpAny_field hoi hdi (x := .int j 0) rfl ?_)
  show wpAny _ _ (seqItems? (.ref tp) >>= _) _ _ s
  refine wpAny_bind (wpAny_seqItems hot hdt ?_)
  simp only [Int.toNat_natCast, hy]
  refine wpAny_bind (wpAny_rule (wpAny_bind (wpAny_setField hoi hdi (by simp) ?_)))
  show wpAny _ _ ((newExc (.type "StopIteration") []) >>= _) _ _ _
  refine wpAny_bind ?_
  (simp only [newExc, newTuple]); refine wpAny_bind (wpAny_newObj_type ?_ (by size_fits))
  refine wpAny_bind (m := firstArgMember _ _) (wpAny_of_eq (a := .none) (by first | rfl | (simp only [firstArgMember]; rfl)) ?_)
  (refine wpAny_newObj_type ?_ (by size_fits)); simp only [raiseNew]
  refine wpAny_bind (wpAny_handled ?_)
  first
    | rw [show A.in1.handled = none from hh]
    | rw [hh]
  exact wpAny_bind (wpAny_pure (wpAny_throw (k _ _ (((Heap.SameBut.update ..).extBut.push _).push _) ⟨_, Heap.get?_push_size _ rfl, rfl⟩)))
end
theorem tdraws {prog : Program} {w : World} {A : Around} (hh : A.handled = none) (ti tp : Addr) (ne : tp ≠ ti) (vs : Array Value) :
    Draws prog w A ti [ti, tp] vs.size (fun j v => vs[j]? = some v) (fun j h => h.IsTupleIter ti tp j ∧ h.IsTuple tp vs) where
  live := fun _ _ ⟨⟨o, ho, _⟩, _⟩ => ⟨o, ho⟩
  frame := fun _ _ _ ⟨⟨o, ho, r⟩, ⟨o2, ho2, r2⟩⟩ k => ⟨⟨o, k ti (by simp) o ho, r⟩, ⟨o2, k tp (by simp) o2 ho2, r2⟩⟩
  item := fun j s Q E hj ⟨a, b⟩ k => tnext a b (y := vs[j]) (by simp [hj]) fun h' hi' hs' => k _ h' s.toks (by simp [hj]) ⟨hi', b.extBut hs'.extBut ne⟩ hs'
  done := fun s Q E ⟨a, b⟩ k => tlast hh a b (by simp) k
end Xd
namespace Xd
open PySem PySem.Spec PySem.Calls PyProof.Rows L2 Rs
abbrev tit (tp : Addr) : Obj := { cls := .type "tuple_iterator", data := .fields #[.ref tp, .int 0 0] }
abbrev eno (it : Addr) : Obj := { cls := .type "enumerate", data := .fields #[.none, .bool false, .ref it, rawInt 0, .none, .none] }
theorem meets_new_tup (tp : Addr) (ot : Obj) (vs : Array Value) (hc : ot.cls = .type "tuple") (n : Nat) (hd : ot.data = .seq vs n) :
    Meets (Builtin.«enumerate.__new__» ⟨[.type "enumerate", .ref tp], []⟩) (fun _ R s => s.heap.get? tp = some ot ∧ R (.ok (.ret (.ref (s.heap.push (tit tp)).objs.size))) { s with heap := (s.heap.push (tit tp)).push (eno s.heap.objs.size) }) :=
  .of_wp fun prog w A R s h => by
    obtain ⟨hp, g, d, tk, os⟩ := s
    obtain ⟨hl, h⟩ := h
    have hsub := sub_enumerate
    have hL : Heap.IsTuple (Shared.heap ⟨hp, g, d, tk, os⟩) tp vs := ⟨_, hl, hc, n, hd⟩
    obtain ⟨cl, dc, dt, sl⟩ := ot
    dsimp only at hc hd
    subst hc hd
    wp_walk using AutoSeq1.wpAny_loadPart' hl
    refine wpAny_stack_any fun st => wpAny_pure ?_
    split
    · rename_i c _ _ _ _ _
      cases (c == Value.type "enumerate") <;> (wp_walk using AutoSeq1.wpAny_loadPart' hl, wpAny_pyIter_tuple hL; exact ⟨_, rfl, h⟩)
    · (wp_walk using AutoSeq1.wpAny_loadPart' hl, wpAny_pyIter_tuple hL); exact ⟨_, rfl, h⟩
section
variable {prog : Program} {w : World} {A : Around} {E : Value → Shared → Prop} {s : Shared}
theorem call_enum_tup {tp : Addr} {vs : Array Value} {Q : Value → Shared → Prop} (hL : s.heap.IsTuple tp vs)
    (k : ∀ h', IsEnum h' (s.heap.objs.size + 1) s.heap.objs.size 0 .none → h'.IsTupleIter s.heap.objs.size tp 0 → (∀ b o, s.heap.get? b = some o → h'.get? b = some o) → Q (.ref (s.heap.objs.size + 1)) { s with heap := h' }) :
    wpAny (model prog w) A (call (.type "enumerate") [.ref tp]) Q E s := by
  obtain ⟨ot, ho, hc, n, hd⟩ := hL
  refine callType_new F.called_enumerate (by decide) (F.typeCall_enumerate_1 _) (F.newCall_enumerate_1 _) (fun obj => F.args_object_init_2 obj _) F.entry_enumerate_new (meets_new_tup tp ot vs hc n hd) ⟨ho, ?_⟩
  have hz : (s.heap.push (tit tp)).objs.size = s.heap.objs.size + 1 := Heap.size_push ..
  show _ ∧ _
  rw [hz]
  have he : IsEnum ((s.heap.push (tit tp)).push (eno s.heap.objs.size)) (s.heap.objs.size + 1) s.heap.objs.size 0 .none := by
    have z := Heap.get?_push_size (s.heap.push (tit tp)) (o := eno s.heap.objs.size) rfl
    rw [hz] at z
    exact z
  exact ⟨⟨_, he, rfl⟩, k _ he ⟨_, Heap.get?_push_of_some _ (Heap.get?_push_size _ rfl), rfl, rfl⟩ fun b o x => Heap.get?_push_of_some _ (Heap.get?_push_of_some _ x)⟩
end
end Xd
namespace Xd
open PySem PySem.Spec PySem.Calls PyProof.Rows L2 Rs
theorem ne_cls {h : Heap} {a b : Addr} {n m : String} {o p : Obj} (ha : h.get? a = some o) (hb : h.get? b = some p) (ca : o.cls = .type n) (cb : p.cls = .type m) (ne : n ≠ m) : a ≠ b := fun z => by
  rw [z, hb] at ha
  cases ha
  rw [ca] at cb
  exact ne (Value.type.inj cb)
theorem tend {prog : Program} {w : World} {A : Around} {E : Value → Shared → Prop} {s : Shared} {e ti tp : Addr} {j : Nat} {vs : Array Value} {i : Int} {old : Value} {Q : Option Value → Shared → Prop} (hh : A.handled = none) (he : IsEnum s.heap e ti i old)
    (hi : s.heap.IsTupleIter ti tp j) (ht : s.heap.IsTuple tp vs) (hy : vs[j]? = none) (k : ∀ h', Heap.ExtBut ti s.heap h' → Q none { s with heap := h' }) : wpAny (model prog w) A (pyNext (.ref e)) Q E s := by
  have ty : s.TypeIs (.ref e) "enumerate" := ⟨_, he, rfl⟩
  unfold pyNext
  refine wpAny_bind (wpAny_attempt (wpAny_callSpecial?_slot (name := Str.ofString "__next__") ty F.slot_enumerate_next (wpAny_call_entry F.slot_enumerate_next ty F.entry_enumerate_next ?_ (F.args_enumerate_next_1 _))))
  show wpAny _ _ (bind (field (.ref e) 2) _) _ _ _
  refine wpAny_bind (wpAny_field he rfl (x := .ref ti) rfl ?_)
  refine wpAny_bind (tlast hh hi ht hy fun h' x hx hs => ?_)
  obtain ⟨ox, hox, hcx⟩ := hs
  exact wpAny_bind (wpAny_isInstance (T := "StopIteration") (b := true) ⟨ox, hox, hcx⟩ isSubtype_stop (wpAny_pure (k _ hx)))
/-- the tuple at a as it stands at each turn, number and item in a new pair -/
def IteT (K : PySem.W.Frag) (a : Addr) : It :=
  ⟨fun i H => ∃ (xs : List V) (x : V), SqT K H a xs ∧ xs[i]? = some x, fun i H v H' => ∃ (T : Addr) (x : V), v = .ref T ∧ H T = none ∧ H' = upd H T (.tup [.int (i : Nat), x]) ∧ ∀ xs, SqT K H a xs → xs[i]? = some x, fun i H => ∃ xs : List V, SqT K H a xs ∧ xs.length ≤ i⟩
theorem turn_eT {P : Program} {w : World} {K : PySem.W.Frag} {elts : List Expr} {kk : Nat} {tpos : Pos} (a e ti : Addr) :
    Turn P w K (.Tuple elts kk tpos) (IteT K a) [e, ti] e (fun i h => (∃ old, IsEnum h e ti ((i : Nat) : Int) old) ∧ h.IsTupleIter ti a i ∧ e ≠ ti) where
  mem := List.mem_cons_self
  obj := fun i h ⟨⟨old, he⟩, ⟨o, ho, hc, hd⟩, _⟩ b hb => by
    rcases (show b = e ∨ b = ti by simpa using hb) with rfl | rfl
    · exact ⟨_, he, fun v z => nomatch z⟩
    · exact ⟨o, ho, fun v z => by rw [hd] at z; cases z⟩
  keep := fun i h h' ⟨⟨old, he⟩, ⟨o, ho, r⟩, ne⟩ k => ⟨⟨old, k e (by simp) _ he⟩, ⟨o, k ti (by simp) o ho, r⟩, ne⟩
  item := by
    intro X hP hw hK hc i pins s σ H E I hf ⟨⟨old, he⟩, hit, hne⟩ ⟨xs, x, hq, hx⟩
    subst hP hw hK
    obtain ⟨its, rv, tpl, hz⟩ := I.tuple hq
    obtain ⟨u, hu, ru⟩ := rv.get hx
    obtain ⟨oi, hoi, hci, hdi⟩ := id hit
    obtain ⟨ot, hot, hct, nt, hdt⟩ := id tpl
    have n1 : a ≠ ti := ne_cls hot hoi hct hci (by decide)
    have n2 : e ≠ a := ne_cls he hot rfl hct (by decide)
    have le : e < s.heap.objs.size := Heap.lt_size he
    have li : ti < s.heap.objs.size := Heap.lt_size hoi
    have D := tdraws (prog := X.prog) (w := X.w) (A := X.A.in1) (I.ok.hd hc) ti a n1 its.toArray
    refine wpAny_pyNext_enum_itemD D he ⟨hit, tpl⟩ ?_ hne (by simp [hne, n2]) fun u' h' tk hu' ho hst hT hsz hk => ?_
    · have := (List.getElem?_eq_some_iff.mp hu).1
      rw [List.size_toArray]
      exact this
    · obtain rfl : u' = u := by
        have z : its[i]? = some u' := by simpa using hu'
        rw [hu] at z
        exact (Option.some.inj z).symm
      refine ⟨_, rfl, wpAny_letOwnedTupleGo_enum (s := { s with heap := h', toks := tk + 1 }) ho fun h2 he2 sb => ?_⟩
      have hT2 : h2.get? s.heap.objs.size = some { cls := .type "tuple", data := .seq #[.int i tk, u'] } := (sb.2 _ (Nat.ne_of_gt le)).trans hT
      have nw : ObjOk X.prog X.w (upd H s.heap.objs.size (.tup [.int (i : Nat), x])) h2 s.heap.objs.size (.tup [.int (i : Nat), x]) := ⟨by rw [sizeLine_eq]; simp, [.int i tk, u'], .cons ⟨_, rfl⟩ (.cons ru .nil), ⟨_, hT2, rfl, _, rfl⟩⟩
      have I1 : Inv X pins σ (upd H s.heap.objs.size (.tup [.int (i : Nat), x])) { s with heap := h2, toks := tk + 1 } :=
        I.turnedNew (ch := [e, ti]) (fun b ob hb q => (sb.2 b (fun z => hb (by simp [z]))).trans (hk b ob (fun z => hb (by simp [z])) (fun z => hb (by simp [z])) q)) hf (Nat.le_refl _) nw
      obtain ⟨⟨o3, ho3, r3⟩, _⟩ := hst
      refine ⟨.ref s.heap.objs.size, _, I1, rfl, ⟨_, x, rfl, I.hok.fresh (Nat.le_refl _), rfl, fun ys hy => by rw [I.tuple_inj hy hq]; exact hx⟩, ⟨⟨u', ?_⟩, ⟨o3, (sb.2 ti (Ne.symm hne)).trans ho3, r3⟩, hne⟩, fun b hb => ?_⟩
      · rw [show ((i + 1 : Nat) : Int) = (i : Int) + 1 by omega]; exact he2
      · have hb2 : b < s.heap.objs.size := by
          rcases (show b = e ∨ b = ti by simpa using hb) with rfl | rfl
          · exact le
          · exact li
        rw [upd_ne (Nat.ne_of_lt hb2)]; exact (hf b hb).1
  done := by
    intro X hP hw hK hc i pins s σ H E I hf ⟨⟨old, he⟩, hit, hne⟩ ⟨xs, hq, hx⟩
    subst hP hw hK
    obtain ⟨its, rv, tpl, hz⟩ := I.tuple hq
    obtain ⟨oi, hoi, hci, hdi⟩ := id hit
    obtain ⟨ot, hot, hct, nt, hdt⟩ := id tpl
    obtain ⟨f0, f1, f2, f3, f4, f5⟩ := hf ti (by simp)
    have hl := rv.length
    exact tend (I.ok.hd hc) he hit tpl (by simp; omega) fun h' eb => ⟨rfl, I.turned (t' := s.toks) (fun b o hb q => eb b o hb q) f0 f1 f3 f4 f5⟩
  self := fun A i s Q E ⟨⟨_, he⟩, _⟩ h => wpAny_pyIter_enum he h
end Xd
namespace Xd
open PySem PySem.Spec PySem.Calls PyProof.Rows L2 Rs
def enT (K : PySem.W.Frag) (R : It → Hp → Prop) (vs : List V) (H : Hp) : Prop := ∃ (a : Addr) (xs : List V), vs = [.ref a] ∧ SqT K H a xs ∧ R (IteT K a) H
def iEnT (K : PySem.W.Frag) (ta : TA) : TI := fun σ H R => ta σ H fun vs H1 => enT K R vs H1
theorem pi_enT {X : Cx} {e : Expr} {ta : TA} {p pos tpos : Pos} {elts : List Expr} {kk : Nat} (hg : Gl X "enumerate") (hm : X.mg "enumerate" = none) (ha : PA X [e] ta) (hs : starEach [e] X.env = [(false, eval e X.env)] := by rfl) :
    PI X (.Tuple elts kk tpos) (.Call (.Name "enumerate" p) [e] [] pos) (iEnT X.K ta) := by
  refine ⟨fun pins s σ H R I h => Call_ (ld_blt I hg hm boot_enumerate (PyProof.Rows.callWith_type1 (thn (ha.run pos pins s σ H _ I h) fun us s1 ⟨vs, H1, I1, r1, a, xs, ev, hq, q⟩ => ?_) hs rfl))⟩
  subst ev
  cases r1 with
  | cons r rr =>
    cases rr
    cases r
    obtain ⟨its, rv, tpl, hz⟩ := I1.tuple hq
    refine call_enum_tup tpl fun h' he hit hk => wpAny_pyIter_enum he ?_
    have I2 : Inv X pins σ H1 { s1 with heap := h' } := I1.kept (t' := s1.toks) hk
    refine ⟨s1.heap.objs.size + 1, [s1.heap.objs.size + 1, s1.heap.objs.size], _, _, H1, rfl, I2, turn_eT a (s1.heap.objs.size + 1) s1.heap.objs.size, ⟨⟨.none, he⟩, hit, Nat.succ_ne_self _⟩, fun b hb => ?_, q⟩
    have hle : s1.heap.objs.size ≤ b := by
      rcases (show b = s1.heap.objs.size + 1 ∨ b = s1.heap.objs.size by simpa using hb) with rfl | rfl
      · exact Nat.le_succ _
      · exact Nat.le_refl _
    exact I1.fpOk hle (I1.hok.fresh hle)
section
variable {K : PySem.W.Frag} {H H0 : Hp} {M : List Addr} {L : Led} {σ : L2.St} {a : Addr}
theorem walk_eT {xs : List V} : Walk (IteT K a) xs.length (fun H => SqT K H a xs) (YPair (fun i => some (.int (i : Nat))) (fun i => xs[i]?)) :=
  ⟨fun i _ hi q => ⟨xs, xs[i], q, by simp [hi]⟩, fun _ q => ⟨xs, q, Nat.le_refl _⟩, fun i H v H' _ q ⟨T, x, h1, h2, h3, h4⟩ => ⟨T, .int (i : Nat), x, h1, h2, h3, rfl, h4 xs q⟩⟩
theorem rd_enT {R : It → Hp → Prop} {ta : TA} (h : ta σ H fun vs H1 => enT K R vs H1) : iEnT K ta σ H R := h
theorem rd_enTI {R : It → Hp → Prop} {xs : List V} (S : Hs H0 M H L) (m : (a, HO.tup xs) ∈ L) (h : R (IteT K a) H) : enT K R [.ref a] H := ⟨a, xs, rfl, S.tup m, h⟩
/-- over enumerate of a tuple -/
theorem fw_enT {xs : List V} {g : TG} {tw : TS} {nx bk ct : L2.St → Hp → Prop} {rt : VK} (Pv : Nat → L2.St → Hp → Prop) (h0 : Pv 0 σ H) (hl : ∀ i σ H, i ≤ xs.length → Pv i σ H → SqT K H a xs)
    (hs : ∀ i x σ H T, xs[i]? = some x → Pv i σ H → H T = none → g (.ref T) σ (upd H T (.tup [.int (i : Nat), x])) fun σ2 H2 => tw ⟨Pv (i + 1), rt, nx, Pv (i + 1)⟩ σ2 H2) (hd : ∀ σ H, Pv xs.length σ H → nx σ H) : forW (IteT K a) g tw ⟨nx, rt, bk, ct⟩ σ H := by
  refine for_it walk_eT Pv h0 hl ?_ hd
  rintro i x σ H H' hi hp ⟨T, y, z, rfl, hT, rfl, e1, e2⟩
  cases e1
  exact hs i z σ H T e2 hp hT
end
end Xd

/-! Xd2: lists made longer by lists; slices of any list -/
namespace Xd
open PySem PySem.Spec PySem.Calls PyProof.Rows L2 Rs
theorem ip_ext {X : Cx} : PIp X .Add rExt2 := fun pins s σ H x y v u Q I rx ry h => iop_ext pins s σ H x y v u Q I rx ry h
section
variable {K : PySem.W.Frag} {H H0 : Hp} {M : List Addr} {L L' : Led} {σ : L2.St} {a b : Addr} {Q : VK}
theorem rd_ext2 {xs zs ys : List V} (S : Hs H0 M H L) (c : Chg a (.lst xs) (.lst ys) L L') (mb : (b, HO.lst zs) ∈ L) (hm : H0 a = none ∨ a ∈ M) (hz : xs.length + zs.length ≤ sizeLine) (e : xs ++ zs = ys) (h : ∀ H', Hs H0 M H' L' → Q (.ref a) H') : rExt2 (.ref a) (.ref b) H Q := by
  subst e
  exact ⟨a, b, xs, zs, rfl, rfl, S.is _ c.mem, S.is _ mb, hz, h _ (S.put c hm)⟩
theorem rd_extM {xs zs ys : List V} (S : Hs H0 M H L) (c : Chg a (.lst xs) (.lst ys) L L') (mb : (b, HO.lst zs) ∈ L) (hm : H0 a = none ∨ a ∈ M) (hz : xs.length + zs.length ≤ sizeLine) (e : xs ++ zs = ys) (h : ∀ H', Hs H0 M H' L' → Q .non H') : rExtend (.ref a) [.ref b] H Q := by
  subst e
  exact ⟨a, b, xs, zs, rfl, rfl, S.is _ c.mem, S.is _ mb, hz, h _ (S.put c hm)⟩
theorem cut_run (xs : List V) (i k : Nat) : cutV xs (some (i : Nat)) (some ((i + k : Nat) : Int)) = (xs.drop i).take k := by
  unfold cutV
  rw [HT.sIx_nat, HT.sIx_nat]
  by_cases h : i ≤ xs.length
  · rw [Nat.min_eq_left h]
    refine List.take_eq_take_iff.mpr ?_
    rw [List.length_drop]
    omega
  · have e1 : min i xs.length = xs.length := by omega
    rw [e1, List.drop_of_length_le (Nat.le_refl _), List.drop_of_length_le (by omega)]
    simp
theorem cut_to (xs : List V) (i : Nat) : cutV xs none (some (i : Nat)) = xs.take i := by
  unfold cutV
  rw [HT.sIx_nat, HT.sIx_none, List.drop_zero]
  refine List.take_eq_take_iff.mpr ?_
  omega
theorem cut_from (xs : List V) (i : Nat) : cutV xs (some (i : Nat)) none = xs.drop i := by
  unfold cutV
  rw [HT.sIx_nat, HT.sIx_none]
  by_cases h : i ≤ xs.length
  · rw [Nat.min_eq_left h]
    exact List.take_of_length_le (by rw [List.length_drop]; omega)
  · have e1 : min i xs.length = xs.length := by omega
    rw [e1, List.drop_of_length_le (Nat.le_refl _), List.drop_of_length_le (by omega)]
    simp
end
end Xd

/-! Xd3: list(text) -/
namespace Xd
open PySem PySem.Spec PySem.Calls PyProof.Rows L2 Rs
def rListS : List V → Hp → VK → Prop := fun xs H Q => ∃ x : Str, xs = [.str x] ∧ x.length ≤ sizeLine ∧ ∀ q, H q = none → Q (.ref q) (upd H q (.lst ((PyProof.Rows.signs x).map V.str)))
theorem call_listS {X : Cx} (hc : X.calm = true) : CallR X (.type "list") rListS := by
  intro pins s σ H xs us Q I r h
  obtain ⟨x, e, hz, q⟩ := h
  subst e
  obtain ⟨u, eu, rx⟩ := vals1 r
  subst eu
  obtain ⟨t, rfl⟩ : ∃ t, u = Value.str x t := rx
  refine PySem.call_list_str (hn := hz) (I.ok.hd hc) x t fun h' tk acc' c' hkeep hS hacc => ?_
  refine ⟨.ref s.heap.objs.size, upd H s.heap.objs.size (.lst ((PyProof.Rows.signs x).map V.str)), I.laid hkeep (Nat.le_refl _) (show ObjOk X.prog X.w _ _ _ (.lst ((PyProof.Rows.signs x).map V.str)) from ⟨?_, acc'.toList, c', ?_, ?_⟩), rfl, q _ (I.hok.fresh (Nat.le_refl _))⟩
  · rw [List.length_map, PyProof.Rows.signs_length]; exact hz
  · have el : acc'.toList.length = acc'.size := by simp
    refine vals_of_at (by rw [List.length_map, PyProof.Rows.signs_length, el, hacc.1]; rfl) fun j x1 w h1 h2 => ?_
    obtain ⟨c, t2, hc2, rfl⟩ := hacc.2 j w (by rw [← Array.getElem?_toList]; exact h2)
    have e2 : ((PyProof.Rows.signs x).map V.str)[j]? = some (.str ⟨#[c]⟩) := by
      unfold PyProof.Rows.signs
      rw [List.getElem?_map, List.getElem?_map, Array.getElem?_toList, hc2]
      rfl
    rw [e2] at h1
    cases h1
    exact ⟨t2, rfl⟩
  · rw [Array.toArray_toList]; exact hS
section
variable {K : PySem.W.Frag} {H H0 : Hp} {M : List Addr} {L L' : Led} {σ : L2.St} {a b : Addr} {Q : VK}
theorem rd_listS {x : Str} (S : Hs H0 M H L) (hz : x.length ≤ sizeLine) (h : ∀ p H', H0 p = none → Hs H0 M H' ((p, .lst ((PyProof.Rows.signs x).map V.str)) :: L) → Q (.ref p) H') : rListS [.str x] H Q :=
  ⟨x, rfl, hz, rd_newO S h⟩
end
end Xd

/-! Xe2: exceptions as objects of the ledger: made, looked at, their fields; S.__init__(self, ..) of an own class S -/
namespace Xc
open PySem PySem.Spec PySem.Calls PyProof.Rows L2 Rs ClX
/-- an exception of the class at C, its fields (none: nothing was stored) -/
def ExcAt (H : Hp) (a C : Addr) (o : Option (Addr × List (Str × V))) : Prop := match o with
  | none => H a = some (exo a C none)
  | some (dx, fs) => H a = some (exo a C (some dx)) ∧ H dx = some (exd dx fs)
section
variable {X : Cx} {pins : List (Addr × Obj)} {σ : L2.St} {H : Hp} {s : Shared} {a C dx : Addr} {fs : List (Str × V)}
theorem excAt_inst0 (I : Inv X pins σ H s) (h : H a = some (exo a C none)) : ∃ oe : Obj, PySem.W.InstAt s.heap a oe C none := by
  obtain ⟨t, e⟩ := exo_at I.hok h
  exact ⟨_, e, rfl, rfl, trivial⟩
theorem excAt_inst1 (I : Inv X pins σ H s) (h : H a = some (exo a C (some dx))) (hd : H dx = some (exd dx fs)) : ∃ (oe od : Obj) (mA : Str → Option Value), PySem.W.InstAt s.heap a oe C (some od) ∧ (∀ f, RelO (fs.lookup f) (mA f)) ∧ ∀ n : Str, PySem.W.lookIn n od = some (mA n) := by
  obtain ⟨t, e⟩ := exo_at I.hok h
  obtain ⟨mA, hns, hr⟩ := exd_at I.hok hd
  obtain ⟨od, ho, hl⟩ := lookIn_ns hns
  exact ⟨_, od, mA, ⟨e, rfl, rfl, ho⟩, hr, hl⟩
/-- isinstance(e, c) -/
def rIsE (K : PySem.W.Frag) : List V → Hp → VK → Prop := fun xs H Q => ∃ (a C : Addr) (o : Option (Addr × List (Str × V))) (c : V) (u : Value) (b : Bool), xs = [.ref a, c] ∧ ClsV c u ∧ Lk K C ∧ ExcAt H a C o ∧ PySem.W.kitOne K (.ref C) u = some b ∧ Q (.bl b) H
theorem call_isE : CallR X (.builtin "isinstance") (rIsE X.K) := by
  intro pins s σ H xs us Q I r h
  obtain ⟨a, C, o, c, u, b, rfl, k, l, hh, e, q⟩ := h
  obtain ⟨u1, u2, rfl, r1, r2⟩ := vals2 r
  have e2 := k.eq r2
  subst e2
  cases (show u1 = Value.ref a from r1)
  cases o with
  | none =>
    obtain ⟨oe, J⟩ := excAt_inst0 I hh
    exact PySem.W.kia_one (PySem.W.kitx_exc l.cl l.ga l.gg l.bx l.ha l.hn l.ht l.hm) I.kIn J e (fun z => nomatch z) fun tk => ⟨.bl b, H, I.tok tk, rfl, q⟩
  | some p =>
    obtain ⟨oe, od, mA, J, _, _⟩ := excAt_inst1 I hh.1 hh.2
    exact PySem.W.kia_one (PySem.W.kitx_exc l.cl l.ga l.gg l.bx l.ha l.hn l.ht l.hm) I.kIn J e (fun z => nomatch z) fun tk => ⟨.bl b, H, I.tok tk, rfl, q⟩
/-- e.f -/
def tXe (K : PySem.W.Frag) (f : Str) (te : TE) : TE := fun σ H Q => te σ H fun x H1 => ∃ (a C dx : Addr) (fs : List (Str × V)) (v : V), x = .ref a ∧ Lk K C ∧ PySem.W.findIn K (.ref C) f = some none ∧ ExcAt H1 a C (some (dx, fs)) ∧ fs.lookup f = some v ∧ Q v H1
theorem pe_xe {e : Expr} {te : TE} {pos : Pos} {n : Str} (he : PE X e te) (hb : attributeBase e n X.env (eval e X.env) = eval e X.env := by rfl) : PE X (.Attribute e n pos) (tXe X.K n te) := by
  refine ⟨fun pins s σ H Q I h => attr_of hb (thn (he.run pins s σ H _ I h) fun u s1 hh => ?_)⟩
  obtain ⟨x, H1, I1, rx, a, C, dx, fs, v, ex, l, hno, hd, lk, q⟩ := hh
  subst ex
  obtain rfl : u = Value.ref a := rx
  obtain ⟨oe, od, mA, J, hr, hl⟩ := excAt_inst1 I1 hd.1 hd.2
  obtain ⟨u2, hu, ru⟩ := RelO.some_of (v := v) (o := mA n) (by rw [← lk]; exact hr n)
  exact HandSPX.exc_get I1.kIn J l.ga l.gg l.bx (PySem.W.findObj_own l.hd hno rfl (by rw [hl, hu])) (handed_of ru) ⟨v, H1, I1.tok _, ru, q⟩
end
/-! ### made -/
/-- C(e, ..), C's own __init__ walked -/
def tMkX (C : Addr) (sp : Sp) (dvs : List V) (ta : TA) : TE := fun σ H Q => ta σ H fun vs H1 => vs.length ≤ 1000 ∧ ∀ a, H1 a = none → sp (.ref a :: (vs ++ dvs)) (upd H1 a (exo a C none)) (fun v H2 => v = .non ∧ Q (.ref a) H2) (fun _ _ _ => False)
/-- C(e, ..) of a class without __init__ -/
def tMk0 (C : Addr) (ta : TA) : TE := fun σ H Q => ta σ H fun vs H1 => vs.length ≤ 1000 ∧ ∀ a, H1 a = none → Q (.ref a) (upd H1 a (exo a C none))
section
variable {X : Cx} {e : Expr} {es : List Expr} {ta : TA} {p p1 p2 pos : Pos} {B newId initId : String} {bmB : List Value}
theorem pe_mkx {CX : CXT} {x : Str} {C fI : Addr} {k : Nat} {fd : FuncData} {ps : List Str} {sp : Sp} {ds : List Value} {dvs : List V} (T : Own X.K C B newId initId bmB) (iC : PySem.W.findIn X.K (.ref C) "__init__" = some (some (.ref fI))) (tI : PySem.W.typeIn X.K (.ref fI) = some (.type "function"))
    (F1 : FnOk X.prog X.w X.K X.mg X.base CX k fI fd ps sp) (hr : Room (k + 1) X.A) (hb : Binds X.K fd ps ds) (hd : Vals dvs ds) (hx : Passes CX X (fun _ _ _ => False)) (hg : Gl X x) (hm : X.mg x = some (.ref C)) (ha : PA X (e :: es) ta)
    (hdb : (x == ("__debug__" : Str)) = false := by decide) (he : starEach (e :: es) X.env = (false, eval e X.env) :: starEach es X.env := by rfl) (hp : (backTo pos (starEach es X.env)).any (·.1) = false := by rfl) :
    PE X (.Call (.Name x p) (e :: es) [] pos) (tMkX C sp dvs ta) := by
  refine ⟨fun pins s σ H Q I hh => ?_⟩
  refine wpAny_Call_Name_kw (ld_glob I hg hm ?_ hdb)
  refine PySem.W.callWith_K (h₀ := X.base) I.ok.mod.kin T.kpc (thn (ha.run pos pins s σ H _ I hh) fun us s1 ⟨vs, H1, I1, rv, hz, k1⟩ => ⟨I1.kIn, ?_⟩) he hp
  show wpAny _ _ (call (.ref C) us) _ _ _
  have hC := PySem.W.excInit_of I1.kIn T.ini
  obtain ⟨NB, fb⟩ := T.fb
  obtain ⟨hp1, gn, dr, tk, osS⟩ := s1
  have up1 : hp1.objs.size ≤ hp1.objs.size + 1 := Nat.le_succ _
  have body := k1 (hp1.objs.size + 1) (I1.hok.fresh up1)
  have kept : ∀ b o, hp1.get? b = some o → ((hp1.push (PySem.W.kdv_tup us)).push (PySem.HandSPX.excO C hp1.objs.size)).get? b = some o := fun b o q => Heap.get?_push_of_some _ (Heap.get?_push_of_some _ q)
  have there : ((hp1.push (PySem.W.kdv_tup us)).push (PySem.HandSPX.excO C hp1.objs.size)).get? (hp1.objs.size + 1) = some (PySem.HandSPX.excO C hp1.objs.size) := by heap_get
  have I2 : Inv X pins σ (upd H1 (hp1.objs.size + 1) (exo (hp1.objs.size + 1) C none)) ⟨(hp1.push (PySem.W.kdv_tup us)).push (PySem.HandSPX.excO C hp1.objs.size), gn, dr, tk, osS⟩ :=
    I1.laid (t' := tk) (a := hp1.objs.size + 1) (o := exo (hp1.objs.size + 1) C none) (h' := (hp1.push (PySem.W.kdv_tup us)).push (PySem.HandSPX.excO C hp1.objs.size)) kept up1 (exo_ok there)
  have rels : Vals (V.ref (hp1.objs.size + 1) :: (vs ++ dvs)) (Value.ref (hp1.objs.size + 1) :: (us ++ ds)) := .cons rfl (rv.append hd)
  have len1 : (Value.ref (hp1.objs.size + 1) :: us ++ ds).length = ps.length := (F1.len _ _ _ _ body).symm.trans rels.length |>.symm
  have lus : us.length ≤ sizeLine := by rw [← Paired.length rv, sizeLine_eq]; omega
  refine wpAny_call (xb_call fb hC (PySem.W.looks_findIn I1.kIn iC) (fun self => PySem.W.bind_fn I1.kIn self tI) lus
    (codeAny_mono (F1.run _ X.stack _ _ ⟨Value.ref (hp1.objs.size + 1) :: us, []⟩ (Value.ref (hp1.objs.size + 1) :: (us ++ ds)) _ _ (fun _ _ _ => False) (hr.make C us []) (I2.env0.make C us []) (hb _ (Value.ref (hp1.objs.size + 1) :: us) I2.kIn len1) rels body) fun r s2 z => ?_))
  cases r with
  | error er => exact hx pins σ _ _ er s2 I2 z
  | ok fl =>
    cases fl with
    | ret u =>
      obtain ⟨v, H', I3, rv3, ev, q3⟩ := I2.after z
      subst ev
      exact ⟨rv3, ⟨V.ref (hp1.objs.size + 1), H', I3, rfl, q3⟩⟩
    | next => exact False.elim z
    | brk => exact False.elim z
    | cont => exact False.elim z
/-- C('..') of a class without __init__ of its own -/
theorem pe_mk0 {x : Str} {C : Addr} (F : ExcBaseFacts B newId initId bmB) (q : PySem.W.excIn X.K C bmB newId = true) (hg : Gl X x) (hm : X.mg x = some (.ref C)) (kC : PySem.W.keepIn X.K (.ref C) = true) (ha : PA X (e :: es) ta)
    (hdb : (x == ("__debug__" : Str)) = false := by decide) (he : starEach (e :: es) X.env = (false, eval e X.env) :: starEach es X.env := by rfl) (hp : (backTo pos (starEach es X.env)).any (·.1) = false := by rfl) :
    PE X (.Call (.Name x p) (e :: es) [] pos) (tMk0 C ta) := by
  refine ⟨fun pins s σ H Q I hh => ?_⟩
  refine wpAny_Call_Name_kw (ld_glob I hg hm ?_ hdb)
  refine PySem.W.callWith_K (h₀ := X.base) I.ok.mod.kin kC (thn (ha.run pos pins s σ H _ I hh) fun us s1 ⟨vs, H1, I1, rv, hz, k1⟩ => ⟨I1.kIn, ?_⟩) he hp
  show wpAny _ _ (call (.ref C) us) _ _ _
  obtain ⟨bm, N, nm, qn, bs, hdct, sn, sub, ab, col, dd, y0, y1, y2, y3, y5, mN, hC, hN, hni, T⟩ := exc_obj I1.kIn q
  have lus : us.length ≤ sizeLine := by rw [← Paired.length rv, sizeLine_eq]; omega
  refine wpAny_call_exc_subT F T hC hN hni (fun h' z hm => ?_) lus
  have hn : H1 z = none := I1.hok.gone hm.new
  obtain ⟨t, ht, _, _⟩ := hm.there
  exact ⟨.ref z, _, I1.laidN hm.keeps hm.new hn (exo_ok ht), rfl, k1 z hn⟩
/-- S.__init__(self, ..) where S is an own class that has B's __init__ -/
theorem pe_binitS {n : Str} {pl : Sem Bool} {S C0 : Addr} {mc : Value} (_o : Own X.K C0 B newId initId bmB) (hg : Gl X n) (hm : X.mg n = some (.ref S)) (cr : CRead X.K S mc) (vV : PySem.W.findCls X.K (.ref S) mc "__init__" = some (.val (.builtin initId))) (hin : PySem.W.handedIn (.builtin initId) = true) (ha : PA X (e :: es) ta)
    (hc : eval (.Call (.Attribute (.Name n p1) "__init__" p2) (e :: es) [] pos) X.env = (do
      let ov ← eval (.Name n p1) X.env
      standAt p2.atName
      let (fn, fst) ← holding [ov] (getMethod ov "__init__" pl)
      callWith pos fn fst (backTo pos (starEach (e :: es) X.env)) (backToKw pos (keywordEach [] X.env))) := by rfl)
    (hdb : (n == ("__debug__" : Str)) = false := by decide) (he : starEach (e :: es) X.env = (false, eval e X.env) :: starEach es X.env := by rfl) (hp : (backTo pos (starEach es X.env)).any (·.1) = false := by rfl) :
    PE X (.Call (.Attribute (.Name n p1) "__init__" p2) (e :: es) [] pos) (tBI X.K B newId initId bmB ta) := by
  refine ⟨fun pins s σ H Q I k => PySem.W.methodCall_KW (ld_glob I hg hm ?_ hdb) hc⟩
  refine PySem.W.method_cls I.kIn cr.ga (PySem.W.cls_value I.kIn cr.rd vV hin ?_)
  show wpAny _ _ (callWith pos (Value.builtin initId) [] (backTo pos (starEach (e :: es) X.env)) []) _ _ _
  refine PyProof.Rows.callWith_method1 (thn (ha.run pos pins _ σ H _ (I.tok _) k) fun us s1 ⟨vs, H1, I1, rv, a, C, ws, ev, hl, T, ea, q⟩ => ?_) he hp
  subst ev
  cases rv with
  | @cons _ u1 _ ur rA rW =>
    obtain rfl : u1 = Value.ref a := rA
    exact binit T I1 ea (by rw [← Paired.length rW, sizeLine_eq]; omega) fun s2 J => ⟨.non, H1, J, rfl, q⟩
end
end Xc

/-! Xe3: text * number; repr of a list of things that may be dicts; comprehensions over zip; readings of Xe2 -/
namespace Xc
open PySem PySem.Spec PySem.Calls PyProof.Rows L2 Rs
/-! ### text * number -/
def rMulS : R2 := fun x y H Q => ∃ (t : Str) (n : Int), x = .str t ∧ y = .int n ∧ 0 ≤ n ∧ n ≤ 1000 ∧ t.length ≤ 1000 ∧ Q (.str (Txt.mul t n)) H
theorem op_mulS {X : Cx} : OpR X (binaryOp .Mult) rMulS := by
  intro pins s σ H x y v u Q I rx ry h
  obtain ⟨t, n, rfl, rfl, h0, h1, h2, q⟩ := h
  obtain ⟨a, rfl⟩ := (show ∃ a, v = Value.str t a from rx)
  obtain ⟨b, rfl⟩ := (show ∃ b, u = Value.int n b from ry)
  have hl : t.length * n.toNat ≤ 1000 * 1000 := Nat.mul_le_mul h2 (by omega)
  refine SB.mul (Q := EP X pins σ Q) ⟨by simp; omega, fun h3 _ => ?_, fun _ _ => ?_⟩ fun t' k => ⟨.str _, H, I.tok _, ⟨_, rfl⟩, q⟩
  · have h5 : (t.length : Int) ≤ (2 ^ 63 - 1) / n := by
      refine Int.le_ediv_of_mul_le (by omega) ?_
      have h6 : ((t.length * n.toNat : Nat) : Int) ≤ 1000 * 1000 := by omega
      rw [Int.natCast_mul, Int.toNat_of_nonneg h0] at h6
      omega
    omega
  · unfold Builtin.Str.tooLong
    simp
    rw [sizeLine_eq]
    omega
/-! ### repr of a list -/
inductive TzA (K : PySem.W.Frag) (H : Hp) : List V → List PyData → Prop where
  | nil : TzA K H [] []
  | cons {v : V} {d : PyData} {vs : List V} {ds : List PyData} : Tz K H v d → TzA K H vs ds → TzA K H (v :: vs) (d :: ds)
def rReprL (K : PySem.W.Frag) : List V → Hp → VK → Prop := fun xs H Q => ∃ (p : Addr) (vs : List V) (ds : List PyData), xs = [.ref p] ∧ SqL K H p vs ∧ TzA K H vs ds ∧ vs ≠ [] ∧ (PyData.list ds).shown.length ≤ sizeLine ∧ PyData.depthAll ds ≤ 30 ∧ Q (.str (PyData.list ds).shown) H
section
variable {X : Cx} {pins : List (Addr × Obj)} {σ : L2.St} {H : Hp} {s : Shared}
theorem Tz.reads (I : Inv X pins σ H s) {v : V} {d : PyData} {u : Value} (h : Tz X.K H v d) (r : RelV v u) : ∃ as, Reads s.heap u d as := by
  cases h with
  | dp h _ => exact Dp.reads I d v u h r
  | dk h p _ =>
    cases (show u = Value.ref _ from r)
    obtain ⟨_, ns, vs, kv', o, es, ep, e1, e2, e3, _, e5, _⟩ := dk_of I.hok h
    obtain ⟨r1, r2⟩ := plKv_reads (h := s.heap) p kv' e5
    exact ⟨_, Reads.dict (as := []) (bs := []) e1 e2.1 e3 r1 r2⟩
  | big f =>
    obtain ⟨t, rfl⟩ := (show ∃ t, u = Value.int _ t from r)
    exact ⟨_, .int _ t⟩
theorem TzA.reads (I : Inv X pins σ H s) : ∀ {vs : List V} {ds : List PyData} {us : List Value}, TzA X.K H vs ds → Vals vs us → ∃ as, ReadsAll s.heap us ds as
  | _, _, _, .nil, .nil => ⟨_, .nil⟩
  | _, _, _, .cons h t, .cons r q => by
    obtain ⟨a, h1⟩ := h.reads I r
    obtain ⟨b, h2⟩ := TzA.reads I t q
    exact ⟨_, .cons h1 h2⟩
theorem TzA.shows (I : Inv X pins σ H s) (st : Stat X.K) {n : Nat} (hn : n ≤ 50) : ∀ {vs : List V} {ds : List PyData} {us : List Value}, TzA X.K H vs ds → Vals vs us → (∀ d ∈ ds, d.shown.length ≤ sizeLine) → PyData.depthAll ds ≤ n →
    ∃ bs, ReadAtMost s.heap n bs ∧ ReprAllK X.prog X.w bs s.heap 50 us (PyData.shownAll ds)
  | _, _, _, .nil, .nil, _, _ => ⟨[], fun _ h => (nomatch h), by simp only [PyData.shownAll]; exact .nil⟩
  | _, _, _, .cons (d := d) h t, .cons r q, hz, hd => by
    simp only [PyData.depthAll] at hd
    obtain ⟨b1, m1, k1⟩ := h.shows I st r (hz d List.mem_cons_self) (by omega)
    obtain ⟨b2, m2, k2⟩ := TzA.shows I st hn t q (fun d hm => hz d (List.mem_cons_of_mem _ hm)) (by omega)
    refine ⟨b1 ++ b2, fun b hb => ?_, by
      simp only [PyData.shownAll]
      exact .cons (ReprK.more k1 fun b z => List.mem_append_left _ z) (k2.more_le (fun b z => List.mem_append_right _ z) (Nat.le_refl _))⟩
    rcases List.mem_append.mp hb with z | z
    · obtain ⟨d', as', r', hd'⟩ := m1 b z
      exact ⟨d', as', r', by omega⟩
    · exact m2 b z
theorem depth_of {ds : List PyData} : ∀ {d : PyData}, d ∈ ds → d.depth ≤ PyData.depthAll ds := by
  induction ds with
  | nil => intro d h; exact nomatch h
  | cons x xs ih =>
    intro d h
    simp only [PyData.depthAll]
    rcases List.mem_cons.mp h with rfl | h
    · omega
    · have := ih h
      omega
theorem shown_of {ds : List PyData} {d : PyData} (h : d ∈ ds) : d.shown ∈ PyData.shownAll ds := by
  induction ds with
  | nil => exact nomatch h
  | cons x xs ih =>
    simp only [PyData.shownAll]
    rcases List.mem_cons.mp h with rfl | h
    · exact List.mem_cons_self
    · exact List.mem_cons_of_mem _ (ih h)
theorem call_reprL {k : Nat} (st : Stat X.K) (c : Clr X.A) (hr : Room k X.A) : CallR X (.builtin "repr") (rReprL X.K) := by
  intro pins s σ H xs us Q I r h
  obtain ⟨p, vs, ds, rfl, hs, hq, hne, sw, dp, q⟩ := h
  cases r with
  | cons r1 r2 =>
    cases r2
    rename_i u
    cases (show u = Value.ref p from r1)
    obtain ⟨its, rv, ⟨o, n, ho, hc, hdn, hd⟩, hlen⟩ := I.list hs
    have un := hr.units
    obtain ⟨as, rd⟩ := hq.reads I rv
    have sz : ∀ d ∈ ds, d.shown.length ≤ sizeLine := fun d hm => by
      have z := listText_mem_le (ts := PyData.shownAll ds) (shown_of hm)
      simp only [PyData.shown] at sw
      omega
    obtain ⟨bs, hb, rk⟩ := hq.shows (n := PyData.depthAll ds) I st (by omega) rv sz (Nat.le_refl _)
    have own : Reads s.heap (.ref p) (.list ds) (p :: as) := Reads.list ho hc hd (by simpa using rd)
    have hna : p ∉ bs := fun hm => by
      obtain ⟨d', as', r', hd'⟩ := hb p hm
      have e := (PyProof.Rows.reads_det (fun _ _ e _ => e) own r').1
      rw [e] at hd'
      simp only [PyData.depth] at hd'
      omega
    cases its with
    | nil =>
      have := rv.length
      simp at this
      exact absurd this hne
    | cons y ys =>
      simp only [PyData.shown] at sw q
      refine call_repr_slot (by omega) ⟨o, ho, hc⟩ F.slot_list_repr.toG ?_
      exact call_list_reprK ho hc (by simpa using hd) hna (by rw [rk.length_eq]; simp) (fun i z e => rk.item i z (by simpa using e)) c (fun b _ => Clear.nil b) (by show X.A.units + 1 + (50 + 1) < cLine; omega) (fun _ _ e => e) (fun h' t2 tk2 kp => ⟨_, _, rfl, ⟨.str _, H, I.kept kp, ⟨t2, rfl⟩, q⟩⟩) sw
end
theorem rd_reprL {K : PySem.W.Frag} {H H0 : Hp} {M : List Addr} {L : Led} {Q : VK} {p : Addr} {vs : List V} {ds : List PyData} (S : Hs H0 M H L) (m : (p, HO.lst vs) ∈ L) (h : TzA K H vs ds) (ne : vs ≠ []) (sw : (PyData.list ds).shown.length ≤ sizeLine) (dp : PyData.depthAll ds ≤ 30)
    (k : Q (.str (PyData.list ds).shown) H) : rReprL K [.ref p] H Q := ⟨p, vs, ds, rfl, S.lst m, h, ne, sw, dp, k⟩
end Xc
namespace Xc
open PySem PySem.Spec PySem.Calls PyProof.Rows L2 Rs
/-- __init__ of n arguments that stores mk of them -/
def spIn (C : Addr) (n : Nat) (mk : List V → List (Str × V)) : Sp := fun vs H Q _ => ∃ (a : Addr) (xs : List V), vs = .ref a :: xs ∧ xs.length = n ∧ H a = some (exo a C none) ∧
  ∀ (dx : Addr) (H' : Hp), H dx = none → dx ≠ a → H' a = some (exo a C (some dx)) → H' dx = some (exd dx (mk xs)) → (∀ b, b ≠ a → b ≠ dx → H' b = H b) → Q .non H'
section
variable {σ : L2.St} {H H0 : Hp} {M : List Addr} {L : Led} {Q : VK} {K : PySem.W.Frag} {C a dx : Addr} {f : Str} {x : V}
theorem rd_mkx {R : Addr → Hp → Prop} {n : Nat} {mk : List V → List (Str × V)} {xs : List V} (S : Hs H0 M H L) (hl : xs.length = n) (hn : n ≤ 1000) (h : ∀ a d H', H0 a = none → H0 d = none → Hs H0 M H' ((a, exo a C (some d)) :: (d, exd d (mk xs)) :: L) → R a H') :
    xs.length ≤ 1000 ∧ ∀ a, H a = none → spIn C n mk (.ref a :: (xs ++ [])) (upd H a (exo a C none)) (fun v H2 => v = .non ∧ R a H2) (fun _ _ _ => False) := by
  refine ⟨by omega, fun a ha => ⟨a, xs, by rw [List.append_nil], hl, upd_same, fun d H' hd ne e1 e2 e3 => ⟨rfl, ?_⟩⟩⟩
  rw [upd_ne ne] at hd
  obtain ⟨z1, S1⟩ := S.new hd (exd d (mk xs))
  obtain ⟨z2, S2⟩ := S1.new (a := a) (by rw [upd_ne (Ne.symm ne)]; exact ha) (exo a C (some d))
  have e : H' = upd (upd H d (exd d (mk xs))) a (exo a C (some d)) := by
    funext b
    by_cases hb : b = a
    · rw [hb, upd_same, e1]
    · rw [upd_ne hb]
      by_cases hb2 : b = d
      · rw [hb2, upd_same, e2]
      · rw [upd_ne hb2, e3 b hb hb2, upd_ne hb]
  rw [e]
  exact h a d _ z2 z1 S2
theorem rd_tmkx {sp : Sp} {dvs : List V} {ta : TA} (h : ta σ H fun vs H1 => vs.length ≤ 1000 ∧ ∀ a, H1 a = none → sp (.ref a :: (vs ++ dvs)) (upd H1 a (exo a C none)) (fun v H2 => v = .non ∧ Q (.ref a) H2) (fun _ _ _ => False)) : tMkX C sp dvs ta σ H Q := h
theorem rd_tmk0 {ta : TA} (h : ta σ H fun vs H1 => vs.length ≤ 1000 ∧ ∀ a H2, H1 a = none → H2 = upd H1 a (exo a C none) → Q (.ref a) H2) : tMk0 C ta σ H Q := by
  have e : (fun (vs : List V) (H1 : Hp) => vs.length ≤ 1000 ∧ ∀ a H2, H1 a = none → H2 = upd H1 a (exo a C none) → Q (.ref a) H2) = fun vs H1 => vs.length ≤ 1000 ∧ ∀ a, H1 a = none → Q (.ref a) (upd H1 a (exo a C none)) := by
    funext vs H1
    exact propext ⟨fun ⟨x, y⟩ => ⟨x, fun a ha => y a _ ha rfl⟩, fun ⟨x, y⟩ => ⟨x, fun a H2 ha e => by rw [e]; exact y a ha⟩⟩
  rw [e] at h
  exact h
theorem rd_mk0 {R : Addr → Hp → Prop} {xs : List V} (S : Hs H0 M H L) (hl : xs.length ≤ 1000) (h : ∀ a H', H0 a = none → Hs H0 M H' ((a, exo a C none) :: L) → R a H') : xs.length ≤ 1000 ∧ ∀ a H2, H a = none → H2 = upd H a (exo a C none) → R a H2 :=
  ⟨hl, fun a H2 ha e => by rw [e]; exact h a _ (S.new ha (exo a C none)).1 (S.new ha (exo a C none)).2⟩
theorem rd_isE {o : Option (Addr × List (Str × V))} {c : V} {u : Value} {b : Bool} (e0 : ExcAt H a C o) (l : Lk K C) (hc : ClsV c u) (e : PySem.W.kitOne K (.ref C) u = some b) (h : Q (.bl b) H) : rIsE K [.ref a, c] H Q :=
  ⟨a, C, o, c, u, b, rfl, hc, l, e0, e, h⟩
theorem rd_xe {te : TE} (h : te σ H fun x H1 => ∃ (a C dx : Addr) (fs : List (Str × V)) (v : V), x = .ref a ∧ Lk K C ∧ PySem.W.findIn K (.ref C) f = some none ∧ ExcAt H1 a C (some (dx, fs)) ∧ fs.lookup f = some v ∧ Q v H1) : tXe K f te σ H Q := h
theorem rd_mulS {t : Str} {n : Int} (h0 : 0 ≤ n) (h1 : n ≤ 1000) (h2 : t.length ≤ 1000) (h : Q (.str (Txt.mul t n)) H) : rMulS (.str t) (.int n) H Q := ⟨t, n, rfl, rfl, h0, h1, h2, h⟩
theorem lcw_zip {a b : Addr} {xs ys : List V} {g : TG} {tt : TT} {te : TE} {vs : List Nat} (S : Hs H0 M H L) (hn : xs.length = ys.length) (R : Nat → List V → Prop) (r0 : R 0 []) (hl : ∀ H' acc D, Hs H0 M H' ((D, .lst acc) :: L) → SqL K H' a xs ∧ SqL K H' b ys)
    (hs : ∀ D i x y acc H' T, xs[i]? = some x → ys[i]? = some y → R i acc → H0 D = none → H0 T = none → Hs H0 M H' ((T, .tup [x, y]) :: (D, .lst acc) :: L) → g (.ref T) (wipe σ vs) H' fun σ2 H2 => wipe σ2 vs = wipe σ vs ∧ tt σ2 H2 fun b H3 => if b = true then te σ2 H3 fun y H4 => lcPut H0 M L (R (i + 1)) D y H4 else lcSkip H0 M L (R (i + 1)) D H3)
    (hd : ∀ D acc H', R xs.length acc → H0 D = none → Hs H0 M H' ((D, .lst acc) :: L) → Q (.ref D) H') : lcW (Itz K a b) g tt te vs σ H Q := by
  intro D hD
  have S1 := S.new hD (.lst [])
  refine lc_it (walk_zip (xs := xs) (ys := ys) (n := xs.length) (by omega)) (fun i H' => lcSkip H0 M L (R i) D H') ⟨S1.1, [], r0, S1.2⟩ (fun i H' _ ⟨_, acc, _, S'⟩ => hl H' acc D S') ?_ ?_
  · rintro i x H' H2 hi ⟨n0, acc, r, S'⟩ ⟨T, y, z, rfl, hT, rfl, e1, e2⟩
    obtain ⟨hT0, S2⟩ := S'.new hT (.tup [y, z])
    exact hs D i y z acc _ T e1 e2 r n0 hT0 S2
  · rintro H' ⟨n0, acc, r, S'⟩
    exact hd D acc H' r n0 S'
theorem rd_zip {R : It → Hp → Prop} {ta : TA} (h : ta σ H fun vs H1 => ∃ (a b : Addr) (xs ys : List V), vs = [.ref a, .ref b] ∧ SqL K H1 a xs ∧ SqL K H1 b ys ∧ R (Itz K a b) H1) : iZip K ta σ H R := h
end
end Xc

/-! Xg1: lists and tuples alike as what is walked: enumerate with a start, zip of any two -/
namespace Xg
open PySem PySem.Spec PySem.Calls PyProof.Rows L2 Rs Xd
/-- a list (false), a tuple (true) -/
def Sq (b : Bool) (K : PySem.W.Frag) (H : Hp) (a : Addr) (xs : List V) : Prop := match b with
  | true => SqT K H a xs
  | false => SqL K H a xs
def IsIt (b : Bool) (h : Heap) (i a : Addr) (j : Nat) : Prop := match b with
  | true => h.IsTupleIter i a j
  | false => h.IsListIter i a j
def IsSq (b : Bool) (h : Heap) (a : Addr) (vs : Array Value) : Prop := match b with
  | true => h.IsTuple a vs
  | false => h.IsList a vs
def ito (b : Bool) (a : Addr) : Obj := match b with
  | true => { cls := .type "tuple_iterator", data := .fields #[.ref a, .int 0 0] }
  | false => { cls := .type "list_iterator", data := .fields #[.ref a, .int 0 0] }
theorem IsIt.at {b : Bool} {h h' : Heap} {i a : Addr} {j : Nat} (x : IsIt b h i a j) (k : ∀ o, h.get? i = some o → h'.get? i = some o) : IsIt b h' i a j := by
  cases b <;> (obtain ⟨o, ho, r⟩ := x; exact ⟨o, k o ho, r⟩)
theorem IsIt.obj {b : Bool} {h : Heap} {i a : Addr} {j : Nat} (x : IsIt b h i a j) : ∃ o, h.get? i = some o ∧ ∀ v, o.data ≠ .cell v := by
  cases b <;> (obtain ⟨o, ho, _, hd⟩ := x; exact ⟨o, ho, fun v z => by rw [hd] at z; cases z⟩)
theorem IsSq.lt {b : Bool} {h : Heap} {a : Addr} {vs : Array Value} (x : IsSq b h a vs) : a < h.objs.size := by
  cases b <;> (obtain ⟨o, ho, _⟩ := x; exact Heap.lt_size ho)
theorem begins_sq (b : Bool) (a : Addr) (vs : Array Value) : Begins (.ref a) (ito b a) (fun h => IsSq b h a vs) := by
  cases b
  · exact begins_list a vs
  · exact begins_tuple a vs
theorem ito_it {b : Bool} {h : Heap} {i a : Addr} (x : h.get? i = some (ito b a)) : IsIt b h i a 0 := by
  cases b <;> exact ⟨_, x, rfl, rfl⟩
theorem sdraws {prog : Program} {w : World} {A : Around} (hh : A.handled = none) (b : Bool) (i a : Addr) (ne : a ≠ i) (vs : Array Value) : Draws prog w A i [i, a] vs.size (fun j v => vs[j]? = some v) (fun j h => IsIt b h i a j ∧ IsSq b h a vs) := by
  cases b
  · exact Draws.list hh i a ne vs
  · exact tdraws hh i a ne vs
section
variable {X : Cx} {pins : List (Addr × Obj)} {σ : L2.St} {H : Hp} {s : Shared} {a : Addr} {xs ys : List V}
theorem sq_get (I : Inv X pins σ H s) {b : Bool} (h : Sq b X.K H a xs) : ∃ its : List Value, Vals xs its ∧ IsSq b s.heap a its.toArray := by
  cases b
  · obtain ⟨its, rv, p, _⟩ := I.list h
    exact ⟨its, rv, p.isList⟩
  · obtain ⟨its, rv, p, _⟩ := I.tuple h
    exact ⟨its, rv, p⟩
theorem sq_inj (I : Inv X pins σ H s) {b : Bool} (h : Sq b X.K H a xs) (h' : Sq b X.K H a ys) : xs = ys := by
  cases b
  · exact I.list_inj h h'
  · exact I.tuple_inj h h'
end
/-! ### enumerate from a start -/
def IteS (b : Bool) (k : Int) (K : PySem.W.Frag) (a : Addr) : It :=
  ⟨fun i H => ∃ (xs : List V) (x : V), Sq b K H a xs ∧ xs[i]? = some x, fun i H v H' => ∃ (T : Addr) (x : V), v = .ref T ∧ H T = none ∧ H' = upd H T (.tup [.int (k + (i : Nat)), x]) ∧ ∀ xs, Sq b K H a xs → xs[i]? = some x, fun i H => ∃ xs : List V, Sq b K H a xs ∧ xs.length = i⟩
theorem turn_eS {P : Program} {w : World} {K : PySem.W.Frag} {elts : List Expr} {kk : Nat} {tpos : Pos} (b : Bool) (k : Int) (a e it : Addr) (nai : a ≠ it) (nei : e ≠ it) (nea : e ≠ a) :
    Turn P w K (.Tuple elts kk tpos) (IteS b k K a) [e, it] e (fun i h => (∃ old, IsEnum h e it (k + ((i : Nat) : Int)) old) ∧ IsIt b h it a i) where
  mem := List.mem_cons_self
  obj := fun i h ⟨⟨old, he⟩, hi⟩ c hc => by
    rcases (show c = e ∨ c = it by simpa using hc) with rfl | rfl
    · exact ⟨_, he, fun v z => nomatch z⟩
    · exact hi.obj
  keep := fun i h h' ⟨⟨old, he⟩, hi⟩ kp => ⟨⟨old, kp e (by simp) _ he⟩, hi.at fun o z => kp it (by simp) o z⟩
  item := by
    intro X hP hw hK hc i pins s σ H E I hf ⟨⟨old, he⟩, hit⟩ ⟨xs, x, hq, hx⟩
    subst hP hw hK
    obtain ⟨its, rv, tpl⟩ := sq_get I hq
    obtain ⟨u, hu, ru⟩ := rv.get hx
    obtain ⟨oi, hoi, _⟩ := hit.obj
    have le : e < s.heap.objs.size := Heap.lt_size he
    have li : it < s.heap.objs.size := Heap.lt_size hoi
    have D := sdraws (prog := X.prog) (w := X.w) (A := X.A.in1) (I.ok.hd hc) b it a nai its.toArray
    refine wpAny_pyNext_enum_itemC D he ⟨hit, tpl⟩ ?_ nei (by simp [nei, nea]) fun u' h' tk hu' ho hst hT hsz hk => ?_
    · have := (List.getElem?_eq_some_iff.mp hu).1
      rw [List.size_toArray]
      exact this
    · obtain rfl : u' = u := by
        have z : its[i]? = some u' := by simpa using hu'
        rw [hu] at z
        exact (Option.some.inj z).symm
      refine ⟨_, rfl, wpAny_letOwnedTupleGo_enum (s := { s with heap := h', toks := tk + 1 }) ho fun h2 he2 sb => ?_⟩
      have hT2 : h2.get? s.heap.objs.size = some { cls := .type "tuple", data := .seq #[.int (k + i) tk, u'] } := (sb.2 _ (Nat.ne_of_gt le)).trans hT
      have nw : ObjOk X.prog X.w (upd H s.heap.objs.size (.tup [.int (k + (i : Nat)), x])) h2 s.heap.objs.size (.tup [.int (k + (i : Nat)), x]) := ⟨by rw [sizeLine_eq]; simp, [.int (k + i) tk, u'], .cons ⟨_, rfl⟩ (.cons ru .nil), ⟨_, hT2, rfl, _, rfl⟩⟩
      have I1 : Inv X pins σ (upd H s.heap.objs.size (.tup [.int (k + (i : Nat)), x])) { s with heap := h2, toks := tk + 1 } :=
        I.turnedNew (ch := [e, it]) (fun c ob hb q => (sb.2 c (fun z => hb (by simp [z]))).trans (hk c ob (fun z => hb (by simp [z])) (fun z => hb (by simp [z])) q)) hf (Nat.le_refl _) nw
      refine ⟨.ref s.heap.objs.size, _, I1, rfl, ⟨_, x, rfl, I.hok.fresh (Nat.le_refl _), rfl, fun ys hy => by rw [sq_inj I hy hq]; exact hx⟩, ⟨⟨u', ?_⟩, hst.1.at fun o z => (sb.2 it (Ne.symm nei)).trans z⟩, fun c hb => ?_⟩
      · rw [show k + ((i + 1 : Nat) : Int) = k + (i : Int) + 1 by omega]; exact he2
      · have hb2 : c < s.heap.objs.size := by
          rcases (show c = e ∨ c = it by simpa using hb) with rfl | rfl
          · exact le
          · exact li
        rw [upd_ne (Nat.ne_of_lt hb2)]; exact (hf c hb).1
  done := by
    intro X hP hw hK hc i pins s σ H E I hf ⟨⟨old, he⟩, hit⟩ ⟨xs, hq, hx⟩
    subst hP hw hK
    obtain ⟨its, rv, tpl⟩ := sq_get I hq
    obtain ⟨f0, f1, f2, f3, f4, f5⟩ := hf it (by simp)
    have hl := rv.length
    have D := sdraws (prog := X.prog) (w := X.w) (A := X.A.in1) (I.ok.hd hc) b it a nai its.toArray
    have en : its.toArray.size = i := by rw [List.size_toArray]; omega
    exact wpAny_pyNext_enum_endD D he ⟨by rw [en]; exact hit, tpl⟩ fun h' eb => ⟨rfl, I.turned (t' := s.toks) (fun c o hb q => eb c o hb q) f0 f1 f3 f4 f5⟩
  self := fun A i s Q E ⟨⟨_, he⟩, _⟩ h => wpAny_pyIter_enum he h
section
variable {M : Model} {A : Around} {E : Value → Shared → Prop} {s : Shared} {env : Env}
/-- a built-in class called with keywords -/
theorem callWith_tyKw {pos : Pos} {T : String} {e : Expr} {rest : List Expr} {kws : List Keyword} {Q : Value → Shared → Prop}
    (h : wpAny M A (spliced (backTo pos (starEach (e :: rest) env))) (fun vs s1 => wpAny M A (evalAll ((backToKw pos (keywordEach kws env)).map (·.2)))
      (fun ws s2 => wpAny M A (call (.type T) vs (((backToKw pos (keywordEach kws env)).filterMap (·.1)).zip ws)) Q E s2) E s1) E s)
    (he : backTo pos (starEach (e :: rest) env) = (false, eval e env) :: backTo pos (starEach rest env)) (hp : (backTo pos (starEach (e :: rest) env)).any (·.1) = false)
    (ha : (backToKw pos (keywordEach kws env)).all (·.1.isSome) = true) (hn : (backToKw pos (keywordEach kws env)).any (·.1.isNone) = false) :
    wpAny M A (callWith pos (.type T) [] (backTo pos (starEach (e :: rest) env)) (backToKw pos (keywordEach kws env))) Q E s := by
  rw [he] at h hp ⊢
  have h2 := evalArgs_kwB (Q := fun (z : Args) s2 => wpAny M A (call (.type T) z.pos z.kw) Q E s2) (f := .type T) ha h
  unfold callWith
  refine wpAny_bind (wpAny_holding (wpAny_mono h2 (fun z s1 q => wpAny_bind (wpAny_standAt ?_)) fun _ _ x => x))
  simp only [hp, hn, Bool.or_false]
  exact wpAny_bind (wpAny_pure (wpAny_bind (wpAny_mono q (fun r s3 hr => wpAny_bind (wpAny_holding (wpAny_point (wpAny_pure hr)))) fun _ _ x => x)))
end
def enS (b : Bool) (K : PySem.W.Frag) (R : It → Hp → Prop) (vs zs : List V) (H : Hp) : Prop := ∃ (a : Addr) (k : Int) (xs : List V), vs = [.ref a] ∧ zs = [.int k] ∧ -(2 ^ 63) ≤ k ∧ k < 2 ^ 63 ∧ Sq b K H a xs ∧ R (IteS b k K a) H
def iEnS (b : Bool) (K : PySem.W.Frag) (ta tk : TA) : TI := fun σ H R => ta σ H fun vs H1 => tk σ H1 fun zs H2 => enS b K R vs zs H2
theorem apart_e {N : Nat} {a : Addr} (h : a < N) : a ≠ N ∧ N + 1 ≠ N ∧ N + 1 ≠ a := ⟨Nat.ne_of_lt h, Nat.succ_ne_self _, fun z => by
  rw [← z] at h
  exact absurd h (Nat.not_lt.mpr (Nat.le_succ N))⟩
theorem pi_enS {X : Cx} (b : Bool) {e : Expr} {kws : List Keyword} {ta tk : TA} {p pos tpos : Pos} {elts : List Expr} {kk : Nat} (hg : Gl X "enumerate") (hm : X.mg "enumerate" = none) (ha : PA X [e] ta) (hk : PK X kws tk)
    (he : backTo pos (starEach [e] X.env) = (false, eval e X.env) :: backTo pos (starEach [] X.env) := by rfl) (hpl : (backTo pos (starEach [e] X.env)).any (·.1) = false := by rfl)
    (hall : (backToKw pos (keywordEach kws X.env)).all (·.1.isSome) = true := by rfl) (hnone : (backToKw pos (keywordEach kws X.env)).any (·.1.isNone) = false := by rfl) (hks : (backToKw pos (keywordEach kws X.env)).filterMap (·.1) = [Str.ofString "start"] := by rfl) :
    PI X (.Tuple elts kk tpos) (.Call (.Name "enumerate" p) [e] kws pos) (iEnS b X.K ta tk) := by
  refine ⟨fun pins s σ H R I h => ?_⟩
  refine wpAny_Call_Name_kw (ld_blt I hg hm boot_enumerate ?_)
  refine callWith_tyKw (thn (ha.run pos pins s σ H _ I h) fun us s1 ⟨vs, H1, I1, r1, q1⟩ => thn (hk.run pos pins s1 σ H1 _ I1 q1) fun ws s2 ⟨zs, H2, I2, r2, a, k, xs, ev, ez, k0, k1, hq, q⟩ => ?_) he hpl hall hnone
  rw [hks]
  subst ev ez
  rw [Vals.ref1 r1]
  obtain ⟨u, rfl, t, rfl⟩ := vals1 r2
  obtain ⟨its, rv, tpl⟩ := sq_get I2 hq
  refine enum_begins_start (begins_sq b a its.toArray) tpl k0 k1 fun h' he hit hz hkp => wpAny_pyIter_enum he ?_
  have I3 : Inv X pins σ H2 { s2 with heap := h' } := I2.kept (t' := s2.toks) hkp
  obtain ⟨n1, n2, n3⟩ := apart_e tpl.lt
  refine ⟨s2.heap.objs.size + 1, [s2.heap.objs.size + 1, s2.heap.objs.size], _, _, H2, rfl, I3, turn_eS b k a (s2.heap.objs.size + 1) s2.heap.objs.size n1 n2 n3, ⟨⟨.none, by rw [show k + ((0 : Nat) : Int) = k by omega]; exact he⟩, ito_it hit⟩, fun c hc => ?_, q⟩
  have hle : s2.heap.objs.size ≤ c := by
    rcases (show c = s2.heap.objs.size + 1 ∨ c = s2.heap.objs.size by simpa using hc) with rfl | rfl
    · exact Nat.le_succ _
    · exact Nat.le_refl _
  exact I2.fpOk hle (I2.hok.fresh hle)
/-! ### zip of any two -/
def ItzS (b c : Bool) (K : PySem.W.Frag) (p q : Addr) : It :=
  ⟨fun i H => ∃ (xs ys : List V) (x y : V), Sq b K H p xs ∧ Sq c K H q ys ∧ xs[i]? = some x ∧ ys[i]? = some y,
    fun i H v H' => ∃ T x y, v = .ref T ∧ H T = none ∧ H' = upd H T (.tup [x, y]) ∧ (∀ xs, Sq b K H p xs → xs[i]? = some x) ∧ ∀ ys, Sq c K H q ys → ys[i]? = some y,
    fun i H => ∃ xs ys : List V, Sq b K H p xs ∧ Sq c K H q ys ∧ i = min xs.length ys.length⟩
theorem turn_zS {P : Program} {w : World} {K : PySem.W.Frag} {elts : List Expr} {kk : Nat} {tpos : Pos} (b c : Bool) {p q z TI TO i1 i2 : Addr} (D : ZipSep2 z TI TO i1 i2 [i1, p] [i2, q]) (n1 : p ≠ i1) (n2 : q ≠ i2) :
    Turn P w K (.Tuple elts kk tpos) (ItzS b c K p q) [z, TI, TO, i1, i2] z (fun i h => IsZip h z TI TO .none ∧ IsTupOf2 h TI (.ref i1) (.ref i2) ∧ (∃ x y, IsTupOf2 h TO x y) ∧ IsIt b h i1 p i ∧ IsIt c h i2 q i) where
  mem := List.mem_cons_self
  obj := fun i h ⟨a1, a2, ⟨x, y, a3⟩, a4, a5⟩ d hd => by
    rcases (show d = z ∨ d = TI ∨ d = TO ∨ d = i1 ∨ d = i2 by simpa using hd) with rfl | rfl | rfl | rfl | rfl
    · exact ⟨_, a1, fun v y => nomatch y⟩
    · exact ⟨_, a2, fun v y => nomatch y⟩
    · exact ⟨_, a3, fun v y => nomatch y⟩
    · exact a4.obj
    · exact a5.obj
  keep := fun i h h' ⟨a1, a2, ⟨x, y, a3⟩, a4, a5⟩ kp => ⟨kp z (by simp) _ a1, kp TI (by simp) _ a2, ⟨x, y, kp TO (by simp) _ a3⟩, a4.at fun o e => kp i1 (by simp) o e, a5.at fun o e => kp i2 (by simp) o e⟩
  item := by
    intro X hP hw hK hc i pins s σ H E I hf ⟨a1, a2, ⟨x0, y0, a3⟩, a4, a5⟩ ⟨xs, ys, x, y, hx, hy, ex, ey⟩
    subst hP hw hK
    obtain ⟨us, rx, tx⟩ := sq_get I hx
    obtain ⟨vs, ry, ty⟩ := sq_get I hy
    obtain ⟨u, hu, ru⟩ := rx.get ex
    obtain ⟨v, hv, rv⟩ := ry.get ey
    have lz : z < s.heap.objs.size := Heap.lt_size a1
    have Da := sdraws (prog := X.prog) (w := X.w) (A := X.A.in1) (I.ok.hd hc) b i1 p n1 us.toArray
    have Db := sdraws (prog := X.prog) (w := X.w) (A := X.A.in1) (I.ok.hd hc) c i2 q n2 vs.toArray
    have lu := (List.getElem?_eq_some_iff.mp hu).1
    have lv := (List.getElem?_eq_some_iff.mp hv).1
    refine wpAny_pyNext_zipD2_item D Da Db a1 a2 a3 ⟨a4, tx⟩ ⟨a5, ty⟩ (by rw [List.size_toArray]; exact lu) (by rw [List.size_toArray]; exact lv) fun u' v' h' tk pu pv hz hTO s1 s2 hT hsz hk => ?_
    obtain rfl : u' = u := by
      have e : us[i]? = some u' := by simpa using pu
      rw [hu] at e; exact (Option.some.inj e).symm
    obtain rfl : v' = v := by
      have e : vs[i]? = some v' := by simpa using pv
      rw [hv] at e; exact (Option.some.inj e).symm
    refine ⟨_, rfl, wpAny_letOwnedTupleGo_zip (s := { s with heap := h', toks := tk }) hz fun h2 hz2 sb => ?_⟩
    have hT2 : h2.get? s.heap.objs.size = some { cls := .type "tuple", data := .seq #[u', v'] } := (sb.2 _ (Nat.ne_of_gt lz)).trans hT
    have nw : ObjOk X.prog X.w (upd H s.heap.objs.size (.tup [x, y])) h2 s.heap.objs.size (.tup [x, y]) := ⟨by rw [sizeLine_eq]; simp, [u', v'], .cons ru (.cons rv .nil), ⟨_, hT2, rfl, _, rfl⟩⟩
    have I1 : Inv X pins σ (upd H s.heap.objs.size (.tup [x, y])) { s with heap := h2, toks := tk } :=
      I.turnedNew (ch := [z, TI, TO, i1, i2]) (fun d o hb e => (sb.2 d (fun y => hb (by simp [y]))).trans (hk d o (fun y => hb (by simp [y])) (fun y => hb (by simp [y])) (fun y => hb (by simp [y])) (fun y => hb (by simp [y])) e)) hf (Nat.le_refl _) nw
    refine ⟨.ref s.heap.objs.size, _, I1, rfl, ⟨_, x, y, rfl, I.hok.fresh (Nat.le_refl _), rfl, fun l hl => by rw [sq_inj I hl hx]; exact ex, fun l hl => by rw [sq_inj I hl hy]; exact ey⟩, ⟨hz2, ?_, ⟨u', v', ?_⟩, ?_, ?_⟩, fun d hd => ?_⟩
    · exact (sb.2 _ D.TIz).trans (hk _ _ D.TIz D.TITO D.TIi1 D.TIi2 a2)
    · exact (sb.2 _ D.TOz).trans hTO
    · exact s1.1.at fun o e => (sb.2 _ D.zi1.symm).trans e
    · exact s2.1.at fun o e => (sb.2 _ D.zi2.symm).trans e
    · have hlt : d < s.heap.objs.size := by
        rcases (show d = z ∨ d = TI ∨ d = TO ∨ d = i1 ∨ d = i2 by simpa using hd) with rfl | rfl | rfl | rfl | rfl
        · exact lz
        · exact Heap.lt_size a2
        · exact Heap.lt_size a3
        · obtain ⟨_, e, _⟩ := a4.obj; exact Heap.lt_size e
        · obtain ⟨_, e, _⟩ := a5.obj; exact Heap.lt_size e
      rw [upd_ne (Nat.ne_of_lt hlt)]
      exact (hf d hd).1
  done := by
    intro X hP hw hK hc i pins s σ H E I hf ⟨a1, a2, ⟨x0, y0, a3⟩, a4, a5⟩ ⟨xs, ys, hx, hy, hi⟩
    subst hP hw hK
    obtain ⟨us, rx, tx⟩ := sq_get I hx
    obtain ⟨vs, ry, ty⟩ := sq_get I hy
    have l1 := rx.length
    have l2 := ry.length
    have Da := sdraws (prog := X.prog) (w := X.w) (A := X.A.in1) (I.ok.hd hc) b i1 p n1 us.toArray
    have Db := sdraws (prog := X.prog) (w := X.w) (A := X.A.in1) (I.ok.hd hc) c i2 q n2 vs.toArray
    exact wpAny_pyNext_zipD2_end D Da Db a1 a2 a3 ⟨a4, tx⟩ ⟨a5, ty⟩ (by rw [List.size_toArray]; omega) (by rw [List.size_toArray]; omega) (by rw [List.size_toArray, List.size_toArray]; omega) fun h' tk hk => ⟨rfl, I.turnedL (t' := tk) (ch := [z, TI, TO, i1, i2]) (fun d o hb e =>
      hk d o (fun y => hb (by simp [y])) (fun y => hb (by simp [y])) (fun y => hb (by simp [y])) (fun y => hb (by simp [y])) e) hf⟩
  self := fun A i s Q E st h => wpAny_pyIter_zip st.1 h
def zpS (b c : Bool) (K : PySem.W.Frag) (R : It → Hp → Prop) (vs : List V) (H : Hp) : Prop := ∃ (p q : Addr) (xs ys : List V), vs = [.ref p, .ref q] ∧ Sq b K H p xs ∧ Sq c K H q ys ∧ R (ItzS b c K p q) H
def iZpS (b c : Bool) (K : PySem.W.Frag) (ta : TA) : TI := fun σ H R => ta σ H fun vs H1 => zpS b c K R vs H1
theorem pi_zpS {X : Cx} (b c : Bool) {e e2 : Expr} {ta : TA} {p pos tpos : Pos} {elts : List Expr} {kk : Nat} (hg : Gl X "zip") (hm : X.mg "zip" = none) (ha : PA X [e, e2] ta)
    (hs : starEach [e, e2] X.env = (false, eval e X.env) :: starEach [e2] X.env := by rfl) (hpl : (backTo pos (starEach [e2] X.env)).any (·.1) = false := by rfl) :
    PI X (.Tuple elts kk tpos) (.Call (.Name "zip" p) [e, e2] [] pos) (iZpS b c X.K ta) := by
  refine ⟨fun pins s σ H R I h => ?_⟩
  refine Call_ (ld_blt I hg hm boot_zip (PyProof.Rows.callWith_type1 (thn (ha.run pos pins s σ H _ I h) fun us s1 ⟨vs, H1, I1, r1, p1, p2, xs, ys, ev, hx, hy, q⟩ => ?_) hs hpl))
  subst ev
  cases r1 with
  | cons r rr =>
    cases rr with
    | cons r2 rr =>
      cases rr
      cases r
      cases r2
      obtain ⟨us, rx, tx⟩ := sq_get I1 hx
      obtain ⟨vs, ry, ty⟩ := sq_get I1 hy
      refine zip_begins2 (begins_sq b p1 us.toArray) (begins_sq c p2 vs.toArray) tx ty fun h' hz hTI hTO h1 h2 hsz hk => wpAny_pyIter_zip hz ?_
      have I2 : Inv X pins σ H1 { s1 with heap := h' } := I1.kept (t' := s1.toks) hk
      have l1 := tx.lt
      have l2 := ty.lt
      have Z : ZipSep2 (s1.heap.objs.size + 4) (s1.heap.objs.size + 2) (s1.heap.objs.size + 3) s1.heap.objs.size (s1.heap.objs.size + 1) [s1.heap.objs.size, p1] [s1.heap.objs.size + 1, p2] := zip_sep2 (fun d hd => by rw [List.mem_singleton.mp hd]; exact l1) (fun d hd => by rw [List.mem_singleton.mp hd]; exact l2)
      refine ⟨s1.heap.objs.size + 4, [s1.heap.objs.size + 4, s1.heap.objs.size + 2, s1.heap.objs.size + 3, s1.heap.objs.size, s1.heap.objs.size + 1], _, _, H1, rfl, I2, turn_zS b c Z (Nat.ne_of_lt l1) (Nat.ne_of_lt (Nat.lt_succ_of_lt l2)), ⟨hz, hTI, ⟨_, _, hTO⟩, ito_it h1, ito_it h2⟩, fun d hd => ?_, q⟩
      have hle : s1.heap.objs.size ≤ d := by
        rcases (show d = s1.heap.objs.size + 4 ∨ d = s1.heap.objs.size + 2 ∨ d = s1.heap.objs.size + 3 ∨ d = s1.heap.objs.size ∨ d = s1.heap.objs.size + 1 by simpa using hd) with rfl | rfl | rfl | rfl | rfl
        · exact Nat.le_add_right _ _
        · exact Nat.le_add_right _ _
        · exact Nat.le_add_right _ _
        · exact Nat.le_refl _
        · exact Nat.le_add_right _ _
      exact I1.fpOk hle (I1.hok.fresh hle)
/-! ### readings -/
section
variable {K : PySem.W.Frag} {H H0 : Hp} {M : List Addr} {L : Led} {σ : L2.St} {a p q : Addr} {b c : Bool} {Q : VK}
theorem Hs.sqT {xs : List V} (S : Hs H0 M H L) (m : (a, HO.tup xs) ∈ L) : Sq true K H a xs := S.tup m
theorem Hs.sqL {xs : List V} (S : Hs H0 M H L) (m : (a, HO.lst xs) ∈ L) : Sq false K H a xs := S.lst m
theorem walk_eS {k : Int} {xs : List V} : Walk (IteS b k K a) xs.length (fun H => Sq b K H a xs) (YPair (fun i => some (.int (k + (i : Nat)))) (fun i => xs[i]?)) :=
  ⟨fun i _ hi q => ⟨xs, xs[i], q, by simp [hi]⟩, fun _ q => ⟨xs, q, rfl⟩, fun i H v H' _ q ⟨T, x, h1, h2, h3, h4⟩ => ⟨T, .int (k + (i : Nat)), x, h1, h2, h3, rfl, h4 xs q⟩⟩
theorem walk_zS {xs ys : List V} : Walk (ItzS b c K p q) (min xs.length ys.length) (fun H => Sq b K H p xs ∧ Sq c K H q ys) (YPair (fun i => xs[i]?) (fun i => ys[i]?)) :=
  ⟨fun i _ hi h => ⟨xs, ys, xs[i]'(by omega), ys[i]'(by omega), h.1, h.2, List.getElem?_eq_getElem _, List.getElem?_eq_getElem _⟩, fun _ h => ⟨xs, ys, h.1, h.2, rfl⟩,
    fun i H v H' _ h ⟨T, x, y, h1, h2, h3, h4, h5⟩ => ⟨T, x, y, h1, h2, h3, h4 xs h.1, h5 ys h.2⟩⟩
theorem rd_enS {R : It → Hp → Prop} {ta tk : TA} (h : ta σ H fun vs H1 => tk σ H1 fun zs H2 => enS b K R vs zs H2) : iEnS b K ta tk σ H R := h
theorem rd_enST {R : It → Hp → Prop} {xs : List V} {k : Int} (S : Hs H0 M H L) (m : (a, HO.tup xs) ∈ L) (k0 : -(2 ^ 63) ≤ k) (k1 : k < 2 ^ 63) (h : R (IteS true k K a) H) : enS true K R [.ref a] [.int k] H := ⟨a, k, xs, rfl, rfl, k0, k1, S.tup m, h⟩
theorem rd_enSL {R : It → Hp → Prop} {xs : List V} {k : Int} (S : Hs H0 M H L) (m : (a, HO.lst xs) ∈ L) (k0 : -(2 ^ 63) ≤ k) (k1 : k < 2 ^ 63) (h : R (IteS false k K a) H) : enS false K R [.ref a] [.int k] H := ⟨a, k, xs, rfl, rfl, k0, k1, S.lst m, h⟩
theorem rd_zpS {R : It → Hp → Prop} {ta : TA} (h : ta σ H fun vs H1 => zpS b c K R vs H1) : iZpS b c K ta σ H R := h
theorem rd_zpSI {R : It → Hp → Prop} {xs ys : List V} (hx : Sq b K H p xs) (hy : Sq c K H q ys) (h : R (ItzS b c K p q) H) : zpS b c K R [.ref p, .ref q] H := ⟨p, q, xs, ys, rfl, hx, hy, h⟩
/-- over enumerate from a start -/
theorem fw_enS {xs : List V} {k : Int} {g : TG} {tw : TS} {nx bk ct : L2.St → Hp → Prop} {rt : VK} (Pv : Nat → L2.St → Hp → Prop) (h0 : Pv 0 σ H) (hl : ∀ i σ H, i ≤ xs.length → Pv i σ H → Sq b K H a xs)
    (hs : ∀ i x σ H T, xs[i]? = some x → Pv i σ H → H T = none → g (.ref T) σ (upd H T (.tup [.int (k + (i : Nat)), x])) fun σ2 H2 => tw ⟨Pv (i + 1), rt, nx, Pv (i + 1)⟩ σ2 H2) (hd : ∀ σ H, Pv xs.length σ H → nx σ H) : forW (IteS b k K a) g tw ⟨nx, rt, bk, ct⟩ σ H := by
  refine for_it walk_eS Pv h0 hl ?_ hd
  rintro i x σ H H' hi hp ⟨T, y, z, rfl, hT, rfl, e1, e2⟩
  cases e1
  exact hs i z σ H T e2 hp hT
/-- over zip of any two -/
theorem fw_zpS {xs ys : List V} {g : TG} {tw : TS} {nx bk ct : L2.St → Hp → Prop} {rt : VK} (Pv : Nat → L2.St → Hp → Prop) (h0 : Pv 0 σ H) (hl : ∀ i σ H, i ≤ min xs.length ys.length → Pv i σ H → Sq b K H p xs ∧ Sq c K H q ys)
    (hs : ∀ i x y σ H T, xs[i]? = some x → ys[i]? = some y → Pv i σ H → H T = none → g (.ref T) σ (upd H T (.tup [x, y])) fun σ2 H2 => tw ⟨Pv (i + 1), rt, nx, Pv (i + 1)⟩ σ2 H2) (hd : ∀ σ H, Pv (min xs.length ys.length) σ H → nx σ H) : forW (ItzS b c K p q) g tw ⟨nx, rt, bk, ct⟩ σ H := by
  refine for_it walk_zS Pv h0 hl ?_ hd
  rintro i x σ H H' hi hp ⟨T, y, z, rfl, hT, rfl, e1, e2⟩
  exact hs i y z σ H T e1 e2 hp hT
/-- a comprehension over enumerate from a start -/
theorem lcw_enS {xs : List V} {k : Int} {g : TG} {tt : TT} {te : TE} {vs : List Nat} (S : Hs H0 M H L) (R : Nat → List V → Prop) (r0 : R 0 []) (hl : ∀ H' acc D, Hs H0 M H' ((D, .lst acc) :: L) → Sq b K H' a xs)
    (hs : ∀ D i x acc H' T, xs[i]? = some x → R i acc → H0 D = none → Hs H0 M H' ((D, .lst acc) :: L) → H' T = none → g (.ref T) (wipe σ vs) (upd H' T (.tup [.int (k + (i : Nat)), x])) fun σ2 H2 => wipe σ2 vs = wipe σ vs ∧ tt σ2 H2 fun b H3 => if b = true then te σ2 H3 fun y H4 => lcPut H0 M L (R (i + 1)) D y H4 else lcSkip H0 M L (R (i + 1)) D H3)
    (hd : ∀ D acc H', R xs.length acc → H0 D = none → Hs H0 M H' ((D, .lst acc) :: L) → Q (.ref D) H') : lcW (IteS b k K a) g tt te vs σ H Q := by
  intro D hD
  have S1 := S.new hD (.lst [])
  refine lc_it walk_eS (fun i H' => lcSkip H0 M L (R i) D H') ⟨S1.1, [], r0, S1.2⟩ (fun i H' _ ⟨_, acc, _, S'⟩ => hl H' acc D S') ?_ ?_
  · rintro i x H1 H2 hi ⟨n0, acc, r, S'⟩ ⟨T, y, z, rfl, hT, rfl, e1, e2⟩
    cases e1
    exact hs D i z acc H1 T e2 r n0 S' hT
  · rintro H' ⟨n0, acc, r, S'⟩
    exact hd D acc H' r n0 S'
end
end Xg

/-! Xg2: comprehensions over enumerate of a tuple; comprehensions whose steps change what the ledger holds -/
namespace Xg
open PySem PySem.Spec PySem.Calls PyProof.Rows L2 Rs Xd
section
variable {K : PySem.W.Frag} {H H0 : Hp} {M : List Addr} {L : Led} {σ : L2.St} {a p q : Addr} {Q : VK}
theorem lcw_enT {xs : List V} {g : TG} {tt : TT} {te : TE} {vs : List Nat} (S : Hs H0 M H L) (R : Nat → List V → Prop) (r0 : R 0 []) (hl : ∀ H' acc D, Hs H0 M H' ((D, .lst acc) :: L) → SqT K H' a xs)
    (hs : ∀ D i x acc H' T, xs[i]? = some x → R i acc → H0 D = none → Hs H0 M H' ((D, .lst acc) :: L) → H' T = none → g (.ref T) (wipe σ vs) (upd H' T (.tup [.int (i : Nat), x])) fun σ2 H2 => wipe σ2 vs = wipe σ vs ∧ tt σ2 H2 fun b H3 => if b = true then te σ2 H3 fun y H4 => lcPut H0 M L (R (i + 1)) D y H4 else lcSkip H0 M L (R (i + 1)) D H3)
    (hd : ∀ D acc H', R xs.length acc → H0 D = none → Hs H0 M H' ((D, .lst acc) :: L) → Q (.ref D) H') : lcW (IteT K a) g tt te vs σ H Q := by
  intro D hD
  have S1 := S.new hD (.lst [])
  refine lc_it walk_eT (fun i H' => lcSkip H0 M L (R i) D H') ⟨S1.1, [], r0, S1.2⟩ (fun i H' _ ⟨_, acc, _, S'⟩ => hl H' acc D S') ?_ ?_
  · rintro i x H1 H2 hi ⟨n0, acc, r, S'⟩ ⟨T, y, z, rfl, hT, rfl, e1, e2⟩
    cases e1
    exact hs D i z acc H1 T e2 r n0 S' hT
  · rintro H' ⟨n0, acc, r, S'⟩
    exact hd D acc H' r n0 S'
def lvSkip (H0 : Hp) (M : List Addr) (R1 : List V → Led → Prop) (D : Addr) (H : Hp) : Prop := H0 D = none ∧ ∃ acc L, R1 acc L ∧ Hs H0 M H ((D, .lst acc) :: L)
def lvPut (H0 : Hp) (M : List Addr) (R1 : List V → Led → Prop) (D : Addr) (y : V) (H : Hp) : Prop := ∃ acc, H D = some (.lst acc) ∧ acc.length < sizeLine ∧ lvSkip H0 M R1 D (upd H D (.lst (acc ++ [y])))
theorem rd_lvPut {D : Addr} {y : V} {acc : List V} {L1 L2 : Led} {R1 : List V → Led → Prop} (S : Hs H0 M H L2) (pm : ∀ x, cn x ((D, HO.lst acc) :: L1) ≤ cn x L2) (n : H0 D = none) (hl : acc.length < sizeLine) (r : R1 (acc ++ [y]) L1) : lvPut H0 M R1 D y H := by
  have S1 := S.re pm
  exact ⟨acc, S1.is _ List.mem_cons_self, hl, n, _, _, r, S1.put .here (Or.inl n)⟩
theorem lcv_range {lo : Int} {n : Nat} {g : TG} {tt : TT} {te : TE} {vs : List Nat} (S : Hs H0 M H L) (R : Nat → List V → Led → Prop) (r0 : R 0 [] L)
    (hs : ∀ D i acc L' H', i < n → R i acc L' → H0 D = none → Hs H0 M H' ((D, .lst acc) :: L') → g (.int (lo + i)) (wipe σ vs) H' fun σ2 H2 => wipe σ2 vs = wipe σ vs ∧ tt σ2 H2 fun b H3 => if b = true then te σ2 H3 fun y H4 => lvPut H0 M (R (i + 1)) D y H4 else lvSkip H0 M (R (i + 1)) D H3)
    (hd : ∀ D acc L' H', R n acc L' → H0 D = none → Hs H0 M H' ((D, .lst acc) :: L') → Q (.ref D) H') : lcW (Itr lo n) g tt te vs σ H Q := by
  intro D hD
  have S1 := S.new hD (.lst [])
  refine lc_range (fun i H' => lvSkip H0 M (R i) D H') ⟨S1.1, [], L, r0, S1.2⟩ ?_ ?_
  · rintro i H' hi ⟨n0, acc, L', r, S'⟩
    exact hs D i acc L' H' hi r n0 S'
  · rintro H' ⟨n0, acc, L', r, S'⟩
    exact hd D acc L' H' r n0 S'
theorem lcv_list {a : Addr} {xs : List V} {g : TG} {tt : TT} {te : TE} {vs : List Nat} (S : Hs H0 M H L) (R : Nat → List V → Led → Prop) (r0 : R 0 [] L) (hl : ∀ i H' acc D L', R i acc L' → Hs H0 M H' ((D, .lst acc) :: L') → SqL K H' a xs)
    (hs : ∀ D i x acc L' H', xs[i]? = some x → R i acc L' → H0 D = none → Hs H0 M H' ((D, .lst acc) :: L') → g x (wipe σ vs) H' fun σ2 H2 => wipe σ2 vs = wipe σ vs ∧ tt σ2 H2 fun b H3 => if b = true then te σ2 H3 fun y H4 => lvPut H0 M (R (i + 1)) D y H4 else lvSkip H0 M (R (i + 1)) D H3)
    (hd : ∀ D acc L' H', R xs.length acc L' → H0 D = none → Hs H0 M H' ((D, .lst acc) :: L') → Q (.ref D) H') : lcW (Itl K a) g tt te vs σ H Q := by
  intro D hD
  have S1 := S.new hD (.lst [])
  refine lc_list (xs := xs) (fun i H' => lvSkip H0 M (R i) D H') ⟨S1.1, [], L, r0, S1.2⟩ (fun i H' _ ⟨_, acc, L', r, S'⟩ => hl i H' acc D L' r S') ?_ ?_
  · rintro i x H' hi ⟨n0, acc, L', r, S'⟩
    exact hs D i x acc L' H' hi r n0 S'
  · rintro H' ⟨n0, acc, L', r, S'⟩
    exact hd D acc L' H' r n0 S'
end
end Xg

/-! Xf1: functions held as values behind the end of the def that made them: their cells tracked -/
namespace Xf
open PySem PySem.Spec PySem.Calls PyProof.Rows L2 Rs NdefX
/-- a cell that holds v for good -/
def CellO (c : Addr) (v : V) : HO := .ext fun h => ∃ u, RelV v u ∧ h.IsCell c (some u)
theorem cellO_ok {P : Program} {w : World} {H : Hp} {h : Heap} {c : Addr} {v : V} {u : Value} (r : RelV v u) (e : h.IsCell c (some u)) : ObjOk P w H h c (CellO c v) := by
  obtain ⟨o, ho, hd⟩ := e
  exact ⟨⟨u, r, o, ho, hd⟩, ⟨o, ho⟩, fun h1 h2 ⟨u, r, o, ho, hd⟩ k => ⟨u, r, o, k o ho, hd⟩⟩
theorem cellO_at {P : Program} {w : World} {H : Hp} {h : Heap} {c : Addr} {v : V} (hok : HOk P w H h) (e : H c = some (CellO c v)) : ∃ u, RelV v u ∧ h.IsCell c (some u) := by
  obtain ⟨z, _, _⟩ := hok c _ e
  exact z
/-- cells: where, what -/
abbrev CL := List (Addr × V)
def hide (cs : CL) (H : Hp) : Hp := fun b => match cs.lookup b with
  | some _ => none
  | none => H b
def unhide (cs : CL) (H : Hp) : Hp := fun b => match cs.lookup b with
  | some v => some (CellO b v)
  | none => H b
/-- all are tracked -/
def Trk (cs : CL) (H : Hp) : Prop := ∀ b v, cs.lookup b = some v → H b = some (CellO b v)
section
variable {cs : CL} {H H' : Hp} {b : Addr} {v : V} {o : HO}
theorem hide_in (h : cs.lookup b = some v) : hide cs H b = none := by unfold hide; rw [h]
theorem hide_out (h : cs.lookup b = none) : hide cs H b = H b := by unfold hide; rw [h]
theorem unhide_in (h : cs.lookup b = some v) : unhide cs H b = some (CellO b v) := by unfold unhide; rw [h]
theorem unhide_out (h : cs.lookup b = none) : unhide cs H b = H b := by unfold unhide; rw [h]
theorem hide_none (h : H b = none) : hide cs H b = none := by
  unfold hide
  split
  · rfl
  · exact h
theorem hide_some (h : hide cs H b = some o) : cs.lookup b = none ∧ H b = some o := by
  unfold hide at h
  split at h
  · cases h
  · exact ⟨by assumption, h⟩
theorem Trk.out (t : Trk cs H) (h : H b = some o) (n : ∀ v, o ≠ CellO b v) : cs.lookup b = none := by
  cases e : cs.lookup b with
  | none => rfl
  | some v =>
    rw [t b v e] at h
    exact absurd (Option.some.inj h).symm (n v)
theorem Trk.none (t : Trk cs H) (h : H b = none) : cs.lookup b = none := by
  cases e : cs.lookup b with
  | none => rfl
  | some v => rw [t b v e] at h; cases h
theorem cell_tup {b : Addr} {v : V} {xs : List V} : HO.tup xs ≠ CellO b v := fun z => by cases z
theorem hide_hok {P : Program} {w : World} {h : Heap} (t : Trk cs H) (x : HOk P w H h) : HOk P w (hide cs H) h := fun a o e => by
  obtain ⟨_, e2⟩ := hide_some e
  refine (x a o e2).stay (fun b u _ q => q) (fun b q => ?_) fun b xs q => ?_
  · rw [hide_out (t.out q fun v z => by cases z)]; exact q
  · rw [hide_out (t.out q fun v => cell_tup)]; exact q
theorem unhide_hok {P : Program} {w : World} {h : Heap} (n : ∀ b v, cs.lookup b = some v → H b = Option.none) (c : ∀ b v, cs.lookup b = some v → ∃ u, RelV v u ∧ h.IsCell b (some u)) (x : HOk P w H h) : HOk P w (unhide cs H) h := fun a o e => by
  cases hl : cs.lookup a with
  | some v =>
    rw [unhide_in hl] at e
    cases e
    obtain ⟨u, r, q⟩ := c a v hl
    exact cellO_ok r q
  | none =>
    rw [unhide_out hl] at e
    have out : ∀ {b : Addr} {u : HO}, H b = some u → cs.lookup b = none := fun {b u} q => by
      cases z : cs.lookup b with
      | none => rfl
      | some v => rw [n b v z] at q; cases q
    exact (x a o e).stay (fun b u _ q => q) (fun b q => by rw [unhide_out (out q)]; exact q) fun b xs q => by rw [unhide_out (out q)]; exact q
theorem hide_un {fs ex : List Addr} {H0 : Hp} {h0 h : Heap} (t : Trk cs H) (u : Un fs ex H0 H h0 h) : Un fs ex H0 (hide cs H) h0 h where
  keep := u.keep
  slot := u.slot
  free := fun b o q n x => hide_none (u.free b o q n x)
  there := u.there
  tups := fun b xs q => by
    have z := u.tups b xs q
    rw [hide_out (t.out z fun v => cell_tup)]; exact z
  frzs := fun b o xs q => by
    have z := u.frzs b o xs q
    rw [hide_out (t.out z fun v e => by cases e)]; exact z
  tbls := fun b ps q => by
    obtain ⟨m, z⟩ := u.tbls b ps q
    exact ⟨m, by rw [hide_out (t.out z fun v e => by cases e)]; exact z⟩
/-- what a call made of the heap without the cells, told of the heap with them -/
theorem unhide_un {fs : List Addr} {h h' : Heap} (t : Trk cs H) (hf : ∀ b ∈ fs, H b = Option.none) (u : Un fs [] (hide cs H) H' h h') : Un fs [] H (unhide cs H') h h' where
  keep := fun b o q n => u.keep b o q (hide_none n)
  slot := fun b o q n => u.slot b o q (hide_none n)
  free := fun b o q n x => by rw [unhide_out (t.none n)]; exact u.free b o q (hide_none n) x
  there := u.there
  tups := fun b xs q => by
    have l := t.out q fun v => cell_tup
    rw [unhide_out l]
    exact u.tups b xs (by rw [hide_out l]; exact q)
  frzs := fun b o xs q => by
    have l := t.out q fun v e => by cases e
    rw [unhide_out l]
    exact u.frzs b o xs (by rw [hide_out l]; exact q)
  tbls := fun b ps q => by
    have l := t.out q fun v e => by cases e
    obtain ⟨m, z⟩ := u.tbls b ps (by rw [hide_out l]; exact q)
    exact ⟨m, by rw [unhide_out l]; exact z⟩
theorem unhide_ub {fs : List Addr} {h B h' : Heap} (t : Trk cs H) (u : UB fs (hide cs H) H' h B h') : UB fs H (unhide cs H') h B h' where
  keep := fun b o q n => u.keep b o q (hide_none n)
  slot := u.slot
  free := fun b o q n => by rw [unhide_out (t.none n)]; exact u.free b o q (hide_none n)
  there := u.there
  tups := fun b xs q => by
    have l := t.out q fun v => cell_tup
    rw [unhide_out l]
    exact u.tups b xs (by rw [hide_out l]; exact q)
  frzs := fun b o xs q => by
    have l := t.out q fun v e => by cases e
    rw [unhide_out l]
    exact u.frzs b o xs (by rw [hide_out l]; exact q)
  tbls := fun b ps q => by
    have l := t.out q fun v e => by cases e
    obtain ⟨m, z⟩ := u.tbls b ps (by rw [hide_out l]; exact q)
    exact ⟨m, by rw [unhide_out l]; exact z⟩
end
/-- nothing stands there -/
def Free (cs : CL) (H : Hp) : Prop := ∀ b v, cs.lookup b = some v → H b = none
/-- a wish, of the heap without the cells -/
def Qh (cs : CL) (Q : VK) : VK := fun v H' => Free cs H' → Q v (unhide cs H')
def Eh (cs : CL) (E : XK) : XK := fun c d H' => Free cs H' → E c d (unhide cs H')
section
variable {P : Program} {w : World} {outer : List Env} {cs : CL} {H : Hp} {s s' : Shared} {Q : VK} {E : XK} {u : Value}
theorem cells_kept {fs : List Addr} {h B : Heap} (t : Trk cs H) (hok : HOk P w H h) (hf : ∀ b ∈ fs, H b = none) (k : ∀ b o, h.get? b = some o → hide cs H b = none → b ∉ fs → B.get? b = some o) : ∀ b v, cs.lookup b = some v → ∃ u, RelV v u ∧ B.IsCell b (some u) := fun b v e => by
  obtain ⟨u, r, o, ho, hd⟩ := cellO_at hok (t b v e)
  exact ⟨u, r, o, k b o ho (hide_in e) (fun z => by have := hf b z; rw [t b v e] at this; cases this), hd⟩
theorem ce_unhide (t : Trk cs H) (hok : HOk P w H s.heap) (hf : ∀ b ∈ frs outer, H b = none) (h : CE outer P w (hide cs H) s (Qh cs Q) u s') : CE outer P w H s Q u s' := by
  obtain ⟨v, H', e1, e2, un, hok', r, q⟩ := h
  have ck := cells_kept (P := P) (w := w) t hok hf (fun b o q n nf => un.keep b o q n nf (by simp))
  have fr : Free cs H' := fun b v e => by
    obtain ⟨u, _, o, ho, _⟩ := cellO_at hok (t b v e)
    exact un.free b o ho (hide_in e) (by simp)
  exact ⟨v, unhide cs H', e1, e2, unhide_un t hf un, unhide_hok fr ck hok', r, q fr⟩
theorem cx_unhide (t : Trk cs H) (hok : HOk P w H s.heap) (hf : ∀ b ∈ frs outer, H b = none) (h : L2.CX P w outer (hide cs H) s (Eh cs E) u s') : L2.CX P w outer H s E u s' := by
  obtain ⟨a, B, H', cls, d, e0, fl, hok', ub, na, e1, e2, q⟩ := h
  have ck := cells_kept (P := P) (w := w) t hok hf (fun b o q n nf => ub.keep b o q n nf)
  have fr : Free cs H' := fun b v e => by
    obtain ⟨u, _, o, ho, _⟩ := cellO_at hok (t b v e)
    exact ub.free b o ho (hide_in e)
  refine ⟨a, B, unhide cs H', cls, d, e0, fl, unhide_hok fr ck hok', unhide_ub t ub, ?_, e1, e2, q fr⟩
  cases hl : cs.lookup a with
  | none => rw [unhide_out hl]; exact na
  | some v =>
    obtain ⟨u, _, o, ho, _⟩ := ck a v hl
    have z := fl.2.1
    rw [ho] at z; cases z
end
end Xf

/-! Xh1: lambdas with parameters as values: made, tracked, called -/
namespace Xh
open PySem PySem.Spec PySem.Calls PyProof.Rows L2 LamX NdefX
/-- a lambda's words, its cells, its code object -/
structure LF where
  qual : Str
  params : Arguments
  body : Expr
  scope : Scope
  cl : List (Str × Addr)
  c : Addr
abbrev LF.fd (F : LF) (pm ctv : Value) : FuncData := PySem.W.kla_fn "<lambda>" F.qual F.params F.body F.scope F.cl pm (.ref F.c) ctv
abbrev LF.nf (F : LF) : NF := ⟨"<lambda>", F.qual, F.params, [], F.scope, F.cl, F.c⟩
/-- the object at f is the lambda F -/
def LamO (f : Addr) (F : LF) : HO := .ext fun h => ∃ (pm ctv : Value), h.get? f = some (PySem.W.kla_obj "<lambda>" F.qual F.params F.body F.scope F.cl pm F.c ctv)
theorem lamO_ne {f : Addr} {F : LF} (ps : Array Value) : LamO f F ≠ .tbl ps := fun z => by
  unfold LamO at z
  cases z
theorem lamO_at {P : Program} {w : World} {H : Hp} {h : Heap} {f : Addr} {F : LF} (hok : HOk P w H h) (e : H f = some (LamO f F)) : ∃ (pm ctv : Value), h.get? f = some (PySem.W.kla_obj "<lambda>" F.qual F.params F.body F.scope F.cl pm F.c ctv) := by
  obtain ⟨z, _, _⟩ := hok f _ e
  exact z
section
variable {X : Cx} {pins : List (Addr × Obj)} {σ : L2.St} {H : Hp} {s : Shared}
theorem inv_lam {F : LF} {h' : Heap} {t' : Nat} {pm ctv : Value} (I : Inv X pins σ H { s with heap := h', toks := t' }) :
    Inv X pins σ (upd H h'.objs.size (LamO h'.objs.size F)) { s with heap := h'.push (PySem.W.kla_obj "<lambda>" F.qual F.params F.body F.scope F.cl pm F.c ctv), toks := t' } := by
  refine I.laid (s := { s with heap := h', toks := t' }) (a := h'.objs.size) (fun b u e => Heap.get?_push_of_some _ e) (Nat.le_refl _) ?_
  have e : (h'.push (PySem.W.kla_obj "<lambda>" F.qual F.params F.body F.scope F.cl pm F.c ctv)).get? h'.objs.size = some (PySem.W.kla_obj "<lambda>" F.qual F.params F.body F.scope F.cl pm F.c ctv) := Heap.get?_push_size _ rfl
  exact ⟨⟨pm, ctv, e⟩, ⟨_, e⟩, fun h1 h2 ⟨p, t, z⟩ st => ⟨p, t, st _ z⟩⟩
/-- tables that got one more code object at P -/
theorem tabs_grow {T : List (Addr × Str)} {H G : Hp} {P ca : Addr} {q : Str} {ps : Array Value} {at_ : Pos} (hT : Tabs T H) (same : ∀ r ∈ T, r.1 = P → r.2 = q) (was : H P = some (.tbl ps)) (now : G P = some (.tbl (ps ++ #[rawInt at_.line, rawInt at_.col, .ref ca]))) (code : G ca = some (CodeO ca q))
    (rest : ∀ b o, b ≠ P → H b = some o → G b = some o) : Tabs T G := by
  have codes : ∀ {x : Addr} {y : Str}, H x = some (CodeO x y) → G x = some (CodeO x y) := fun {x y} w => rest x _ (fun z => by
    rw [z, was] at w
    exact codeO_ne ps (Option.some.inj w).symm) w
  intro r hr
  obtain ⟨qs, w1, w2, w3⟩ := hT r hr
  rcases Decidable.em (r.1 = P) with y | y
  · rw [y, was] at w1
    cases w1
    refine ⟨_, by rw [y]; exact now, ?_, fun where_ val found => ?_⟩
    · rw [Array.toList_append]
      exact PySem.TriplesOk_snoc _ _ _ _ w2
    · rw [Array.toList_append] at found
      rcases among_app _ w2 found with old | new_
      · obtain ⟨x, v1, v2⟩ := w3 where_ val old
        exact ⟨x, v1, codes v2⟩
      · exact ⟨ca, new_, by rw [same r hr y]; exact code⟩
  · exact ⟨qs, rest _ _ y w1, w2, fun where_ val found => (w3 where_ val found).imp fun x v => ⟨v.1, codes v.2⟩⟩
/-- a lambda is evaluated: a function object that was not there, its code object new or told by the table -/
theorem lamv_make {T : List (Addr × Str)} {c P : Addr} {ar : Arguments} {bd : Expr} {sco : Scope} {at_ : Pos} {E Q : Value → Shared → Prop} (I : Inv X pins σ H s) (TB : TabB X.base X.mg c P) (own : X.env.code = .ref c) (nodef : defaultsOf ar X.env = ([], []))
    (mine : (P, X.env.qual ++ "<lambda>") ∈ T) (same : ∀ r ∈ T, r.1 = P → r.2 = X.env.qual ++ "<lambda>") (hT : Tabs T H) (held : ∀ y ∈ sco.names, y.2 = .free → ∃ a, X.env.cells.lookup y.1 = some a)
    (go : ∀ (f ca : Addr) (G : Hp) (s' : Shared), Inv X pins σ G s' → ExtN H G → (∀ b, G b = Option.none → H b = Option.none) → Tabs T G → H f = none →
      G f = some (LamO f ⟨X.env.qual ++ "<lambda>", ar, bd, sco, cloFrom X.env.cells sco.names [], ca⟩) → G ca = some (CodeO ca (X.env.qual ++ "<lambda>")) → Q (.ref f) s') :
    wpAny (model X.prog X.w) X.A (eval (.Lambda ar bd sco at_) X.env) Q E s := by
  obtain ⟨qs, was, w2, w3⟩ := hT _ mine
  have stands : s.heap.get? P = some { cls := .none, data := .fields qs } := I.hok P _ was
  refine PySem.W.kla_eval nodef ?_
  rcases found : codeAmong at_ qs.toList with _ | val
  · refine PySem.W.kla_makeFunction (mg := X.mg) (c := c) (P := P) (ps := qs) (closure_ok held) I.ok.glob (I.mod.glob.keeps I.bk) own (TB.code.keeps I.bk) stands w2 found TB.gP (TB.bm.keeps I.bk) fun ca ctv hp tk kept ge lt rcd tab => ?_
    obtain ⟨wh, oc, vs, t, r0, r1, r2, r3⟩ := rcd
    cases r0
    have noC : H ca = none := I.hok.fresh ge
    have J := inv_table (t' := tk) (more := #[rawInt at_.line, rawInt at_.col, .ref ca]) (h' := hp) I was (fun b o n e => kept b o n e) tab ge ⟨oc, vs, t, r1, r2, r3⟩
    have noF := J.hok.fresh (Nat.le_refl hp.objs.size)
    have nPC : P ≠ ca := ne_of_none was noC
    have rest : ∀ b o, b ≠ P → H b = some o → upd (upd (upd H P (.tbl (qs ++ #[rawInt at_.line, rawInt at_.col, .ref ca]))) ca (CodeO ca (X.env.qual ++ "<lambda>"))) hp.objs.size (LamO hp.objs.size ⟨X.env.qual ++ "<lambda>", ar, bd, sco, cloFrom X.env.cells sco.names [], ca⟩) b = some o := fun b o n e => by
      have e2 : upd (upd H P (.tbl (qs ++ #[rawInt at_.line, rawInt at_.col, .ref ca]))) ca (CodeO ca (X.env.qual ++ "<lambda>")) b = some o := by rw [upd_ne (ne_of_none e noC), upd_ne n]; exact e
      rw [upd_ne (ne_of_none e2 noF)]; exact e2
    have atC : upd (upd (upd H P (.tbl (qs ++ #[rawInt at_.line, rawInt at_.col, .ref ca]))) ca (CodeO ca (X.env.qual ++ "<lambda>"))) hp.objs.size (LamO hp.objs.size ⟨X.env.qual ++ "<lambda>", ar, bd, sco, cloFrom X.env.cells sco.names [], ca⟩) ca = some (CodeO ca (X.env.qual ++ "<lambda>")) := by rw [upd_ne (Nat.ne_of_lt lt), upd_same]
    have atP : upd (upd (upd H P (.tbl (qs ++ #[rawInt at_.line, rawInt at_.col, .ref ca]))) ca (CodeO ca (X.env.qual ++ "<lambda>"))) hp.objs.size (LamO hp.objs.size ⟨X.env.qual ++ "<lambda>", ar, bd, sco, cloFrom X.env.cells sco.names [], ca⟩) P = some (.tbl (qs ++ #[rawInt at_.line, rawInt at_.col, .ref ca])) := by
      have e2 : upd (upd H P (.tbl (qs ++ #[rawInt at_.line, rawInt at_.col, .ref ca]))) ca (CodeO ca (X.env.qual ++ "<lambda>")) P = some (.tbl (qs ++ #[rawInt at_.line, rawInt at_.col, .ref ca])) := by rw [upd_ne nPC, upd_same]
      rw [upd_ne (ne_of_none e2 noF)]; exact e2
    exact go hp.objs.size ca _ _ (inv_lam (pm := (X.mg "__name__").getD .none) (ctv := ctv) J) (fun b o e n => rest b o (fun z => by
      rw [z, was] at e
      exact n qs (Option.some.inj e).symm) e) (fun b e => upd_none (upd_none (upd_none e))) (tabs_grow hT same was atP atC rest) (I.hok.fresh (Nat.le_trans ge (Nat.le_of_lt lt))) upd_same atC
  · obtain ⟨ca, rfl, told⟩ := w3 at_ val found
    refine PySem.W.kla_makeFunctionHit (mg := X.mg) (c := c) (P := P) (ps := qs) (closure_ok held) I.ok.glob (I.mod.glob.keeps I.bk) own (TB.code.keeps I.bk) stands w2 found (TB.bm.keeps I.bk) fun ctv hp tk kept sz => ?_
    have J : Inv X pins σ H { s with heap := hp, toks := tk } := I.kept kept
    have noF := J.hok.fresh (Nat.le_refl hp.objs.size)
    have all : ∀ b o, H b = some o → upd H hp.objs.size (LamO hp.objs.size ⟨X.env.qual ++ "<lambda>", ar, bd, sco, cloFrom X.env.cells sco.names [], ca⟩) b = some o := fun b o e => by rw [upd_ne (ne_of_none e noF)]; exact e
    exact go hp.objs.size ca _ _ (inv_lam (pm := (X.mg "__name__").getD .none) (ctv := ctv) J) (fun b o e _ => all b o e) (fun b e => upd_none e) (hT.ext all) noF upd_same (all _ _ told)
end
/-! ### the expression -/
/-- the reading of «lambda ..: ..»: a new function object -/
def tLamV (T : List (Addr × Str)) (mk : Addr → LF) : TE := fun σ H Q => Tabs T H ∧ ∀ (f c' : Addr) (H1 : Hp), ExtN H H1 → (∀ b, H1 b = Option.none → H b = Option.none) → Tabs T H1 → H f = none → H1 f = some (LamO f (mk c')) → H1 c' = some (CodeO c' (mk c').qual) → Q (.ref f) H1
theorem pe_lamv {X : Cx} {T : List (Addr × Str)} {c P : Addr} {params : Arguments} {body : Expr} {scope : Scope} {pos : Pos} (TB : TabB X.base X.mg c P) (hcode : X.env.code = .ref c) (hm : (P, X.env.qual ++ "<lambda>") ∈ T) (hu : ∀ p ∈ T, p.1 = P → p.2 = X.env.qual ++ "<lambda>")
    (hdef : defaultsOf params X.env = ([], [])) (hfree : ∀ y ∈ scope.names, y.2 = .free → X.env.scope.names.lookup y.1 = some .cell ∨ X.env.scope.names.lookup y.1 = some .free) :
    PE X (.Lambda params body scope pos) (tLamV T fun c' => ⟨X.env.qual ++ "<lambda>", params, body, scope, cloFrom X.env.cells scope.names [], c'⟩) := by
  refine ⟨fun pins s σ H Q I h => ?_⟩
  obtain ⟨hT, h⟩ := h
  refine lamv_make I TB hcode hdef hm hu hT (fun y hy e => (hfree y hy e).elim (fun z => I.ok.has _ (.inl z)) fun z => I.ok.has _ (.inr z)) fun f c' H1 s' I1 eN nn T1 f0 f1 c1 => ?_
  exact ⟨.ref f, H1, I1, rfl, h f c' H1 eN nn T1 f0 f1 c1⟩
/-! ### calls of function values -/
/-- what a call of the function at f, of these things, with this heap, keeps -/
def CallsTo (P : Program) (w : World) (K : PySem.W.Frag) (mg : Str → Option Value) (base : Heap) (CX : CXT) (k : Nat) (f : Addr) (H : Hp) (vs : List V) (Q : VK) (E : XK) : Prop :=
  ∀ (A : Around) (outer : List Env) (s : Shared) (us : List Value), Room k A → Env0 P w K mg base A outer s H → Vals vs us → PySem.W.FnAt f s.heap ∧ codeAny (model P w) A (.call (.ref f) ⟨us, []⟩) (CR CX outer P w H s Q E) s
section
variable {CX : CXT} {P : Program} {w : World} {K : PySem.W.Frag} {mg : Str → Option Value} {base : Heap} {N ps : List Str} {F : LF} {f : Addr} {k j : Nat}
/-- a lambda that captures nothing -/
theorem calls_lam {H : Hp} {vs : List V} {Q : VK} {E : XK} {t : TE} (S : NScope N ps [] F.scope) (hcl : F.cl = []) (hb : ∀ (pm ctv : Value) (us : List Value), us.length = ps.length → bindArgs (F.fd pm ctv) ⟨us, []⟩ = pure (ps.zip us)) (hl : vs.length = ps.length)
    (hf : H f = some (LamO f F)) (hc : H F.c = some (CodeO F.c F.qual))
    (hbody : ∀ (A : Around) (outer : List Env) (s : Shared), Room k (A.deeper (envF F.nf f s.heap.objs.size)) → PE (ncx CX P w K mg base N F.nf f A outer s H E) F.body t) (hq : t (startF N vs []) H Q) :
    CallsTo P w K mg base CX (k + 1) f H vs Q E := by
  refine fun A outer s us hr e0 r => ?_
  have unlim : s.heap.NoLimit := e0.mod.nolimit.keeps fun x y z => (e0.bs x y z).1
  obtain ⟨pm, ctv, ho⟩ := lamO_at e0.hok hf
  refine ⟨⟨_, _, _, _, ho⟩, ?_⟩
  refine PySem.W.kla_callFunE hr.depth ho rfl S.co S.gen rfl (codeO_at e0.hok hc) ?_
  rw [hb pm ctv us (by rw [← r.length]; exact hl)]
  refine wpAny_pure (wpAny_newFunctionEnv S.nocell (fun y hy => S.par y.1 (List.of_mem_zip hy).1) (fun hn frm grown => ⟨unlim.fresh _ grown, ?_⟩) S.kind)
  show codeAny _ _ (.expr F.body (envF F.nf f s.heap.objs.size)) _ _
  have still : ∀ x y, s.heap.get? x = some y → hn.get? x = some y := fun x y z => grown.extBut x y (Nat.ne_of_lt (Heap.lt_size z)) (Heap.get?_push_of_some _ z)
  have C : CellsAt F.nf.cl [] [] s.heap H := by
    refine ⟨rfl, fun y c e => ?_, fun x y c e _ => ?_, fun i y e => by simp at e⟩
    · rw [show F.nf.cl = [] from hcl] at e; cases e
    · rw [show F.nf.cl = [] from hcl] at e; cases e
  have I : Inv (ncx CX P w K mg base N F.nf f A outer s H E) [] (startF N vs []) H { s with heap := hn, toks := s.toks + (ps.zip us).length } := inv_startN S hr.hd e0 hl r C frm still
  refine PySem.W.kla_codeExpr (wpAny_mono ((hbody A outer s (hr.deeper _)).run [] _ (startF N vs []) H Q I hq) (fun v s' hq => ?_) fun e s' hq => hq)
  obtain ⟨w', H', J, rv, q⟩ := hq
  exact ⟨w', H', J.os, J.bare, J.base, J.hok, rv, q⟩
end
/-- the object at f is known to be a function -/
def IsFn (f : Addr) (H : Hp) : Prop := ∀ (P : Program) (w : World) (h : Heap), HOk P w H h → PySem.W.FnAt f h
theorem isFn_lam {f : Addr} {F : LF} {H : Hp} (e : H f = some (LamO f F)) : IsFn f H := fun P w h hok => by
  obtain ⟨pm, ctv, ho⟩ := lamO_at hok e
  exact ⟨_, _, _, _, ho⟩
/-- o.m(..), m a field that holds a function -/
def tCallF (X : Cx) (CX : CXT) (k : Nat) (m : Str) (te : TE) (ta : TA) (E : XK) : TE := fun σ H Q => te σ H fun x H1 => ∃ a C dx fs f, x = .ref a ∧ H1 a = some (.ins C dx fs) ∧ Cls X.K C ∧ NoAttr X.K C m ∧ fs.lookup m = some (.ref f) ∧ IsFn f H1 ∧
  ta σ H1 fun vs H2 => CallsTo X.prog X.w X.K X.mg X.base CX k f H2 vs Q E
section
variable {X : Cx} {CX : CXT} {k j : Nat} {m : Str} {E : XK} {te : TE} {ta : TA} {o e : Expr} {es : List Expr} {apos pos : Pos}
theorem getfn_ok {H : Hp} {σ : L2.St} {s : Shared} {pins : List (Addr × Obj)} {a C dx : Addr} {fs : List (Str × V)} {v : V} {pl : Sem Bool} {Q : Value × List Value → Shared → Prop} (I : Inv X pins σ H s) (e : H a = some (.ins C dx fs)) (c : Cls X.K C) (n : NoAttr X.K C m) (l : fs.lookup m = some v)
    (h : ∀ u s', Inv X pins σ H s' → RelV v u → Q (u, []) s') : wpAny (model X.prog X.w) X.A (getMethod (.ref a) m pl) Q X.xe s := by
  obtain ⟨mm, ob, rr, _⟩ := ins_get I.hok e
  obtain ⟨u, hu, ru⟩ := RelO.some_of (v := v) (o := mm m) (by rw [← l]; exact rr m)
  obtain ⟨od, J, hl⟩ := ob.look
  refine PySem.W.method_usual (r := none) I.kIn J (PySem.W.plainGet_of (c.get m)).1 (PySem.W.plainGet_of (c.get m)).2 n rfl ?_
  exact get_map I.kIn ob (c.get m) c.hd n hu (handed_of ru) (h u _ (I.tok _) ru)
theorem pe_callF {pl : Sem Bool} (he : PE X o te) (ha : PA X (e :: es) ta) (hr : Room j X.A) (hk : k ≤ j) (hx : Passes CX X E)
    (ht : eval (.Call (.Attribute o m apos) (e :: es) [] pos) X.env = (do let recv ← eval o X.env; standAt apos.atName; let (fn_, first_) ← holding [recv] (getMethod recv m pl); callWith pos fn_ first_ (backTo pos (starEach (e :: es) X.env)) (backToKw pos (keywordEach [] X.env))) := by rfl)
    (hs : starEach (e :: es) X.env = (false, eval e X.env) :: starEach es X.env := by rfl) (hpl : (backTo pos (starEach es X.env)).any (·.1) = false := by rfl) :
    PE X (.Call (.Attribute o m apos) (e :: es) [] pos) (tCallF X CX k m te ta E) := by
  refine ⟨fun pins s σ H Q I h => ?_⟩
  refine PySem.W.methodCall_KW (pl := pl) (thn (he.run pins s σ H _ I h) fun u s1 ⟨x, H1, I1, rx, a, C, dx, fs, f, ex, ea, c, n, l, hfn, q⟩ => ?_) ht
  subst ex
  cases (show u = Value.ref a from rx)
  refine getfn_ok I1 ea c n l fun u2 s2 I2 ru => ?_
  obtain rfl : u2 = Value.ref f := ru
  show wpAny _ _ (callWith pos (.ref f) [] (backTo pos (starEach (e :: es) X.env)) []) _ _ s2
  refine PySem.W.callWith_F (first := []) (hfn _ _ _ I2.hok) ?_ hs hpl
  refine thn (ha.run pos pins s2 σ H1 _ I2 q) fun us s3 ⟨vs, H2, I3, r, q3⟩ => ?_
  obtain ⟨z1, z2⟩ := q3 X.A X.stack s3 us (hr.mono hk) I3.env0 r
  refine ⟨z1, wpAny_call (codeAny_mono z2 fun r s' hq => ?_)⟩
  cases r with
  | error e => exact hx pins σ H2 s3 e s' I3 hq
  | ok fl =>
    cases fl with
    | ret u => exact I3.after hq
    | next => exact False.elim hq
    | brk => exact False.elim hq
    | cont => exact False.elim hq
end
end Xh

/-! Xh2: defs with defaults of both kinds -/
namespace Xh
open PySem PySem.Spec PySem.Calls PyProof.Rows L2 Rs
structure CalDD (K : PySem.W.Frag) (mg : Str → Option Value) (x : Str) (st : Stmt) (dvs : List V) (kws : List (Str × V)) (f : Addr) (fd : FuncData) : Prop where
  F : FunD K x x (defArgs st) (defBody st) (defScope st) dvs kws f fd
  m : mg x = some (.ref f)
section
variable {σ : L2.St} {H H0 : Hp} {M : List Addr} {L L' : Led} {Q : VK} {te : TE} {ta : TA} {a : Addr}
theorem rd_callF {X : Cx} {CX : CXT} {k : Nat} {m : Str} {E : XK} (h : te σ H fun x H1 => ∃ a C dx fs f, x = .ref a ∧ H1 a = some (.ins C dx fs) ∧ Cls X.K C ∧ NoAttr X.K C m ∧ fs.lookup m = some (.ref f) ∧ IsFn f H1 ∧
  ta σ H1 fun vs H2 => CallsTo X.prog X.w X.K X.mg X.base CX k f H2 vs Q E) : tCallF X CX k m te ta E σ H Q := h
theorem rd_callFV {K : PySem.W.Frag} {m : Str} {C dx f : Addr} {fs : List (Str × V)} {R : Addr → Prop} (S : Hs H0 M H L) (hm : (a, HO.ins C dx fs) ∈ L) (c : Cls K C) (n : NoAttr K C m) (e : fs.lookup m = some (.ref f)) (hf : IsFn f H) (h : R f) :
    ∃ a' C dx fs f, V.ref a = .ref a' ∧ H a' = some (.ins C dx fs) ∧ Cls K C ∧ NoAttr K C m ∧ fs.lookup m = some (.ref f) ∧ IsFn f H ∧ R f := ⟨a, C, dx, fs, f, rfl, S.is _ hm, c, n, e, hf, h⟩
end
end Xh

/-! Xh3: repr of a list of things, some of them pairs (text, thing) -/
namespace Xh
open PySem PySem.Spec PySem.Calls PyProof.Rows L2 Rs Xc
inductive Tp (K : PySem.W.Frag) (H : Hp) : V → PyData → Prop where
  | tz {v : V} {d : PyData} (h : Tz K H v d) : Tp K H v d
  | pr {p : Addr} {t : Str} {v : V} {d : PyData} (h : SqT K H p [.str t, v]) (q : Tz K H v d) : Tp K H (.ref p) (.tuple [.str t, d])
inductive TpA (K : PySem.W.Frag) (H : Hp) : List V → List PyData → Prop where
  | nil : TpA K H [] []
  | cons {v : V} {d : PyData} {vs : List V} {ds : List PyData} : Tp K H v d → TpA K H vs ds → TpA K H (v :: vs) (d :: ds)
def rReprP (K : PySem.W.Frag) : List V → Hp → VK → Prop := fun xs H Q => ∃ (p : Addr) (vs : List V) (ds : List PyData), xs = [.ref p] ∧ SqL K H p vs ∧ TpA K H vs ds ∧ vs ≠ [] ∧ (PyData.list ds).shown.length ≤ sizeLine ∧ PyData.depthAll ds ≤ 30 ∧ Q (.str (PyData.list ds).shown) H
section
variable {X : Cx} {pins : List (Addr × Obj)} {σ : L2.St} {H : Hp} {s : Shared}
theorem tz_shows (I : Inv X pins σ H s) (st : Stat X.K) {n : Nat} {v : V} {d : PyData} {u : Value} (h : Tz X.K H v d) (r : RelV v u) (hz : d.shown.length ≤ sizeLine) (hd : d.depth ≤ n) :
    ∃ bs, ReadAtMost s.heap d.depth bs ∧ ReprK X.prog X.w bs s.heap n u d.shown := by
  cases h with
  | dp h sw =>
    obtain ⟨as, q⟩ := Dp.reads I d v u h r
    obtain ⟨bs, h1, h2⟩ := ReprK.of_reads (prog := X.prog) (w := X.w) q sw (PyData.noDict_hsm (dp_noDict d v h)) hz
    exact ⟨bs, h1, h2.level_le hd⟩
  | @dk a kv kds h p sw =>
    cases (show u = Value.ref a from r)
    obtain ⟨_, ns, vs, kv', o, es, ep, e1, e2, e3, _, e5, _⟩ := dk_of I.hok h
    obtain ⟨r1, r2⟩ := plKv_reads (h := s.heap) p kv' e5
    have q : Reads s.heap (.ref a) (.dict kds) ([a] ++ [] ++ []) := Reads.dict (as := []) (bs := []) e1 e2.1 e3 r1 r2
    obtain ⟨bs, h1, h2⟩ := ReprK.of_reads (prog := X.prog) (w := X.w) q sw (fun _ hm => by
      have z : sysModules = a := by simpa using hm
      rw [z] at ns
      simp at ns) hz
    exact ⟨bs, h1, h2.level_le hd⟩
  | @big i f =>
    obtain ⟨tk, rfl⟩ := (show ∃ tk, u = Value.int i tk from r)
    exact ⟨[], fun _ h => (nomatch h), by simp only [PyData.shown]; exact reprK_big I.kIn st f⟩
theorem Tp.reads (I : Inv X pins σ H s) {v : V} {d : PyData} {u : Value} (h : Tp X.K H v d) (r : RelV v u) : ∃ as, Reads s.heap u d as := by
  cases h with
  | tz h => exact h.reads I r
  | @pr p t v d h q =>
    cases (show u = Value.ref p from r)
    obtain ⟨its, rv, ⟨o, ho, hc, n, hd⟩, _⟩ := I.tuple h
    obtain ⟨u1, u2, rfl, q1, q2⟩ := vals2 rv
    obtain ⟨tk, rfl⟩ := (show ∃ tk, u1 = Value.str t tk from q1)
    obtain ⟨as, rd⟩ := q.reads I q2
    exact ⟨_, Reads.tuple ho hc hd (.cons (.str t tk) (.cons rd .nil))⟩
theorem Tp.shows (I : Inv X pins σ H s) (st : Stat X.K) {n : Nat} {v : V} {d : PyData} {u : Value} (h : Tp X.K H v d) (r : RelV v u) (hz : d.shown.length ≤ sizeLine) (hd : d.depth ≤ n) :
    ∃ bs, ReadAtMost s.heap d.depth bs ∧ ReprK X.prog X.w bs s.heap n u d.shown := by
  cases h with
  | tz h => exact tz_shows I st h r hz hd
  | @pr p t v d h q =>
    have hrd := Tp.reads I (.pr h q) r
    obtain ⟨as, rdp⟩ := hrd
    cases (show u = Value.ref p from r)
    obtain ⟨its, rv, ⟨o, ho, hc, n2, hdt⟩, _⟩ := I.tuple h
    obtain ⟨u1, u2, rfl, q1, q2⟩ := vals2 rv
    obtain ⟨tk, rfl⟩ := (show ∃ tk, u1 = Value.str t tk from q1)
    have es : (PyData.tuple [.str t, d]).shown = tupleText [reprText t, d.shown] := by simp [PyData.shown, PyData.shownAll]
    rw [es] at hz ⊢
    have z1 := Nat.le_trans (tupleText_mem_le (ts := [reprText t, d.shown]) (t := reprText t) (by simp)) hz
    have z2 := Nat.le_trans (tupleText_mem_le (ts := [reprText t, d.shown]) (t := d.shown) (by simp)) hz
    have ed : (PyData.tuple [.str t, d]).depth = d.depth + 1 := by
      simp only [PyData.depth, PyData.depthAll]; omega
    rw [ed] at hd
    obtain ⟨m, rfl⟩ : ∃ m, n = m + 1 := ⟨n - 1, by omega⟩
    obtain ⟨bs, hb, rk⟩ := tz_shows I st (n := m) q q2 z2 (by omega)
    have hall : ReprAllK X.prog X.w bs s.heap m [.str t tk, u2] [reprText t, d.shown] := .cons (ReprK.of_is (ReprIs.str t tk z1) _ _ _) (.cons rk .nil)
    have hna : p ∉ bs := not_mem_of_deeper rdp (by rw [ed]; omega) hb
    refine ⟨p :: bs, ReadAtMost.cons rdp (Nat.le_refl _) (hb.mono (by rw [ed]; omega)), ?_⟩
    exact ReprK.tuple ho hc hdt hna hall
theorem TpA.reads (I : Inv X pins σ H s) : ∀ {vs : List V} {ds : List PyData} {us : List Value}, TpA X.K H vs ds → Vals vs us → ∃ as, ReadsAll s.heap us ds as
  | _, _, _, .nil, .nil => ⟨_, .nil⟩
  | _, _, _, .cons h t, .cons r q => by
    obtain ⟨a, h1⟩ := h.reads I r
    obtain ⟨b, h2⟩ := TpA.reads I t q
    exact ⟨_, .cons h1 h2⟩
theorem TpA.shows (I : Inv X pins σ H s) (st : Stat X.K) {n : Nat} (hn : n ≤ 50) : ∀ {vs : List V} {ds : List PyData} {us : List Value}, TpA X.K H vs ds → Vals vs us → (∀ d ∈ ds, d.shown.length ≤ sizeLine) → PyData.depthAll ds ≤ n →
    ∃ bs, ReadAtMost s.heap n bs ∧ ReprAllK X.prog X.w bs s.heap 50 us (PyData.shownAll ds)
  | _, _, _, .nil, .nil, _, _ => ⟨[], fun _ h => (nomatch h), by simp only [PyData.shownAll]; exact .nil⟩
  | _, _, _, .cons (d := d) h t, .cons r q, hz, hd => by
    simp only [PyData.depthAll] at hd
    obtain ⟨b1, m1, k1⟩ := h.shows I st (n := 50) r (hz d List.mem_cons_self) (by omega)
    obtain ⟨b2, m2, k2⟩ := TpA.shows I st hn t q (fun d hm => hz d (List.mem_cons_of_mem _ hm)) (by omega)
    refine ⟨b1 ++ b2, fun b hb => ?_, by
      simp only [PyData.shownAll]
      exact .cons (ReprK.more k1 fun b z => List.mem_append_left _ z) (k2.more_le (fun b z => List.mem_append_right _ z) (Nat.le_refl _))⟩
    rcases List.mem_append.mp hb with z | z
    · obtain ⟨d', as', r', hd'⟩ := m1 b z
      exact ⟨d', as', r', by omega⟩
    · exact m2 b z
theorem call_reprPs {k : Nat} (st : Stat X.K) (c : Clr X.A) (hr : Room k X.A) : CallR X (.builtin "repr") (rReprP X.K) := by
  intro pins s σ H xs us Q I r h
  obtain ⟨p, vs, ds, rfl, hs, hq, hne, sw, dp, q⟩ := h
  cases r with
  | cons r1 r2 =>
    cases r2
    rename_i u
    cases (show u = Value.ref p from r1)
    obtain ⟨its, rv, ⟨o, n, ho, hc, hdn, hd⟩, hlen⟩ := I.list hs
    have un := hr.units
    obtain ⟨as, rd⟩ := hq.reads I rv
    have sz : ∀ d ∈ ds, d.shown.length ≤ sizeLine := fun d hm => by
      have z := listText_mem_le (ts := PyData.shownAll ds) (shown_of hm)
      simp only [PyData.shown] at sw
      omega
    obtain ⟨bs, hb, rk⟩ := hq.shows (n := PyData.depthAll ds) I st (by omega) rv sz (Nat.le_refl _)
    have own : Reads s.heap (.ref p) (.list ds) (p :: as) := Reads.list ho hc hd (by simpa using rd)
    have hna : p ∉ bs := fun hm => by
      obtain ⟨d', as', r', hd'⟩ := hb p hm
      have e := (PyProof.Rows.reads_det (fun _ _ e _ => e) own r').1
      rw [e] at hd'
      simp only [PyData.depth] at hd'
      omega
    cases its with
    | nil =>
      have := rv.length
      simp at this
      exact absurd this hne
    | cons y ys =>
      simp only [PyData.shown] at sw q
      refine call_repr_slot (by omega) ⟨o, ho, hc⟩ F.slot_list_repr.toG ?_
      exact call_list_reprK ho hc (by simpa using hd) hna (by rw [rk.length_eq]; simp) (fun i z e => rk.item i z (by simpa using e)) c (fun b _ => Clear.nil b) (by show X.A.units + 1 + (50 + 1) < cLine; omega) (fun _ _ e => e) (fun h' t2 tk2 kp => ⟨_, _, rfl, ⟨.str _, H, I.kept kp, ⟨t2, rfl⟩, q⟩⟩) sw
end
end Xh

/-! Xh4: comprehensions over enumerate of a list whose steps change the ledger; lambdas as values in the readings -/
namespace Xh
open PySem PySem.Spec PySem.Calls PyProof.Rows L2 Rs Xg
section
variable {K : PySem.W.Frag} {H H0 : Hp} {M : List Addr} {L : Led} {σ : L2.St} {a : Addr} {Q : VK}
theorem lcv_enum {xs : List V} {g : TG} {tt : TT} {te : TE} {vs : List Nat} (S : Hs H0 M H L) (R : Nat → List V → Led → Prop) (r0 : R 0 [] L) (hl : ∀ i H' acc D L', R i acc L' → Hs H0 M H' ((D, .lst acc) :: L') → SqL K H' a xs)
    (hs : ∀ D i x acc L' H' T, xs[i]? = some x → R i acc L' → H0 D = none → Hs H0 M H' ((D, .lst acc) :: L') → H' T = none → g (.ref T) (wipe σ vs) (upd H' T (.tup [.int (i : Nat), x])) fun σ2 H2 => wipe σ2 vs = wipe σ vs ∧ tt σ2 H2 fun b H3 => if b = true then te σ2 H3 fun y H4 => lvPut H0 M (R (i + 1)) D y H4 else lvSkip H0 M (R (i + 1)) D H3)
    (hd : ∀ D acc L' H', R xs.length acc L' → H0 D = none → Hs H0 M H' ((D, .lst acc) :: L') → Q (.ref D) H') : lcW (Ite K a) g tt te vs σ H Q := by
  intro D hD
  have S1 := S.new hD (.lst [])
  refine lc_it walk_enum (fun i H' => lvSkip H0 M (R i) D H') ⟨S1.1, [], L, r0, S1.2⟩ (fun i H' _ ⟨_, acc, L', r, S'⟩ => hl i H' acc D L' r S') ?_ ?_
  · rintro i x H1 H2 hi ⟨n0, acc, L', r, S'⟩ ⟨T, y, z, rfl, hT, rfl, e1, e2⟩
    cases e1
    exact hs D i z acc L' H1 T e2 r n0 S' hT
  · rintro H' ⟨n0, acc, L', r, S'⟩
    exact hd D acc L' H' r n0 S'
end
end Xh

/-! Xh5: a nested def as a value, called behind the end of its maker: its cells are tracked -/
namespace Xh
open PySem PySem.Spec PySem.Calls PyProof.Rows L2 LamX NdefX Xf
/-- the cells of cl are those of cs; ws: what the names fr stand for -/
structure ClAt (cl : List (Str × Addr)) (fr : List Str) (ws : List (Option V)) (cs : CL) : Prop where
  len : ws.length = fr.length
  all : ∀ y c, cl.lookup y = some c → ∃ v, cs.lookup c = some v
  inj : ∀ x y c, cl.lookup x = some c → cl.lookup y = some c → x = y
  has : ∀ (i : Nat) (y : Str), fr[i]? = some y → ∃ c, cl.lookup y = some c ∧ ∀ v, ws[i]? = some (some v) → cs.lookup c = some v
section
variable {CX : CXT} {P : Program} {w : World} {K : PySem.W.Frag} {mg : Str → Option Value} {base : Heap} {N ps fr : List Str} {F : NF} {f : Addr} {k j : Nat} {sp : List (Option V) → Sp} {cs : CL} {H : Hp}
theorem fn_out {h : Heap} (t : Trk cs H) (hok : HOk P w H h) (e : H f = some (FnO f F)) : cs.lookup f = none := by
  rcases q : cs.lookup f with _ | v
  · rfl
  · obtain ⟨u, _, o, ho, hd⟩ := cellO_at hok (t f v q)
    obtain ⟨od, sl, doc, pm, ctv, ho2⟩ := fnO_at hok e
    rw [ho2] at ho
    cases ho
    cases hd
theorem isFn_nd (e : H f = some (FnO f F)) : IsFn f H := fun P w h hok => by
  obtain ⟨od, sl, doc, pm, ctv, ho⟩ := fnO_at hok e
  exact ⟨_, _, _, _, ho⟩
theorem code_out {h : Heap} {c : Addr} {q : Str} (t : Trk cs H) (hok : HOk P w H h) (e : H c = some (CodeO c q)) : cs.lookup c = none := by
  rcases z : cs.lookup c with _ | v
  · rfl
  · obtain ⟨u, _, o, ho, hd⟩ := cellO_at hok (t c v z)
    obtain ⟨⟨oc, vs, tk, h1, h2, h3⟩, _, _⟩ := hok c _ e
    rw [ho] at h1
    cases h1
    rw [h2] at hd
    cases hd
theorem env_hide {A : Around} {outer : List Env} {s : Shared} (t : Trk cs H) (e : Env0 P w K mg base A outer s H) : Env0 P w K mg base A outer s (hide cs H) :=
  ⟨e.frames, e.mod, fun b o q => ⟨(e.bs b o q).1, hide_none (e.bs b o q).2⟩, e.bsz, e.funs, fun b q => hide_none (e.frf b q), hide_hok t e.hok, e.bare⟩
theorem cells_hide {h : Heap} {ws : List (Option V)} (t : Trk cs H) (hok : HOk P w H h) (c : ClAt F.cl fr ws cs) : CellsAt F.cl fr ws h (hide cs H) := by
  refine ⟨c.len, fun y a e => ?_, c.inj, fun i y e => ?_⟩
  · obtain ⟨v, q⟩ := c.all y a e
    obtain ⟨u, _, z⟩ := cellO_at hok (t a v q)
    exact ⟨hide_in q, _, z⟩
  · obtain ⟨a, e1, e2⟩ := c.has i y e
    refine ⟨a, e1, fun v ev => ?_⟩
    obtain ⟨u, r, z⟩ := cellO_at hok (t a v (e2 v ev))
    exact ⟨u, r, z⟩
/-- a nested def, called later: what its body promises of the heap less its cells -/
theorem calls_nd {vs : List V} {ws : List (Option V)} {Q : VK} {E : XK} (o : NOk P w K mg base (L2.CX P w) k f F ps fr sp) (t : Trk cs H) (c : ClAt F.cl fr ws cs) (hf : H f = some (FnO f F)) (hc : H F.c = some (CodeO F.c F.qual)) (q : sp ws vs (hide cs H) (Qh cs Q) (Eh cs E)) :
    CallsTo P w K mg base (L2.CX P w) k f H vs Q E := by
  refine fun A outer s us hr e0 r => ⟨isFn_nd hf _ _ _ e0.hok, ?_⟩
  have run := o.run A outer s (hide cs H) us vs ws (Qh cs Q) (Eh cs E) hr (env_hide t e0) (by rw [hide_out (fn_out t e0.hok hf)]; exact hf) (by rw [hide_out (code_out t e0.hok hc)]; exact hc) (cells_hide t e0.hok c) r q
  refine codeAny_mono run fun rs s' z => ?_
  cases rs with
  | error e => exact cx_unhide t e0.hok e0.frf z
  | ok fl =>
    cases fl with
    | ret u => exact ce_unhide t e0.hok e0.frf z
    | next => exact z.elim
    | brk => exact z.elim
    | cont => exact z.elim
end
end Xh

/-! Xh6: a def that hands out functions which capture its names: at its end its cells are heap objects -/
namespace Xh
open PySem PySem.Spec PySem.Calls PyProof.Rows L2 LamX NdefX Xf
structure EndsR where
  nx : L2.St → Hp → Prop
  rt : V → L2.St → Hp → Prop
abbrev TSR := EndsR → L2.St → Hp → Prop
def SPR (X : Cx) (pins : List (Addr × Obj)) (D : EndsR) (f : Flow) (s' : Shared) : Prop :=
  match f with
  | .next => ∃ σ' H', Inv X pins σ' H' s' ∧ D.nx σ' H'
  | .ret u => ∃ v σ' H', Inv X pins σ' H' s' ∧ RelV v u ∧ D.rt v σ' H'
  | _ => False
/-- a block; what is told is told with the slots -/
structure PSr (X : Cx) (st : List Stmt) (t : TSR) : Prop where
  run : ∀ (pins : List (Addr × Obj)) (s : Shared) (σ : L2.St) (H : Hp) (D : EndsR), Inv X pins σ H s → t D σ H → wpAny (model X.prog X.w) X.A (execs st X.env) (SPR X pins D) X.xe s
structure P1r (X : Cx) (st : Stmt) (t : TSR) : Prop where
  run : ∀ (pins : List (Addr × Obj)) (s : Shared) (σ : L2.St) (H : Hp) (D : EndsR), Inv X pins σ H s → t D σ H → wpAny (model X.prog X.w) X.A (exec st X.env) (SPR X pins D) X.xe s
def tLift (t : TS) : TSR := fun D σ H => t ⟨D.nx, fun _ _ => False, fun _ _ => False, fun _ _ => False⟩ σ H
def tSeqR (t u : TSR) : TSR := fun D σ H => t ⟨fun σ H => u D σ H, D.rt⟩ σ H
def tRetR (t : TE) : TSR := fun D σ H => t σ H fun v H' => D.rt v σ H'
def tIfR (c : TT) (t u : TSR) : TSR := fun D σ H => c σ H fun b H1 => if b = true then t D σ H1 else u D σ H1
def tNextR : TSR := fun D σ H => D.nx σ H
section
variable {X : Cx} {st : Stmt} {rest : List Stmt} {t u : TSR} {pos : Pos}
theorem p1_lift {t : TS} (h : PS X st t) : P1r X st (tLift t) := by
  refine ⟨fun pins s σ H D I q => thn (h.run pins s σ H _ I q) fun f s1 z => ?_⟩
  cases f with
  | next => exact z
  | ret v => obtain ⟨_, _, _, _, _, q⟩ := z; exact q.elim
  | brk => obtain ⟨_, _, _, q⟩ := z; exact q.elim
  | cont => obtain ⟨_, _, _, q⟩ := z; exact q.elim
theorem p1_ret {e : Expr} {te : TE} (he : PE X e te) : P1r X (.Return (some e) pos) (tRetR te) := by
  refine ⟨fun pins s σ H D I h => ?_⟩
  exact wpAny_Return_some (thn (he.run pins s σ H _ I h) fun v s1 ⟨x, H1, I1, r1, q1⟩ => ⟨x, σ, H1, I1, r1, q1⟩)
theorem psr_cons (h1 : P1r X st t) (h2 : PSr X rest u) : PSr X (st :: rest) (tSeqR t u) := by
  refine ⟨fun pins s σ H D I h => ?_⟩
  refine wpAny_execs_cons (thn (h1.run pins s σ H ⟨u D, D.rt⟩ I h) fun f s1 q => ?_)
  cases f with
  | next =>
    obtain ⟨σ', H', I', q⟩ := q
    exact h2.run pins s1 σ' H' D I' q
  | ret v => exact q
  | brk => exact q.elim
  | cont => exact q.elim
theorem psr_nil : PSr X [] tNextR := ⟨fun pins s σ H D I h => wpAny_execs_nil ⟨σ, H, I, h⟩⟩
theorem psr_one (h1 : P1r X st t) : PSr X [st] t := by
  refine ⟨fun pins s σ H D I h => ?_⟩
  refine wpAny_execs_cons (thn (h1.run pins s σ H D I h) fun f s1 q => ?_)
  cases f with
  | next => exact wpAny_execs_nil q
  | ret v => exact q
  | brk => exact q.elim
  | cont => exact q.elim
theorem p1_if {c : Expr} {a b : List Stmt} {tc : TT} (hc : PT X c tc) (ha : PSr X a t) (hb : PSr X b u) : P1r X (.If c a b pos) (tIfR tc t u) := by
  refine ⟨fun pins s σ H D I h => ?_⟩
  refine wpAny_If (thn (hc.run pins s σ H _ I h) fun d s1 ⟨H1, I1, q1⟩ => ?_)
  cases d with
  | true => exact ha.run pins s1 σ H1 D I1 q1
  | false => exact hb.run pins s1 σ H1 D I1 q1
end
/-! ### the handing over -/
/-- the cells of cl, with what the names hold -/
structure Cov (N : List Str) (cl : List (Str × Addr)) (σ : L2.St) (cs : CL) : Prop where
  has : ∀ (y : Str) (c : Addr) (j : Nat) (v : V), cl.lookup y = some c → N[j]? = some y → σ[j]? = some (some v) → cs.lookup c = some v
  own : ∀ (c : Addr) (v : V), cs.lookup c = some v → ∃ (y : Str) (j : Nat), cl.lookup y = some c ∧ N[j]? = some y ∧ σ[j]? = some (some v)
theorem graph_lookup {ks : List Addr} {g : Addr → V} {c : Addr} (h : c ∈ ks) : (ks.map fun c => (c, g c)).lookup c = some (g c) := by
  induction ks with
  | nil => cases h
  | cons k ks ih =>
    simp only [List.map_cons, List.lookup_cons]
    by_cases e : c = k
    · subst e; simp
    · rw [show (c == k) = false by simpa using e]
      rcases List.mem_cons.mp h with q | q
      · exact absurd q e
      · exact ih q
theorem graph_mem {ks : List Addr} {g : Addr → V} {c : Addr} {v : V} (h : (ks.map fun c => (c, g c)).lookup c = some v) : c ∈ ks ∧ v = g c := by
  induction ks with
  | nil => cases h
  | cons k ks ih =>
    simp only [List.map_cons, List.lookup_cons] at h
    by_cases e : c = k
    · subst e
      simp only [beq_self_eq_true] at h
      exact ⟨List.mem_cons_self, (Option.some.inj h).symm⟩
    · rw [show (c == k) = false by simpa using e] at h
      obtain ⟨a, b⟩ := ih h
      exact ⟨List.mem_cons_of_mem _ a, b⟩
open Classical in
theorem cov_ex {N : List Str} {cl : List (Str × Addr)} {σ : L2.St} (nd : N.Nodup) (inj : ∀ x y c, cl.lookup x = some c → cl.lookup y = some c → x = y) (all : ∀ (y : Str) (c : Addr), cl.lookup y = some c → ∃ (j : Nat) (v : V), N[j]? = some y ∧ σ[j]? = some (some v)) : ∃ cs, Cov N cl σ cs := by
  let good : Addr → V → Prop := fun c v => ∃ (y : Str) (j : Nat), cl.lookup y = some c ∧ N[j]? = some y ∧ σ[j]? = some (some v)
  let g : Addr → V := fun c => if h : ∃ v, good c v then h.choose else .non
  let ks : List Addr := (cl.map (·.2)).filter fun c => decide (∃ v, good c v)
  refine ⟨ks.map fun c => (c, g c), fun y c j v h1 h2 h3 => ?_, fun c v h => ?_⟩
  · have hg : ∃ v, good c v := ⟨v, y, j, h1, h2, h3⟩
    have hm : c ∈ ks := by
      refine List.mem_filter.mpr ⟨?_, decide_eq_true hg⟩
      exact List.mem_map.mpr ⟨(y, c), PySem.mem_of_lookup h1, rfl⟩
    rw [graph_lookup (g := g) hm]
    have eg : g c = hg.choose := dif_pos hg
    obtain ⟨y', j', a1, a2, a3⟩ := hg.choose_spec
    have ey : y = y' := inj _ _ _ h1 a1
    subst ey
    have ej : j = j' := by
      have l1 := (List.getElem?_eq_some_iff.mp h2).1
      exact (List.getElem?_inj l1 nd).mp (h2.trans a2.symm)
    subst ej
    rw [h3] at a3
    rw [eg]
    exact congrArg some (Option.some.inj (Option.some.inj a3)).symm
  · obtain ⟨h1, h2⟩ := graph_mem h
    have hg : ∃ v, good c v := by simpa using (List.mem_filter.mp h1).2
    have eg : g c = hg.choose := dif_pos hg
    rw [h2, eg]
    exact hg.choose_spec
/-- what is wished for at the end of a def whose cells are cl, told of the heap with the cells -/
def Handed (N : List Str) (cl : List (Str × Addr)) (σ : L2.St) (H : Hp) (R : Hp → Prop) : Prop :=
  (∀ (y : Str) (c : Addr), cl.lookup y = some c → ∃ (j : Nat) (v : V), N[j]? = some y ∧ σ[j]? = some (some v)) ∧ ∀ cs : CL, (∀ (x y : Str) (c : Addr), cl.lookup x = some c → cl.lookup y = some c → x = y) → Cov N cl σ cs → Free cs H → R (unhide cs H)
theorem cellsFrom_kind : ∀ (names : List (Str × NameKind)) (n : Nat) (acc : List (Str × Addr)) (y : Str) (c : Addr), (y, c) ∈ cellsFrom n names acc → (y, c) ∈ acc ∨ (y, NameKind.cell) ∈ names
  | [], _, _, _, _, h => .inl h
  | (x, k) :: names, n, acc, y, c, h => by
    unfold cellsFrom at h
    split at h
    · rename_i e
      have e : k = NameKind.cell := by
        cases k <;> first | rfl | exact absurd e (by decide)
      rcases cellsFrom_kind names _ _ y c h with q | q
      · rcases List.mem_cons.mp q with e2 | q
        · cases e2; exact .inr (by rw [e]; exact List.mem_cons_self)
        · exact .inl q
      · exact .inr (List.mem_cons_of_mem _ q)
    · exact (cellsFrom_kind names _ _ y c h).imp_right (List.mem_cons_of_mem _)
theorem look_nodup {α : Type} : ∀ {l : List (Str × α)} {y : Str} {k : α}, (l.map (·.1)).Nodup → (y, k) ∈ l → l.lookup y = some k
  | [], _, _, _, h => nomatch h
  | (x, a) :: l, y, k, nd, h => by
    simp only [List.map_cons, List.nodup_cons] at nd
    rw [List.lookup_cons]
    rcases List.mem_cons.mp h with e | h
    · cases e; simp
    · have ne : y ≠ x := fun e => nd.1 (e ▸ List.mem_map_of_mem (f := (·.1)) h)
      rw [show (y == x) = false by simpa using ne]
      exact look_nodup nd.2 h
/-- THE RULE: such a def by its body -/
theorem fn_maker {CX : CXT} {P : Program} {w : World} {K : PySem.W.Frag} {mg : Str → Option Value} {base : Heap} {k : Nat} {f : Addr} {name qual : Str} {params : Arguments} {body : List Stmt} {scope : Scope} {dV kV doc pm cdv ct oc : Value} {an od : Option Addr}
    {osl : Array (Option Value)} {N ps : List Str} {sp : Sp} (lk : K.lookup f = some ⟨oc, od, .func (PySem.W.fnOf name qual params body scope dV kV doc pm an cdv ct), osl⟩) (hcd : PySem.W.codeIn K cdv qual = true) (S : FnScope N ps scope) (nk : (scope.names.map (·.1)).Nodup)
    (len : ∀ vs H Q E, sp vs H Q E → vs.length = ps.length)
    (hbody : ∀ (A : Around) (outer : List Env) (s : Shared) (H : Hp) (vs : List V) (Q : VK) (E : XK), Room k (A.deeper (envOfC qual scope s.heap.objs.size f cdv)) → sp vs H Q E →
      ∃ t, PSr (cxOf CX P w K mg base N qual scope f cdv A outer s H E) body t ∧ t { nx := fun _ _ => False, rt := fun v σ H' => Handed N (cellsFrom (s.heap.objs.size + 1) scope.names []) σ H' (Q v) } (start N vs) H) :
    FnOk P w K mg base CX (k + 1) f (PySem.W.fnOf name qual params body scope dV kV doc pm an cdv ct) ps sp := by
  refine ⟨len, fun A outer s H args us vs Q E hr e0 hb r hsp => ?_⟩
  have hl := len _ _ _ _ hsp
  have KX : K.In s.heap := e0.mod.kin.keeps fun b o e => (e0.bs b o e).1
  have lim : s.heap.NoLimit := e0.mod.nolimit.keeps fun b o e => (e0.bs b o e).1
  have hkind : ∀ y ∈ ps.zip us, scope.names.lookup y.1 = some .local ∨ (scope.names.lookup y.1 = some .cell ∧ ((cellsFrom (s.heap.objs.size + 1) scope.names []).lookup y.1).isSome = true) := fun ⟨n, v⟩ hy => by
    rcases S.par n (List.of_mem_zip hy).1 with q | q
    · exact .inl q
    · exact .inr ⟨q, PySem.W.cellsFrom_some _ _ _ (.inl q)⟩
  refine codeAny_call_function hr.depth (KX _ _ lk) rfl S.co S.gen rfl (PySem.W.codeRec_of KX hcd) (hb _ _ _ _ ?_)
  refine wpAny_newFunctionEnv_cells S.kind hkind fun env he s1 x => ?_
  subst he
  refine ⟨lim.keeps x.toInCall.keep, codeAny_func ?_⟩
  obtain ⟨t, ht, hq⟩ := hbody A outer s H vs Q E (hr.deeper _) hsp
  have I : Inv (cxOf CX P w K mg base N qual scope f cdv A outer s H E) [] (start N vs) H s1 := inv_start S hr.hd e0 hl r x
  refine wpAny_mono (ht.run [] s1 (start N vs) H _ I hq) (fun fl s' hs => ?_) fun e s' hs => hs
  cases fl with
  | ret u =>
    obtain ⟨v, σ', H', J, rv, all, q⟩ := hs
    obtain ⟨cs, cv⟩ := cov_ex S.nd J.ok.inj all
    have fr : Free cs H' := fun b v e => by
      obtain ⟨y, j, h1, _⟩ := cv.own b v e
      exact J.freeC y b h1
    have old : ∀ b, b < s.heap.objs.size → cs.lookup b = none := fun b hb => by
      cases e : cs.lookup b with
      | none => rfl
      | some v =>
        obtain ⟨y, j, h1, _⟩ := cv.own b v e
        have z : s.heap.objs.size ≤ b := J.ok.cab y b rfl h1
        omega
    have lt : ∀ b o, H b = some o → b < s.heap.objs.size := fun b o e => e0.hok.lt e
    refine ⟨v, unhide cs H', J.os, J.bare, ?_, ?_, rv, q cs J.ok.inj cv fr⟩
    · have un := J.base
      exact ⟨un.keep, un.slot, fun b o h1 h2 h3 => by rw [unhide_out (old b (Heap.lt_size h1))]; exact un.free b o h1 h2 h3, un.there, fun b xs h => by rw [unhide_out (old b (lt _ _ h))]; exact un.tups b xs h,
        fun b o u h => by rw [unhide_out (old b (lt _ _ h))]; exact un.frzs b o u h, fun b ps h => by rw [unhide_out (old b (lt _ _ h))]; exact un.tbls b ps h⟩
    · refine unhide_hok fr (fun b v e => ?_) J.hok
      obtain ⟨y, j, h1, h2, h3⟩ := cv.own b v e
      have ky : scope.names.lookup y = some .cell := by
        rcases cellsFrom_kind _ _ _ _ _ (PySem.mem_of_lookup h1) with z | z
        · cases z
        · exact look_nodup nk z
      obtain ⟨m, hn, hl⟩ := J.loc
      obtain ⟨u, r, l⟩ := hl j y v h2 h3 (.inr (.inl ky))
      rcases l with ⟨z, _⟩ | ⟨_, c', hc', hcell⟩
      · have z : scope.names.lookup y = some .local := z
        rw [ky] at z; cases z
      · have hc' : (cellsFrom (s.heap.objs.size + 1) scope.names []).lookup y = some c' := hc'
        have h1 : (cellsFrom (s.heap.objs.size + 1) scope.names []).lookup y = some b := h1
        rw [h1] at hc'
        cases hc'
        exact ⟨u, r, hcell⟩
  | next =>
    obtain ⟨σ', H', J, q⟩ := hs
    exact False.elim q
  | brk => exact hs.elim
  | cont => exact hs.elim
theorem PSr.nox {X : Cx} {st : List Stmt} {t : TSR} (h : PSr X.nox st t) : PSr X st t := ⟨fun pins s σ H D I hw =>
  wpAny_mono (h.run pins s σ H D (I.wish _) hw) (fun f s' q => by
    cases f with
    | next => obtain ⟨σ', H', J, q⟩ := q; exact ⟨σ', H', J.unwish, q⟩
    | ret u => obtain ⟨v, σ', H', J, r, q⟩ := q; exact ⟨v, σ', H', J.unwish, r, q⟩
    | brk => exact q.elim
    | cont => exact q.elim) fun _ _ x => x.elim⟩
/-- such a def whose code object is known -/
theorem fnC_maker {P : Program} {w : World} {K : PySem.W.Frag} {mg : Str → Option Value} {base : Heap} {x qual : Str} {st : Stmt} {f c : Addr} {fd : FuncData} {N ps : List Str} {k : Nat} {sp : Sp} (F : Xc.FunC K x qual st f fd c) (S : FnScope N ps (defScope st)) (nk : ((defScope st).names.map (·.1)).Nodup) (len : ∀ vs H Q E, sp vs H Q E → vs.length = ps.length)
    (hbody : ∀ (A : Around) (o : List Env) (s : Shared) (H : Hp) (vs : List V) (Q : VK) (E : XK), Room k (A.deeper (envOfC qual (defScope st) s.heap.objs.size f (.ref c))) → sp vs H Q E →
      ∃ t, PSr (cxOf CX0 P w K mg base N qual (defScope st) f (.ref c) A o s H E).nox (defBody st) t ∧ t { nx := fun _ _ => False, rt := fun v σ H' => Handed N (cellsFrom (s.heap.objs.size + 1) (defScope st).names []) σ H' (Q v) } (start N vs) H) : FnOk P w K mg base CX0 (k + 1) f fd ps sp := by
  obtain ⟨oc, od, kV, doc, pm, an, ct, osl, rfl, lk, hcd⟩ := F.ex
  refine fn_maker lk hcd S nk len fun A o s H vs Q E hr hsp => ?_
  obtain ⟨t, h, q⟩ := hbody A o s H vs Q E hr hsp
  exact ⟨t, h.nox, q⟩
theorem calls_mono {CX : CXT} {P : Program} {w : World} {K : PySem.W.Frag} {mg : Str → Option Value} {base : Heap} {k : Nat} {f : Addr} {H : Hp} {vs : List V} {Q Q' : VK} {E : XK} (c : CallsTo P w K mg base CX k f H vs Q E) (h : ∀ v H', Q v H' → Q' v H') : CallsTo P w K mg base CX k f H vs Q' E :=
  fun A outer s us hr e0 r => ⟨(c A outer s us hr e0 r).1, codeAny_mono (c A outer s us hr e0 r).2 fun rs s' z => by
    cases rs with
    | error e => exact z
    | ok fl =>
      cases fl with
      | ret u => obtain ⟨v, H', e1, e2, un, hok', r, q⟩ := z; exact ⟨v, H', e1, e2, un, hok', r, h v H' q⟩
      | next => exact z
      | brk => exact z
      | cont => exact z⟩
/-- what a function captured, by the cells that were handed over -/
theorem clAt_of {N : List Str} {cl : List (Str × Addr)} {σ : L2.St} {cs : CL} {names : List (Str × NameKind)} {fr : List Str} {ws : List (Option V)} (cv : Cov N cl σ cs) (inj : ∀ (x y : Str) (c : Addr), cl.lookup x = some c → cl.lookup y = some c → x = y)
    (all : ∀ (y : Str) (c : Addr), cl.lookup y = some c → ∃ (j : Nat) (v : V), N[j]? = some y ∧ σ[j]? = some (some v)) (hfree : ∀ y ∈ names, y.2 = .free → ∃ c, cl.lookup y.1 = some c) (hfr : ∀ y ∈ fr, (y, NameKind.free) ∈ names) (hw : ws.length = fr.length)
    (hv : ∀ (i : Nat) (y : Str) (v : V), fr[i]? = some y → ws[i]? = some (some v) → ∃ (j : Nat), N[j]? = some y ∧ σ[j]? = some (some v)) : ClAt (cloFrom cl names []) fr ws cs := by
  refine ⟨hw, fun y c e => ?_, fun x y c e1 e2 => inj x y c (clo_cm hfree e1) (clo_cm hfree e2), fun i y e => ?_⟩
  · have e2 := clo_cm hfree e
    obtain ⟨j, v, h1, h2⟩ := all y c e2
    exact ⟨v, cv.has y c j v e2 h1 h2⟩
  · have hm := hfr y (List.mem_of_getElem? e)
    obtain ⟨c, hc⟩ := hfree _ hm rfl
    refine ⟨c, clo_has hfree hm hc, fun v ev => ?_⟩
    obtain ⟨j, h1, h2⟩ := hv i y v e ev
    exact cv.has y c j v hc h1 h2
theorem unhide_keep {cs : CL} {H : Hp} {b : Addr} {o : HO} (fr : Free cs H) (e : H b = some o) : unhide cs H b = some o := by
  rw [unhide_out]
  · exact e
  · cases z : cs.lookup b with
    | none => rfl
    | some v => rw [fr b v z] at e; cases e
theorem unhide_trk {cs : CL} {H : Hp} : Trk cs (unhide cs H) := fun b v e => unhide_in e
end Xh

/-! Xi1: promises of defs that make functions: tables change, what never changes stays -/
namespace Xi
open PySem PySem.Spec PySem.Calls PyProof.Rows L2 Rs Xc
/-- what never changes stays -/
structure Pers (H H' : Hp) : Prop where
  ext : ∀ b r, H b = some (.ext r) → H' b = some (.ext r)
  tup : ∀ b xs, H b = some (.tup xs) → H' b = some (.tup xs)
theorem Pers.refl (H : Hp) : Pers H H := ⟨fun _ _ e => e, fun _ _ e => e⟩
theorem Pers.trans {H H1 H2 : Hp} (a : Pers H H1) (b : Pers H1 H2) : Pers H H2 := ⟨fun x r e => b.ext x r (a.ext x r e), fun x r e => b.tup x r (a.tup x r e)⟩
/-- the base B, with the tables and all that never changes as it stands at H -/
def rbI (B H : Hp) : Hp := fun b => match H b with | some (.tbl ps) => some (.tbl ps) | some (.ext r) => some (.ext r) | some (.tup xs) => some (.tup xs) | _ => B b
/-- these are objects that may be written -/
inductive MutL (H : Hp) : List Addr → Prop where
  | nil : MutL H []
  | lst {b : Addr} {xs : List V} {M : List Addr} (h : H b = some (.lst xs)) (t : MutL H M) : MutL H (b :: M)
  | dct {b : Addr} {kvs : List (Key × V)} {M : List Addr} (h : H b = some (.dK kvs)) (t : MutL H M) : MutL H (b :: M)
  | ins {b C dx : Addr} {fs : List (Str × V)} {M : List Addr} (h : H b = some (.ins C dx fs)) (t : MutL H M) : MutL H (b :: M)
section
variable {B H H' H1 H2 : Hp} {M C : List Addr} {L L' LL F : Led} {Q : VK} {TT : List (Addr × Str)} {a : Addr}
theorem MutL.at_ (m : MutL H M) {b : Addr} (hb : b ∈ M) : (∃ xs, H b = some (.lst xs)) ∨ (∃ kvs, H b = some (.dK kvs)) ∨ ∃ C dx fs, H b = some (.ins C dx fs) := by
  induction m with
  | nil => cases hb
  | lst h _ ih =>
    rcases List.mem_cons.mp hb with rfl | hb
    · exact .inl ⟨_, h⟩
    · exact ih hb
  | dct h _ ih =>
    rcases List.mem_cons.mp hb with rfl | hb
    · exact .inr (.inl ⟨_, h⟩)
    · exact ih hb
  | ins h _ ih =>
    rcases List.mem_cons.mp hb with rfl | hb
    · exact .inr (.inr ⟨_, _, _, h⟩)
    · exact ih hb
theorem MutL.not (m : MutL H M) {b : Addr} {o : HO} (e : H b = some o) (h1 : ∀ xs, o ≠ .lst xs) (h2 : ∀ kvs, o ≠ .dK kvs) (h3 : ∀ C dx fs, o ≠ .ins C dx fs) : b ∉ M := fun hb => by
  rcases m.at_ hb with ⟨xs, z⟩ | ⟨kvs, z⟩ | ⟨C, dx, fs, z⟩
  · rw [e] at z; exact h1 _ (Option.some.inj z)
  · rw [e] at z; exact h2 _ (Option.some.inj z)
  · rw [e] at z; exact h3 _ _ _ (Option.some.inj z)
theorem MutL.ext (m : MutL H M) {b : Addr} {r : Heap → Prop} (e : H b = some (.ext r)) : b ∉ M := m.not e (fun _ z => by cases z) (fun _ z => by cases z) (fun _ _ _ z => by cases z)
theorem MutL.tup (m : MutL H M) {b : Addr} {r : List V} (e : H b = some (.tup r)) : b ∉ M := m.not e (fun _ z => by cases z) (fun _ z => by cases z) (fun _ _ _ z => by cases z)
theorem MutL.tbl (m : MutL H M) {b : Addr} {r : Array Value} (e : H b = some (.tbl r)) : b ∉ M := m.not e (fun _ z => by cases z) (fun _ z => by cases z) (fun _ _ _ z => by cases z)
theorem rbI_ext {b : Addr} {r : Heap → Prop} (e : H b = some (.ext r)) : rbI B H b = some (.ext r) := by unfold rbI; rw [e]
theorem rbI_tup {b : Addr} {r : List V} (e : H b = some (.tup r)) : rbI B H b = some (.tup r) := by unfold rbI; rw [e]
theorem rbI_tbl {b : Addr} {r : Array Value} (e : H b = some (.tbl r)) : rbI B H b = some (.tbl r) := by unfold rbI; rw [e]
theorem rbI_lst {b : Addr} {xs : List V} (e : H b = some (.lst xs)) : rbI B H b = B b := by unfold rbI; rw [e]
theorem rbI_dct {b : Addr} {xs : List (Key × V)} (e : H b = some (.dK xs)) : rbI B H b = B b := by unfold rbI; rw [e]
theorem rbI_ins {b C dx : Addr} {xs : List (Str × V)} (e : H b = some (.ins C dx xs)) : rbI B H b = B b := by unfold rbI; rw [e]
theorem _root_.Rs.Hs.toI (S : Hs B M H L) : Hs (rbI B H) M H L := by
  refine ⟨S.nd, S.is, fun b o e hm => ?_, S.mu⟩
  unfold rbI at e
  split at e
  · rename_i h; rw [h]; exact e
  · rename_i h; rw [h]; exact e
  · rename_i h; rw [h]; exact e
  · exact S.old b o e hm
theorem _root_.Rs.Hs.ofI (S : Hs B M H L) (S' : Hs (rbI B H) M H' L') : Hs B M H' L' := by
  refine ⟨S'.nd, S'.is, fun b o e hm => S'.old b o ?_ hm, S'.mu⟩
  have h3 := S.old b o e hm
  unfold rbI
  rw [h3]
  split
  · rename_i h; exact h.symm
  · rename_i h; exact h.symm
  · rename_i h; exact h.symm
  · exact e
theorem _root_.Rs.Hs.persI (S' : Hs (rbI B H) M H' L') (m : MutL H M) : Pers H H' := ⟨fun b r e => S'.old _ _ (rbI_ext e) (m.ext e), fun b r e => S'.old _ _ (rbI_tup e) (m.tup e)⟩
theorem tabs_pers (p : Pers H H') (k : ∀ b ps, H b = some (.tbl ps) → H' b = some (.tbl ps)) (t : LamX.Tabs TT H) : LamX.Tabs TT H' := fun q hq => by
  obtain ⟨ps, h1, h2, h3⟩ := t q hq
  refine ⟨ps, k _ _ h1, h2, fun pos cv hc => ?_⟩
  obtain ⟨c, e1, e2⟩ := h3 pos cv hc
  exact ⟨c, e1, p.ext _ _ e2⟩
theorem _root_.Rs.Hs.tabI (S' : Hs (rbI B H) M H' L') (m : MutL H M) (t : LamX.Tabs TT H) : LamX.Tabs TT H' :=
  tabs_pers (S'.persI m) (fun b ps e => S'.old _ _ (rbI_tbl e) (m.tbl e)) t
/-- more objects that may be written; fewer -/
theorem _root_.Rs.Hs.addM {o : HO} (S : Hs B M H L) (m : (a, o) ∈ L) : Hs B (a :: M) H L := by
  refine ⟨S.nd, S.is, fun b u e hb => S.old b u e fun z => hb (List.mem_cons_of_mem _ z), fun b hb => ?_⟩
  by_cases e : b = a
  · rw [e, S.is _ m]; simp
  · rcases List.mem_cons.mp hb with z | z
    · exact absurd z e
    · exact S.mu b z
theorem _root_.Rs.Hs.lessM (S : Hs B M H L) (sub : ∀ b ∈ C, b ∈ M) (h : ∀ b ∈ M, b ∈ C ∨ B b = none) : Hs B C H L :=
  ⟨S.nd, S.is, fun b u e hb => S.old b u e (fun z => (h b z).elim hb fun q => by rw [q] at e; cases e), fun b hb => S.mu b (sub b hb)⟩
/-- another base -/
theorem _root_.Rs.Hs.base {B' : Hp} (S : Hs B M H L) (h : ∀ b o, B' b = some o → b ∉ M → H b = some o) : Hs B' M H L := ⟨S.nd, S.is, h, S.mu⟩
/-! ### promises -/
abbrev SepF := Hp → List V → List Addr → Led → (V → Hp → Led → Led → Prop) → Prop
/-- R: the heap, the arguments, what may be written, what is known ahead, what is promised (the new objects told apart) -/
def SepT (TT : List (Addr × Str)) (R : SepF) : Sp := fun vs H Q _ => ∃ C L post, R H vs C L post ∧ (L.map (·.1)).Nodup ∧ (∀ q ∈ L, H q.1 = some q.2) ∧ (∀ c ∈ C, c ∈ L.map (·.1)) ∧ LamX.Tabs TT H ∧
  ∀ v H' N L', post v H' N L' → Hs (noT H) C H' (N ++ L') → (∀ q ∈ L', q.1 ∈ L.map (·.1)) → (∀ q ∈ N, noT H q.1 = none) → LamX.Tabs TT H' → Pers H H' → Q v H'
theorem frameT (nb : ∀ b ps, B b ≠ some (.tbl ps)) (nf : ∀ q ∈ F, ∀ ps, q.2 ≠ .tbl ps) (S : Hs B M H (L ++ F)) (S' : Hs (noT H) C H' L') (hC : ∀ c ∈ C, c ∈ L.map (·.1) ∧ (B c = none ∨ c ∈ M)) (hk : ∀ q ∈ L', q.1 ∈ L.map (·.1) ∨ noT H q.1 = none) (m : MutL H M) : Hs B M H' (L' ++ F) := by
  have nd := S.nd
  rw [List.map_append, List.nodup_append] at nd
  obtain ⟨_, nF, dis⟩ := nd
  have isF : ∀ q ∈ F, H' q.1 = some q.2 := fun q h => by
    refine S'.old _ _ (noT_some (S.is q (List.mem_append_right _ h)) (nf q h)) fun hc => ?_
    exact dis _ (hC _ hc).1 _ (List.mem_map_of_mem (f := (·.1)) h) rfl
  refine ⟨?_, ?_, ?_, ?_⟩
  · rw [List.map_append, List.nodup_append]
    refine ⟨S'.nd, nF, ?_⟩
    intro x hx y hy e
    subst e
    obtain ⟨q, hq, rfl⟩ := List.mem_map.mp hx
    rcases hk q hq with h | h
    · exact dis _ h _ hy rfl
    · obtain ⟨r, hr, e⟩ := List.mem_map.mp hy
      have := noT_some (S.is r (List.mem_append_right _ hr)) (nf r hr)
      rw [e, h] at this
      cases this
  · intro q hq
    rcases List.mem_append.mp hq with h | h
    · exact S'.is q h
    · exact isF q h
  · intro b o e hb
    refine S'.old _ _ (noT_some (S.old b o e hb) fun ps z => nb b ps (by rw [e, z])) fun hc => ?_
    rcases (hC _ hc).2 with z | z
    · rw [z] at e; cases e
    · exact hb z
  · intro b hb
    by_cases hc : b ∈ C
    · exact S'.mu b hc
    · rcases m.at_ hb with ⟨xs, z⟩ | ⟨kvs, z⟩ | ⟨C', dx, fs, z⟩
      · rw [S'.old b _ (noT_some z fun ps q => by cases q) hc]; simp
      · rw [S'.old b _ (noT_some z fun ps q => by cases q) hc]; simp
      · rw [S'.old b _ (noT_some z fun ps q => by cases q) hc]; simp
theorem none_noT (nb : ∀ b ps, B b ≠ some (.tbl ps)) (S : Hs B M H L) (m : MutL H M) (h : noT H a = none) : B a = none := by
  cases e : B a with
  | none => rfl
  | some o =>
    by_cases hm : a ∈ M
    · rcases m.at_ hm with ⟨xs, z⟩ | ⟨kvs, z⟩ | ⟨C', dx, fs, z⟩
      · rw [noT_some z (fun ps q => by cases q)] at h; cases h
      · rw [noT_some z (fun ps q => by cases q)] at h; cases h
      · rw [noT_some z (fun ps q => by cases q)] at h; cases h
    · rw [noT_some (S.old a o e hm) (fun ps z => nb a ps (by rw [e, z]))] at h; cases h
theorem rbI_none (h : rbI B H a = none) : B a = none := by
  unfold rbI at h
  split at h
  · cases h
  · cases h
  · cases h
  · exact h
/-- such a def is called -/
theorem sept_use {R : SepF} {vs : List V} {post : V → Hp → Led → Led → Prop} {E : XK} (nb : ∀ b ps, B b ≠ some (.tbl ps)) (S : Hs B M H LL) (tb : LamX.Tabs TT H) (m : MutL H M) (r : R H vs C L post) (pm : ∀ a, cn a (L ++ F) ≤ cn a LL) (nf : ∀ q ∈ F, ∀ ps, q.2 ≠ .tbl ps) (hC : ∀ c ∈ C, c ∈ L.map (·.1) ∧ (B c = none ∨ c ∈ M))
    (h : ∀ v H' N L', post v H' N L' → (∀ q ∈ N, B q.1 = none) → Hs B M H' (N ++ (L' ++ F)) → LamX.Tabs TT H' → Pers H H' → Q v H') : SepT TT R vs H Q E := by
  have S1 := S.re pm
  refine ⟨C, L, post, r, ?_, fun q hq => S1.is q (List.mem_append_left _ hq), fun c hc => (hC c hc).1, tb, fun v H' N L' p S' h1 h2 tb' pe => ?_⟩
  · have := S1.nd
    rw [List.map_append, List.nodup_append] at this
    exact this.1
  · refine h v H' N L' p (fun q hq => none_noT nb S m (h2 q hq)) ?_ tb' pe
    rw [← List.append_assoc]
    refine frameT nb nf S1 S' hC (fun q hq => ?_) m
    rcases List.mem_append.mp hq with z | z
    · exact Or.inr (h2 q z)
    · exact Or.inl (h1 q z)
theorem noT_nb {H0 : Hp} : ∀ b ps, noT H0 b ≠ some (.tbl ps) := fun b ps e => (noT_of e).2 ps rfl
theorem Pers.of_ext (h : LamX.ExtN H H') : Pers H H' := ⟨fun b r e => h b _ e (fun ps z => by cases z), fun b r e => h b _ e (fun ps z => by cases z)⟩
theorem Pers.of_noT (S : Hs (noT H) C H' L') (m : MutL H C) : Pers H H' := ⟨fun b r e => S.old b _ (noT_some e fun ps z => by cases z) (m.ext e), fun b r e => S.old b _ (noT_some e fun ps z => by cases z) (m.tup e)⟩
end
end Xi

/-! Xi2: ways that come together -/
namespace Xi
open PySem PySem.Spec PySem.Calls PyProof.Rows L2 Rs
theorem if_viaV {b : Bool} {te1 te2 : TE} {σ : L2.St} {H : Hp} {C : VK} (Post : V → Hp → Prop) (h1 : b = true → ∀ C' : VK, (∀ v H', Post v H' → C' v H') → te1 σ H C') (h2 : b = false → ∀ C' : VK, (∀ v H', Post v H' → C' v H') → te2 σ H C') (k : ∀ v H', Post v H' → C v H') : if b = true then te1 σ H C else te2 σ H C := by
  cases b with
  | true => exact h1 rfl C k
  | false => exact h2 rfl C k
theorem seq_via {t u : TS} {σ : L2.St} {H : Hp} {nx : L2.St → Hp → Prop} {rt : VK} {bk ct : L2.St → Hp → Prop} (R : L2.St → Hp → Prop) (h : ∀ nx : L2.St → Hp → Prop, (∀ σ' H', R σ' H' → nx σ' H') → t ⟨nx, rt, bk, ct⟩ σ H) (k : ∀ σ' H', R σ' H' → u ⟨nx, rt, bk, ct⟩ σ' H') : tSeq t u ⟨nx, rt, bk, ct⟩ σ H := h _ k
theorem ifs_viaP {b : Bool} {t u : TS} {σ : L2.St} {H : Hp} {nx : L2.St → Hp → Prop} {rt : VK} {bk ct : L2.St → Hp → Prop} (Post : Hp → Prop) (h1 : b = true → ∀ nx' : L2.St → Hp → Prop, (∀ H', Post H' → nx' σ H') → t ⟨nx', rt, bk, ct⟩ σ H) (h2 : b = false → ∀ nx' : L2.St → Hp → Prop, (∀ H', Post H' → nx' σ H') → u ⟨nx', rt, bk, ct⟩ σ H)
    (k : ∀ H', Post H' → nx σ H') : if b = true then t ⟨nx, rt, bk, ct⟩ σ H else u ⟨nx, rt, bk, ct⟩ σ H := by
  cases b with
  | true => exact h1 rfl nx k
  | false => exact h2 rfl nx k
/-- the scope of a comprehension that an assignment's value is -/
def lcScope : Stmt → Scope
  | .Assign _ (.ListComp _ _ sc _) .. => sc
  | st => defScope st
end Xi

/-! Xj1: methods by the object's own class, function values called by a name, captured lambdas handed over, C.m(x, ..) of own classes -/
namespace Xj
open PySem PySem.Spec PySem.Calls PyProof.Rows L2 LamX NdefX Xf Xh
section
variable {X : Cx} {CX : CXT} {k j i : Nat} {m x : Str} {E : XK} {te : TE} {ta : TA} {o e : Expr} {es : List Expr} {apos pos p : Pos}
theorem run_to {pins : List (Addr × Obj)} {σ : L2.St} {H : Hp} {s : Shared} {Q : VK} {f : Addr} {us : List Value} {vs : List V} (c : CallsTo X.prog X.w X.K X.mg X.base CX k f H vs Q E) (hr : Room j X.A) (hk : k ≤ j) (hx : Passes CX X E) (I : Inv X pins σ H s) (r : Vals vs us) :
    wpAny (model X.prog X.w) X.A (call (.ref f) us) (EP X pins σ Q) X.xe s := by
  obtain ⟨_, z⟩ := c X.A X.stack s us (hr.mono hk) I.env0 r
  refine wpAny_call (codeAny_mono z fun r s' hq => ?_)
  cases r with
  | error e => exact hx pins σ H s e s' I hq
  | ok fl =>
    cases fl with
    | ret u => exact I.after hq
    | next => exact False.elim hq
    | brk => exact False.elim hq
    | cont => exact False.elim hq
/-- o.m(..), m a method of the class that o is of -/
def tMethD (X : Cx) (CX : CXT) (k : Nat) (m : Str) (te : TE) (ta : TA) (E : XK) : TE := fun σ H Q => te σ H fun x H1 => ∃ a C dx fs f, x = .ref a ∧ H1 a = some (.ins C dx fs) ∧ Cls X.K C ∧ Meth X.K C m f ∧ fs.lookup m = none ∧ ta σ H1 fun vs H2 => CallsTo X.prog X.w X.K X.mg X.base CX k f H2 (x :: vs) Q E
theorem pe_methD {pl : Sem Bool} (he : PE X o te) (ha : PA X (e :: es) ta) (hr : Room j X.A) (hk : k ≤ j) (hx : Passes CX X E)
    (hst : starEach (e :: es) X.env = (false, eval e X.env) :: starEach es X.env := by rfl) (hpl : (backTo pos (starEach es X.env)).any (·.1) = false := by rfl)
    (ht : eval (.Call (.Attribute o m apos) (e :: es) [] pos) X.env = (do
      let ov ← eval o X.env
      standAt apos.atName
      let (f, first) ← holding [ov] (getMethod ov m pl)
      callWith pos f first (backTo pos (starEach (e :: es) X.env)) (backToKw pos (keywordEach [] X.env))) := by rfl) :
    PE X (.Call (.Attribute o m apos) (e :: es) [] pos) (tMethD X CX k m te ta E) := by
  refine ⟨fun pins s σ H Q I h => ?_⟩
  refine PySem.W.methodCall_KW (pl := pl) (thn (he.run pins s σ H _ I h) fun u s1 ⟨x, H1, I1, rx, a, C, dx, fs, f, ex, ea, c, hm, l, q⟩ => ?_) ht
  subst ex
  obtain rfl : u = Value.ref a := rx
  refine getmeth_ok I1 ea c hm l ?_
  refine PySem.W.callWith_K (first := [.ref a]) (h₀ := X.base) I.ok.mod.kin hm.kp (thn (ha.run pos pins s1 σ H1 _ I1 q) fun us s2 ⟨vs, H2, I2, r, q2⟩ => ⟨I2.kIn, ?_⟩) hst hpl
  exact run_to (us := .ref a :: us) q2 hr hk hx I2 (.cons rfl r)
theorem pe_methD0 {pl : Sem Bool} (he : PE X o te) (hr : Room j X.A) (hk : k ≤ j) (hx : Passes CX X E)
    (ht : eval (.Call (.Attribute o m apos) [] [] pos) X.env = (do
      let ov ← eval o X.env
      standAt apos.atName
      let (f, first) ← holding [ov] (getMethod ov m pl)
      callWith pos f first (backTo pos (starEach [] X.env)) (backToKw pos (keywordEach [] X.env))) := by rfl) :
    PE X (.Call (.Attribute o m apos) [] [] pos) (tMethD X CX k m te tNil E) := by
  refine ⟨fun pins s σ H Q I h => ?_⟩
  refine PySem.W.methodCall_KW (pl := pl) (thn (he.run pins s σ H _ I h) fun u s1 ⟨x, H1, I1, rx, a, C, dx, fs, f, ex, ea, c, hm, l, q⟩ => ?_) ht
  subst ex
  obtain rfl : u = Value.ref a := rx
  refine getmeth_ok I1 ea c hm l ?_
  refine PySem.W.callWith_K0 (first := [.ref a]) I1.kIn hm.kp ?_
  exact run_to (us := [.ref a]) q hr hk hx I1 (.cons rfl .nil)
/-- f(..), f a name that holds a function -/
def tCallV (X : Cx) (CX : CXT) (k i : Nat) (ta : TA) (E : XK) : TE := fun σ H Q => ∃ f, σ[i]? = some (some (.ref f)) ∧ IsFn f H ∧ ta σ H fun vs H2 => IsFn f H2 ∧ CallsTo X.prog X.w X.K X.mg X.base CX k f H2 vs Q E
theorem pe_callV (hN : X.N[i]? = some x) (hv : Vis X.env.scope x) (ha : PA X (e :: es) ta) (hr : Room j X.A) (hk : k ≤ j) (hx : Passes CX X E) (hdb : (x == ("__debug__" : Str)) = false := by decide) (hcd : (x == ("__classdict__" : Str)) = false := by decide)
    (he : starEach (e :: es) X.env = (false, eval e X.env) :: starEach es X.env := by rfl) (hpl : (backTo pos (starEach es X.env)).any (·.1) = false := by rfl) : PE X (.Call (.Name x p) (e :: es) [] pos) (tCallV X CX k i ta E) := by
  refine ⟨fun pins s σ H Q I h => ?_⟩
  obtain ⟨f, hs, hf, ht⟩ := h
  refine wpAny_Call_Name_kw (thn ((pe_var (pos := p) hN hv hdb hcd).run pins s σ H (fun v H1 => v = .ref f ∧ H1 = H) I ⟨.ref f, hs, rfl, rfl⟩) fun u s1 ⟨v, H1, I1, r1, q1⟩ => ?_)
  obtain ⟨rfl, rfl⟩ := q1
  obtain rfl : u = Value.ref f := r1
  refine PySem.W.callWith_F (first := []) (hf _ _ _ I1.hok) (thn (ha.run pos pins s1 σ _ _ I1 ht) fun us s2 ⟨vs, H2, I2, r, hf2, q⟩ => ⟨hf2 _ _ _ I2.hok, ?_⟩) he hpl
  exact run_to q hr hk hx I2 r
theorem pe_callV0 (hN : X.N[i]? = some x) (hv : Vis X.env.scope x) (hr : Room j X.A) (hk : k ≤ j) (hx : Passes CX X E) (hdb : (x == ("__debug__" : Str)) = false := by decide) (hcd : (x == ("__classdict__" : Str)) = false := by decide) :
    PE X (.Call (.Name x p) [] [] pos) (tCallV X CX k i tNil E) := by
  refine ⟨fun pins s σ H Q I h => ?_⟩
  obtain ⟨f, hs, hf, _, q⟩ := h
  refine wpAny_Call_Name_kw (thn ((pe_var (pos := p) hN hv hdb hcd).run pins s σ H (fun v H1 => v = .ref f ∧ H1 = H) I ⟨.ref f, hs, rfl, rfl⟩) fun u s1 ⟨v, H1, I1, r1, q1⟩ => ?_)
  obtain ⟨rfl, rfl⟩ := q1
  obtain rfl : u = Value.ref f := r1
  refine PySem.W.callWith_F0 (first := []) (hf _ _ _ I1.hok) ?_
  exact run_to q hr hk hx I1 .nil
/-- C.m(o, ..), C an own class, m a def of it or of a class above it -/
def tClsF (sp : Sp) (E : XK) (ta : TA) : TE := fun σ H Q => ta σ H fun vs H1 => sp vs H1 Q E
theorem pe_clsF {n : Str} {pl : Sem Bool} {S f : Addr} {mc : Value} {fd : FuncData} {ps : List Str} {sp : Sp} {p1 p2 : Pos} (hg : Gl X n) (hm : X.mg n = some (.ref S)) (cr : ClX.CRead X.K S mc) (vV : PySem.W.findCls X.K (.ref S) mc m = some (.val (.ref f))) (hin : PySem.W.handedIn (.ref f) = true) (hkp : PySem.W.keepIn X.K (.ref f) = true)
    (F : FnOk X.prog X.w X.K X.mg X.base CX k f fd ps sp) (hr : Room k X.A) (hb : Binds X.K fd ps []) (hx : Passes CX X E) (ha : PA X (e :: es) ta)
    (hc : eval (.Call (.Attribute (.Name n p1) m p2) (e :: es) [] pos) X.env = (do
      let ov ← eval (.Name n p1) X.env
      standAt p2.atName
      let (fn, fst) ← holding [ov] (getMethod ov m pl)
      callWith pos fn fst (backTo pos (starEach (e :: es) X.env)) (backToKw pos (keywordEach [] X.env))) := by rfl)
    (hdb : (n == ("__debug__" : Str)) = false := by decide) (he : starEach (e :: es) X.env = (false, eval e X.env) :: starEach es X.env := by rfl) (hp : (backTo pos (starEach es X.env)).any (·.1) = false := by rfl) :
    PE X (.Call (.Attribute (.Name n p1) m p2) (e :: es) [] pos) (tClsF sp E ta) := by
  refine ⟨fun pins s σ H Q I k => PySem.W.methodCall_KW (ld_glob I hg hm ?_ hdb) hc⟩
  refine PySem.W.method_cls I.kIn cr.ga (PySem.W.cls_value I.kIn cr.rd vV hin ?_)
  show wpAny _ _ (callWith pos (Value.ref f) [] (backTo pos (starEach (e :: es) X.env)) []) _ _ _
  refine PySem.W.callWith_K (first := []) (h₀ := X.base) I.ok.mod.kin hkp (thn (ha.run pos pins _ σ H _ (I.tok _) k) fun us s1 ⟨vs, H1, I1, rv, q⟩ => ⟨I1.kIn, ?_⟩) he hp
  exact run_fn (us := us) (vs := vs) (dvs := []) F hr hb .nil hx I1 rv (by rw [List.append_nil]; exact q)
end
section
variable {CX : CXT} {P : Program} {w : World} {K : PySem.W.Frag} {mg : Str → Option Value} {base : Heap} {N ps fr : List Str} {F : LF} {f : Addr} {k j : Nat} {H : Hp} {vs : List V} {Q Q' : VK} {E : XK}
theorem calls_up (c : CallsTo P w K mg base CX j f H vs Q E) (h : j ≤ k) : CallsTo P w K mg base CX k f H vs Q E := fun A outer s us hr => c A outer s us (hr.mono h)
structure CalMD (K : PySem.W.Frag) (qual : Str) (st : Stmt) (dvs : List V) (f : Addr) (fd : FuncData) : Prop where
  F : FunD K "__init__" qual (defArgs st) (defBody st) (defScope st) dvs [] f fd
/-- what never raises -/
theorem calls_ok (c : CallsTo P w K mg base CX0 k f H vs Q E0) : CallsTo P w K mg base (L2.CX P w) k f H vs Q E := fun A outer s us hr e0 r => ⟨(c A outer s us hr e0 r).1, codeAny_mono (c A outer s us hr e0 r).2 fun rs s' z => by
  cases rs with
  | error e => exact z.elim
  | ok fl =>
    cases fl with
    | ret u => exact z
    | next => exact z
    | brk => exact z
    | cont => exact z⟩
/-- a def of the text -/
theorem calls_fn {x qual : Str} {st : Stmt} {fd : FuncData} {sp : Sp} (Fn : Fun K x qual st f fd) (o : FnOk P w K mg base CX k f fd ps sp) (hb : Binds K fd ps []) (q : sp vs H Q E) : CallsTo P w K mg base CX k f H vs Q E := by
  refine fun A outer s us hr e0 r => ?_
  have KX : K.In s.heap := e0.mod.kin.keeps fun b o e => (e0.bs b o e).1
  obtain ⟨oc, od, kV, doc, pm, an, cdv, ct, osl, rfl, lk, hcd⟩ := Fn.ex
  have hl : (us ++ []).length = ps.length := by rw [List.append_nil, ← r.length]; exact o.len _ _ _ _ q
  refine ⟨⟨_, _, _, _, KX _ _ lk⟩, o.run A outer s H ⟨us, []⟩ us vs Q E hr e0 ?_ r q⟩
  have := hb s us KX hl
  rw [List.append_nil] at this
  exact this
/-- a lambda that captured names, called behind the end of its maker -/
theorem calls_lamC {ws : List (Option V)} {cs : CL} {t : TE} (S : NScope N ps fr F.scope) (hb : ∀ (pm ctv : Value) (us : List Value), us.length = ps.length → bindArgs (F.fd pm ctv) ⟨us, []⟩ = pure (ps.zip us)) (hl : vs.length = ps.length)
    (tr : Trk cs H) (c : ClAt F.cl fr ws cs) (hf : H f = some (LamO f F)) (hc : H F.c = some (CodeO F.c F.qual))
    (hbody : ∀ (A : Around) (outer : List Env) (s : Shared), Room k (A.deeper (envF F.nf f s.heap.objs.size)) → PE (ncx (L2.CX P w) P w K mg base N F.nf f A outer s (hide cs H) (Eh cs E)) F.body t) (hq : t (startF N vs ws) (hide cs H) (Qh cs Q)) :
    CallsTo P w K mg base (L2.CX P w) (k + 1) f H vs Q E := by
  refine fun A outer s us hr e0 r => ?_
  have e1 := env_hide tr e0
  have unlim : s.heap.NoLimit := e0.mod.nolimit.keeps fun x y z => (e0.bs x y z).1
  obtain ⟨pm, ctv, ho⟩ := lamO_at e0.hok hf
  refine ⟨⟨_, _, _, _, ho⟩, ?_⟩
  refine PySem.W.kla_callFunE hr.depth ho rfl S.co S.gen rfl (codeO_at e0.hok hc) ?_
  rw [hb pm ctv us (by rw [← r.length]; exact hl)]
  refine wpAny_pure (wpAny_newFunctionEnv S.nocell (fun y hy => S.par y.1 (List.of_mem_zip hy).1) (fun hn frm grown => ⟨unlim.fresh _ grown, ?_⟩) S.kind)
  show codeAny _ _ (.expr F.body (envF F.nf f s.heap.objs.size)) _ _
  have still : ∀ x y, s.heap.get? x = some y → hn.get? x = some y := fun x y z => grown.extBut x y (Nat.ne_of_lt (Heap.lt_size z)) (Heap.get?_push_of_some _ z)
  have C : CellsAt F.nf.cl fr ws s.heap (hide cs H) := cells_hide (F := F.nf) tr e0.hok c
  have I : Inv (ncx (L2.CX P w) P w K mg base N F.nf f A outer s (hide cs H) (Eh cs E)) [] (startF N vs ws) (hide cs H) { s with heap := hn, toks := s.toks + (ps.zip us).length } := inv_startN S hr.hd e1 hl r C frm still
  refine PySem.W.kla_codeExpr (wpAny_mono ((hbody A outer s (hr.deeper _)).run [] _ (startF N vs ws) (hide cs H) (Qh cs Q) I hq) (fun v s' hq => ?_) fun e s' hq => ?_)
  · obtain ⟨w', H', J, rv, q⟩ := hq
    exact ce_unhide tr e0.hok e0.frf ⟨w', H', J.os, J.bare, J.base, J.hok, rv, q⟩
  · refine wpAny_mono hq (fun _ s2 z => ?_) fun e2 s2 z => ?_
    · exact cx_unhide tr e0.hok e0.frf z
    · exact cx_unhide tr e0.hok e0.frf z
end
section
variable {X : Cx} {CX : CXT} {k i : Nat} {m : Str} {E : XK} {te : TE} {ta : TA} {σ : L2.St} {H : Hp} {Q : VK} {sp : Sp}
theorem rd_methD (h : te σ H fun x H1 => ∃ a C dx fs f, x = .ref a ∧ H1 a = some (.ins C dx fs) ∧ Cls X.K C ∧ Meth X.K C m f ∧ fs.lookup m = none ∧ ta σ H1 fun vs H2 => CallsTo X.prog X.w X.K X.mg X.base CX k f H2 (x :: vs) Q E) : tMethD X CX k m te ta E σ H Q := h
theorem rd_clsF (h : ta σ H fun vs H1 => sp vs H1 Q E) : tClsF sp E ta σ H Q := h
end
end Xj

/-! Xk1: askings as trees: what is asked, what is put into the row, what is told; a tree kept at a heap -/
namespace Xk
open PySem PySem.Spec PyProof.Rows L2 Rs LamX
inductive Ak (ι β : Type) : Type
  | ret (b : β) : Ak ι β
  | ask (q : ι) (k : Bool → Ak ι β) : Ak ι β
  | put (ys : List V) (k : Ak ι β) : Ak ι β
namespace Ak
variable {ι κ β γ : Type}
def bind : Ak ι β → (β → Ak ι γ) → Ak ι γ
  | ret b, g => g b
  | ask q k, g => ask q fun b => (k b).bind g
  | put ys k, g => put ys (k.bind g)
def mapq (f : ι → κ) : Ak ι β → Ak κ β
  | ret b => ret b
  | ask q k => ask (f q) fun b => (k b).mapq f
  | put ys k => put ys (k.mapq f)
theorem bind_ret (t : Ak ι β) : t.bind ret = t := by
  induction t with
  | ret b => rfl
  | ask q k ih => simp only [bind, ih]
  | put ys k ih => simp only [bind, ih]
theorem bind_bind {δ : Type} (t : Ak ι β) (g : β → Ak ι γ) (h : γ → Ak ι δ) : (t.bind g).bind h = t.bind fun b => (g b).bind h := by
  induction t with
  | ret b => rfl
  | ask q k ih => simp only [bind, ih]
  | put ys k ih => simp only [bind, ih]
theorem ite_bind {c : Prop} [Decidable c] (t u : Ak ι β) (g : β → Ak ι γ) : (if c then t else u).bind g = if c then t.bind g else u.bind g := by split <;> rfl
end Ak
theorem same_nn {H H' : Hp} {b : Addr} (s : Same H H') (e : H' b = none) : H b = none := by
  cases h : H b with
  | none => rfl
  | some o => rw [s _ _ h] at e; cases e
/-- a thing that may be changed stands there -/
def Mq : HO → Prop
  | .lst _ => True
  | .ins _ _ _ => True
  | .dK _ => True
  | _ => False
theorem Mq.tbl {o : HO} (h : Mq o) (ps : Array Value) : o ≠ .tbl ps := fun e => by subst e; exact h
def Std (H : Hp) (b : Addr) : Prop := ∃ o, H b = some o ∧ Mq o
theorem Std.ext {H H' : Hp} {b : Addr} (s : Std H b) (e : ExtN H H') : Std H' b := let ⟨o, h, n⟩ := s; ⟨o, e _ _ h n.tbl, n⟩
theorem Std.ne {H : Hp} {b : Addr} (s : Std H b) : H b ≠ none := by obtain ⟨o, h, _⟩ := s; rw [h]; simp
theorem Std.not {H : Hp} {b : Addr} {o : HO} (s : Std H b) (h : H b = some o) : Mq o := by obtain ⟨u, e, m⟩ := s; rw [h] at e; cases e; exact m
/-- what an asking is, what it may change (besides tables), what it keeps -/
structure Wd (ι : Type) where
  TT : List (Addr × Str)
  MM : List Addr
  J : Hp → Prop
  Do : ι → Hp → VK → XK → Prop
  mono : ∀ q H (Q Q' : VK) (E E' : XK), (∀ v H', Q v H' → Q' v H') → (∀ c d H', E c d H' → E' c d H') → Do q H Q E → Do q H Q' E'
  jm : ∀ H H', J H → (∀ b ∈ MM, ∀ o, H b = some o → H' b = some o) → J H'
/-- what is done between askings: new objects, tables, the program's own objects o but those of pr -/
structure Mv {ι : Type} (W : Wd ι) (pr o o' : List Addr) (H H' : Hp) : Prop where
  ext : ∀ b u, H b = some u → (b ∉ o ∨ b ∈ pr) → (∀ ps, u ≠ .tbl ps) → H' b = some u
  tab : Tabs W.TT H → Tabs W.TT H'
  nn : ∀ b, H' b = none → H b = none
  sub : ∀ b ∈ o', b ∈ o ∨ H b = none
  sup : ∀ b ∈ o, b ∈ o'
  on : (∀ b ∈ o, H b ≠ none) → ∀ b ∈ o', H' b ≠ none
/-- what an asking keeps -/
structure Frm {ι : Type} (W : Wd ι) (H H' : Hp) : Prop where
  old : ∀ b o, H b = some o → b ∉ W.MM → (∀ ps, o ≠ .tbl ps) → H' b = some o
  tab : Tabs W.TT H → Tabs W.TT H'
  nn : ∀ b, H' b = none → H b = none
  j : W.J H → W.J H'
/-- a row is written -/
structure Pt {ι : Type} (W : Wd ι) (a : Addr) (ys : List V) (pr o o' : List Addr) (H H' : Hp) : Prop where
  at_ : H' a = some (.lst ys)
  old : ∀ b u, H b = some u → b ≠ a → (b ∉ o ∨ b ∈ pr) → (∀ ps, u ≠ .tbl ps) → H' b = some u
  tab : Tabs W.TT H → Tabs W.TT H'
  nn : ∀ b, H' b = none → H b = none
  sub : ∀ b ∈ o', b ∈ o ∨ H b = none
  sup : ∀ b ∈ o, b ∈ o'
  on : (∀ b ∈ o, H b ≠ none) → ∀ b ∈ o', H' b ≠ none
section
variable {ι κ β γ : Type} {W : Wd ι} {a : Addr} {H H' H1 H2 : Hp} {E : XK} {pr pr' o o' o1 o2 : List Addr}
theorem Mv.refl (W : Wd ι) (pr o : List Addr) (H : Hp) : Mv W pr o o H H := ⟨fun _ _ e _ _ => e, id, fun _ h => h, fun _ h => .inl h, fun _ h => h, id⟩
theorem mv_keepo (x : Mv W pr o o1 H H1) {b : Addr} {u : HO} (e : H b = some u) (h : b ∉ o ∨ b ∈ pr) : b ∉ o1 ∨ b ∈ pr := by
  rcases h with h | h
  · by_cases c : b ∈ o1
    · rcases x.sub b c with z | z
      · exact absurd z h
      · rw [e] at z; cases z
    · exact .inl c
  · exact .inr h
theorem mv_sub (x : Mv W pr o o1 H H1) {b : Addr} (h : b ∈ o1 ∨ H1 b = none) : b ∈ o ∨ H b = none := by
  rcases h with h | h
  · exact x.sub b h
  · exact .inr (x.nn b h)
theorem Mv.trans (x : Mv W pr o o1 H H1) (y : Mv W pr o1 o2 H1 H2) : Mv W pr o o2 H H2 :=
  ⟨fun b u e h nt => y.ext b u (x.ext b u e h nt) (mv_keepo x e h) nt, fun t => y.tab (x.tab t), fun b h => x.nn b (y.nn b h), fun b hb => mv_sub x (y.sub b hb), fun b hb => y.sup b (x.sup b hb), fun h => y.on (x.on h)⟩
theorem Mv.same (s : Same H H') : Mv W pr o o H H' := ⟨fun b u e _ _ => s b u e, fun t => t.ext s, fun b e => same_nn s e, fun _ h => .inl h, fun _ h => h, fun h b hb z => h b hb (same_nn s z)⟩
theorem Pt.mv {ys : List V} (x : Mv W pr o o1 H H1) (y : Pt W a ys pr o1 o2 H1 H2) : Pt W a ys pr o o2 H H2 :=
  ⟨y.at_, fun b u e n h nt => y.old b u (x.ext b u e h nt) n (mv_keepo x e h) nt, fun t => y.tab (x.tab t), fun b h => x.nn b (y.nn b h), fun b hb => mv_sub x (y.sub b hb), fun b hb => y.sup b (x.sup b hb), fun h => y.on (x.on h)⟩
theorem Mv.less (h : ∀ b ∈ pr, b ∈ pr') (x : Mv W pr' o o' H H') : Mv W pr o o' H H' := ⟨fun b u e c nt => x.ext b u e (c.imp_right (h b)) nt, x.tab, x.nn, x.sub, x.sup, x.on⟩
theorem Pt.less {ys : List V} (h : ∀ b ∈ pr, b ∈ pr') (x : Pt W a ys pr' o o' H H') : Pt W a ys pr o o' H H' := ⟨x.at_, fun b u e n c nt => x.old b u e n (c.imp_right (h b)) nt, x.tab, x.nn, x.sub, x.sup, x.on⟩
/-- the tree is kept at H; o: the program's own objects, pr: those of them that stay as they are -/
def Wp (W : Wd ι) (a : Addr) (E : XK) (pr : List Addr) : Ak ι β → List Addr → Hp → (β → List Addr → Hp → Prop) → Prop
  | .ret b, o, H, Q => ∀ o' H', Mv W pr o o' H H' → Q b o' H'
  | .ask q k, o, H, Q => ∀ o' H', Mv W pr o o' H H' → W.Do q H' (fun v H2 => ∃ b, v = .bl b ∧ Frm W H' H2 ∧ Wp W a E pr (k b) o' H2 Q) E
  | .put ys k, o, H, Q => ∀ o' H', Pt W a ys pr o o' H H' → Wp W a E pr k o' H' Q
theorem Wp.mv {Q : β → List Addr → Hp → Prop} (m : Mv W pr o o' H H') : ∀ {t : Ak ι β}, Wp W a E pr t o H Q → Wp W a E pr t o' H' Q
  | .ret b, h => fun o2 H2 n => h o2 H2 (m.trans n)
  | .ask q k, h => fun o2 H2 n => h o2 H2 (m.trans n)
  | .put ys k, h => fun o2 H2 n => h o2 H2 (n.mv m)
theorem Wp.imp {Q Q' : β → List Addr → Hp → Prop} (m : ∀ b o H, Q b o H → Q' b o H) : ∀ {t : Ak ι β} {o : List Addr} {H : Hp}, Wp W a E pr t o H Q → Wp W a E pr t o H Q'
  | .ret b, _, _, h => fun o2 H2 n => m _ _ _ (h o2 H2 n)
  | .ask q k, _, _, h => fun o2 H2 n => W.mono _ _ _ _ _ _ (fun v H3 ⟨b, e, f, w⟩ => ⟨b, e, f, Wp.imp m w⟩) (fun _ _ _ z => z) (h o2 H2 n)
  | .put ys k, _, _, h => fun o2 H2 n => Wp.imp m (h o2 H2 n)
/-- more stays as it is -/
theorem Wp.prot {Q : β → List Addr → Hp → Prop} (le : ∀ b ∈ pr, b ∈ pr') : ∀ {t : Ak ι β} {o : List Addr} {H : Hp}, Wp W a E pr t o H Q → Wp W a E pr' t o H Q
  | .ret b, _, _, h => fun o2 H2 n => h o2 H2 (n.less le)
  | .ask q k, _, _, h => fun o2 H2 n => W.mono _ _ _ _ _ _ (fun v H3 ⟨b, e, f, w⟩ => ⟨b, e, f, Wp.prot le w⟩) (fun _ _ _ z => z) (h o2 H2 (n.less le))
  | .put ys k, _, _, h => fun o2 H2 n => Wp.prot le (h o2 H2 (n.less le))
theorem Wp.bind {Q : γ → List Addr → Hp → Prop} {g : β → Ak ι γ} : ∀ {t : Ak ι β} {o : List Addr} {H : Hp}, Wp W a E pr (t.bind g) o H Q → Wp W a E pr t o H (fun b o' H' => Wp W a E pr (g b) o' H' Q)
  | .ret b, _, _, h => fun o2 H2 n => Wp.mv n h
  | .ask q k, _, _, h => fun o2 H2 n => W.mono _ _ _ _ _ _ (fun v H3 ⟨b, e, f, w⟩ => ⟨b, e, f, Wp.bind w⟩) (fun _ _ _ z => z) (h o2 H2 n)
  | .put ys k, _, _, h => fun o2 H2 n => Wp.bind (h o2 H2 n)
end
/-! ### a tree run by answers -/
section
variable {ι β γ : Type}
/-- what is told, how the row stands at last, what was asked and how the row stood -/
def Ak.run (tl : Nat → ι → Bool) : Ak ι β → Nat → List V → β × List V × List (ι × List V)
  | .ret b, _, xs => (b, xs, [])
  | .ask q k, n, xs => (((k (tl n q)).run tl (n + 1) xs).1, ((k (tl n q)).run tl (n + 1) xs).2.1, (q, xs) :: ((k (tl n q)).run tl (n + 1) xs).2.2)
  | .put ys k, n, _ => k.run tl n ys
theorem run_bind (tl : Nat → ι → Bool) (g : β → Ak ι γ) : ∀ (t : Ak ι β) (n : Nat) (xs : List V),
    (t.bind g).run tl n xs = (((g (t.run tl n xs).1).run tl (n + (t.run tl n xs).2.2.length) (t.run tl n xs).2.1).1, ((g (t.run tl n xs).1).run tl (n + (t.run tl n xs).2.2.length) (t.run tl n xs).2.1).2.1,
      (t.run tl n xs).2.2 ++ ((g (t.run tl n xs).1).run tl (n + (t.run tl n xs).2.2.length) (t.run tl n xs).2.1).2.2)
  | .ret b, n, xs => by simp [Ak.bind, Ak.run]
  | .ask q k, n, xs => by
    have e := run_bind tl g (k (tl n q)) (n + 1) xs
    simp only [Ak.bind, Ak.run, e, List.length_cons, List.cons_append]
    rw [show n + 1 + ((k (tl n q)).run tl (n + 1) xs).2.2.length = n + (((k (tl n q)).run tl (n + 1) xs).2.2.length + 1) by omega]
  | .put ys k, n, xs => run_bind tl g k n ys
/-- kept by an invariant over so many askings -/
theorem Wp.of_run {W : Wd ι} {a : Addr} {E : XK} {pr : List Addr} (tl : Nat → ι → Bool) (I : List Addr → Nat → Hp → Prop) {Q : β → List Addr → Hp → Prop} (im : ∀ o o' n H H', I o n H → Mv W pr o o' H H' → I o' n H') (ip : ∀ o o' n ys H H', I o n H → Pt W a ys pr o o' H H' → I o' n H') (ia : a ∉ W.MM) (io : ∀ o n H, I o n H → a ∉ o) :
    ∀ (t : Ak ι β) (n : Nat) (xs : List V) (o : List Addr) (H : Hp), I o n H → H a = some (.lst xs) →
      (∀ i q ys o' H', (t.run tl n xs).2.2[i]? = some (q, ys) → I o' (n + i) H' → H' a = some (.lst ys) → W.Do q H' (fun v H2 => v = .bl (tl (n + i) q) ∧ Frm W H' H2 ∧ I o' (n + i + 1) H2) E) →
      (∀ o' H', I o' (n + (t.run tl n xs).2.2.length) H' → H' a = some (.lst (t.run tl n xs).2.1) → Q (t.run tl n xs).1 o' H') → Wp W a E pr t o H Q
  | .ret b, n, xs, o, H, i0, ha, _, hq => fun o' H' m => hq o' H' (im _ _ _ _ _ i0 m) (m.ext _ _ ha (.inl (io _ _ _ i0)) (fun _ z => by cases z))
  | .ask q k, n, xs, o, H, i0, ha, hs, hq => fun o' H' m => by
    have ha' := m.ext _ _ ha (.inl (io _ _ _ i0)) (fun _ z => by cases z)
    refine W.mono _ _ _ _ _ _ (fun v H2 ⟨e, f, i2⟩ => ⟨tl n q, e, f, ?_⟩) (fun _ _ _ z => z) (hs 0 q xs o' H' rfl (im _ _ _ _ _ i0 m) ha')
    have ha2 := f.old _ _ ha' ia (fun _ z => by cases z)
    refine Wp.of_run tl I im ip ia io (k (tl n q)) (n + 1) xs o' H2 i2 ha2 (fun i q' ys o3 H3 e3 i3 h3 => ?_) fun o3 H3 i3 h3 => ?_
    · have z := hs (i + 1) q' ys o3 H3 (by simpa [Ak.run] using e3) (by rw [show n + (i + 1) = n + 1 + i by omega]; exact i3) h3
      rw [show n + (i + 1) = n + 1 + i by omega] at z
      exact z
    · refine hq o3 H3 ?_ h3
      simp only [Ak.run, List.length_cons]
      rw [show n + (((k (tl n q)).run tl (n + 1) xs).2.2.length + 1) = n + 1 + ((k (tl n q)).run tl (n + 1) xs).2.2.length by omega]
      exact i3
  | .put ys k, n, xs, o, H, i0, ha, hs, hq => fun o' H' p => Wp.of_run tl I im ip ia io k n ys o' H' (ip _ _ _ _ _ _ i0 p) p.at_ hs hq
/-- the very askings are those of another run, as long as the answers are alike -/
theorem run_pre (tl tl' : Nat → ι → Bool) : ∀ (t : Ak ι β) (n : Nat) (xs : List V) (m : Nat), (∀ i q ys, i < m → (t.run tl n xs).2.2[i]? = some (q, ys) → tl (n + i) q = tl' (n + i) q) → (t.run tl n xs).2.2.take (m + 1) = (t.run tl' n xs).2.2.take (m + 1)
  | .ret b, n, xs, m, _ => rfl
  | .ask q k, n, xs, m, h => by
    simp only [Ak.run, List.take_succ_cons]
    congr 1
    cases m with
    | zero => rfl
    | succ m =>
      have e := h 0 q xs (Nat.succ_pos _) rfl
      rw [Nat.add_zero] at e
      rw [← e]
      exact run_pre tl tl' (k (tl n q)) (n + 1) xs m fun i q' ys hi e' => by
        have z := h (i + 1) q' ys (by omega) (by simpa [Ak.run] using e')
        rw [show n + (i + 1) = n + 1 + i by omega] at z
        exact z
  | .put ys k, n, xs, m, h => run_pre tl tl' k n ys m h
end
end Xk

/-! Xk2: a lambda with parameters handed down: the running frame's cells are heap objects while the callee runs -/
namespace Xk
open PySem PySem.Spec PySem.Calls PyProof.Rows L2 Rs LamX NdefX Xf Xh
/-- a cell of a running frame, while a callee runs: its very object -/
def CellZ (c : Addr) (o : Obj) (v : V) : HO := .frz o (.ext fun h => ∃ u, RelV v u ∧ h.IsCell c (some u))
theorem cellZ_ok {P : Program} {w : World} {H : Hp} {h : Heap} {c : Addr} {o : Obj} {v : V} {u : Value} (r : RelV v u) (e : h.get? c = some o) (k : h.IsCell c (some u)) : ObjOk P w H h c (CellZ c o v) :=
  ⟨e, ⟨u, r, k⟩, ⟨o, e⟩, fun h1 h2 ⟨u, r, o, ho, hd⟩ k => ⟨u, r, o, k o ho, hd⟩⟩
theorem cellZ_at {P : Program} {w : World} {H : Hp} {h : Heap} {c : Addr} {o : Obj} {v : V} (hok : HOk P w H h) (e : H c = some (CellZ c o v)) : h.get? c = some o ∧ ∃ u, RelV v u ∧ h.IsCell c (some u) := by
  obtain ⟨e1, z, _, _⟩ := hok c _ e
  exact ⟨e1, z⟩
def unhideZ (oz : Addr → Obj) (cs : CL) (H : Hp) : Hp := fun b => match cs.lookup b with
  | some v => some (CellZ b (oz b) v)
  | none => H b
def TrkZ (oz : Addr → Obj) (cs : CL) (H : Hp) : Prop := ∀ b v, cs.lookup b = some v → H b = some (CellZ b (oz b) v)
section
variable {cs : CL} {oz : Addr → Obj} {H H' : Hp} {b : Addr} {v : V} {o : HO}
theorem unhideZ_in (h : cs.lookup b = some v) : unhideZ oz cs H b = some (CellZ b (oz b) v) := by unfold unhideZ; rw [h]
theorem unhideZ_out (h : cs.lookup b = none) : unhideZ oz cs H b = H b := by unfold unhideZ; rw [h]
theorem unhideZ_trk : TrkZ oz cs (unhideZ oz cs H) := fun b v e => unhideZ_in e
theorem TrkZ.out (t : TrkZ oz cs H) (h : H b = some o) (n : ∀ ob u, o ≠ .frz ob u) : cs.lookup b = none := by
  cases e : cs.lookup b with
  | none => rfl
  | some v =>
    rw [t b v e] at h
    exact absurd (Option.some.inj h).symm (n _ _)
theorem TrkZ.none (t : TrkZ oz cs H) (h : H b = none) : cs.lookup b = none := by
  cases e : cs.lookup b with
  | none => rfl
  | some v => rw [t b v e] at h; cases h
theorem hide_unhideZ (fr : Free cs H) : hide cs (unhideZ oz cs H) = H := by
  funext b
  cases e : cs.lookup b with
  | none => rw [hide_out e, unhideZ_out e]
  | some v => rw [hide_in e, fr b v e]
theorem unhideZ_keep (fr : Free cs H) (e : H b = some o) : unhideZ oz cs H b = some o := by
  rw [unhideZ_out]
  · exact e
  · cases z : cs.lookup b with
    | none => rfl
    | some v => rw [fr b v z] at e; cases e
theorem hideZ_hok {P : Program} {w : World} {h : Heap} (t : TrkZ oz cs H) (x : HOk P w H h) : HOk P w (hide cs H) h := fun a o e => by
  obtain ⟨_, e2⟩ := hide_some e
  refine (x a o e2).stay (fun b u _ q => q) (fun b q => ?_) fun b xs q => ?_
  · rw [hide_out (t.out q fun _ _ z => by cases z)]; exact q
  · rw [hide_out (t.out q fun _ _ z => by cases z)]; exact q
theorem unhideZ_hok {P : Program} {w : World} {h : Heap} (n : ∀ b v, cs.lookup b = some v → H b = Option.none) (c : ∀ b v, cs.lookup b = some v → h.get? b = some (oz b) ∧ ∃ u, RelV v u ∧ h.IsCell b (some u)) (x : HOk P w H h) : HOk P w (unhideZ oz cs H) h := fun a o e => by
  cases hl : cs.lookup a with
  | some v =>
    rw [unhideZ_in hl] at e
    cases e
    obtain ⟨e1, u, r, q⟩ := c a v hl
    exact cellZ_ok r e1 q
  | none =>
    rw [unhideZ_out hl] at e
    have out : ∀ {b : Addr} {u : HO}, H b = some u → cs.lookup b = none := fun {b u} q => by
      cases z : cs.lookup b with
      | none => rfl
      | some v => rw [n b v z] at q; cases q
    exact (x a o e).stay (fun b u _ q => q) (fun b q => by rw [unhideZ_out (out q)]; exact q) fun b xs q => by rw [unhideZ_out (out q)]; exact q
theorem unhideZ_un {fs : List Addr} {h h' : Heap} (t : TrkZ oz cs H) (u : Un fs [] (hide cs H) H' h h') : Un fs [] H (unhideZ oz cs H') h h' where
  keep := fun b o q n => u.keep b o q (hide_none n)
  slot := fun b o q n => u.slot b o q (hide_none n)
  free := fun b o q n x => by rw [unhideZ_out (t.none n)]; exact u.free b o q (hide_none n) x
  there := u.there
  tups := fun b xs q => by
    have l := t.out q fun _ _ z => by cases z
    rw [unhideZ_out l]
    exact u.tups b xs (by rw [hide_out l]; exact q)
  frzs := fun b o xs q => by
    cases l : cs.lookup b with
    | none =>
      rw [unhideZ_out l]
      exact u.frzs b o xs (by rw [hide_out l]; exact q)
    | some v => rw [unhideZ_in l, ← t b v l]; exact q
  tbls := fun b ps q => by
    have l := t.out q fun _ _ z => by cases z
    obtain ⟨m, z⟩ := u.tbls b ps (by rw [hide_out l]; exact q)
    exact ⟨m, by rw [unhideZ_out l]; exact z⟩
theorem unhideZ_ub {fs : List Addr} {h B h' : Heap} (t : TrkZ oz cs H) (u : UB fs (hide cs H) H' h B h') : UB fs H (unhideZ oz cs H') h B h' where
  keep := fun b o q n => u.keep b o q (hide_none n)
  slot := u.slot
  free := fun b o q n => by rw [unhideZ_out (t.none n)]; exact u.free b o q (hide_none n)
  there := u.there
  tups := fun b xs q => by
    have l := t.out q fun _ _ z => by cases z
    rw [unhideZ_out l]
    exact u.tups b xs (by rw [hide_out l]; exact q)
  frzs := fun b o xs q => by
    cases l : cs.lookup b with
    | none =>
      rw [unhideZ_out l]
      exact u.frzs b o xs (by rw [hide_out l]; exact q)
    | some v => rw [unhideZ_in l, ← t b v l]; exact q
  tbls := fun b ps q => by
    have l := t.out q fun _ _ z => by cases z
    obtain ⟨m, z⟩ := u.tbls b ps (by rw [hide_out l]; exact q)
    exact ⟨m, by rw [unhideZ_out l]; exact z⟩
end
/-- a wish, of the heap without the cells -/
def Qz (oz : Addr → Obj) (cs : CL) (Q : VK) : VK := fun v H' => Free cs H' → Q v (unhideZ oz cs H')
def Ez (oz : Addr → Obj) (cs : CL) (E : XK) : XK := fun c d H' => Free cs H' → E c d (unhideZ oz cs H')
section
variable {P : Program} {w : World} {outer : List Env} {cs : CL} {oz : Addr → Obj} {H : Hp} {s s' : Shared} {Q : VK} {E : XK} {u : Value}
theorem cellsZ_kept {fs : List Addr} {h B : Heap} (t : TrkZ oz cs H) (hok : HOk P w H h) (hf : ∀ b ∈ fs, H b = none) (k : ∀ b o, h.get? b = some o → hide cs H b = none → b ∉ fs → B.get? b = some o) : ∀ b v, cs.lookup b = some v → B.get? b = some (oz b) ∧ ∃ u, RelV v u ∧ B.IsCell b (some u) := fun b v e => by
  obtain ⟨e1, u, r, o, ho, hd⟩ := cellZ_at hok (t b v e)
  have nf : b ∉ fs := fun z => by have := hf b z; rw [t b v e] at this; cases this
  exact ⟨k b _ e1 (hide_in e) nf, u, r, o, k b o ho (hide_in e) nf, hd⟩
theorem ce_unhideZ (t : TrkZ oz cs H) (hok : HOk P w H s.heap) (hf : ∀ b ∈ frs outer, H b = none) (h : CE outer P w (hide cs H) s (Qz oz cs Q) u s') : CE outer P w H s Q u s' := by
  obtain ⟨v, H', e1, e2, un, hok', r, q⟩ := h
  have ck := cellsZ_kept (P := P) (w := w) t hok hf (fun b o q n nf => un.keep b o q n nf (by simp))
  have fr : Free cs H' := fun b v e => by
    obtain ⟨e1, _⟩ := cellZ_at hok (t b v e)
    exact un.free b _ e1 (hide_in e) (by simp)
  exact ⟨v, unhideZ oz cs H', e1, e2, unhideZ_un t un, unhideZ_hok fr ck hok', r, q fr⟩
theorem cx_unhideZ (t : TrkZ oz cs H) (hok : HOk P w H s.heap) (hf : ∀ b ∈ frs outer, H b = none) (h : L2.CX P w outer (hide cs H) s (Ez oz cs E) u s') : L2.CX P w outer H s E u s' := by
  obtain ⟨a, B, H', cls, d, e0, fl, hok', ub, na, e1, e2, q⟩ := h
  have ck := cellsZ_kept (P := P) (w := w) t hok hf (fun b o q n nf => ub.keep b o q n nf)
  have fr : Free cs H' := fun b v e => by
    obtain ⟨e1, _⟩ := cellZ_at hok (t b v e)
    exact ub.free b _ e1 (hide_in e)
  refine ⟨a, B, unhideZ oz cs H', cls, d, e0, fl, unhideZ_hok fr ck hok', unhideZ_ub t ub, ?_, e1, e2, q fr⟩
  cases hl : cs.lookup a with
  | none => rw [unhideZ_out hl]; exact na
  | some v =>
    obtain ⟨ho, _⟩ := ck a v hl
    have z := fl.2.1
    rw [ho] at z; cases z
end
section
variable {P : Program} {w : World} {K : PySem.W.Frag} {mg : Str → Option Value} {base : Heap} {N ps fr : List Str} {F : LF} {f : Addr} {k j : Nat} {H : Hp} {vs : List V} {Q Q' : VK} {E : XK} {cs : CL} {oz : Addr → Obj}
theorem env_hideZ {A : Around} {outer : List Env} {s : Shared} (t : TrkZ oz cs H) (e : Env0 P w K mg base A outer s H) : Env0 P w K mg base A outer s (hide cs H) :=
  ⟨e.frames, e.mod, fun b o q => ⟨(e.bs b o q).1, hide_none (e.bs b o q).2⟩, e.bsz, e.funs, fun b q => hide_none (e.frf b q), hideZ_hok t e.hok, e.bare⟩
theorem cells_hideZ {F : NF} {h : Heap} {ws : List (Option V)} (t : TrkZ oz cs H) (hok : HOk P w H h) (c : ClAt F.cl fr ws cs) : CellsAt F.cl fr ws h (hide cs H) := by
  refine ⟨c.len, fun y a e => ?_, c.inj, fun i y e => ?_⟩
  · obtain ⟨v, q⟩ := c.all y a e
    obtain ⟨_, u, _, z⟩ := cellZ_at hok (t a v q)
    exact ⟨hide_in q, _, z⟩
  · obtain ⟨a, e1, e2⟩ := c.has i y e
    refine ⟨a, e1, fun v ev => ?_⟩
    obtain ⟨_, u, r, z⟩ := cellZ_at hok (t a v (e2 v ev))
    exact ⟨u, r, z⟩
/-- a lambda that captured names of a frame that still runs -/
theorem calls_lamZ {ws : List (Option V)} {t : TE} (S : NScope N ps fr F.scope) (hb : ∀ (pm ctv : Value) (us : List Value), us.length = ps.length → bindArgs (F.fd pm ctv) ⟨us, []⟩ = pure (ps.zip us)) (hl : vs.length = ps.length)
    (tr : TrkZ oz cs H) (c : ClAt F.cl fr ws cs) (hf : H f = some (LamO f F)) (hc : H F.c = some (CodeO F.c F.qual))
    (hbody : ∀ (A : Around) (outer : List Env) (s : Shared), Room k (A.deeper (envF F.nf f s.heap.objs.size)) → PE (ncx (L2.CX P w) P w K mg base N F.nf f A outer s (hide cs H) (Ez oz cs E)) F.body t) (hq : t (startF N vs ws) (hide cs H) (Qz oz cs Q)) :
    CallsTo P w K mg base (L2.CX P w) (k + 1) f H vs Q E := by
  refine fun A outer s us hr e0 r => ?_
  have e1 := env_hideZ tr e0
  have unlim : s.heap.NoLimit := e0.mod.nolimit.keeps fun x y z => (e0.bs x y z).1
  obtain ⟨pm, ctv, ho⟩ := lamO_at e0.hok hf
  refine ⟨⟨_, _, _, _, ho⟩, ?_⟩
  refine PySem.W.kla_callFunE hr.depth ho rfl S.co S.gen rfl (codeO_at e0.hok hc) ?_
  rw [hb pm ctv us (by rw [← r.length]; exact hl)]
  refine wpAny_pure (wpAny_newFunctionEnv S.nocell (fun y hy => S.par y.1 (List.of_mem_zip hy).1) (fun hn frm grown => ⟨unlim.fresh _ grown, ?_⟩) S.kind)
  show codeAny _ _ (.expr F.body (envF F.nf f s.heap.objs.size)) _ _
  have still : ∀ x y, s.heap.get? x = some y → hn.get? x = some y := fun x y z => grown.extBut x y (Nat.ne_of_lt (Heap.lt_size z)) (Heap.get?_push_of_some _ z)
  have C : CellsAt F.nf.cl fr ws s.heap (hide cs H) := cells_hideZ (F := F.nf) tr e0.hok c
  have I : Inv (ncx (L2.CX P w) P w K mg base N F.nf f A outer s (hide cs H) (Ez oz cs E)) [] (startF N vs ws) (hide cs H) { s with heap := hn, toks := s.toks + (ps.zip us).length } := inv_startN S hr.hd e1 hl r C frm still
  refine PySem.W.kla_codeExpr (wpAny_mono ((hbody A outer s (hr.deeper _)).run [] _ (startF N vs ws) (hide cs H) (Qz oz cs Q) I hq) (fun v s' hq => ?_) fun e s' hq => ?_)
  · obtain ⟨w', H', J, rv, q⟩ := hq
    exact ce_unhideZ tr e0.hok e0.frf ⟨w', H', J.os, J.bare, J.base, J.hok, rv, q⟩
  · refine wpAny_mono hq (fun _ s2 z => ?_) fun e2 s2 z => ?_
    · exact cx_unhideZ tr e0.hok e0.frf z
    · exact cx_unhideZ tr e0.hok e0.frf z
end
section
variable {X : Cx} {pins : List (Addr × Obj)} {σ : L2.St} {H H' : Hp} {s s' : Shared} {cs : CL} {oz : Addr → Obj} {h' : Heap}
theorem callC_free (I : Inv X pins σ H s) (cv : Cov X.N X.env.cells σ cs) : Free cs H := fun b v e => by
  obtain ⟨y, j, h1, _⟩ := cv.own b v e
  exact I.freeC y b h1
/-- behind a call that saw the cells -/
theorem _root_.L2.Inv.callC {g' : Array GenState} {t' : Nat} {d' : Drawn} (I : Inv X pins σ H s) (fnA : ∀ y, X.fn y = true) (cv : Cov X.N X.env.cells σ cs) (all : ∀ (y : Str) (c : Addr), X.env.cells.lookup y = some c → ∃ (j : Nat) (v : V), X.N[j]? = some y ∧ σ[j]? = some (some v))
    (u : Un (frs X.stack) [] (unhideZ oz cs H) H' s.heap h') (hok : HOk X.prog X.w H' h') (tr : TrkZ oz cs H') (hg : AllBare g') : Inv X pins σ (hide cs H') { s with heap := h', gens := g', drawn := d', toks := t' } := by
  have fr := callC_free I cv
  have un : ∀ {b : Addr}, H b = Option.none → cs.lookup b = Option.none → unhideZ oz cs H b = Option.none := fun {b} n l => by rw [unhideZ_out l]; exact n
  have lo : ∀ b o, X.s_0.heap.get? b = some o → cs.lookup b = Option.none := fun b o e => by
    cases z : cs.lookup b with
    | none => rfl
    | some v =>
      obtain ⟨y, j, h1, _⟩ := cv.own b v z
      have := I.ok.cab y b (fnA y) h1
      exact absurd (Nat.lt_of_lt_of_le (Heap.lt_size e) this) (Nat.lt_irrefl _)
  have nst : ∀ b o, X.s_0.heap.get? b = some o → b ∉ X.fs → b ∉ frs X.stack := fun b o e nb hm => by
    rcases List.mem_cons.mp (I.stkSub b hm) with z | z
    · rw [z] at e
      exact absurd (Nat.lt_of_lt_of_le (Heap.lt_size e) I.ok.above) (Nat.lt_irrefl _)
    · exact nb z
  have some_lo : ∀ {b : Addr} {o : HO}, H b = some o → cs.lookup b = Option.none := fun {b o} e => by
    cases z : cs.lookup b with
    | none => rfl
    | some v => rw [fr b v z] at e; cases e
  have lloc : cs.lookup X.env.locals = Option.none := by
    cases z : cs.lookup X.env.locals with
    | none => rfl
    | some v =>
      obtain ⟨y, j, h1, _⟩ := cv.own _ v z
      exact absurd rfl (I.cne y _ h1)
  have cellK : ∀ (y : Str) (c : Addr), X.env.cells.lookup y = some c → ∃ (j : Nat) (v : V), X.N[j]? = some y ∧ σ[j]? = some (some v) ∧ cs.lookup c = some v ∧ ∃ u, RelV v u ∧ h'.IsCell c (some u) := fun y c e => by
    obtain ⟨j, v, h1, h2⟩ := all y c e
    have h3 := cv.has y c j v e h1 h2
    exact ⟨j, v, h1, h2, h3, (cellZ_at hok (tr c v h3)).2⟩
  refine ⟨I.ok, I.os, hg, ⟨fun b o e n hb hx => ?_, fun b o e n hb hx => ?_, fun b o e n hx => ?_, fun b o e hx => ?_, fun b xs e => ?_, fun b o xs e => ?_, fun b ps e => ?_⟩, ?_, fun y c e => ?_, ?_, fun y c e => ?_, fun p hp => ?_, hideZ_hok tr hok, I.len⟩
  · exact u.keep b o (I.base.keep b o e n hb hx) (un (I.base.free b o e n hx) (lo b o e)) (nst b o e hb) (by simp)
  · obtain ⟨sl, e1⟩ := I.base.slot b o e n hb hx
    obtain ⟨sl2, e2⟩ := u.any e1 (un (I.base.free b o e n hx) (lo b o e)) (by simp)
    exact ⟨sl2, e2⟩
  · obtain ⟨o', e1⟩ := I.base.there b o e hx
    exact hide_none (u.free b o' e1 (un (I.base.free b o e n hx) (lo b o e)) (by simp))
  · obtain ⟨o', e1⟩ := I.base.there b o e hx
    exact u.there b o' e1 (by simp)
  · have e1 := I.base.tups b xs e
    have l := some_lo e1
    rw [hide_out l]
    exact u.tups b xs (by rw [unhideZ_out l]; exact e1)
  · have e1 := I.base.frzs b o xs e
    have l := some_lo e1
    rw [hide_out l]
    exact u.frzs b o xs (by rw [unhideZ_out l]; exact e1)
  · obtain ⟨m1, e1⟩ := I.base.tbls b ps e
    have l := some_lo e1
    obtain ⟨m2, e2⟩ := u.tbls b (ps ++ m1) (by rw [unhideZ_out l]; exact e1)
    exact ⟨m1 ++ m2, by rw [hide_out l, e2, Array.append_assoc]⟩
  · obtain ⟨m, ⟨o, es, ep, ho, r⟩, hl⟩ := I.loc
    obtain ⟨sl, hL⟩ := u.any ho (un I.free lloc) (by simp)
    refine ⟨m, ⟨_, es, ep, hL, r⟩, fun i x v e1 e2 e3 => ?_⟩
    obtain ⟨w, rw_, l⟩ := hl i x v e1 e2 e3
    rcases l with l | ⟨k, c, e, z⟩
    · exact ⟨w, rw_, .inl l⟩
    · have h3 := cv.has x c i v e e1 e2
      obtain ⟨w2, r2, z2⟩ := (cellZ_at hok (tr c v h3)).2
      exact ⟨w2, r2, .inr ⟨k, c, e, z2⟩⟩
  · obtain ⟨j, v, _, _, _, w, _, z⟩ := cellK y c e
    exact ⟨_, z⟩
  · obtain ⟨m, ⟨o, _, _, ho, _⟩, _⟩ := I.loc
    exact hide_none (u.free _ o ho (un I.free lloc) (by simp))
  · obtain ⟨j, v, _, _, h3, _⟩ := cellK y c e
    exact hide_in h3
  · obtain ⟨e, n, ne, nf, d⟩ := I.pin p hp
    have l : cs.lookup p.1 = Option.none := by
      cases z : cs.lookup p.1 with
      | none => rfl
      | some v =>
        obtain ⟨y, j, h1, _⟩ := cv.own _ v z
        obtain ⟨w, o, ho, hd⟩ := I.cell y _ h1
        rw [e] at ho
        cases ho
        exact absurd hd (d w)
    have ns : p.1 ∉ frs X.stack := fun z => by
      rcases List.mem_cons.mp (I.stkSub _ z) with q | q
      · exact ne q
      · exact nf q
    exact ⟨u.keep _ _ e (un n l) ns (by simp), hide_none (u.free _ _ e (un n l) (by simp)), ne, nf, d⟩
/-- what is wished for at the heap with the cells -/
def Qc (cs : CL) (Q : VK) : VK := fun v H' => Q v (hide cs H')
def Ec (cs : CL) (E : XK) : XK := fun c d H' => E c d (hide cs H')
theorem after_c {Q : VK} {u : Value} (I : Inv X pins σ H s) (fnA : ∀ y, X.fn y = true) (cv : Cov X.N X.env.cells σ cs) (all : ∀ (y : Str) (c : Addr), X.env.cells.lookup y = some c → ∃ (j : Nat) (v : V), X.N[j]? = some y ∧ σ[j]? = some (some v))
    (h : CE X.stack X.prog X.w (unhideZ oz cs H) s (Qc cs Q) u s') : EP X pins σ Q u s' := by
  obtain ⟨v, H', os, bare, un, hok, r, q⟩ := h
  have tr : TrkZ oz cs H' := fun b v e => un.frzs b _ _ (unhideZ_in e)
  obtain ⟨hh, g, d, t, os'⟩ := s'
  obtain rfl : os' = s.os := os
  exact ⟨v, hide cs H', I.callC (h' := hh) (g' := g) (d' := d) (t' := t) fnA cv all un hok tr bare, r, q⟩
theorem _root_.L2.XE.of_callC {W : WX} {E : XK} (I : Inv X pins σ H s) (fnA : ∀ y, X.fn y = true) (cv : Cov X.N X.env.cells σ cs) (all : ∀ (y : Str) (c : Addr), X.env.cells.lookup y = some c → ∃ (j : Nat) (v : V), X.N[j]? = some y ∧ σ[j]? = some (some v))
    (hW : ∀ cls d H', E cls d H' → W cls d σ H') {u : Value} (c : L2.CX X.prog X.w X.stack (unhideZ oz cs H) s (Ec cs E) u s') : XE X W u s' := by
  obtain ⟨a, B, H', cls, d, rfl, fl, hok, ub, na, os, ag, hE⟩ := c
  have tr : TrkZ oz cs H' := fun b v e => ub.frzs b _ _ (unhideZ_in e)
  obtain ⟨G, g1, g2⟩ := restrict s'.heap fun b => (B.get? b).isSome || decide (b ∈ frs X.stack)
  have st : B.StaysIn s'.heap := fl.1
  have gB : ∀ b o, B.get? b = some o → G.get? b = some o := fun b o e => by
    rw [g1 b (by simp [e])]
    exact st b o e
  have gF : ∀ b, b ∈ frs X.stack → G.get? b = s'.heap.get? b := fun b hb => g1 b (by simp [hb])
  have og : ∀ b o, G.get? b = some o → s'.heap.get? b = some o ∧ ((B.get? b).isSome = true ∨ b ∈ frs X.stack) := fun b o e => by
    cases q : ((B.get? b).isSome || decide (b ∈ frs X.stack)) with
    | false => rw [g2 b q] at e; cases e
    | true =>
      rw [g1 b q] at e
      exact ⟨e, by simpa [Bool.or_eq_true] using q⟩
  refine ⟨a, B, { s with heap := G, gens := s'.gens, drawn := s'.drawn, toks := s'.toks }, pins, σ, hide cs H', cls, d, rfl, ?_, fun b o e hb => ?_, Heap.UpToSlots.of_keeps fun b o e => (og b o e).1, .inr (.inl fl), hide_none na, os, ag, hW _ _ _ hE⟩
  · refine I.callC fnA cv all ⟨fun b o e n hb _ => gB b o (ub.keep b o e n hb), fun b o e n hb _ => ?_, fun b o e n _ => ub.free b o e n, fun b o e _ => ?_, ub.tups, ub.frzs, ub.tbls⟩ (hok.kept gB) tr ag
    · obtain ⟨sl, q⟩ := ub.slot b o e hb
      exact ⟨sl, by rw [gF b hb]; exact q⟩
    · by_cases hb : b ∈ frs X.stack
      · obtain ⟨sl, q⟩ := ub.slot b o e hb
        exact ⟨_, by rw [gF b hb]; exact q⟩
      · obtain ⟨o', q⟩ := ub.there b o e hb
        exact ⟨o', gB b o' q⟩
  · obtain ⟨e', h⟩ := og b o e
    rcases h with h | h
    · obtain ⟨o', q⟩ := Option.isSome_iff_exists.mp h
      have z := st b o' q
      rw [e'] at z; cases z
      exact q
    · exact absurd h hb
theorem env_unhide {P : Program} {w : World} {K : PySem.W.Frag} {mg : Str → Option Value} {base : Heap} {A : Around} {outer : List Env} (e : Env0 P w K mg base A outer s H) (fr : Free cs H) (nb : ∀ b o, base.get? b = some o → cs.lookup b = Option.none) (nf : ∀ b ∈ frs outer, cs.lookup b = Option.none)
    (c : ∀ b v, cs.lookup b = some v → s.heap.get? b = some (oz b) ∧ ∃ u, RelV v u ∧ s.heap.IsCell b (some u)) : Env0 P w K mg base A outer s (unhideZ oz cs H) :=
  ⟨e.frames, e.mod, fun b o q => ⟨(e.bs b o q).1, by rw [unhideZ_out (nb b o q)]; exact (e.bs b o q).2⟩, e.bsz, e.funs, fun b q => by rw [unhideZ_out (nf b q)]; exact e.frf b q, unhideZ_hok fr c e.hok, e.bare⟩
/-- the state at a call, with the cells -/
theorem env0_c (I : Inv X pins σ H s) (fnA : ∀ y, X.fn y = true) (cv : Cov X.N X.env.cells σ cs) (hoz : ∀ b o, s.heap.get? b = some o → oz b = o) (vis : ∀ (y : Str) (c : Addr), X.env.cells.lookup y = some c → X.env.scope.names.lookup y = some .cell) : Env0 X.prog X.w X.K X.mg X.base X.A X.stack s (unhideZ oz cs H) := by
  refine env_unhide I.env0 (callC_free I cv) (fun b o e => ?_) (fun b hb => ?_) fun b v e => ?_
  · cases z : cs.lookup b with
    | none => rfl
    | some v =>
      obtain ⟨y, j, h1, _⟩ := cv.own b v z
      have h2 := I.ok.cab y b (fnA y) h1
      have h3 := Heap.lt_size (I.ok.bs b o e).1
      exact absurd (Nat.lt_of_lt_of_le h3 h2) (Nat.lt_irrefl _)
  · cases z : cs.lookup b with
    | none => rfl
    | some v =>
      obtain ⟨y, j, h1, _⟩ := cv.own b v z
      rcases List.mem_cons.mp (I.stkSub b hb) with q | q
      · exact absurd q (I.cne y b h1)
      · obtain ⟨_, o, ho, _⟩ := I.ok.funs.mem q
        have h2 := I.ok.cab y b (fnA y) h1
        exact absurd (Nat.lt_of_lt_of_le (Heap.lt_size ho) h2) (Nat.lt_irrefl _)
  · obtain ⟨y, j, h1, h2, h3⟩ := cv.own b v e
    obtain ⟨m, hn, hl⟩ := I.loc
    obtain ⟨u, r, l⟩ := hl j y v h2 h3 (.inr (.inl (vis y b h1)))
    rcases l with ⟨z, _⟩ | ⟨_, c', hc', hcl⟩
    · have z : X.env.scope.names.lookup y = some .local := z
      rw [vis y b h1] at z; cases z
    · rw [h1] at hc'
      cases hc'
      obtain ⟨o, ho, hd⟩ := hcl
      exact ⟨by rw [hoz _ _ ho]; exact ho, u, r, o, ho, hd⟩
end
/-! ### the call -/
/-- g(lambda ..: .., e, ..): the lambda's object, then what the callee is told of the heap with the cells -/
def tDn (X : Cx) (T : List (Addr × Str)) (mk : Addr → LF) (sp : Sp) (E : XK) (ta : TA) : TE := fun σ H Q =>
  (∀ (y : Str) (c : Addr), X.env.cells.lookup y = some c → ∃ (j : Nat) (v : V), X.N[j]? = some y ∧ σ[j]? = some (some v)) ∧ Tabs T H ∧
    ∀ (f c' : Addr) (H1 : Hp), ExtN H H1 → (∀ b, H1 b = Option.none → H b = Option.none) → Tabs T H1 → H f = none → H1 f = some (LamO f (mk c')) → H1 c' = some (CodeO c' (mk c').qual) →
      ta σ H1 fun vs H2 => ∀ (cs : CL) (oz : Addr → Obj), (∀ (x y : Str) (c : Addr), X.env.cells.lookup x = some c → X.env.cells.lookup y = some c → x = y) → Cov X.N X.env.cells σ cs → Free cs H2 → sp (.ref f :: vs) (unhideZ oz cs H2) (Qc cs Q) (Ec cs E)
section
variable {X : Cx} {k : Nat} {f : Addr} {fd : FuncData} {ps : List Str} {sp : Sp} {E : XK} {x : Str} {p pos lpos : Pos} {e : Expr} {es : List Expr} {ta : TA} {T : List (Addr × Str)} {c P : Addr} {params : Arguments} {body : Expr} {scope : Scope} {W : WX}
theorem pe_dn (F : FnOk X.prog X.w X.K X.mg X.base (L2.CX X.prog X.w) k f fd ps sp) (hr : Room k X.A) (hg : Gl X x) (hm : X.mg x = some (.ref f)) (hk : PySem.W.keepIn X.K (.ref f) = true) (hb : Binds X.K fd ps []) (tk : Takes X W) (hW : ∀ cls d σ H, E cls d H → W cls d σ H)
    (TB : TabB X.base X.mg c P) (hcode : X.env.code = .ref c) (hmT : (P, X.env.qual ++ "<lambda>") ∈ T) (hu : ∀ p ∈ T, p.1 = P → p.2 = X.env.qual ++ "<lambda>")
    (hdef : defaultsOf params X.env = ([], [])) (hfree : ∀ y ∈ scope.names, y.2 = .free → X.env.scope.names.lookup y.1 = some .cell ∨ X.env.scope.names.lookup y.1 = some .free) (fnA : ∀ y, X.fn y = true) (hnd : X.N.Nodup)
    (vis : ∀ (y : Str) (c : Addr), X.env.cells.lookup y = some c → X.env.scope.names.lookup y = some .cell)
    (ha : PA X (e :: es) ta) (hdb : (x == ("__debug__" : Str)) = false := by decide) (hst : starEach (.Lambda params body scope lpos :: e :: es) X.env = (false, eval (.Lambda params body scope lpos) X.env) :: starEach (e :: es) X.env := by rfl)
    (hst2 : starEach (e :: es) X.env = (false, eval e X.env) :: starEach es X.env := by rfl)
    (hpl : (backTo pos (starEach (e :: es) X.env)).any (·.1) = false := by rfl) :
    PE X (.Call (.Name x p) (.Lambda params body scope lpos :: e :: es) [] pos) (tDn X T (fun c' => ⟨X.env.qual ++ "<lambda>", params, body, scope, cloFrom X.env.cells scope.names [], c'⟩) sp E ta) := by
  refine ⟨fun pins s σ H Q I h => ?_⟩
  obtain ⟨all, hT, h⟩ := h
  refine wpAny_Call_Name_kw (ld_glob I hg hm ?_ hdb)
  refine PySem.W.callWith_K (h₀ := X.base) I.ok.mod.kin hk ?_ hst hpl
  show wpAny _ _ (spliced ((false, eval (.Lambda params body scope lpos) X.env) :: backTo pos (starEach (e :: es) X.env))) _ _ s
  refine Calls.spliced_cons (lamv_make I TB hcode hdef hmT hu hT (fun y hy e => (hfree y hy e).elim (fun z => I.ok.has _ (.inl z)) fun z => I.ok.has _ (.inr z)) fun fo c' H1 s1 I1 eN nn T1 f0 f1 c1 => ?_)
  have h := h fo c' H1 eN nn T1 f0 f1 c1
  refine thn (ha.run pos pins s1 σ H1 _ I1 h) fun us s2 ⟨vs, H2, I2, r, q⟩ => ⟨I2.kIn, ?_⟩
  obtain ⟨cs, cv⟩ := cov_ex hnd I2.ok.inj all
  let oz : Addr → Obj := fun b => match s2.heap.get? b with
    | some o => o
    | none => { cls := .none, data := .fields #[] }
  have hoz : ∀ b o, s2.heap.get? b = some o → oz b = o := fun b o e => by show (match s2.heap.get? b with | some o => o | none => _) = o; rw [e]
  have q := q cs oz I2.ok.inj cv (callC_free I2 cv)
  have hl : (Value.ref fo :: us).length = ps.length := by
    have z := F.len _ _ _ _ q
    simp only [List.length_cons] at z ⊢
    rw [← r.length]; exact z
  have e0 := env0_c I2 fnA cv hoz vis
  have bi := hb s2 (.ref fo :: us) I2.kIn (by rw [List.append_nil]; exact hl)
  rw [List.append_nil] at bi
  refine wpAny_call (codeAny_mono (F.run X.A X.stack s2 (unhideZ oz cs H2) ⟨.ref fo :: us, []⟩ (.ref fo :: us) (.ref fo :: vs) _ _ hr e0 bi (.cons rfl r) q) fun r s' hq => ?_)
  cases r with
  | error e => exact tk e s' (XE.of_callC I2 fnA cv all (fun cls d H' h => hW cls d σ H' h) hq)
  | ok fl =>
    cases fl with
    | ret u => exact after_c I2 fnA cv all hq
    | next => exact False.elim hq
    | brk => exact False.elim hq
    | cont => exact False.elim hq
/-- a def whose code object is known, by its body; it may raise -/
theorem _root_.Xc.FunC.okX {P : Program} {w : World} {K : PySem.W.Frag} {mg : Str → Option Value} {base : Heap} {x qual : Str} {st : Stmt} {f c : Addr} {fd : FuncData} {N ps : List Str} {k : Nat} {sp : Sp} (F : Xc.FunC K x qual st f fd c) (S : FnScope N ps (defScope st)) (len : ∀ vs H Q E, sp vs H Q E → vs.length = ps.length)
    (hbody : ∀ (A : Around) (outer : List Env) (s : Shared) (H : Hp) (vs : List V) (Q : VK) (E : XK), Room k (A.deeper (envOfC qual (defScope st) s.heap.objs.size f (.ref c))) → sp vs H Q E →
      ∃ t, PSs (cxOf (L2.CX P w) P w K mg base N qual (defScope st) f (.ref c) A outer s H E) (defBody st) t ∧ t { nx := fun _ H' => Q .non H', rt := Q } (start N vs) H) : FnOk P w K mg base (L2.CX P w) (k + 1) f fd ps sp := by
  obtain ⟨oc, od, kV, doc, pm, an, ct, osl, rfl, lk, hcd⟩ := F.ex
  exact fn_of lk hcd S len fun A outer s H vs Q E hr hsp => hbody A outer s H vs Q E hr hsp
end
end Xk

/-! Xk3: trees told of a lambda handed down -/
namespace Xk
open PySem PySem.Spec PySem.Calls PyProof.Rows L2 Rs LamX NdefX Xf Xh
theorem vis_of {names : List (Str × NameKind)} {n : Nat} (nk : (names.map (·.1)).Nodup) : ∀ (y : Str) (c : Addr), (cellsFrom n names []).lookup y = some c → names.lookup y = some .cell := fun y c h => by
  rcases cellsFrom_kind _ _ _ _ _ (PySem.mem_of_lookup h) with z | z
  · cases z
  · exact look_nodup nk z
theorem cx_mono {P : Program} {w : World} {outer : List Env} {H : Hp} {s s' : Shared} {E E' : XK} {u : Value} (m : ∀ c d H', E c d H' → E' c d H') (h : L2.CX P w outer H s E u s') : L2.CX P w outer H s E' u s' := by
  obtain ⟨a, B, H', cls, d, e0, fl, hok', ub, na, e1, e2, q⟩ := h
  exact ⟨a, B, H', cls, d, e0, fl, hok', ub, na, e1, e2, m _ _ _ q⟩
theorem calls_mono2 {P : Program} {w : World} {K : PySem.W.Frag} {mg : Str → Option Value} {base : Heap} {k : Nat} {f : Addr} {H : Hp} {vs : List V} {Q Q' : VK} {E E' : XK} (h : ∀ v H', Q v H' → Q' v H') (m : ∀ c d H', E c d H' → E' c d H')
    (c : CallsTo P w K mg base (L2.CX P w) k f H vs Q E) : CallsTo P w K mg base (L2.CX P w) k f H vs Q' E' :=
  fun A outer s us hr e0 r => ⟨(c A outer s us hr e0 r).1, codeAny_mono (c A outer s us hr e0 r).2 fun rs s' z => by
    cases rs with
    | error e => exact cx_mono m z
    | ok fl =>
      cases fl with
      | ret u => obtain ⟨v, H', e1, e2, un, hok', r, q⟩ := z; exact ⟨v, H', e1, e2, un, hok', r, h v H' q⟩
      | next => exact z
      | brk => exact z
      | cont => exact z⟩
/-- o.m(..) told without the context -/
def tMethP (P : Program) (w : World) (K : PySem.W.Frag) (mg : Str → Option Value) (base : Heap) (k : Nat) (m : Str) (te : TE) (ta : TA) (E : XK) : TE := fun σ H Q => te σ H fun x H1 => ∃ a C dx fs f, x = .ref a ∧ H1 a = some (.ins C dx fs) ∧ Cls K C ∧ Meth K C m f ∧ fs.lookup m = none ∧
  ta σ H1 fun vs H2 => CallsTo P w K mg base (L2.CX P w) k f H2 (x :: vs) Q E
/-- every asking is such -/
def Ak.all {ι β : Type} (R : ι → Prop) : Ak ι β → Prop
  | .ret _ => True
  | .ask q k => R q ∧ ∀ b, (k b).all R
  | .put _ k => k.all R
/-- nothing is put -/
def Ak.np {ι β : Type} : Ak ι β → Prop
  | .ret _ => True
  | .ask _ k => ∀ b, (k b).np
  | .put _ _ => False
section
variable {ι κ β : Type} {W : Wd ι} {W' : Wd κ} {cs : CL} {oz : Addr → Obj} {H H' : Hp} {E : XK} {a b : Addr}
theorem tabs_hide {T : List (Addr × Str)} (tr : TrkZ oz cs H) (t : Tabs T H) : Tabs T (hide cs H) := fun p hp => by
  obtain ⟨ps, h1, h2, h3⟩ := t p hp
  refine ⟨ps, by rw [hide_out (tr.out h1 fun _ _ z => by cases z)]; exact h1, h2, fun pos cv hc => ?_⟩
  obtain ⟨c, e1, e2⟩ := h3 pos cv hc
  exact ⟨c, e1, by rw [hide_out (tr.out e2 fun _ _ z => by unfold CodeO at z; cases z)]; exact e2⟩
theorem tabs_seen {T : List (Addr × Str)} (t : Tabs T (hide cs H)) : Tabs T H := t.ext fun b o e => (hide_some e).2
theorem mv_hide {pr o o' : List Addr} (eT : W'.TT = W.TT) (tr : TrkZ oz cs H) (oc : ∀ b v, cs.lookup b = some v → b ∉ o) (m : Mv W' pr o o' H H') : Mv W pr o o' (hide cs H) (hide cs H') ∧ TrkZ oz cs H' ∧ ∀ b v, cs.lookup b = some v → b ∉ o' := by
  have tr' : TrkZ oz cs H' := fun b v z => m.ext _ _ (tr b v z) (.inl (oc b v z)) (fun _ y => by cases y)
  have oc' : ∀ b v, cs.lookup b = some v → b ∉ o' := fun b v e z => by
    rcases m.sub b z with y | y
    · exact oc b v e y
    · rw [tr b v e] at y; cases y
  refine ⟨⟨fun b u e h n => ?_, fun t => ?_, fun b e => ?_, fun b hb => (m.sub b hb).imp_right hide_none, m.sup, fun h b hb => ?_⟩, tr', oc'⟩
  · obtain ⟨l, e2⟩ := hide_some e
    rw [hide_out l]
    exact m.ext _ _ e2 h n
  · have t1 := m.tab (by rw [eT]; exact tabs_seen t)
    rw [eT] at t1
    exact tabs_hide tr' t1
  · cases l : cs.lookup b with
    | some v => exact hide_in l
    | none =>
      rw [hide_out l] at e ⊢
      exact m.nn b e
  · have l : cs.lookup b = none := by
      cases z : cs.lookup b with
      | none => rfl
      | some v => exact absurd hb (oc' b v z)
    rw [hide_out l]
    refine m.on (fun c hc z => h c hc (hide_none z)) b hb
theorem frm_unhide (eT : W'.TT = W.TT) (eM : W'.MM = W.MM) (jj : ∀ H, W'.J H) {H2 : Hp} (tr : TrkZ oz cs H) (fr : Free cs H2) (f : Frm W (hide cs H) H2) : Frm W' H (unhideZ oz cs H2) := by
  refine ⟨fun b o e n nt => ?_, fun t => ?_, fun b e => ?_, fun _ => jj _⟩
  · cases l : cs.lookup b with
    | some v => rw [unhideZ_in l, ← tr b v l]; exact e
    | none =>
      rw [unhideZ_out l]
      exact f.old b o (by rw [hide_out l]; exact e) (by rw [← eM]; exact n) nt
  · rw [eT] at t ⊢
    exact (f.tab (tabs_hide tr t)).ext fun b o e => unhideZ_keep fr e
  · cases l : cs.lookup b with
    | some v => rw [unhideZ_in l] at e; cases e
    | none =>
      rw [unhideZ_out l] at e
      have z := f.nn b e
      rwa [hide_out l] at z
/-- what a lambda asks for each place -/
theorem Wp.lift {pr : List Addr} (g : κ → ι) (eT : W'.TT = W.TT) (eM : W'.MM = W.MM) (jj : ∀ H, W'.J H) (L1 : Led) (l1 : ∀ q ∈ L1, q.1 ∉ W.MM ∧ ∀ ps, q.2 ≠ .tbl ps)
    (R : κ → Prop) (step : ∀ m Hu Qn En, R m → TrkZ oz cs Hu → (∀ q ∈ L1, Hu q.1 = some q.2) → W.Do (g m) (hide cs Hu) (Qz oz cs Qn) (Ez oz cs En) → W'.Do m Hu Qn En) {Q : β → List Addr → Hp → Prop} :
    ∀ (t : Ak κ β) (o : List Addr) (Hu : Hp), t.np → TrkZ oz cs Hu → (∀ q ∈ L1, Hu q.1 = some q.2) → (∀ q ∈ L1, q.1 ∉ o ∨ q.1 ∈ pr) → (∀ b v, cs.lookup b = some v → b ∉ o) → (Ak.all R t) → Wp W a E pr (t.mapq g) o (hide cs Hu) Q → Wp W' b (Ec cs E) pr t o Hu (fun r o' H' => Q r o' (hide cs H'))
  | .ret r, o, Hu, _, tr, _, _, oc, _, h => fun o' H' m => h o' _ (mv_hide eT tr oc m).1
  | .ask q k, o, Hu, np, tr, hl, lo, oc, al, h => fun o' H' m => by
    obtain ⟨m', tr', oc'⟩ := mv_hide (W := W) eT tr oc m
    have hl' : ∀ q ∈ L1, H' q.1 = some q.2 := fun q hq => m.ext _ _ (hl q hq) (lo q hq) (l1 q hq).2
    have lo' : ∀ q ∈ L1, q.1 ∉ o' ∨ q.1 ∈ pr := fun q hq => mv_keepo m (hl q hq) (lo q hq)
    refine step q H' _ _ al.1 tr' hl' (W.mono _ _ _ _ _ _ ?hq ?he (h o' _ m'))
    case hq =>
      intro v H2 z fr
      obtain ⟨r, e, f, w⟩ := z
      refine ⟨r, e, frm_unhide eT eM jj tr' fr f, ?_⟩
      have tr2 : TrkZ oz cs (unhideZ oz cs H2) := unhideZ_trk
      refine Wp.lift g eT eM jj L1 l1 R step (k r) o' _ (np r) tr2 (fun q hq => ?_) lo' oc' (al.2 r) (by rw [hide_unhideZ fr]; exact w)
      have l2 : cs.lookup q.1 = none ∨ ∃ v, cs.lookup q.1 = some v := by cases cs.lookup q.1 with | none => exact .inl rfl | some v => exact .inr ⟨v, rfl⟩
      rcases l2 with l2 | ⟨v, l2⟩
      · rw [unhideZ_out l2]
        exact f.old _ _ (by rw [hide_out l2]; exact hl' q hq) (l1 q hq).1 (l1 q hq).2
      · rw [unhideZ_in l2, ← tr' _ _ l2]; exact hl' q hq
    case he =>
      intro c d H2 z fr
      show E c d (hide cs (unhideZ oz cs H2))
      rw [hide_unhideZ fr]; exact z
  | .put _ _, _, _, np, _, _, _, _, _, _ => np.elim
end
end Xk

/-! Xk4: a ledger kept over askings -/
namespace Xk
open PySem PySem.Spec PySem.Calls PyProof.Rows L2 Rs LamX Xc Xi
theorem _root_.Rs.Hs.refull {B H : Hp} {M : List Addr} {L : Led} (S : Hs B M H L) : Hs H [] H L := ⟨S.nd, S.is, fun _ _ e _ => e, fun _ h => nomatch h⟩
theorem _root_.Rs.Hs.refullM {B H : Hp} {M M' : List Addr} {L : Led} (S : Hs B M H L) (h : ∀ b ∈ M', b ∈ L.map (·.1)) : Hs H M' H L := ⟨S.nd, S.is, fun _ _ e _ => e, fun b hb => by
  obtain ⟨q, hq, rfl⟩ := List.mem_map.mp (h b hb)
  rw [S.is q hq]; simp⟩
/-- what of the entry stays -/
def bsK (MM : List Addr) (H : Hp) : Hp := fun b => if b ∈ MM then none else noT H b
theorem bsK_some {MM : List Addr} {H : Hp} {b : Addr} {o : HO} (e : bsK MM H b = some o) : H b = some o ∧ b ∉ MM ∧ ∀ ps, o ≠ .tbl ps := by
  unfold bsK at e
  split at e
  · cases e
  · rename_i h; exact ⟨(noT_of e).1, h, (noT_of e).2⟩
theorem bsK_none {MM : List Addr} {H : Hp} {b : Addr} (e : H b = none) : bsK MM H b = none := by
  unfold bsK
  split
  · rfl
  · exact noT_none e
structure BK {ι : Type} (W : Wd ι) (B : Hp) : Prop where
  bk : ∀ b o, B b = some o → b ∉ W.MM ∧ ∀ ps, o ≠ .tbl ps
  js : ∀ H, W.J H → ∀ b ∈ W.MM, Std H b
theorem bk_of {ι : Type} {W : Wd ι} (H : Hp) (js : ∀ H, W.J H → ∀ b ∈ W.MM, Std H b) : BK W (bsK W.MM H) := ⟨fun b o e => (bsK_some e).2, js⟩
/-- B: what stays whatever is asked; M: what the program changes itself; L: what stands; o: the program's own, pr: those of them that stay now -/
structure Kp {ι : Type} (W : Wd ι) (pr o : List Addr) (B : Hp) (M : List Addr) (L : Led) (H : Hp) : Prop where
  S : Hs B M H L
  tb : Tabs W.TT H
  j : W.J H
  lk : ∀ q ∈ L, q.1 ∉ W.MM ∧ (∀ ps, q.2 ≠ .tbl ps) ∧ (q.1 ∉ o ∨ q.1 ∈ pr)
  mo : ∀ b ∈ M, b ∈ L.map (·.1)
  bo : ∀ b u, B b = some u → b ∉ o ∨ b ∈ pr
  oo : ∀ b ∈ o, H b ≠ none
  ps : ∀ b ∈ pr, b ∈ o
section
variable {ι β : Type} {W : Wd ι} {a : Addr} {B H H' : Hp} {M M' : List Addr} {L L' : Led} {E : XK} {Q : β → List Addr → Hp → Prop} {pr pr' o o' : List Addr}
theorem Kp.mu (k : Kp W pr o B M L H) : ∀ b ∈ M, H b ≠ none := fun b hb => by
  obtain ⟨q, hq, rfl⟩ := List.mem_map.mp (k.mo b hb)
  rw [k.S.is q hq]; simp
theorem Kp.mv (k : Kp W pr o B M L H) (bk : BK W B) (m : Mv W pr o o' H H') (om : ∀ b ∈ W.MM, b ∉ o ∨ b ∈ pr) : Kp W pr o' B M L H' := by
  refine ⟨⟨k.S.nd, fun q hq => m.ext _ _ (k.S.is q hq) (k.lk q hq).2.2 (k.lk q hq).2.1, fun b u e hm => m.ext _ _ (k.S.old b u e hm) (k.bo b u e) (bk.bk b u e).2, fun b hb => ?_⟩, m.tab k.tb, ?_, fun q hq => ⟨(k.lk q hq).1, (k.lk q hq).2.1, mv_keepo m (k.S.is q hq) (k.lk q hq).2.2⟩, k.mo, fun b u e => ?_, m.on k.oo, fun b hb => m.sup b (k.ps b hb)⟩
  · obtain ⟨q, hq, rfl⟩ := List.mem_map.mp (k.mo b hb)
    rw [m.ext _ _ (k.S.is q hq) (k.lk q hq).2.2 (k.lk q hq).2.1]; simp
  · exact W.jm _ _ k.j fun b hb u e => m.ext _ _ e (om b hb) ((bk.js _ k.j b hb).not e).tbl
  · by_cases hm : b ∈ M
    · obtain ⟨q, hq, rfl⟩ := List.mem_map.mp (k.mo b hm)
      exact mv_keepo m (k.S.is q hq) (k.lk q hq).2.2
    · exact mv_keepo m (k.S.old b u e hm) (k.bo b u e)
theorem mm_keepo (bk : BK W B) (j : W.J H) (m : Mv W pr o o' H H') (om : ∀ b ∈ W.MM, b ∉ o ∨ b ∈ pr) : ∀ b ∈ W.MM, b ∉ o' ∨ b ∈ pr := fun b hb => by
  obtain ⟨u, e, _⟩ := bk.js _ j b hb
  exact mv_keepo m e (om b hb)
theorem Kp.frm (k : Kp W pr o B M L H) (bk : BK W B) (f : Frm W H H') : Kp W pr o B M L H' := by
  refine ⟨⟨k.S.nd, fun q hq => f.old _ _ (k.S.is q hq) (k.lk q hq).1 (k.lk q hq).2.1, fun b u e hm => f.old _ _ (k.S.old b u e hm) (bk.bk b u e).1 (bk.bk b u e).2, fun b hb => ?_⟩, f.tab k.tb, f.j k.j, k.lk, k.mo, k.bo, fun b hb z => k.oo b hb (f.nn b z), k.ps⟩
  obtain ⟨q, hq, rfl⟩ := List.mem_map.mp (k.mo b hb)
  rw [f.old _ _ (k.S.is q hq) (k.lk q hq).1 (k.lk q hq).2.1]; simp
/-- kept by a tree that puts nothing -/
theorem Wp.keep (bk : BK W B) : ∀ {t : Ak ι β} {o : List Addr} {H : Hp}, t.np → Kp W pr o B M L H → (∀ b ∈ W.MM, b ∉ o ∨ b ∈ pr) → Wp W a E pr t o H Q → Wp W a E pr t o H (fun b o' H' => Q b o' H' ∧ Kp W pr o' B M L H' ∧ (∀ b ∈ W.MM, b ∉ o' ∨ b ∈ pr))
  | .ret b, _, _, _, k, om, h => fun o2 H2 m => ⟨h o2 H2 m, k.mv bk m om, mm_keepo bk k.j m om⟩
  | .ask q c, _, _, np, k, om, h => fun o2 H2 m => W.mono _ _ _ _ _ _ (fun v H3 ⟨b, e, f, w⟩ => ⟨b, e, f, Wp.keep bk (np b) ((k.mv bk m om).frm bk f) (mm_keepo bk k.j m om) w⟩) (fun _ _ _ z => z) (h o2 H2 m)
  | .put _ _, _, _, np, _, _, _ => np.elim
/-- how a tree leaves the row -/
def Ak.ends (R : List V → β → Prop) : Ak ι β → List V → Prop
  | .ret b, xs => R xs b
  | .ask _ k, xs => ∀ b, (k b).ends R xs
  | .put ys k, _ => k.ends R ys
theorem Wp.rets {R : List V → β → Prop} : ∀ {t : Ak ι β} {o : List Addr} {H : Hp} {xs : List V}, t.ends R xs → Wp W a E pr t o H Q → Wp W a E pr t o H (fun b o' H' => (∃ ys, R ys b) ∧ Q b o' H')
  | .ret b, _, _, xs, en, h => fun o2 H2 m => ⟨⟨xs, en⟩, h o2 H2 m⟩
  | .ask q c, _, _, xs, en, h => fun o2 H2 m => W.mono _ _ _ _ _ _ (fun v H3 ⟨b, e, f, w⟩ => ⟨b, e, f, Wp.rets (en b) w⟩) (fun _ _ _ z => z) (h o2 H2 m)
  | .put ys c, _, _, xs, en, h => fun o2 H2 p => Wp.rets (xs := ys) en (h o2 H2 p)
/-- kept by a tree that writes the row -/
theorem Wp.keepR (bk : BK W B) {R : List V → β → Prop} (F : List V → Led) (hF : ∀ ys zs, ∀ q ∈ F ys, q = (a, .lst ys) ∨ (q.1 ≠ a ∧ q ∈ F zs)) (hk : ∀ ys zs, (F ys).map (·.1) = (F zs).map (·.1)) (ha : a ∈ M) :
    ∀ {t : Ak ι β} {o : List Addr} {H : Hp} {xs : List V}, t.ends R xs → Kp W pr o B M (F xs) H → (∀ b ∈ W.MM, b ∉ o ∨ b ∈ pr) → Wp W a E pr t o H Q → Wp W a E pr t o H (fun b o' H' => Q b o' H' ∧ (∃ ys, R ys b ∧ Kp W pr o' B M (F ys) H') ∧ (∀ b ∈ W.MM, b ∉ o' ∨ b ∈ pr))
  | .ret b, _, _, xs, en, k, om, h => fun o2 H2 m => ⟨h o2 H2 m, ⟨xs, en, k.mv bk m om⟩, mm_keepo bk k.j m om⟩
  | .ask q c, _, _, xs, en, k, om, h => fun o2 H2 m => W.mono _ _ _ _ _ _ (fun v H3 ⟨b, e, f, w⟩ => ⟨b, e, f, Wp.keepR bk F hF hk ha (en b) ((k.mv bk m om).frm bk f) (mm_keepo bk k.j m om) w⟩) (fun _ _ _ z => z) (h o2 H2 m)
  | .put ys c, o, H, xs, en, k, om, h => fun o2 H2 p => by
    have am : a ∉ W.MM := by
      obtain ⟨q, hq, e⟩ := List.mem_map.mp (k.mo a ha)
      rw [← e]; exact (k.lk q hq).1
    have ko : ∀ {b : Addr} {u : HO}, H b = some u → (b ∉ o ∨ b ∈ pr) → b ∉ o2 ∨ b ∈ pr := fun {b u} e h => by
      rcases h with h | h
      · by_cases c : b ∈ o2
        · rcases p.sub b c with z | z
          · exact absurd z h
          · rw [e] at z; cases z
        · exact .inl c
      · exact .inr h
    refine Wp.keepR bk F hF hk ha (xs := ys) en ⟨⟨?_, fun q hq => ?_, fun b u e hm => ?_, fun b hb => ?_⟩, p.tab k.tb, ?_, fun q hq => ?_, ?_, fun b u e => ?_, p.on k.oo, fun b hb => p.sup b (k.ps b hb)⟩ (fun b hb => ?_) (h o2 H2 p)
    · rw [hk ys xs]; exact k.S.nd
    · rcases hF ys xs q hq with rfl | ⟨n, z⟩
      · exact p.at_
      · exact p.old _ _ (k.S.is q z) n (k.lk q z).2.2 (k.lk q z).2.1
    · exact p.old _ _ (k.S.old b u e hm) (fun z => hm (z ▸ ha)) (k.bo b u e) (bk.bk b u e).2
    · by_cases e : b = a
      · rw [e, p.at_]; simp
      · obtain ⟨q, hq, rfl⟩ := List.mem_map.mp (k.mo b hb)
        rw [p.old _ _ (k.S.is q hq) e (k.lk q hq).2.2 (k.lk q hq).2.1]; simp
    · exact W.jm _ _ k.j fun b hb u e => p.old _ _ e (fun z => am (z ▸ hb)) (om b hb) ((bk.js _ k.j b hb).not e).tbl
    · rcases hF ys xs q hq with e | ⟨n, z⟩
      · obtain ⟨r, hr, er⟩ := List.mem_map.mp (k.mo a ha)
        rw [e]
        refine ⟨am, (fun _ z => by cases z), ?_⟩
        have z := ko (k.S.is r hr) (k.lk r hr).2.2
        rwa [er] at z
      · exact ⟨(k.lk q z).1, (k.lk q z).2.1, ko (k.S.is q z) (k.lk q z).2.2⟩
    · intro b hb; rw [hk ys xs]; exact k.mo b hb
    · by_cases hm : b ∈ M
      · obtain ⟨q, hq, rfl⟩ := List.mem_map.mp (k.mo b hm)
        exact ko (k.S.is q hq) (k.lk q hq).2.2
      · exact ko (k.S.old b u e hm) (k.bo b u e)
    · obtain ⟨u, e, _⟩ := bk.js _ k.j b hb
      exact ko e (om b hb)
theorem tabs_lst {T : List (Addr × Str)} (S : Hs H M' H' L') (ml : ∀ b ∈ M', ∃ xs, H b = some (.lst xs)) (t : Tabs T H) : Tabs T H' := by
  have nm : ∀ {b : Addr} {u : HO}, H b = some u → (∀ xs, u ≠ .lst xs) → b ∉ M' := fun {b u} e n z => by
    obtain ⟨xs, h⟩ := ml b z
    rw [e] at h
    exact n xs (Option.some.inj h)
  exact tabs_pers ⟨fun b r e => S.old _ _ e (nm e fun _ z => by cases z), fun b r e => S.old _ _ e (nm e fun _ z => by cases z)⟩ (fun b ps e => S.old _ _ e (nm e fun _ z => by cases z)) t
theorem seg_nn (S : Hs H M' H' L') : ∀ b, H' b = none → H b = none := fun b e => by
  cases h : H b with
  | none => rfl
  | some u =>
    by_cases hm : b ∈ M'
    · exact absurd e (S.mu b hm)
    · rw [S.old b u h hm] at e; cases e
/-- a stretch of the program's own -/
theorem mv_seg {N : List Addr} (S : Hs H M' H' L') (ml : ∀ b ∈ M', (∃ xs, H b = some (.lst xs)) ∧ b ∈ o ∧ b ∉ pr) (hN : ∀ b ∈ N, H b = none ∧ b ∈ L'.map (·.1)) : Mv W pr o (N ++ o) H H' := by
  refine ⟨fun b u e h _ => S.old b u e fun z => ?_, tabs_lst S fun b hb => (ml b hb).1, seg_nn S, fun b hb => ?_, fun b hb => List.mem_append_right _ hb, fun h b hb => ?_⟩
  · rcases h with h | h
    · exact h (ml b z).2.1
    · exact (ml b z).2.2 h
  · rcases List.mem_append.mp hb with z | z
    · exact .inr (hN b z).1
    · exact .inl z
  · rcases List.mem_append.mp hb with z | z
    · obtain ⟨q, hq, rfl⟩ := List.mem_map.mp (hN b z).2
      rw [S.is q hq]; simp
    · exact fun y => h b z (seg_nn S b y)
/-- the row is written -/
theorem pt_seg {ys : List V} (S : Hs H [a] H' L') (m : (a, HO.lst ys) ∈ L') (ml : ∃ xs, H a = some (.lst xs)) : Pt W a ys pr o o H H' :=
  ⟨S.is _ m, fun b u e n _ _ => S.old b u e (by simpa using n), tabs_lst S (fun b hb => by rw [List.mem_singleton.mp hb]; exact ml), seg_nn S, fun _ h => .inl h, fun _ h => h, fun h b hb z => h b hb (seg_nn S b z)⟩
theorem Kp.seg (k : Kp W pr o B M L H) (bk : BK W B) (S : Hs H M' H' L') (ml : ∀ b ∈ M', (∃ xs, H b = some (.lst xs)) ∧ b ∉ W.MM ∧ (B b = none ∨ b ∈ M)) (lk : ∀ q ∈ L', q.1 ∉ W.MM ∧ (∀ ps, q.2 ≠ .tbl ps) ∧ (q.1 ∉ o' ∨ q.1 ∈ pr')) (mo : ∀ b ∈ M, b ∈ L'.map (·.1)) (bo : ∀ b u, B b = some u → b ∉ o' ∨ b ∈ pr') (oo : ∀ b ∈ o', H' b ≠ none) (ps : ∀ b ∈ pr', b ∈ o') : Kp W pr' o' B M L' H' := by
  refine ⟨⟨S.nd, S.is, fun b u e hm => S.old b u (k.S.old b u e hm) fun z => ?_, fun b hb => ?_⟩, tabs_lst S (fun b hb => (ml b hb).1) k.tb, W.jm _ _ k.j fun b hb u e => S.old b u e fun z => (ml b z).2.1 hb, lk, mo, bo, oo, ps⟩
  · rcases (ml b z).2.2 with y | y
    · rw [e] at y; cases y
    · exact hm y
  · obtain ⟨q, hq, rfl⟩ := List.mem_map.mp (mo b hb)
    rw [S.is q hq]; simp
/-- what is new stands apart -/
theorem Kp.fresh (k : Kp W pr o B M L H) (bk : BK W B) {p : Addr} (e : H p = none) : p ∉ W.MM ∧ (B p = none ∨ p ∈ M) := by
  refine ⟨fun z => (bk.js _ k.j p z).ne e, ?_⟩
  by_cases hm : p ∈ M
  · exact .inr hm
  · refine .inl ?_
    cases h : B p with
    | none => rfl
    | some u => rw [k.S.old p u h hm] at e; cases e
end
end Xk

/-! Xl1: isinstance of a function -/
namespace PySem
open Sem (wp)
namespace F
theorem xl_slot_ga : Slot "function" "__getattribute__" "object.__getattribute__" :=
  .of (owner := "object") (n := "__getattribute__") (by rw [typeLookup_type, builtinLookup_eq_fast]; kernel_rfl) (by decide +kernel) (by decide +kernel) (by decide +kernel)
    (by first | exact .inl (by decide +kernel) | exact .inr (by decide +kernel)) (by rw [isSubtype_type]; kernel_rfl)
theorem xl_args_ga (a b : Value) : argsOk "object.__getattribute__" ⟨[a, b], []⟩ := by unfold argsOk; kernel_rfl
theorem xl_entry_ga : entryFor table "object.__getattribute__" = some Builtin.«object.__getattribute__» := entryFor_of_tree (by kernel_rfl)
theorem xl_lk_class : typeLookup (.type "function") "__class__" = pure (some (.builtin "object.__class__")) := by rw [typeLookup_type, builtinLookup_eq_fast]; kernel_rfl
theorem xl_sub_class_owner : isSubtype (.type "function") (.type (".".intercalate ("object.__class__".cutAt '.').dropLast)) = pure true := by
  rw [owner_object_class, isSubtype_type]; kernel_rfl
end F
section
variable {prog : Program} {w : World} {A : Around} {E : Value → Shared → Prop} {h : Heap} {g : Array GenState} {d : Drawn} {t : Nat} {os : OsState} {a : Addr} {o : Obj}
theorem xl_class_get {R : Result → Shared → Prop} (hx : h.get? a = some o) (hc : o.cls = .type "function") (hq : R (.ok (.ret (.type "function"))) ⟨h, g, d, t, os⟩) :
    codeAny (model prog w) A (.call (.builtin "getset_descriptor.__get__") ⟨[.builtin "object.__class__", .ref a, .type "function"], []⟩) R ⟨h, g, d, t, os⟩ := by
  have hT : (⟨h, g, d, t, os⟩ : Shared).TypeIs (.ref a) "function" := ⟨_, hx, hc⟩
  have hT5 : (⟨h, g, d, t, os⟩ : Shared).TypeIs (.builtin "object.__class__") "getset_descriptor" := F.typeOf_object_class
  have f8 := F.xl_sub_class_owner
  refine codeAny_call_builtin F.slot_gs_get.plain F.entry_gs_get (F.slot_gs_get.check _ _ _ _ _ _ _ _ hT5 (F.args_gs_get _ _ _) ?_)
  repeat (any_goals (first | assumption | wp_step))
  refine ⟨Code.quiet_builtin _ (by decide +kernel), codeAny_builtin F.entry_object_class ?_⟩
  repeat (any_goals (first | assumption | wp_step))
theorem xl_class_entry {tk : Tok} {Q : Fin → Shared → Prop} (hx : h.get? a = some o) (hc : o.cls = .type "function") (hq : Q (.done (.ret (.type "function"))) ⟨h, g, d, t, os⟩) :
    wpAny (model prog w) A (Builtin.«object.__getattribute__» ⟨[.ref a, .str "__class__" tk], []⟩) Q E ⟨h, g, d, t, os⟩ := by
  have hT : (⟨h, g, d, t, os⟩ : Shared).TypeIs (.ref a) "function" := ⟨_, hx, hc⟩
  have hT5 : (⟨h, g, d, t, os⟩ : Shared).TypeIs (.builtin "object.__class__") "getset_descriptor" := F.typeOf_object_class
  have f4 := F.xl_lk_class
  have f5 := F.typeOf_object_class
  have f6 := F.slot_gs_get.lookup
  have f7 := F.slot_gs_set.lookup
  repeat (any_goals (first | assumption | wp_step))
  refine xl_class_get hx hc ?_
  repeat (any_goals (first | assumption | wp_step))
theorem xl_class_call {tk : Tok} {R : Result → Shared → Prop} (hx : h.get? a = some o) (hc : o.cls = .type "function") (hq : R (.ok (.ret (.type "function"))) ⟨h, g, d, t, os⟩) :
    codeAny (model prog w) A (.call (.builtin "object.__getattribute__") ⟨[.ref a, .str "__class__" tk], []⟩) R ⟨h, g, d, t, os⟩ :=
  codeAny_call_builtin F.xl_slot_ga.plain F.xl_entry_ga (F.xl_slot_ga.check _ _ _ _ _ _ _ _ (show (⟨h, g, d, t, os⟩ : Shared).TypeIs (.ref a) "function" from ⟨_, hx, hc⟩) (F.xl_args_ga _ _) (xl_class_entry hx hc hq))
theorem xl_class_by {tk : Tok} {Q : Value → Shared → Prop} (hx : h.get? a = some o) (hc : o.cls = .type "function") (hq : Q (.type "function") ⟨h, g, d, t, os⟩) : wpAny (model prog w) A (getAttrBy (.ref a) (.str "__class__" tk) false) Q E ⟨h, g, d, t, os⟩ := by
  have hT : (⟨h, g, d, t, os⟩ : Shared).TypeIs (.ref a) "function" := ⟨_, hx, hc⟩
  have f2 := F.xl_slot_ga.lookup
  have f3 := F.xl_slot_ga.bind (.ref a)
  repeat (any_goals (first | assumption | wp_step))
  refine xl_class_call hx hc ?_
  repeat (any_goals (first | assumption | wp_step))
theorem xl_class_attr {Q : Option Value → Shared → Prop} (hx : h.get? a = some o) (hc : o.cls = .type "function") (hq : Q (some (.type "function")) ⟨h, g, d, t + 1, os⟩) : wpAny (model prog w) A (getAttr? (.ref a) "__class__") Q E ⟨h, g, d, t, os⟩ := by
  unfold getAttr? getAttrBy?
  repeat (any_goals (first | assumption | with_reducible apply xl_class_by hx hc | wp_step))
end
namespace W
theorem kitx_fn {K : Frag} {a : Addr} : KitX K (.ref a) (.type "function") (KitAt a "function") := kitx_of kitAt_ty (fun {_ _ _ _ _ s} p k => by obtain ⟨h, g, d, t, os⟩ := s; obtain ⟨o, h1, h2⟩ := p; exact xl_class_attr h1 h2 k)
end W
end PySem
namespace Xl
open PySem PySem.Spec PyProof.Rows L2 Rs
/-- isinstance(x, c), where x may be a function -/
def rIsiF (K : PySem.W.Frag) : List V → Hp → VK → Prop := fun xs H Q => rIsi K xs H Q ∨ ∃ (f : Addr) (F : Xh.LF) (c : V) (u : Value) (b : Bool), xs = [.ref f, c] ∧ ClsV c u ∧ H f = some (Xh.LamO f F) ∧ PySem.W.kitOne K (.type "function") u = some b ∧ Q (.bl b) H
theorem call_isiF {X : Cx} : CallR X (.builtin "isinstance") (rIsiF X.K) := by
  intro pins s σ H xs us Q I r h
  rcases h with h | ⟨f, F, c, u, b, rfl, k, hf, e, q⟩
  · exact call_isi pins s σ H xs us Q I r h
  · obtain ⟨u1, u2, rfl, r1, r2⟩ := vals2 r
    have e2 := k.eq r2
    subst e2
    cases (show u1 = Value.ref f from r1)
    obtain ⟨pm, ctv, hg⟩ := Xh.lamO_at I.hok hf
    exact PySem.W.kia_one PySem.W.kitx_fn I.kIn ⟨_, hg, rfl⟩ e (fun z => nomatch z) fun tk => ⟨.bl b, H, I.tok tk, rfl, q⟩
end Xl

/-! Xm1: own exceptions of two fields, raised -/
namespace Xm
open PySem PySem.Spec PySem.Calls PyProof.Rows L2 Rs Xc
def spInit2 (C : Addr) (f g : Str) : Sp := fun vs H Q _ => ∃ (a : Addr) (v w : V), vs = [.ref a, v, w] ∧ H a = some (exo a C none) ∧
  ∀ (dx : Addr) (H' : Hp), H dx = none → dx ≠ a → H' a = some (exo a C (some dx)) → H' dx = some (exd dx [(g, w), (f, v)]) → (∀ b, b ≠ a → b ≠ dx → H' b = H b) → Q .non H'
theorem rd_mk2 {H : Hp} {C : Addr} {f g : Str} {x y : V} {XQ : XK} (k : ∀ d, H d = none → XQ (.ref C) (some d) (upd H d (.xd [(g, y), (f, x)]))) : [x, y].length ≤ 1000 ∧ ∀ a, H a = none → spInit2 C f g (.ref a :: ([x, y] ++ [])) (upd H a (exo a C none))
    (fun v H2 => v = .non ∧ ∃ (d : Addr) (fs : List (Str × V)), H2 a = some (exo a C (some d)) ∧ H2 d = some (exd d fs) ∧ H d = none ∧ XQ (.ref C) (some d) (upd (del H2 a) d (.xd fs))) (fun _ _ _ => False) := by
  refine ⟨by simp, fun a ha => ⟨a, x, y, rfl, upd_same, fun d H' hd ne e1 e2 e3 => ⟨rfl, d, [(g, y), (f, x)], e1, e2, ?_, ?_⟩⟩⟩
  · rw [upd_ne ne] at hd; exact hd
  · rw [upd_ne ne] at hd
    have e : upd (del H' a) d (.xd [(g, y), (f, x)]) = upd H d (.xd [(g, y), (f, x)]) := by
      funext b
      by_cases hb : b = d
      · subst hb; rw [upd_same, upd_same]
      · rw [upd_ne hb, upd_ne hb]
        by_cases h2 : b = a
        · subst h2; rw [del_same, ha]
        · rw [del_ne h2, e3 b h2 hb, upd_ne h2]
    rw [e]
    exact k d hd
/-- Python's own less: of whole numbers, of texts, of tuples of whole numbers -/
def rLtG (K : PySem.W.Frag) : R2 := fun x y H Q => rI0 (fun i j => .bl (decide (i < j))) x y H Q ∨ (∃ i j : Str, x = .str i ∧ y = .str j ∧ Q (.bl (decide (i.cps.toList < j.cps.toList))) H) ∨ rLtT K x y H Q
theorem op_ltG {X : Cx} (hu : X.A.units + 64 < cLine) : OpR X (compareOp .Lt) (rLtG X.K) := by
  intro pins s σ H x y u v Q I r1 r2 h
  rcases h with h | h | h
  · exact op_lt pins s σ H x y u v Q I r1 r2 h
  · exact op_lt_str pins s σ H x y u v Q I r1 r2 h
  · exact op_ltT (by omega) pins s σ H x y u v Q I r1 r2 h
/-- one item of a list or a tuple -/
def rIxS (K : PySem.W.Frag) : R2 := fun x y H Q => rIxL K x y H Q ∨ rIxT K x y H Q
theorem ix_seq {X : Cx} : IxR X (rIxS X.K) := by
  intro e1 e2 pins s σ H x y u v Q I r1 r2 h hs
  rcases h with h | h
  · exact ix_list e1 e2 pins s σ H x y u v Q I r1 r2 h hs
  · exact ix_tup e1 e2 pins s σ H x y u v Q I r1 r2 h hs
end Xm

/-! Xn1: (*t, a, b, ..) = a tuple: the first target takes a new list of what the others leave -/
namespace Xn
open PySem PySem.Spec PySem.Calls PyProof.Rows L2
section
variable {X : Cx} {pos : Pos}
theorem pgs_star {e : Expr} {p : Pos} {es : List Expr} {t : TG} {u : TGs} (h1 : PG X e t) (h2 : PGs X es u) : PGs X (.Starred e p :: es) (gCons t u) := by
  refine ⟨fun pins s σ H vs us Q I r h => ?_⟩
  obtain ⟨v, vr, rfl, h⟩ := h
  cases r with
  | cons r1 r2 =>
    show wpAny _ _ (assignInOrder (assign e X.env :: (assignEach es X.env).map (·.2)) _) _ _ _
    exact assignInOrder_cons (thn (h1.run pins s σ H _ _ _ I r1 h) fun _ s1 ⟨σ1, H1, I1, q1⟩ => h2.run pins s1 σ1 H1 _ _ Q I1 r2 q1)
/-- (*t, a, ..) = a tuple of k + rest things; n targets -/
def gStar (K : PySem.W.Frag) (n : Nat) (t : TGs) : TG := fun v σ H Q => ∃ a xs, v = .ref a ∧ SqT K H a xs ∧ n ≤ xs.length + 1 ∧ xs.length ≤ 16384 ∧ ∀ p, H p = none → t (.ref p :: xs.drop (xs.length + 1 - n)) σ (upd H p (.lst (xs.take (xs.length + 1 - n)))) Q
theorem vals_take : ∀ {xs : List V} {us : List Value} (_ : Vals xs us) (k : Nat), Vals (xs.take k) (us.take k) ∧ Vals (xs.drop k) (us.drop k)
  | _, _, .nil, k => by simp; exact .nil
  | _, _, .cons a r, 0 => ⟨.nil, .cons a r⟩
  | _, _, .cons a r, k + 1 => ⟨.cons a (vals_take r k).1, (vals_take r k).2⟩
theorem unpack0 {A : Around} {w : World} {prog : Program} {s : Shared} {a : Addr} {its : List Value} {n : Nat} {E : Value → Shared → Prop} {Q : List Value → Shared → Prop} (hh : A.handled = none) (ht : IsTup s.heap a its.toArray) (hn0 : 0 < n) (hn : n ≤ its.length + 1) (hz : its.length ≤ 16384)
    (h : ∀ hp tk, (∀ b o, s.heap.get? b = some o → hp.get? b = some o) → wpAny (model prog w) A (newList (its.take (its.length + 1 - n)) >>= fun d => pure (d :: its.drop (its.length + 1 - n))) Q E { s with heap := hp, toks := tk }) :
    wpAny (model prog w) A (unpackItems (.ref a) n (some 0)) Q E s := by
  have lt : a < s.heap.objs.size := let ⟨_, z, _⟩ := ht; Heap.lt_size z
  have ne : a ≠ s.heap.objs.size := Nat.ne_of_lt lt
  unfold unpackItems notIterableAtAll
  refine wpAny_bind (wpAny_bind (wpAny_specialOf ht.typeIs slot_tuple_iter.lookup (wpAny_pure ?_)))
  rw [if_neg Bool.false_ne_true]
  refine wpAny_bind (wpAny_holding (iter_tuple ht (wpAny_bind (wpAny_holding (draw_tuple ne 0 0 _ _ ⟨_, Heap.get?_push_size _ rfl, rfl, rfl⟩ (ht.push _) (Nat.zero_le _) fun g gi gs => ?_)))))
  have gt : IsTup g a its.toArray := (ht.push _).extBut gs.extBut ne
  obtain ⟨oi, ei, _⟩ := id gi
  obtain ⟨ot, et, _⟩ := id gt
  rw [show (List.drop 0 its.toArray.toList).take 0 = [] by rfl, if_neg (show ¬ (([] : List Value).length < 0) by simp)]
  refine wpAny_bind (wpAny_holding (PySem.W.kun_collect (s := { s with heap := g }) (k := 0) (.inr (.inr (.inr rfl))) (Walks.tuple (A := A.in1) hh s.heap.objs.size a ne its.toArray) (fun _ _ z => z.1.typeIs) (Nat.zero_le _) ⟨gi, gt⟩ (Heap.lt_size ei) (Heap.lt_size et) (fun g2 tk k2 => ?_) (by rw [sizeLine_eq]; simp; omega)))
  have len : (List.drop 0 its.toArray.toList).length = its.length := by simp
  show wpAny _ _ (if (List.drop 0 its.toArray.toList).length < n - 1 - 0 then _ else _) _ _ _
  rw [if_neg (by rw [len]; omega)]
  have e1 : its.length - (n - 1 - 0) = its.length + 1 - n := by omega
  show wpAny _ _ (newList ((List.drop 0 its.toArray.toList).take ((List.drop 0 its.toArray.toList).length - (n - 1 - 0))) >>= fun d => pure ([] ++ [d] ++ (List.drop 0 its.toArray.toList).drop ((List.drop 0 its.toArray.toList).length - (n - 1 - 0)))) _ _ _
  rw [len, e1]
  refine h g2 tk fun b o e => ?_
  have b1 : b ≠ s.heap.objs.size := Nat.ne_of_lt (Heap.lt_size e)
  exact k2 b o b1 (gs.extBut b o b1 (Heap.get?_push_of_some _ e))
theorem pg_star {es : List Expr} {k : Nat} {t : TGs} {n : Nat} (hc : X.calm = true) (h : PGs X es t) (hn0 : 0 < n)
    (hn : (assignEach es X.env).length = n := by rfl) (hst : (assignEach es X.env).findIdx? (·.1) = some 0 := by rfl) : PG X (.Tuple es k pos) (gStar X.K n t) := by
  refine ⟨fun pins s σ H v u Q I r ⟨a, xs, e1, hq, hl, hz, hw⟩ => ?_⟩
  subst e1
  cases r
  obtain ⟨its, rv, ht, _⟩ := I.tuple hq
  have len := rv.length
  rw [assign_Tuple]
  refine wpAny_bind (wpAny_standAt ?_)
  unfold unpack
  rw [hn, hst]
  refine wpAny_bind (wpAny_holding (unpack0 (I.ok.hd hc) ht hn0 (by omega) (by omega) fun g tk kept => ?_))
  have I1 : Inv X pins σ H { s with heap := g, toks := tk } := I.kept kept
  obtain ⟨r1, r2⟩ := vals_take rv (xs.length + 1 - n)
  have small : (xs.take (xs.length + 1 - n)).length ≤ sizeLine := by rw [List.length_take, sizeLine_eq]; omega
  have fresh : H g.objs.size = none := I1.hok.fresh (Nat.le_refl _)
  rw [← len]
  refine wpAny_bind (wpAny_newList (wpAny_pure ?_) (by rw [← r1.length]; exact small))
  have I2 : Inv X pins σ (upd H g.objs.size (.lst (xs.take (xs.length + 1 - n)))) { s with heap := g.push (seqObj "list" (its.take (xs.length + 1 - n)).toArray 0), toks := tk } :=
    I1.laid (t' := tk) (fun b u e => Heap.get?_push_of_some _ e) (Nat.le_refl _) ⟨small, _, 0, r1, Heap.get?_push_size _ rfl⟩
  exact h.run pins _ σ _ (.ref g.objs.size :: xs.drop (xs.length + 1 - n)) _ Q I2 (.cons rfl r2) (hw _ fresh)
/-! ### f(..), f a name that holds a def of the text -/
def tCallVK (X : Cx) (CX : CXT) (k i : Nat) (ta : TA) (E : XK) : TE := fun σ H Q => ∃ f, σ[i]? = some (some (.ref f)) ∧ PySem.W.keepIn X.K (.ref f) = true ∧ ta σ H fun vs H2 => Xh.CallsTo X.prog X.w X.K X.mg X.base CX k f H2 vs Q E
theorem pe_callVK {CX : CXT} {k j i : Nat} {x : Str} {E : XK} {ta : TA} {e : Expr} {es : List Expr} {p : Pos} (hN : X.N[i]? = some x) (hv : Vis X.env.scope x) (ha : PA X (e :: es) ta) (hr : Room j X.A) (hk : k ≤ j) (hx : Passes CX X E) (hdb : (x == ("__debug__" : Str)) = false := by decide) (hcd : (x == ("__classdict__" : Str)) = false := by decide)
    (he : starEach (e :: es) X.env = (false, eval e X.env) :: starEach es X.env := by rfl) (hpl : (backTo pos (starEach es X.env)).any (·.1) = false := by rfl) : PE X (.Call (.Name x p) (e :: es) [] pos) (tCallVK X CX k i ta E) := by
  refine ⟨fun pins s σ H Q I ⟨f, at_, kp, go⟩ => ?_⟩
  refine wpAny_Call_Name_kw (thn ((pe_var (pos := p) hN hv hdb hcd).run pins s σ H (fun v H1 => v = .ref f ∧ H1 = H) I ⟨.ref f, at_, rfl, rfl⟩) fun u s1 ⟨v, H1, I1, r1, ev, eH⟩ => ?_)
  subst ev eH
  obtain rfl : u = Value.ref f := r1
  exact PySem.W.callWith_K (first := []) (h₀ := X.base) I1.ok.mod.kin kp (thn (ha.run pos pins s1 σ _ _ I1 go) fun us s2 ⟨vs, H2, I2, r, q⟩ => ⟨I2.kIn, Xj.run_to q hr hk hx I2 r⟩) he hpl
/-! ### sum(a tuple, start=..) -/
def rSumTK (K : PySem.W.Frag) : List V → List V → Hp → VK → Prop := fun vs zs H Q => ∃ (a : Addr) (ns : List Int) (k : Int), vs = [V.ref a] ∧ zs = [V.int k] ∧ SqT K H a (ns.map V.int) ∧ Q (.int (k + ns.sum)) H
theorem cr_sumTK (hc : X.calm = true) : CallRK X (.builtin "sum") [Str.ofString "start"] (rSumTK X.K) := by
  intro pins s σ H vs zs us ws Q I r rz ⟨a, ns, k, e1, e2, hs, q⟩
  subst e1 e2
  obtain ⟨its, rv, ht, hz⟩ := I.tuple hs
  rw [Vals.ref1 r]
  obtain ⟨u, rfl, t, rfl⟩ := vals1 rz
  obtain ⟨o, z1, z2, n, z3⟩ := id ht
  refine Rs.sum_from (Rs.walk_tup (A := X.A.in1) (I.ok.hd hc) ⟨o, z1, z2, n, z3⟩ fun s₂ es St W st hfp => ?_)
  subst es
  refine ⟨_, _, _, _, _, _, fun i => ns.getD i 0, rfl, W, st, hfp, Rs.vals_at rv, fun h' tk t' hk => ⟨.int _, H, I.kept (Rs.it_old hk), ⟨_, rfl⟩, ?_⟩⟩
  rw [List.size_toArray, ← rv.length, List.length_map, Rs.preSum_all]
  exact q
theorem rd_sumTK {K : PySem.W.Frag} {H0 H : Hp} {M : List Addr} {L : Rs.Led} {Q : VK} {a : Addr} {ns : List Int} {k : Int} (S : Rs.Hs H0 M H L) (m : (a, HO.tup (ns.map V.int)) ∈ L) (h : Q (.int (k + ns.sum)) H) : rSumTK K [.ref a] [.int k] H Q := ⟨a, ns, k, rfl, rfl, S.tup m, h⟩
end
end Xn

/-! Xn2: isinstance(e, (A, B, ..)) of a held exception -/
namespace Xn
open PySem PySem.Spec PySem.Calls PyProof.Rows L2 Rs Xc
theorem kitAny_no {K : PySem.W.Frag} {t : Value} : ∀ {us : List Value}, (∀ u ∈ us, PySem.W.kitOne K t u = some false) → PySem.W.kitAny K t us = some false
  | [], _ => rfl
  | u :: us, h => by
    have e := kitAny_no (us := us) fun v hv => h v (List.mem_cons_of_mem _ hv)
    unfold PySem.W.kitAny
    rw [h u List.mem_cons_self]
    exact e
def rIsXT (K : PySem.W.Frag) : List V → Hp → VK → Prop := fun xs H Q => ∃ (a C dx tp : Addr) (fs : List (Str × V)) (cs : List V) (us : List Value) (b : Bool), xs = [.ref a, .ref tp] ∧ H tp = some (.tup cs) ∧ Paired ClsV cs us ∧ Lk K C ∧ Held H a C dx fs ∧ PySem.W.kitAny K (.ref C) us = some b ∧ Q (.bl b) H
section
variable {X : Cx} {K : PySem.W.Frag} {H0 H : Hp} {M : List Addr} {L : Led} {Q : VK} {C : Addr}
theorem call_isXT : CallR X (.builtin "isinstance") (rIsXT X.K) := by
  intro pins s σ H xs us Q I r ⟨a, C, dx, tp, fs, cs, ws, b, e0, hT, k, l, hh, e, q⟩
  subst e0
  obtain ⟨u1, u2, rfl, r1, r2⟩ := vals2 r
  cases (show u2 = Value.ref tp from r2)
  cases (show u1 = Value.ref a from r1)
  obtain ⟨oe, od, mA, J, _, _⟩ := held_inst I hh
  obtain ⟨_, its, rv, o, h1, h2, n, h3⟩ := (show ObjOk X.prog X.w H s.heap tp (.tup cs) from I.hok tp _ hT)
  have e3 := ClsV.all k rv
  subst e3
  obtain ⟨oc, od2, dt, sl⟩ := o
  dsimp only at h2 h3
  subst h2 h3
  exact PySem.W.kia_tup (PySem.W.kitx_exc l.cl l.ga l.gg l.bx l.ha l.hn l.ht l.hm) I.kIn J h1 e (fun z => nomatch z) fun tk => ⟨.bl b, H, I.tok tk, rfl, q⟩
theorem rd_isXT {a dx tp : Addr} {fs : List (Str × V)} {cs : List V} {us : List Value} {b : Bool} (S : Hs H0 M H L) (m1 : (a, Exv a (.ref C) (some dx)) ∈ L) (m2 : (dx, HO.xd fs) ∈ L) (m3 : (tp, HO.tup cs) ∈ L) (l : Lk K C) (hc : Paired ClsV cs us) (e : PySem.W.kitAny K (.ref C) us = some b) (h : Q (.bl b) H) : rIsXT K [.ref a, .ref tp] H Q :=
  ⟨a, C, dx, tp, fs, cs, us, b, rfl, S.is _ m3, hc, l, ⟨S.is _ m1, S.is _ m2⟩, e, h⟩
end
end Xn

/-! Xp1: shown texts told apart -/
namespace Xp
open PySem L2 Rs PyProof.Rows
def ch (s : Str) : List Nat := s.cps.toList
theorem ch_app (a b : Str) : ch (a ++ b) = ch a ++ ch b := by
  unfold ch
  rw [Str.cps_append, Array.toList_append]
theorem ch_of (s : String) : ch (Str.ofString s) = s.toList.map Char.toNat := signs_ofString s
theorem ch_inj {a b : Str} (h : ch a = ch b) : a = b := by
  obtain ⟨x⟩ := a
  obtain ⟨y⟩ := b
  have : x = y := Array.toList_inj.mp h
  rw [this]
theorem pre_eq {P : Nat → Prop} : ∀ {a b r q : List Nat}, (∀ c ∈ a, P c) → (∀ c ∈ b, P c) → (∀ c t, r = c :: t → ¬ P c) → (∀ c t, q = c :: t → ¬ P c) → a ++ r = b ++ q → a = b ∧ r = q
  | [], [], r, q, _, _, _, _, h => ⟨rfl, h⟩
  | [], y :: b, r, q, _, hb, hr, _, h => absurd (hb y List.mem_cons_self) (hr y (b ++ q) h)
  | x :: a, [], r, q, ha, _, _, hq, h => absurd (ha x List.mem_cons_self) (hq x (a ++ r) h.symm)
  | x :: a, y :: b, r, q, ha, hb, hr, hq, h => by
    injection h with h1 h2
    obtain ⟨e1, e2⟩ := pre_eq (fun c hc => ha c (List.mem_cons_of_mem _ hc)) (fun c hc => hb c (List.mem_cons_of_mem _ hc)) hr hq h2
    exact ⟨by rw [h1, e1], e2⟩
/-! numbers -/
def ci (i : Int) : List Nat := ch (Str.ofString (toString i))
theorem ci_mem {i : Int} {c : Nat} (h : c ∈ ci i) : c = 45 ∨ (48 ≤ c ∧ c ≤ 57) := by
  by_cases z : c ≠ 45 ∧ (c < 48 ∨ 57 < c)
  · exact absurd h (int_text_free' c z i)
  · omega
theorem map_toNat : ∀ {a b : List Char}, a.map Char.toNat = b.map Char.toNat → a = b
  | [], [], _ => rfl
  | [], _ :: _, h => by simp at h
  | _ :: _, [], h => by simp at h
  | x :: a, y :: b, h => by
    simp only [List.map_cons, List.cons.injEq] at h
    rw [map_toNat h.2, Char.toNat_inj.mp h.1]
theorem ci_inj {i j : Int} (h : ci i = ci j) : i = j := by
  unfold ci at h
  rw [ch_of, ch_of] at h
  exact Int.repr_inj.mp (String.toList_inj.mp (map_toNat h))
theorem ci_ne (i : Int) : ci i ≠ [] := by
  intro h
  unfold ci at h
  rw [ch_of] at h
  have h : (toString i).toList = [] := List.map_eq_nil_iff.mp h
  have h : toString i = "" := String.toList_inj.mp h
  have h : i.repr = "" := h
  cases i with
  | ofNat n => exact Nat.repr_ne_empty h
  | negSucc n =>
    have h := congrArg String.length h
    simp only [Int.repr, String.length_append] at h
    have : ("-" : String).length = 1 := rfl
    rw [this] at h
    have : ("" : String).length = 0 := rfl
    omega
abbrev Q (c : Nat) : Prop := c ≠ 44 ∧ c ≠ 41
theorem ci_Q {i : Int} : ∀ c ∈ ci i, Q c := fun c h => by have := ci_mem h; constructor <;> omega
theorem nq44 {r : List Nat} : ∀ c t, (44 : Nat) :: r = c :: t → ¬ Q c := fun c t h z => by injection h with h; exact z.1 h.symm
theorem nq41 {r : List Nat} : ∀ c t, (41 : Nat) :: r = c :: t → ¬ Q c := fun c t h z => by injection h with h; exact z.2 h.symm
/-! texts of tuples -/
def Mt : List (List Nat) → List Nat
  | [] => [41]
  | x :: r => 44 :: 32 :: (x ++ Mt r)
def Bt : List (List Nat) → List Nat
  | [] => [41]
  | [x] => x ++ [44, 41]
  | x :: y :: r => x ++ Mt (y :: r)
theorem join_ch : ∀ (x : Str) (ts : List Str), ch ((Str.ofString ", ").join (x :: ts)) ++ [41] = ch x ++ Mt (ts.map ch)
  | x, [] => by rw [Str.join.eq_2]; rfl
  | x, y :: ts => by
    rw [Str.join.eq_3 _ _ _ (by simp), ch_app, ch_app, List.append_assoc, join_ch y ts]
    have : ch (Str.ofString ", ") = [44, 32] := by decide +kernel
    rw [this]
    simp [Mt]
theorem tuple_ch (ts : List Str) : ch (tupleText ts) = 40 :: Bt (ts.map ch) := by
  unfold tupleText
  rw [ch_app, ch_app]
  have e1 : ch (Str.ofString "(") = [40] := by decide +kernel
  have e2 : ch (Str.ofString ",)") = [44, 41] := by decide +kernel
  have e3 : ch (Str.ofString ")") = [41] := by decide +kernel
  rw [e1]
  match ts with
  | [] =>
    rw [if_neg (by decide), e3, Str.join.eq_1]
    rfl
  | [x] =>
    rw [if_pos (by rfl), e2, Str.join.eq_2]
    simp [Bt]
  | x :: y :: r =>
    rw [if_neg (by simp), e3, List.append_assoc, join_ch]
    simp [Bt]
theorem mt_free {r q : List Nat} : ∀ {xs ys : List Int}, Mt (xs.map ci) ++ r = Mt (ys.map ci) ++ q → xs = ys ∧ r = q
  | [], [], h => by
    injection h with _ h
    exact ⟨rfl, h⟩
  | [], y :: ys, h => by
    injection h with h _
    cases h
  | x :: xs, [], h => by
    injection h with h _
    cases h
  | x :: xs, y :: ys, h => by
    simp only [List.map_cons, Mt, List.cons_append, List.append_assoc, List.cons.injEq, true_and] at h
    have nq : ∀ (zs : List Int) (r : List Nat) c t, Mt (zs.map ci) ++ r = c :: t → ¬ Q c := fun zs r c t e => by
      cases zs with
      | nil => exact nq41 c t e
      | cons z zs => exact nq44 c t e
    obtain ⟨e1, e2⟩ := pre_eq ci_Q ci_Q (nq _ _) (nq _ _) h
    obtain ⟨e3, e4⟩ := mt_free e2
    exact ⟨by rw [ci_inj e1, e3], e4⟩
theorem ci_head {i : Int} {r : List Nat} {c : Nat} {t : List Nat} (h : ci i ++ r = c :: t) : c = 45 ∨ (48 ≤ c ∧ c ≤ 57) := by
  cases e : ci i with
  | nil => exact absurd e (ci_ne i)
  | cons x xs =>
    rw [e] at h
    injection h with h
    rw [← h]
    exact ci_mem (i := i) (by rw [e]; exact List.mem_cons_self)
/-- a text of a tuple of numbers ends where it ends -/
theorem bt_free {r q : List Nat} : ∀ {xs ys : List Int}, Bt (xs.map ci) ++ r = Bt (ys.map ci) ++ q → xs = ys ∧ r = q
  | [], [], h => by
    injection h with _ h
    exact ⟨rfl, h⟩
  | [], [y], h => by
    have h : 41 :: r = ci y ++ [44, 41] ++ q := h
    rw [List.append_assoc] at h
    have := ci_head h.symm
    omega
  | [], y :: z :: ys, h => by
    have h : 41 :: r = ci y ++ Mt ((z :: ys).map ci) ++ q := h
    rw [List.append_assoc] at h
    have := ci_head h.symm
    omega
  | [x], [], h => by
    have h : ci x ++ [44, 41] ++ r = 41 :: q := h
    rw [List.append_assoc] at h
    have := ci_head h
    omega
  | x :: w :: xs, [], h => by
    have h : ci x ++ Mt ((w :: xs).map ci) ++ r = 41 :: q := h
    rw [List.append_assoc] at h
    have := ci_head h
    omega
  | [x], [y], h => by
    have h : ci x ++ [44, 41] ++ r = ci y ++ [44, 41] ++ q := h
    rw [List.append_assoc, List.append_assoc] at h
    obtain ⟨e1, e2⟩ := pre_eq ci_Q ci_Q nq44 nq44 h
    injection e2 with _ e2
    injection e2 with _ e2
    exact ⟨by rw [ci_inj e1], e2⟩
  | [x], y :: z :: ys, h => by
    have h : ci x ++ [44, 41] ++ r = ci y ++ Mt ((z :: ys).map ci) ++ q := h
    rw [List.append_assoc, List.append_assoc] at h
    obtain ⟨_, e2⟩ := pre_eq ci_Q ci_Q nq44 nq44 h
    injection e2 with _ e2
    injection e2 with e2 _
    cases e2
  | x :: w :: xs, [y], h => by
    have h : ci x ++ Mt ((w :: xs).map ci) ++ r = ci y ++ [44, 41] ++ q := h
    rw [List.append_assoc, List.append_assoc] at h
    obtain ⟨_, e2⟩ := pre_eq ci_Q ci_Q nq44 nq44 h
    injection e2 with _ e2
    injection e2 with e2 _
    cases e2
  | x :: w :: xs, y :: z :: ys, h => by
    have h : ci x ++ Mt ((w :: xs).map ci) ++ r = ci y ++ Mt ((z :: ys).map ci) ++ q := h
    rw [List.append_assoc, List.append_assoc] at h
    obtain ⟨e1, e2⟩ := pre_eq ci_Q ci_Q nq44 nq44 h
    obtain ⟨e3, e4⟩ := mt_free (xs := w :: xs) (ys := z :: ys) e2
    exact ⟨by rw [ci_inj e1, e3], e4⟩
/-! papers of any kind, and proper ones -/
inductive Lf : PyData → Prop
  | int (i : Int) : Lf (.int i)
  | bl (b : Bool) : Lf (.bool b)
  | non : Lf .none
  | str : Lf (.str "0")
theorem lf_Q {d : PyData} (h : Lf d) : ∀ c ∈ ch d.shown, Q c := by
  cases h with
  | int i => rw [PyData.shown_int]; exact ci_Q
  | bl b => cases b <;> decide +kernel
  | non => decide +kernel
  | str => decide +kernel
theorem ne_ci {xs : List Nat} {i : Int} (h : xs.head? = some 84 ∨ xs.head? = some 70 ∨ xs.head? = some 78 ∨ xs.head? = some 39) (e : xs = ci i) : False := by
  cases z : ci i with
  | nil => exact ci_ne i z
  | cons c r =>
    have := ci_mem (i := i) (c := c) (by rw [z]; exact List.mem_cons_self)
    rw [e, z] at h
    simp only [List.head?_cons, Option.some.injEq] at h
    omega
theorem lf_int {d : PyData} {s : Int} (h : Lf d) (e : ch d.shown = ci s) : d = .int s := by
  cases h with
  | int i => rw [PyData.shown_int] at e; rw [ci_inj e]
  | bl b => cases b <;> exact (ne_ci (by decide +kernel) e).elim
  | non => exact (ne_ci (by decide +kernel) e).elim
  | str => exact (ne_ci (by decide +kernel) e).elim
theorem lf_bool {d : PyData} {f : Bool} (h : Lf d) (e : ch d.shown = ch (PyData.shown (.bool f))) : d = .bool f := by
  cases h with
  | int i => rw [PyData.shown_int] at e; cases f <;> exact (ne_ci (by decide +kernel) e.symm).elim
  | bl b => cases b <;> cases f <;> first | rfl | exact absurd e (by decide +kernel)
  | non => cases f <;> exact absurd e (by decide +kernel)
  | str => cases f <;> exact absurd e (by decide +kernel)
abbrev nums (zs : List Int) : List PyData := zs.map .int
abbrev proper (s n : Int) (f : Bool) (sp : List Int) : PyData := .tuple [.int s, .int n, .bool f, .tuple (nums sp)]
inductive OD : PyData → Prop
  | four (x t : PyData) (n : Int) (zs : List Int) (hx : Lf x) (ht : Lf t) : OD (.tuple [x, .int n, t, .tuple (nums zs)])
  | fourL (x t : PyData) (n : Int) (zs : List PyData) (hx : Lf x) (ht : Lf t) : OD (.tuple [x, .int n, t, .list zs])
  | three (a b : Int) (t : PyData) (ht : Lf t) : OD (.tuple [.int a, .int b, t])
  | five (a b : Int) (f : Bool) (zs : List Int) (z : PyData) : OD (.tuple [.int a, .int b, .bool f, .tuple (nums zs), z])
  | lst (xs : List PyData) : OD (.list xs)
  | non : OD .none
  | int (i : Int) : OD (.int i)
  | word : OD (.str "piece")
  | dct : OD (.dict [])
theorem nums_ch (zs : List Int) : ch (PyData.shown (.tuple (nums zs))) = 40 :: Bt (zs.map ci) := by
  rw [PyData.shown.eq_6, tuple_ch, shownAll_eq_map]
  unfold nums
  rw [List.map_map, List.map_map]
  rfl
theorem proper_ch (s n : Int) (f : Bool) (sp : List Int) : ch (proper s n f sp).shown = 40 :: (ci s ++ 44 :: 32 :: (ci n ++ 44 :: 32 :: (ch (PyData.shown (.bool f)) ++ 44 :: 32 :: (40 :: (Bt (sp.map ci) ++ [41]))))) := by
  rw [PyData.shown.eq_6, tuple_ch]
  simp only [PyData.shownAll, List.map_cons, List.map_nil, Bt, Mt, nums_ch, PyData.shown_int, List.cons_append]
  rfl
theorem textFrom_ch : ∀ (ts : List Str) (k : Nat) (x : Str), ∃ r, ch (textFrom k x ts) = ch x ++ r
  | [], k, x => ⟨[], by rw [textFrom.eq_1]; simp⟩
  | t :: ts, k, x => by
    obtain ⟨r, h⟩ := textFrom_ch ts (k + 1) (x ++ Str.ofString (if k > 0 then ", " else "") ++ t)
    refine ⟨ch (Str.ofString (if k > 0 then ", " else "")) ++ ch t ++ r, ?_⟩
    rw [textFrom.eq_2, h, ch_app, ch_app]
    simp
theorem list_ch (xs : List PyData) : ∃ r, ch (PyData.shown (.list xs)) = 91 :: r := by
  rw [PyData.shown.eq_5]
  unfold listText
  obtain ⟨r, h⟩ := textFrom_ch (PyData.shownAll xs) 0 (Str.ofString "[")
  have e : ch (Str.ofString "[") = [91] := by decide +kernel
  rw [ch_app, h, e]
  exact ⟨_, rfl⟩
theorem OD.inj {d : PyData} {s n : Int} {f : Bool} {sp : List Int} (h : OD d) (e : d.shown = (proper s n f sp).shown) : d = proper s n f sp := by
  have e := congrArg ch e
  rw [proper_ch] at e
  have bq : ∀ c ∈ ch (PyData.shown (.bool f)), Q c := lf_Q (.bl f)
  cases h with
  | four x t m zs hx ht =>
    rw [PyData.shown.eq_6, tuple_ch] at e
    simp only [PyData.shownAll, List.map_cons, List.map_nil, Bt, Mt, nums_ch, PyData.shown_int, List.cons_append, List.cons.injEq, true_and] at e
    obtain ⟨e1, e⟩ := pre_eq (lf_Q hx) ci_Q nq44 nq44 e
    simp only [List.cons.injEq, true_and] at e
    obtain ⟨e2, e⟩ := pre_eq (a := ci m) ci_Q ci_Q nq44 nq44 e
    simp only [List.cons.injEq, true_and] at e
    obtain ⟨e3, e⟩ := pre_eq (lf_Q ht) bq nq44 nq44 e
    simp only [List.cons.injEq, true_and] at e
    obtain ⟨e4, _⟩ := bt_free e
    rw [lf_int hx e1, ci_inj e2, lf_bool ht e3, e4]
  | fourL x t m zs hx ht =>
    rw [PyData.shown.eq_6, tuple_ch] at e
    simp only [PyData.shownAll, List.map_cons, List.map_nil, Bt, Mt, PyData.shown_int, List.cons_append, List.cons.injEq, true_and] at e
    obtain ⟨e1, e⟩ := pre_eq (lf_Q hx) ci_Q nq44 nq44 e
    simp only [List.cons.injEq, true_and] at e
    obtain ⟨e2, e⟩ := pre_eq (a := ci m) ci_Q ci_Q nq44 nq44 e
    simp only [List.cons.injEq, true_and] at e
    obtain ⟨e3, e⟩ := pre_eq (lf_Q ht) bq nq44 nq44 e
    simp only [List.cons.injEq, true_and] at e
    obtain ⟨r, hr⟩ := list_ch zs
    rw [hr] at e
    injection e with e _
    cases e
  | three a b t ht =>
    rw [PyData.shown.eq_6, tuple_ch] at e
    simp only [PyData.shownAll, List.map_cons, List.map_nil, Bt, Mt, PyData.shown_int, List.cons_append, List.cons.injEq, true_and] at e
    obtain ⟨e1, e⟩ := pre_eq (a := ci a) ci_Q ci_Q nq44 nq44 e
    simp only [List.cons.injEq, true_and] at e
    obtain ⟨e2, e⟩ := pre_eq (a := ci b) ci_Q ci_Q nq44 nq44 e
    simp only [List.cons.injEq, true_and] at e
    obtain ⟨e3, e⟩ := pre_eq (lf_Q ht) bq nq41 nq44 e
    simp at e
  | five a b k zs z =>
    rw [PyData.shown.eq_6, tuple_ch] at e
    simp only [PyData.shownAll, List.map_cons, List.map_nil, Bt, Mt, nums_ch, PyData.shown_int, List.cons_append, List.cons.injEq, true_and] at e
    obtain ⟨e1, e⟩ := pre_eq (a := ci a) ci_Q ci_Q nq44 nq44 e
    simp only [List.cons.injEq, true_and] at e
    obtain ⟨e2, e⟩ := pre_eq (a := ci b) ci_Q ci_Q nq44 nq44 e
    simp only [List.cons.injEq, true_and] at e
    obtain ⟨e3, e⟩ := pre_eq (lf_Q (.bl k)) bq nq44 nq44 e
    simp only [List.cons.injEq, true_and] at e
    obtain ⟨_, e⟩ := bt_free e
    simp at e
  | lst xs =>
    obtain ⟨r, hr⟩ := list_ch xs
    rw [hr] at e
    injection e with e _
    cases e
  | non =>
    have z : (ch (PyData.shown (.none))).head? = some 78 := by decide +kernel
    rw [e] at z
    cases z
  | int i =>
    rw [PyData.shown_int] at e
    have := ci_head (i := i) (r := []) (by rw [List.append_nil]; exact e)
    omega
  | word =>
    have z : (ch (PyData.shown (.str "piece"))).head? = some 39 := by decide +kernel
    rw [e] at z
    cases z
  | dct =>
    have z : (ch (PyData.shown (.dict []))).head? = some 123 := by decide +kernel
    rw [e] at z
    cases z
end Xp

/-! Xp2: repr of lists and tuples whose items may be dicts, of a dict -/
namespace Xp
open PySem PySem.Spec PySem.Calls PyProof.Rows L2 Rs Xc
def rReprT (K : PySem.W.Frag) : List V → Hp → VK → Prop := fun xs H Q => ∃ (p : Addr) (vs : List V) (ds : List PyData), xs = [.ref p] ∧ SqT K H p vs ∧ TzA K H vs ds ∧ (PyData.tuple ds).shown.length ≤ sizeLine ∧ PyData.depthAll ds ≤ 30 ∧ Q (.str (PyData.tuple ds).shown) H
def rReprE : List V → Hp → VK → Prop := fun xs H Q => ∃ a : Addr, xs = [.ref a] ∧ H a = some (.dK []) ∧ Q (.str (PyData.dict []).shown) H
def rReprU (K : PySem.W.Frag) : List V → Hp → VK → Prop := fun xs H Q => rRepr K xs H Q ∨ rReprE xs H Q ∨ rReprL K xs H Q ∨ rReprT K xs H Q
section
variable {X : Cx}
theorem call_reprT {k : Nat} (st : Stat X.K) (c : Clr X.A) (hr : Room k X.A) : CallR X (.builtin "repr") (rReprT X.K) := by
  intro pins s σ H xs us Q I r h
  obtain ⟨p, vs, ds, rfl, hs, hq, sw, dp, q⟩ := h
  cases r with
  | cons r1 r2 =>
    cases r2
    rename_i u
    cases (show u = Value.ref p from r1)
    obtain ⟨its, rv, ⟨o, ho, hc, n, hd⟩, _⟩ := I.tuple hs
    have un := hr.units
    obtain ⟨as, rd⟩ := hq.reads I rv
    have sz : ∀ d ∈ ds, d.shown.length ≤ sizeLine := fun d hm => by
      have z := tupleText_mem_le (ts := PyData.shownAll ds) (shown_of hm)
      simp only [PyData.shown] at sw
      omega
    obtain ⟨bs, hb, rk⟩ := hq.shows (n := PyData.depthAll ds) I st (by omega) rv sz (Nat.le_refl _)
    have own : Reads s.heap (.ref p) (.tuple ds) as := Reads.tuple ho hc hd (by simpa using rd)
    have hna : p ∉ bs := fun hm => by
      obtain ⟨d', as', r', hd'⟩ := hb p hm
      have e := (PyProof.Rows.reads_det (fun _ _ e _ => e) own r').1
      rw [e] at hd'
      simp only [PyData.depth] at hd'
      omega
    simp only [PyData.shown] at sw q
    refine call_repr_slot (by omega) ⟨o, ho, hc⟩ F.slot_tuple_repr ?_
    exact call_tuple_reprK ho hc hd hna (by simpa using rk) c (fun b _ => Clear.nil b) (by show X.A.units + 1 + (50 + 1) < cLine; omega) (fun _ _ e => e) (fun h' t2 tk2 kp => ⟨_, _, rfl, ⟨.str _, H, I.kept kp, ⟨t2, rfl⟩, q⟩⟩) sw
theorem call_reprE {k : Nat} (c : Clr X.A) (hr : Room k X.A) : CallR X (.builtin "repr") rReprE := by
  intro pins s σ H xs us Q I r h
  obtain ⟨a, rfl, ha, q⟩ := h
  cases r with
  | cons r1 r2 =>
    cases r2
    rename_i u
    cases (show u = Value.ref a from r1)
    obtain ⟨_, ns, vs, kv', o, es, ep, e1, e2, e3, _, e5, _⟩ := dk_of I.hok ha
    obtain ⟨r1, r2⟩ := plKv_reads (h := s.heap) (kv := []) (kds := []) .nil kv' e5
    have rd : Reads s.heap (.ref a) (.dict []) ([a] ++ [] ++ []) := Reads.dict (as := []) (bs := []) e1 e2.1 e3 r1 r2
    have un := hr.units
    exact repr_of_reads' (s := s) rd (by decide +kernel) (fun _ hm => by
      have z : sysModules = a := by simpa using hm
      rw [z] at ns
      simp at ns) c (by simp only [PyData.depth, PyData.depthKv]; omega) (fun _ _ e => e) (fun h' t tk kp => ⟨.str _, H, I.kept kp, ⟨t, rfl⟩, q⟩) (by decide +kernel)
theorem call_reprU {k : Nat} (st : Stat X.K) (c : Clr X.A) (hr : Room k X.A) : CallR X (.builtin "repr") (rReprU X.K) := by
  intro pins s σ H xs us Q I r h
  rcases h with h | h | h | h
  · exact call_repr c hr pins s σ H xs us Q I r h
  · exact call_reprE c hr pins s σ H xs us Q I r h
  · exact call_reprL st c hr pins s σ H xs us Q I r h
  · exact call_reprT st c hr pins s σ H xs us Q I r h
end
end Xp

/-! Xq1: methods by the object's own class, called by keywords -/
namespace Xq
open PySem PySem.Spec PySem.Calls PyProof.Rows L2 Xh Xj Rs
/-- what a call of the method f of x with keywords keeps -/
def CallsKw (P : Program) (w : World) (K : PySem.W.Frag) (mg : Str → Option Value) (base : Heap) (CX : CXT) (k : Nat) (f : Addr) (x : V) (ks : List Str) (H : Hp) (zs : List V) (Q : VK) (E : XK) : Prop :=
  ∃ (fd : FuncData) (ps : List Str) (sp : Sp) (g : List Value → List Value → List Value) (gV : List V → List V → List V), FnOk P w K mg base CX k f fd ps sp ∧ KBn K fd ps 1 ks g gV ∧ sp (gV [x] zs) H Q E
section
variable {X : Cx} {CX : CXT} {k j : Nat} {ks : List Str} {E : XK} {m : Str} {pos apos : Pos} {o : Expr} {kws : List Keyword} {te : TE} {tk : TA}
def tMethDK (X : Cx) (CX : CXT) (k : Nat) (m : Str) (ks : List Str) (te : TE) (tk : TA) (E : XK) : TE := fun σ H Q => te σ H fun x H1 => ∃ a C dx fs f, x = .ref a ∧ H1 a = some (.ins C dx fs) ∧ Cls X.K C ∧ Meth X.K C m f ∧ fs.lookup m = none ∧ tk σ H1 fun zs H2 => zs.length = ks.length ∧ CallsKw X.prog X.w X.K X.mg X.base CX k f x ks H2 zs Q E
theorem pe_methDK {pl : Sem Bool} (he : PE X o te) (hkw : PK X kws tk) (hr : Room j X.A) (hk : k ≤ j) (hx : Passes CX X E)
    (hall : (backToKw pos (keywordEach kws X.env)).all (·.1.isSome) = true := by rfl) (hks : (backToKw pos (keywordEach kws X.env)).filterMap (·.1) = ks := by rfl)
    (ht : eval (.Call (.Attribute o m apos) [] kws pos) X.env = (do
      let ov ← eval o X.env
      standAt apos.atName
      let (f, first) ← holding [ov] (getMethod ov m pl)
      callWith pos f first (backTo pos (starEach [] X.env)) (backToKw pos (keywordEach kws X.env))) := by rfl) :
    PE X (.Call (.Attribute o m apos) [] kws pos) (tMethDK X CX k m ks te tk E) := by
  constructor
  intro pins s σ H Q I h
  refine PySem.W.methodCall_KW (pl := pl) (thn (he.run pins s σ H _ I h) ?_) ht
  rintro u s1 ⟨x, H1, I1, rx, a, C, dx, fs, f, ex, ea, c, hm, l, q⟩
  subst ex
  obtain rfl : u = Value.ref a := rx
  refine getmeth_ok I1 ea c hm l ?_
  have np : ((backTo pos (starEach [] X.env)).any (·.1) || (backToKw pos (keywordEach kws X.env)).any (·.1.isNone)) = false := by
    have z : ∀ l : List (Option Str × Sem Value), l.all (·.1.isSome) = true → l.any (·.1.isNone) = false := by
      intro l hl
      induction l with
      | nil => rfl
      | cons q l ih =>
        simp only [List.all_cons, Bool.and_eq_true] at hl
        simp only [List.any_cons, ih hl.2, Bool.or_false]
        cases e : q.1 with
        | none => rw [e] at hl; exact absurd hl.1 (by decide)
        | some _ => rfl
    rw [z _ hall]; rfl
  refine PySem.W.callWith_KW0 (first := [.ref a]) (h₀ := X.base) I1.ok.mod.kin hm.kp hall ?_ np
  refine thn (hkw.run pos pins s1 σ H1 _ I1 q) ?_
  rintro ws s2 ⟨zs, H2, I2, rz, l2, fd, ps, sp, g, gV, F, hb, q2⟩
  refine ⟨I2.kIn, ?_⟩
  rw [hks]
  exact run_fnN (us := [.ref a]) (vs := [.ref a]) F (hr.mono hk) hb hx I2 (.cons rfl .nil) rz rfl l2 q2
theorem rd_methDK {σ : L2.St} {H : Hp} {Q : VK} (h : te σ H fun x H1 => ∃ a C dx fs f, x = .ref a ∧ H1 a = some (.ins C dx fs) ∧ Cls X.K C ∧ Meth X.K C m f ∧ fs.lookup m = none ∧ tk σ H1 fun zs H2 => zs.length = ks.length ∧ CallsKw X.prog X.w X.K X.mg X.base CX k f x ks H2 zs Q E) : tMethDK X CX k m ks te tk E σ H Q := h
end
end Xq

/-! Xr1: Python's own less of data that are alike (KE.DataCmp) -/
namespace Xr
open PySem PySem.Spec PyProof.Rows L2
/-- x < y, both data that can be compared place by place -/
def rLtD (K : PySem.W.Frag) : R2 := fun x y H Q => ∃ d e, Dp K H x d ∧ Dp K H y e ∧ PySem.W.alike d e = true ∧ d ≠ .none ∧ d.depth ≤ 60 ∧ Q (.bl (PySem.W.dataLt d e)) H
theorem op_ltD {X : Cx} (hu : X.A.units + 64 < cLine) : OpR X (compareOp .Lt) (rLtD X.K) := by
  intro pins s σ H x y v u Q I rx ry h
  obtain ⟨d, e, hd, he, ha, hn, dp, q⟩ := h
  obtain ⟨as, r1⟩ := Dp.reads I d x v hd rx
  obtain ⟨bs, r2⟩ := Dp.reads I e y u he ry
  have hm : min d.depth e.depth ≤ d.depth := Nat.min_le_left _ _
  exact PySem.W.lt_data r1 r2 ha hn (by omega) ⟨.bl _, H, I, rfl, q⟩
end Xr

/-! Xr2: sep.join(list of texts) -/
namespace Xr
open PySem PySem.Spec PyProof.Rows L2
def rJoin (K : PySem.W.Frag) : V → List V → Hp → VK → Prop := fun x vs H Q => ∃ (sep : Str) (p : Addr) (ts : List Str), x = .str sep ∧ vs = [.ref p] ∧ SqL K H p (ts.map V.str) ∧ JoinOk sep ts = true ∧ Q (.str (Txt.join sep ts)) H
theorem vals_strs : ∀ {ts : List Str} {its : List Value}, Vals (ts.map V.str) its → ∃ l : List (Str × Tok), its = strValues l ∧ l.map (·.1) = ts
  | [], _, h => by
    cases h
    exact ⟨[], rfl, rfl⟩
  | x :: ts, _, h => by
    cases h with
    | cons r rs =>
      obtain ⟨t, rfl⟩ := (show ∃ t, _ = Value.str x t from r)
      obtain ⟨l, e, e2⟩ := vals_strs rs
      subst e
      exact ⟨(x, t) :: l, rfl, by simp [e2]⟩
theorem mt_join {X : Cx} : MtR X "str.join" (rJoin X.K) := by
  intro pins s σ H x vs v us Q I rx rv h
  obtain ⟨sep, p, ts, rfl, rfl, hq, ok, q⟩ := h
  obtain ⟨t, rfl⟩ := (show ∃ t, v = Value.str sep t from rx)
  obtain ⟨u, rfl, ru⟩ := rv.one
  cases ru
  obtain ⟨its, r, pl, hz⟩ := I.list hq
  obtain ⟨l, rfl, e⟩ := vals_strs r
  subst e
  have ok' := ok
  unfold JoinOk at ok
  rw [Bool.not_eq_true'] at ok
  refine call_meets PySem.F.slot_str_join (typeIs_str _ _ _) PySem.F.entry_str_join (PySem.F.args_str_join_2 _ _) (meets_str_join_list sep t p l ok) ⟨pl.isList, post_join l ⟨joinFit_length ok, fun t' k => ?_⟩⟩
  exact ⟨.str _, H, I.tok _, ⟨t', rfl⟩, q⟩
end Xr

local macro_rules | `(tactic| walk_at "mem") => `(tactic| repeat (with_reducible first | exact List.mem_cons_self | apply List.mem_cons_of_mem))
local macro_rules | `(tactic| walk_at "chg") => `(tactic| repeat (with_reducible first | exact Rs.Chg.here | apply Rs.Chg.there))
local macro_rules | `(tactic| walk_at "chgF") => `(tactic| (intro o'; walk_at "chg"))
local macro_rules | `(tactic| walk_at "own") => `(tactic| first | (apply Or.inl; assumption) | (apply Or.inr; simp))
local macro_rules | `(tactic| walk_at "size") => `(tactic| first | exact Rs.sz (Nat.le_of_ble_eq_true rfl) | (refine Rs.sz ?_; omega) | (refine Rs.sz ?_; simp; done) | (refine Rs.sz ?_; simp; omega))
local macro_rules | `(tactic| walk_at "size1") => `(tactic| first | exact Rs.sz' (Nat.le_of_ble_eq_true rfl) | (refine Rs.sz' ?_; omega) | (refine Rs.sz' ?_; simp; done) | (refine Rs.sz' ?_; simp; omega))
local macro_rules | `(tactic| walk_at "val") => `(tactic| first | assumption | rfl)
local macro_rules | `(tactic| walk_at "put") => `(tactic| first | assumption | rfl)
local macro_rules | `(tactic| walk_at "rd1") => `(tactic| first
  | with_reducible refine Rs.rd_seq ?_
  | with_reducible refine Rs.rd_asg ?_
  | ((with_reducible refine' Rs.rd_var ?e ?_); (case e => rfl))
  | with_reducible refine Rs.rd_c ?_
  | with_reducible refine Rs.rd_op ?_
  | with_reducible refine Rs.rd_I0 ?_
  | with_reducible refine Rs.rd_cons ?_
  | with_reducible refine Rs.rd_nil ?_
  | ((with_reducible refine' Rs.rd_name ?e ?_); (case e => (dsimp only [List.set]; try rfl)))
  | with_reducible refine Rs.rd_ifS ?_
  | with_reducible refine Rs.rd_test ?_
  | with_reducible refine Rs.rd_bl ?_
  | with_reducible refine Rs.rd_ret ?_
  | with_reducible refine Rs.rd_retN ?_
  | with_reducible refine Rs.rd_drop ?_
  | with_reducible refine Rs.rd_next ?_
  | with_reducible refine Rs.rd_eqI ?_
  | with_reducible refine Rs.rd_neI ?_
  | with_reducible refine Rs.rd_eqS ?_
  | with_reducible refine Rs.rd_neS ?_
  | with_reducible refine Rs.rd_eqB ?_
  | with_reducible refine Rs.rd_par ?_
  | with_reducible refine Rs.rd_par3 ?_
  | ((with_reducible refine Rs.rd_two ?_); dsimp only [List.set])
  | ((with_reducible refine Rs.rd_three ?_); dsimp only [List.set])
  | with_reducible refine Rs.rd_un ?_
  | with_reducible refine Rs.rd_U ?_
  | with_reducible refine Rs.rd_tB ?_
  | with_reducible refine Rs.rd_and ?_
  | with_reducible refine Rs.rd_or ?_
  | with_reducible refine Rs.rd_not ?_
  | with_reducible refine Rs.rd_andV ?_
  | with_reducible refine Rs.rd_orV ?_
  | with_reducible refine Rs.rd_notV ?_
  | with_reducible refine Rs.rd_if ?_
  | with_reducible refine Rs.rd_tup ?_
  | with_reducible refine Rs.rd_lst ?_
  | with_reducible refine Rs.rd_cb ?_
  | with_reducible refine Rs.rd_call0 ?_
  | with_reducible refine Rs.rd_call ?_
  | with_reducible refine Rs.rd_callN ?_
  | with_reducible refine Rs.rd_chain ?_
  | with_reducible refine Rs.rd_bits ?_
  | with_reducible refine Rs.rd_int1 ?_
  | with_reducible refine Rs.rd_int2 ?_
  | with_reducible refine Rs.rd_dget ?_
  | with_reducible refine Rs.rd_dput ?_
  | with_reducible refine Rs.rd_slice3 ?_
  | with_reducible refine Rs.rd_sl ?_
  | with_reducible refine Rs.rd_noPart ?_
  | with_reducible refine Rs.rd_part ?_
  | ((with_reducible refine' Rs.rd_mod ?c ?_); (case c => omega); intro r e h0 h1)
  | ((with_reducible refine' Rs.rd_div ?c ?d ?_); (case c => omega); (case d => omega))
  | ((with_reducible refine' Rs.rd_mulL ?c ?d ?_); (case c => omega); (case d => omega))
  | ((with_reducible refine' Rs.rd_mulR ?c ?d ?_); (case c => omega); (case d => omega))
  | ((with_reducible refine' Rs.rd_pow ?c ?d ?f ?_); (case c => omega); (case d => omega); (case f => omega))
  | ((with_reducible refine' Rs.rd_newL (by assumption) ?z ?_); (case z => walk_at "size"); intro p H hp S)
  | ((with_reducible refine' Rs.rd_newT (by assumption) ?z ?_); (case z => walk_at "size"); intro p H hp S)
  | ((with_reducible refine' Rs.rd_newO (by assumption) ?_); intro p H hp S)
  | ((with_reducible refine' Rs.rd_ixL (by assumption) ?m ?e ?_); (case m => (walk_at "mem"; done)); (case e => first | rfl | assumption))
  | ((with_reducible refine' Rs.rd_ixT (by assumption) ?m ?e ?_); (case m => (walk_at "mem"; done)); (case e => first | rfl | assumption))
  | ((with_reducible refine' Rs.rd_len (by assumption) ?m ?_); (case m => (walk_at "mem"; done)))
  | ((with_reducible refine' Rs.rd_lenT (by assumption) ?m ?_); (case m => (walk_at "mem"; done)))
  | ((with_reducible refine' Rs.rd_getS (by assumption) ?m ?e ?_); (case m => (walk_at "mem"; done)); (case e => walk_at "val"))
  | ((with_reducible refine' Rs.rd_putS (by assumption) ?c ?m ?z ?e ?_); (case c => (walk_at "chg"; done)); (case m => walk_at "own"); (case z => walk_at "size1"); (case e => walk_at "put"); intro H S)
  | ((with_reducible refine' Rs.gt_ref (by assumption) ?m ?e ?_); (case m => (walk_at "mem"; done)); (case e => rfl))
  | with_reducible refine Rs.gt_cons ?_
  | with_reducible refine Rs.gt_nil ?_
  | with_reducible refine Rs.rd_for ?_
  | with_reducible refine Rs.rd_rng1 ?_
  | with_reducible refine Rs.rd_rng2 ?_
  | ((with_reducible refine' Rs.rd_rng1v ?c ?d ?_); (case c => omega); (case d => omega))
  | with_reducible refine Rs.rd_iList ?_
  | with_reducible refine Rs.rd_iTup ?_
  | ((with_reducible refine' Rs.rd_lstI (by assumption) ?m ?_); (case m => (walk_at "mem"; done)))
  | ((with_reducible refine' Rs.rd_tupI (by assumption) ?m ?_); (case m => (walk_at "mem"; done)))
  | with_reducible refine Rs.rd_wl ?_
  | ((with_reducible refine' Rs.rd_disp (by assumption) ?_); intro p H hp S)
  | with_reducible refine Rs.rd_prs ?_
  | with_reducible refine Rs.rd_prs0 ?_
  | ((with_reducible refine' Rs.rd_dspEnd (by assumption) ?c ?m ?e ?z ?f ?_); (case c => (walk_at "chg"; done)); (case m => walk_at "own"); (case e => rfl); (case z => exact Nat.le_of_ble_eq_true rfl); (case f => walk_at "put"); intro H S)
  | ((with_reducible refine' Rs.rd_isi (by assumption) ?e ?_); (case e => first | exact Rs.kit_int _ | exact Rs.kit_bool _ | exact Rs.kit_list _ | exact Rs.kit_tuple _ | exact Rs.kit_str _))
  | with_reducible refine Rs.rd_iteT ?_
  | with_reducible refine Rs.rd_nT ?_
  | with_reducible refine Rs.rd_nF ?_
  | with_reducible refine Rs.rd_iteF ?_)
local macro_rules | `(tactic| walk_at "end") => `(tactic| first
  | assumption
  | omega
  | exact Rs.Hs.get (by assumption) (by walk_at "mem"; done)
  | exact Rs.Hs.same (by assumption)
  | (intro b o e hb; exact Rs.Hs.old1 (by assumption) e hb)
  | rfl)
local macro_rules | `(tactic| walk_at "rd") => `(tactic| repeat (walk_at "rd1"))
local macro_rules | `(tactic| walk_at "st") => `(tactic| (refine Rs.rd_start ?_; dsimp only [Rs.stV, List.head?, List.tail]))
local macro_rules | `(tactic| walk_at "noat") => `(tactic| assumption)
local macro_rules | `(tactic| walk_at "cls") => `(tactic| assumption)
local macro_rules | `(tactic| walk_at "fv") => `(tactic| rfl)
local macro_rules | `(tactic| walk_at "sub") => `(tactic| repeat (with_reducible first | exact List.Sublist.refl _ | exact List.nil_sublist _ | apply List.Sublist.cons_cons | apply List.Sublist.cons))
local macro_rules | `(tactic| walk_at "rd1") => `(tactic| first
  | with_reducible refine Rs.rd_fld ?_
  | ((with_reducible refine' Rs.rd_fldV (by assumption) ?m ?c ?n ?e ?_); (case m => (walk_at "mem"; done)); (case c => walk_at "cls"); (case n => walk_at "noat"); (case e => walk_at "fv"))
  | with_reducible refine Rs.rd_sfld ?_
  | ((with_reducible refine' Rs.rd_sfldV (by assumption) ?ch ?o ?c ?n ?z ?e ?_); (case ch => (walk_at "chg"; done)); (case o => walk_at "own"); (case c => walk_at "cls"); (case n => walk_at "noat"); (case z => walk_at "fvz"); (case e => walk_at "fput"); intro H S)
  | with_reducible refine Rs.rd_meth ?_
  | ((with_reducible refine' Rs.rd_methV (by assumption) ?m ?e ?_); (case m => (walk_at "mem"; done)); (case e => walk_at "fv"))
  | with_reducible refine Rs.rd_bm ?_
  | with_reducible refine Rs.rd_bm0 ?_
  | ((with_reducible refine' Rs.rd_tyL (by assumption) ?m ?_); (case m => (walk_at "mem"; done)))
  | ((with_reducible refine' Rs.rd_app (by assumption) ?c ?o ?z ?_); (case c => (walk_at "chg"; done)); (case o => walk_at "own"); (case z => walk_at "size1"); intro H S)
  | ((with_reducible refine' Rs.rd_sumI (by assumption) ?m ?e ?_); (case m => (walk_at "mem"; done)); (case e => rfl))
  | ((with_reducible refine' Rs.rd_slL (by assumption) ?m ?e ?_); (case m => (walk_at "mem"; done)); (case e => rfl); intro p H hp S)
  | ((with_reducible refine' Rs.rd_catL (by assumption) ?m ?n ?z ?_); (case m => (walk_at "mem"; done)); (case n => (walk_at "mem"; done)); (case z => walk_at "size"); intro p H hp S)
  | with_reducible refine Rs.rd_revL ?_
  | ((with_reducible refine' Rs.rd_revV (by assumption) ?m ?_); (case m => (walk_at "mem"; done)); intro p H hp S)
  | with_reducible refine Rs.rd_isN ?_
  | with_reducible refine Rs.rd_notN ?_
  | ((with_reducible refine' Rs.gt_unl (by assumption) ?m ?e ?_); (case m => (walk_at "mem"; done)); (case e => rfl))
  | with_reducible refine Rs.gt_sub ?_
  | with_reducible refine Rs.gt_slc ?_
  | with_reducible refine Rs.rd_lc ?_)
local macro_rules | `(tactic| walk_at "cut") => `(tactic| repeat' (first | walk_at "rd1" | (refine Rs.rd_dec ?_ ?_ <;> intro hc)))
local macro_rules | `(tactic| walk_at "fvz") => `(tactic| exact Nat.le_of_ble_eq_true rfl)
local macro_rules | `(tactic| walk_at "fput") => `(tactic| rfl)
local macro_rules | `(tactic| walk_at "rd1") => `(tactic| with_reducible refine Rs.rd_nn ?_)
local macro_rules | `(tactic| walk_at "rd1") => `(tactic| first
  | ((with_reducible refine' Rs.rd_aug ?e ?_); (case e => rfl))
  | ((with_reducible refine Rs.rd_ipI ?_); dsimp only [List.set]))
local macro_rules | `(tactic| walk_at "lc") => `(tactic| (walk_at "rd"; dsimp only [L2.wipe, List.map, List.set]; refine ⟨rfl, ?_⟩; walk_at "rd"))
local macro_rules | `(tactic| walk_at "rd1") => `(tactic| first
  | ((with_reducible refine' Rs.rd_sumT (by assumption) ?m ?e ?_); (case m => (walk_at "mem"; done)); (case e => rfl))
  | with_reducible refine Rs.rd_cbk ?_
  | ((with_reducible refine' Rs.rd_sumK (by assumption) ?m ?e ?_); (case m => (walk_at "mem"; done)); (case e => rfl))
  | ((with_reducible refine' Rs.rd_maxDT (by assumption) ?m ?e ?_); (case m => (walk_at "mem"; done)); (case e => rfl))
  | with_reducible refine Rs.rd_slT3 ?_)
local macro_rules | `(tactic| walk_at "rd1") => `(tactic| with_reducible refine Rs.rd_yes ?_)
local macro_rules | `(tactic| walk_at "if0") => `(tactic| (first | (show if false = true then _ else _) | skip); walk_at "rd")
local macro_rules | `(tactic| walk_at "if1") => `(tactic| (first | (show if true = true then _ else _) | skip); walk_at "rd")
local macro_rules | `(tactic| walk_at "rd1") => `(tactic| first
  | ((with_reducible refine' Rs.rd_clear (by assumption) ?c ?o ?_); (case c => (walk_at "chg"; done)); (case o => walk_at "own"); intro H S))
local macro_rules | `(tactic| walk_at "led") => `(tactic| (intro a'; simp only [Rs.cn_app, Rs.cn_cons, Rs.cn_nil, List.append_assoc, List.cons_append, List.nil_append, List.reverse_nil, List.map_nil]; omega))
local macro_rules | `(tactic| walk_at "mem1") => `(tactic| (with_reducible first | exact List.mem_cons_self | assumption | (apply List.mem_cons_of_mem; walk_at "mem1") | (apply List.mem_append_right; walk_at "mem1") | (apply List.mem_append_left; walk_at "mem1")))
local macro_rules | `(tactic| walk_at "mem") => `(tactic| walk_at "mem1")
local macro_rules | `(tactic| walk_at "rd1") => `(tactic| first
  | with_reducible refine Rs.rd_enum ?_
  | with_reducible refine Rs.rd_methK ?_
  | ((with_reducible refine' Rs.rd_enI (by assumption) ?m ?_); (case m => (walk_at "mem"; done))))
local macro_rules | `(tactic| walk_at "chg1") => `(tactic| (with_reducible first | exact Rs.Chg.here | (apply Rs.Chg.there; walk_at "chg1") | (apply Rs.Chg.appR; walk_at "chg1") | (apply Rs.Chg.appL; walk_at "chg1")))
local macro_rules | `(tactic| walk_at "chg") => `(tactic| walk_at "chg1")
namespace K05
open PySem L2 Rs Xc Xd Xg Xh Xi Xj Xk Xl Xm Xq Xr
structure CalMF (K : PySem.W.Frag) (x qual : Str) (st : Stmt) (f : Addr) (fd : FuncData) : Prop where
  F : Fun K x qual st f fd
def topS (i : Nat) : Stmt := PySem.Challenge.pw_runsort_k05_plain_ones_and_doors.main.body.getD i (.Pass ⟨0, 0, 0, 0⟩)
abbrev s_BadAnswer___init__ : Stmt := inClass (topS 7) 0
theorem sc_BadAnswer___init__ : FnScope ["self", "answer"] ["self", "answer"] (defScope s_BadAnswer___init__) := ⟨rfl, rfl, rfl, by decide +kernel, rfl, by decide +kernel, by decide +kernel⟩
abbrev s_BadKind___init__ : Stmt := inClass (topS 8) 0
theorem sc_BadKind___init__ : FnScope ["self", "wanted"] ["self", "wanted"] (defScope s_BadKind___init__) := ⟨rfl, rfl, rfl, by decide +kernel, rfl, by decide +kernel, by decide +kernel⟩
abbrev s_Order___init__ : Stmt := inClass (topS 15) 0
theorem sc_Order___init__ : FnScope ["self", "rule"] ["self", "rule"] (defScope s_Order___init__) := ⟨rfl, rfl, rfl, by decide +kernel, rfl, by decide +kernel, by decide +kernel⟩
abbrev s_Order_counted : Stmt := inClass (topS 15) 1
theorem sc_Order_counted : FnScope ["self"] ["self"] (defScope s_Order_counted) := ⟨rfl, rfl, rfl, by decide +kernel, rfl, by decide +kernel, by decide +kernel⟩
abbrev s_Order_ahead : Stmt := inClass (topS 15) 2
theorem sc_Order_ahead : FnScope ["self", "one", "other", "answer"] ["self", "one", "other"] (defScope s_Order_ahead) := ⟨rfl, rfl, rfl, by decide +kernel, rfl, by decide +kernel, by decide +kernel⟩
abbrev s_Order_alike : Stmt := inClass (topS 15) 3
theorem sc_Order_alike : FnScope ["self", "one", "other"] ["self", "one", "other"] (defScope s_Order_alike) := ⟨rfl, rfl, rfl, by decide +kernel, rfl, by decide +kernel, by decide +kernel⟩
abbrev s_Order_many_asked : Stmt := inClass (topS 15) 4
theorem sc_Order_many_asked : FnScope ["self"] ["self"] (defScope s_Order_many_asked) := ⟨rfl, rfl, rfl, by decide +kernel, rfl, by decide +kernel, by decide +kernel⟩
abbrev s_PlainOrder___init__ : Stmt := inClass (topS 16) 0
theorem sc_PlainOrder___init__ : FnScope ["self"] ["self"] (defScope s_PlainOrder___init__) := ⟨rfl, rfl, rfl, by decide +kernel, rfl, by decide +kernel, by decide +kernel⟩
abbrev s_PlainOrder_ahead : Stmt := inClass (topS 16) 1
theorem sc_PlainOrder_ahead : FnScope ["self", "one", "other"] ["self", "one", "other"] (defScope s_PlainOrder_ahead) := ⟨rfl, rfl, rfl, by decide +kernel, rfl, by decide +kernel, by decide +kernel⟩
abbrev s_KeyOrder___init__ : Stmt := inClass (topS 17) 0
theorem sc_KeyOrder___init__ : FnScope ["self", "key", "order"] ["self", "key", "order"] (defScope s_KeyOrder___init__) := ⟨rfl, rfl, rfl, by decide +kernel, rfl, by decide +kernel, by decide +kernel⟩
abbrev s_KeyOrder_ahead : Stmt := inClass (topS 17) 1
theorem sc_KeyOrder_ahead : FnScope ["self", "one", "other", "first"] ["self", "one", "other"] (defScope s_KeyOrder_ahead) := ⟨rfl, rfl, rfl, by decide +kernel, rfl, by decide +kernel, by decide +kernel⟩
abbrev s_DownOrder___init__ : Stmt := inClass (topS 18) 0
theorem sc_DownOrder___init__ : FnScope ["self", "order"] ["self", "order"] (defScope s_DownOrder___init__) := ⟨rfl, rfl, rfl, by decide +kernel, rfl, by decide +kernel, by decide +kernel⟩
abbrev s_DownOrder_ahead : Stmt := inClass (topS 18) 1
theorem sc_DownOrder_ahead : FnScope ["self", "one", "other"] ["self", "one", "other"] (defScope s_DownOrder_ahead) := ⟨rfl, rfl, rfl, by decide +kernel, rfl, by decide +kernel, by decide +kernel⟩
abbrev s_ThenOrder___init__ : Stmt := inClass (topS 19) 0
theorem sc_ThenOrder___init__ : FnScope ["self", "first", "second"] ["self", "first", "second"] (defScope s_ThenOrder___init__) := ⟨rfl, rfl, rfl, by decide +kernel, rfl, by decide +kernel, by decide +kernel⟩
abbrev s_ThenOrder_ahead : Stmt := inClass (topS 19) 1
theorem sc_ThenOrder_ahead : FnScope ["self", "one", "other"] ["self", "one", "other"] (defScope s_ThenOrder_ahead) := ⟨rfl, rfl, rfl, by decide +kernel, rfl, by decide +kernel, by decide +kernel⟩
abbrev s_need_order : Stmt := topS 20
theorem sc_need_order : FnScope ["thing"] ["thing"] (defScope s_need_order) := ⟨rfl, rfl, rfl, by decide +kernel, rfl, by decide +kernel, by decide +kernel⟩
abbrev s_l_mixed : Stmt := topS 22
theorem sc_l_mixed : FnScope ["_law_drawn", "_law_k"] ["_law_drawn", "_law_k"] (defScope s_l_mixed) := ⟨rfl, rfl, rfl, by decide +kernel, rfl, by decide +kernel, by decide +kernel⟩
abbrev s_l_take : Stmt := topS 23
theorem sc_l_take : FnScope ["_law_stream", "_law_many", "_law_cell", "_law_drawn"] ["_law_stream", "_law_many"] (defScope s_l_take) := ⟨rfl, rfl, rfl, by decide +kernel, rfl, by decide +kernel, by decide +kernel⟩
abbrev s_l_refusal : Stmt := topS 24
theorem sc_l_refusal : FnScope ["_law_e", "_law_found"] ["_law_e"] (defScope s_l_refusal) := ⟨rfl, rfl, rfl, by decide +kernel, rfl, by decide +kernel, by decide +kernel⟩
abbrev s_l_heard : Stmt := topS 25
theorem sc_l_heard : FnScope ["_law_deed", "_law_caught", "_law_found", "error"] ["_law_deed"] (defScope s_l_heard) := ⟨rfl, rfl, rfl, by decide +kernel, rfl, by decide +kernel, by decide +kernel⟩
abbrev s_l_text_by : Stmt := topS 26
theorem sc_l_text_by : FnScope ["_law_stream", "_law_signs", "_law_turn"] ["_law_stream"] (defScope s_l_text_by) := ⟨rfl, rfl, rfl, by decide +kernel, rfl, by decide +kernel, by decide +kernel⟩
abbrev s_l_number_by : Stmt := topS 27
theorem sc_l_number_by : FnScope ["_law_stream", "_law_near"] ["_law_stream"] (defScope s_l_number_by) := ⟨rfl, rfl, rfl, by decide +kernel, rfl, by decide +kernel, by decide +kernel⟩
abbrev s_l_thing_by : Stmt := topS 28
theorem sc_l_thing_by : FnScope ["_law_stream", "_law_kind", "_law_parts", "_law_turn", "_law_part"] ["_law_stream", "_law_kind"] (defScope s_l_thing_by) := ⟨rfl, rfl, rfl, by decide +kernel, rfl, by decide +kernel, by decide +kernel⟩
abbrev s_l_plain_right : Stmt := topS 29
theorem sc_l_plain_right : FnScope ["_law_things", "_law_plain", "_law_keyed", "_law_keys", "_law_down", "_law_both", "_law_item", "_law_mate", "_law_less", "_law_more", "_law_told", "_law_house", "_law_alike", "_law_many", "_law_houses", "_law_kinds"] ["_law_things"] (defScope s_l_plain_right) := ⟨rfl, rfl, rfl, by decide +kernel, rfl, by decide +kernel, by decide +kernel⟩
abbrev s_l_door : Stmt := topS 30
theorem sc_l_door : FnScope ["_law_which", "_law_odd", "_law_good"] ["_law_which", "_law_odd", "_law_good"] (defScope s_l_door) := ⟨rfl, rfl, rfl, by decide +kernel, rfl, by decide +kernel, by decide +kernel⟩
abbrev s_l_doors_right : Stmt := topS 31
theorem sc_l_doors_right : FnScope ["_law_stream", "_law_good", "_law_odd", "_law_rule", "_law_which"] ["_law_stream"] (defScope s_l_doors_right) := ⟨rfl, rfl, rfl, by decide +kernel, rfl, by decide +kernel, by decide +kernel⟩
abbrev s_law : Stmt := topS 32
theorem sc_law : FnScope ["_law_script", "_law_stream", "_law_turn", "_law_kind", "_law_things", "_law_kept", "_law_k"] ["_law_script"] (defScope s_law) := ⟨rfl, rfl, rfl, by decide +kernel, rfl, by decide +kernel, by decide +kernel⟩
structure Ad where
  (C_SortError C_BadAnswer f_BadAnswer___init__ C_BadKind f_BadKind___init__ C_BadPaper C_Flawed C_BadLine C_Busy C_Gone C_BadText C_BadNumber C_NoSuch C_TooMany C_Stopped C_Order f_Order___init__ f_Order_counted f_Order_ahead f_Order_alike f_Order_many_asked C_PlainOrder f_PlainOrder___init__ f_PlainOrder_ahead C_KeyOrder f_KeyOrder___init__ f_KeyOrder_ahead C_DownOrder f_DownOrder___init__ f_DownOrder_ahead C_ThenOrder f_ThenOrder___init__ f_ThenOrder_ahead f_need_order f__law_mixed f__law_take f__law_refusal f__law_heard f__law_text_by f__law_number_by f__law_thing_by f__law_plain_right cc__law_plain_right f__law_door cc__law_door f__law_doors_right cc__law_doors_right f_law : Addr)
  (d_BadAnswer___init__ d_BadKind___init__ d_Order___init__ d_Order_counted d_Order_ahead d_Order_alike d_Order_many_asked d_PlainOrder___init__ d_PlainOrder_ahead d_KeyOrder___init__ d_KeyOrder_ahead d_DownOrder___init__ d_DownOrder_ahead d_ThenOrder___init__ d_ThenOrder_ahead d_need_order d__law_mixed d__law_take d__law_refusal d__law_heard d__law_text_by d__law_number_by d__law_thing_by d__law_plain_right d__law_door d__law_doors_right d_law : FuncData)
structure Txt (K : PySem.W.Frag) (mg : Str → Option Value) (w : World) (A : Ad) : Prop where
  m_SortError : mg "SortError" = some (.ref A.C_SortError)
  q_SortError : PySem.W.excIn K A.C_SortError [.type "Exception", .type "BaseException", .type "object"] "Exception.__new__" = true
  p_SortError : PySem.W.keepIn K (.ref A.C_SortError) = true
  k_SortError : Xc.Lk K A.C_SortError
  r_SortError : ClX.CRead K A.C_SortError (.type "type")
  m_BadAnswer : mg "BadAnswer" = some (.ref A.C_BadAnswer)
  o_BadAnswer : Xc.Own K A.C_BadAnswer "TypeError" "TypeError.__new__" "TypeError.__init__" [.type "TypeError", .type "Exception", .type "BaseException", .type "object"]
  k_BadAnswer : Xc.Lk K A.C_BadAnswer
  t_BadAnswer_answer : PySem.W.takerIn K A.C_BadAnswer "answer" = some none
  na_BadAnswer_answer : PySem.W.findIn K (.ref A.C_BadAnswer) "answer" = some none
  i_BadAnswer : PySem.W.findIn K (.ref A.C_BadAnswer) "__init__" = some (some (.ref A.f_BadAnswer___init__))
  y_BadAnswer : PySem.W.typeIn K (.ref A.f_BadAnswer___init__) = some (.type "function")
  c_BadAnswer___init__ : CalM K "__init__" "BadAnswer.__init__" s_BadAnswer___init__ ["self", "answer"] A.f_BadAnswer___init__ A.d_BadAnswer___init__
  v_BadAnswer : PySem.W.findCls K (.type "TypeError") (.type "type") "__init__" = some (.val (.builtin "TypeError.__init__"))
  m_BadKind : mg "BadKind" = some (.ref A.C_BadKind)
  o_BadKind : Xc.Own K A.C_BadKind "TypeError" "TypeError.__new__" "TypeError.__init__" [.type "TypeError", .type "Exception", .type "BaseException", .type "object"]
  k_BadKind : Xc.Lk K A.C_BadKind
  t_BadKind_wanted : PySem.W.takerIn K A.C_BadKind "wanted" = some none
  na_BadKind_wanted : PySem.W.findIn K (.ref A.C_BadKind) "wanted" = some none
  i_BadKind : PySem.W.findIn K (.ref A.C_BadKind) "__init__" = some (some (.ref A.f_BadKind___init__))
  y_BadKind : PySem.W.typeIn K (.ref A.f_BadKind___init__) = some (.type "function")
  c_BadKind___init__ : CalM K "__init__" "BadKind.__init__" s_BadKind___init__ ["self", "wanted"] A.f_BadKind___init__ A.d_BadKind___init__
  v_BadKind : PySem.W.findCls K (.type "TypeError") (.type "type") "__init__" = some (.val (.builtin "TypeError.__init__"))
  m_BadPaper : mg "BadPaper" = some (.ref A.C_BadPaper)
  m_Flawed : mg "Flawed" = some (.ref A.C_Flawed)
  m_BadLine : mg "BadLine" = some (.ref A.C_BadLine)
  m_Busy : mg "Busy" = some (.ref A.C_Busy)
  m_Gone : mg "Gone" = some (.ref A.C_Gone)
  m_BadText : mg "BadText" = some (.ref A.C_BadText)
  m_BadNumber : mg "BadNumber" = some (.ref A.C_BadNumber)
  m_NoSuch : mg "NoSuch" = some (.ref A.C_NoSuch)
  m_TooMany : mg "TooMany" = some (.ref A.C_TooMany)
  m_Stopped : mg "Stopped" = some (.ref A.C_Stopped)
  m_Order : mg "Order" = some (.ref A.C_Order)
  cl_Order : Cls K A.C_Order
  na_Order_own_rule : NoAttr K A.C_Order "own_rule"
  na_Order_times_asked : NoAttr K A.C_Order "times_asked"
  i_Order : Mk K A.C_Order A.f_Order___init__
  c_Order___init__ : CalM K "__init__" "Order.__init__" s_Order___init__ ["self", "rule"] A.f_Order___init__ A.d_Order___init__
  h_Order_counted : Meth K A.C_Order "counted" A.f_Order_counted
  c_Order_counted : CalM K "counted" "Order.counted" s_Order_counted ["self"] A.f_Order_counted A.d_Order_counted
  h_Order_ahead : Meth K A.C_Order "ahead" A.f_Order_ahead
  c_Order_ahead : CalM K "ahead" "Order.ahead" s_Order_ahead ["self", "one", "other"] A.f_Order_ahead A.d_Order_ahead
  h_Order_alike : Meth K A.C_Order "alike" A.f_Order_alike
  c_Order_alike : CalM K "alike" "Order.alike" s_Order_alike ["self", "one", "other"] A.f_Order_alike A.d_Order_alike
  h_Order_many_asked : Meth K A.C_Order "many_asked" A.f_Order_many_asked
  c_Order_many_asked : CalM K "many_asked" "Order.many_asked" s_Order_many_asked ["self"] A.f_Order_many_asked A.d_Order_many_asked
  r_Order : ClX.CRead K A.C_Order (.type "type")
  vi_Order : PySem.W.findCls K (.ref A.C_Order) (.type "type") "__init__" = some (.val (.ref A.f_Order___init__))
  m_PlainOrder : mg "PlainOrder" = some (.ref A.C_PlainOrder)
  cl_PlainOrder : Cls K A.C_PlainOrder
  na_PlainOrder_own_rule : NoAttr K A.C_PlainOrder "own_rule"
  na_PlainOrder_times_asked : NoAttr K A.C_PlainOrder "times_asked"
  i_PlainOrder : Mk K A.C_PlainOrder A.f_PlainOrder___init__
  c_PlainOrder___init__ : CalM K "__init__" "PlainOrder.__init__" s_PlainOrder___init__ ["self"] A.f_PlainOrder___init__ A.d_PlainOrder___init__
  h_PlainOrder_ahead : Meth K A.C_PlainOrder "ahead" A.f_PlainOrder_ahead
  c_PlainOrder_ahead : CalM K "ahead" "PlainOrder.ahead" s_PlainOrder_ahead ["self", "one", "other"] A.f_PlainOrder_ahead A.d_PlainOrder_ahead
  h_PlainOrder_counted : Meth K A.C_PlainOrder "counted" A.f_Order_counted
  h_PlainOrder_alike : Meth K A.C_PlainOrder "alike" A.f_Order_alike
  h_PlainOrder_many_asked : Meth K A.C_PlainOrder "many_asked" A.f_Order_many_asked
  m_KeyOrder : mg "KeyOrder" = some (.ref A.C_KeyOrder)
  cl_KeyOrder : Cls K A.C_KeyOrder
  na_KeyOrder_own_rule : NoAttr K A.C_KeyOrder "own_rule"
  na_KeyOrder_times_asked : NoAttr K A.C_KeyOrder "times_asked"
  na_KeyOrder_inner : NoAttr K A.C_KeyOrder "inner"
  na_KeyOrder_own_key : NoAttr K A.C_KeyOrder "own_key"
  i_KeyOrder : Mk K A.C_KeyOrder A.f_KeyOrder___init__
  c_KeyOrder___init__ : Xj.CalMD K "KeyOrder.__init__" s_KeyOrder___init__ [.non] A.f_KeyOrder___init__ A.d_KeyOrder___init__
  h_KeyOrder_ahead : Meth K A.C_KeyOrder "ahead" A.f_KeyOrder_ahead
  c_KeyOrder_ahead : CalM K "ahead" "KeyOrder.ahead" s_KeyOrder_ahead ["self", "one", "other"] A.f_KeyOrder_ahead A.d_KeyOrder_ahead
  h_KeyOrder_counted : Meth K A.C_KeyOrder "counted" A.f_Order_counted
  h_KeyOrder_alike : Meth K A.C_KeyOrder "alike" A.f_Order_alike
  h_KeyOrder_many_asked : Meth K A.C_KeyOrder "many_asked" A.f_Order_many_asked
  m_DownOrder : mg "DownOrder" = some (.ref A.C_DownOrder)
  cl_DownOrder : Cls K A.C_DownOrder
  na_DownOrder_own_rule : NoAttr K A.C_DownOrder "own_rule"
  na_DownOrder_times_asked : NoAttr K A.C_DownOrder "times_asked"
  na_DownOrder_inner : NoAttr K A.C_DownOrder "inner"
  i_DownOrder : Mk K A.C_DownOrder A.f_DownOrder___init__
  c_DownOrder___init__ : CalM K "__init__" "DownOrder.__init__" s_DownOrder___init__ ["self", "order"] A.f_DownOrder___init__ A.d_DownOrder___init__
  h_DownOrder_ahead : Meth K A.C_DownOrder "ahead" A.f_DownOrder_ahead
  c_DownOrder_ahead : CalM K "ahead" "DownOrder.ahead" s_DownOrder_ahead ["self", "one", "other"] A.f_DownOrder_ahead A.d_DownOrder_ahead
  h_DownOrder_counted : Meth K A.C_DownOrder "counted" A.f_Order_counted
  h_DownOrder_alike : Meth K A.C_DownOrder "alike" A.f_Order_alike
  h_DownOrder_many_asked : Meth K A.C_DownOrder "many_asked" A.f_Order_many_asked
  m_ThenOrder : mg "ThenOrder" = some (.ref A.C_ThenOrder)
  cl_ThenOrder : Cls K A.C_ThenOrder
  na_ThenOrder_own_rule : NoAttr K A.C_ThenOrder "own_rule"
  na_ThenOrder_times_asked : NoAttr K A.C_ThenOrder "times_asked"
  na_ThenOrder_inner : NoAttr K A.C_ThenOrder "inner"
  na_ThenOrder_second_one : NoAttr K A.C_ThenOrder "second_one"
  i_ThenOrder : Mk K A.C_ThenOrder A.f_ThenOrder___init__
  c_ThenOrder___init__ : CalMF K "__init__" "ThenOrder.__init__" s_ThenOrder___init__ A.f_ThenOrder___init__ A.d_ThenOrder___init__
  h_ThenOrder_ahead : Meth K A.C_ThenOrder "ahead" A.f_ThenOrder_ahead
  c_ThenOrder_ahead : CalM K "ahead" "ThenOrder.ahead" s_ThenOrder_ahead ["self", "one", "other"] A.f_ThenOrder_ahead A.d_ThenOrder_ahead
  h_ThenOrder_counted : Meth K A.C_ThenOrder "counted" A.f_Order_counted
  h_ThenOrder_alike : Meth K A.C_ThenOrder "alike" A.f_Order_alike
  h_ThenOrder_many_asked : Meth K A.C_ThenOrder "many_asked" A.f_Order_many_asked
  c_need_order : Cal K mg "need_order" s_need_order ["thing"] A.f_need_order A.d_need_order
  c__law_mixed : Cal K mg "_law_mixed" s_l_mixed ["_law_drawn", "_law_k"] A.f__law_mixed A.d__law_mixed
  c__law_take : Cal K mg "_law_take" s_l_take ["_law_stream", "_law_many"] A.f__law_take A.d__law_take
  c__law_refusal : Cal K mg "_law_refusal" s_l_refusal ["_law_e"] A.f__law_refusal A.d__law_refusal
  c__law_heard : Cal K mg "_law_heard" s_l_heard ["_law_deed"] A.f__law_heard A.d__law_heard
  c__law_text_by : Cal K mg "_law_text_by" s_l_text_by ["_law_stream"] A.f__law_text_by A.d__law_text_by
  c__law_number_by : Cal K mg "_law_number_by" s_l_number_by ["_law_stream"] A.f__law_number_by A.d__law_number_by
  c__law_thing_by : Cal K mg "_law_thing_by" s_l_thing_by ["_law_stream", "_law_kind"] A.f__law_thing_by A.d__law_thing_by
  cx__law_plain_right : Xc.FunC K "_law_plain_right" "_law_plain_right" s_l_plain_right A.f__law_plain_right A.d__law_plain_right A.cc__law_plain_right
  nt__law_plain_right : K.lookup 451 = none
  ht__law_plain_right : PySem.W.codeHdIn K A.cc__law_plain_right 451 = true
  c__law_plain_right : Cal K mg "_law_plain_right" s_l_plain_right ["_law_things"] A.f__law_plain_right A.d__law_plain_right
  cx__law_door : Xc.FunC K "_law_door" "_law_door" s_l_door A.f__law_door A.d__law_door A.cc__law_door
  nt__law_door : K.lookup 456 = none
  ht__law_door : PySem.W.codeHdIn K A.cc__law_door 456 = true
  c__law_door : Cal K mg "_law_door" s_l_door ["_law_which", "_law_odd", "_law_good"] A.f__law_door A.d__law_door
  cx__law_doors_right : Xc.FunC K "_law_doors_right" "_law_doors_right" s_l_doors_right A.f__law_doors_right A.d__law_doors_right A.cc__law_doors_right
  nt__law_doors_right : K.lookup 463 = none
  ht__law_doors_right : PySem.W.codeHdIn K A.cc__law_doors_right 463 = true
  c__law_doors_right : Cal K mg "_law_doors_right" s_l_doors_right ["_law_stream"] A.f__law_doors_right A.d__law_doors_right
  c_law : Cal K mg "law" s_law ["_law_script"] A.f_law A.d_law
  x_stat : PySem.W.nsIn K cStatics "sys.int_max_str_digits" = some none
  x_any_BadKind : PySem.W.exmAny K (.ref A.C_BadKind) [.ref A.C_SortError, .ref A.C_BadAnswer, .ref A.C_BadKind, .ref A.C_BadText, .ref A.C_BadNumber, .ref A.C_NoSuch, .ref A.C_TooMany, .ref A.C_Stopped] = some true
  x_kit_BadKind : ([.ref A.C_BadPaper, .ref A.C_Flawed, .ref A.C_BadLine, .ref A.C_Busy, .ref A.C_Gone, .ref A.C_BadAnswer, .ref A.C_BadKind, .ref A.C_BadText, .ref A.C_BadNumber, .ref A.C_NoSuch, .ref A.C_TooMany, .ref A.C_Stopped] : List Value).map (fun c => PySem.W.kitOne K (.ref A.C_BadKind) c) = [some false, some false, some false, some false, some false, some false, some true, some false, some false, some false, some false, some false]
  x_i_Order : PySem.W.kitOne K (.ref A.C_Order) (.ref A.C_Order) = some true
  x_kit_Order : ([.ref A.C_PlainOrder, .ref A.C_KeyOrder, .ref A.C_DownOrder, .ref A.C_ThenOrder] : List Value).map (fun c => PySem.W.kitOne K (.ref A.C_Order) c) = [some false, some false, some false, some false]
  x_oha_Order : PySem.W.findIn K (.ref A.C_Order) "__class__" = some (some (.builtin "object.__class__"))
  x_ohm_Order : PySem.W.mroIn K A.C_Order (.type "object") = some true
  x_i_PlainOrder : PySem.W.kitOne K (.ref A.C_PlainOrder) (.ref A.C_Order) = some true
  x_kit_PlainOrder : ([.ref A.C_PlainOrder, .ref A.C_KeyOrder, .ref A.C_DownOrder, .ref A.C_ThenOrder] : List Value).map (fun c => PySem.W.kitOne K (.ref A.C_PlainOrder) c) = [some true, some false, some false, some false]
  x_oha_PlainOrder : PySem.W.findIn K (.ref A.C_PlainOrder) "__class__" = some (some (.builtin "object.__class__"))
  x_ohm_PlainOrder : PySem.W.mroIn K A.C_PlainOrder (.type "object") = some true
  x_i_KeyOrder : PySem.W.kitOne K (.ref A.C_KeyOrder) (.ref A.C_Order) = some true
  x_kit_KeyOrder : ([.ref A.C_PlainOrder, .ref A.C_KeyOrder, .ref A.C_DownOrder, .ref A.C_ThenOrder] : List Value).map (fun c => PySem.W.kitOne K (.ref A.C_KeyOrder) c) = [some false, some true, some false, some false]
  x_oha_KeyOrder : PySem.W.findIn K (.ref A.C_KeyOrder) "__class__" = some (some (.builtin "object.__class__"))
  x_ohm_KeyOrder : PySem.W.mroIn K A.C_KeyOrder (.type "object") = some true
  x_i_DownOrder : PySem.W.kitOne K (.ref A.C_DownOrder) (.ref A.C_Order) = some true
  x_kit_DownOrder : ([.ref A.C_PlainOrder, .ref A.C_KeyOrder, .ref A.C_DownOrder, .ref A.C_ThenOrder] : List Value).map (fun c => PySem.W.kitOne K (.ref A.C_DownOrder) c) = [some false, some false, some true, some false]
  x_oha_DownOrder : PySem.W.findIn K (.ref A.C_DownOrder) "__class__" = some (some (.builtin "object.__class__"))
  x_ohm_DownOrder : PySem.W.mroIn K A.C_DownOrder (.type "object") = some true
  x_i_ThenOrder : PySem.W.kitOne K (.ref A.C_ThenOrder) (.ref A.C_Order) = some true
  x_kit_ThenOrder : ([.ref A.C_PlainOrder, .ref A.C_KeyOrder, .ref A.C_DownOrder, .ref A.C_ThenOrder] : List Value).map (fun c => PySem.W.kitOne K (.ref A.C_ThenOrder) c) = [some false, some false, some false, some true]
  x_oha_ThenOrder : PySem.W.findIn K (.ref A.C_ThenOrder) "__class__" = some (some (.builtin "object.__class__"))
  x_ohm_ThenOrder : PySem.W.mroIn K A.C_ThenOrder (.type "object") = some true
  x_io_int : PySem.W.kitOne K (.type "int") (.ref A.C_Order) = some false
  x_io_bool : PySem.W.kitOne K (.type "bool") (.ref A.C_Order) = some false
  x_io_str : PySem.W.kitOne K (.type "str") (.ref A.C_Order) = some false
  x_io_non : PySem.W.kitOne K (.type "NoneType") (.ref A.C_Order) = some false
  x_io_lst : PySem.W.kitOne K (.type "list") (.ref A.C_Order) = some false
  x_io_tup : PySem.W.kitOne K (.type "tuple") (.ref A.C_Order) = some false
  x_io_dct : PySem.W.kitOne K (.type "dict") (.ref A.C_Order) = some false
  x_io_fun : PySem.W.kitOne K (.type "function") (.ref A.C_Order) = some false
  x_ohn : PySem.W.specialIn K (.builtin "object.__class__") "__get__" = some (some (.builtin "getset_descriptor.__get__"))
  x_oht : PySem.W.takesIn K (.builtin "object.__class__") = some true
  n_len : mg "len" = none
  n_min : mg "min" = none
  n_range : mg "range" = none
  n_repr : mg "repr" = none
  n_isinstance : mg "isinstance" = none
  n_bool : mg "bool" = none
  n_tuple : mg "tuple" = none
  n_TypeError : mg "TypeError" = none
  n_IndexError : mg "IndexError" = none
  n_OverflowError : mg "OverflowError" = none
  n_KeyError : mg "KeyError" = none
  n_RuntimeError : mg "RuntimeError" = none
  n_Exception : mg "Exception" = none
set_option maxHeartbeats 0 in
theorem all_mk {K : PySem.W.Frag} {mg : Str → Option Value} {w : World} {h : Heap} {C_SortError : Addr} {C_BadAnswer : Addr} {f_BadAnswer___init__ : Addr} {oc_BadAnswer___init__ doc_BadAnswer___init__ pm_BadAnswer___init__ cd_BadAnswer___init__ ct_BadAnswer___init__ kV_BadAnswer___init__ : Value} {od_BadAnswer___init__ an_BadAnswer___init__ : Option Addr} {osl_BadAnswer___init__ : Array (Option Value)} {C_BadKind : Addr} {f_BadKind___init__ : Addr} {oc_BadKind___init__ doc_BadKind___init__ pm_BadKind___init__ cd_BadKind___init__ ct_BadKind___init__ kV_BadKind___init__ : Value} {od_BadKind___init__ an_BadKind___init__ : Option Addr} {osl_BadKind___init__ : Array (Option Value)} {C_BadPaper : Addr} {C_Flawed : Addr} {C_BadLine : Addr} {C_Busy : Addr} {C_Gone : Addr} {C_BadText : Addr} {C_BadNumber : Addr} {C_NoSuch : Addr} {C_TooMany : Addr} {C_Stopped : Addr} {C_Order : Addr} {f_Order___init__ : Addr} {oc_Order___init__ doc_Order___init__ pm_Order___init__ cd_Order___init__ ct_Order___init__ kV_Order___init__ : Value} {od_Order___init__ an_Order___init__ : Option Addr} {osl_Order___init__ : Array (Option Value)} {f_Order_counted : Addr} {oc_Order_counted doc_Order_counted pm_Order_counted cd_Order_counted ct_Order_counted kV_Order_counted : Value} {od_Order_counted an_Order_counted : Option Addr} {osl_Order_counted : Array (Option Value)} {f_Order_ahead : Addr} {oc_Order_ahead doc_Order_ahead pm_Order_ahead cd_Order_ahead ct_Order_ahead kV_Order_ahead : Value} {od_Order_ahead an_Order_ahead : Option Addr} {osl_Order_ahead : Array (Option Value)} {f_Order_alike : Addr} {oc_Order_alike doc_Order_alike pm_Order_alike cd_Order_alike ct_Order_alike kV_Order_alike : Value} {od_Order_alike an_Order_alike : Option Addr} {osl_Order_alike : Array (Option Value)} {f_Order_many_asked : Addr} {oc_Order_many_asked doc_Order_many_asked pm_Order_many_asked cd_Order_many_asked ct_Order_many_asked kV_Order_many_asked : Value} {od_Order_many_asked an_Order_many_asked : Option Addr} {osl_Order_many_asked : Array (Option Value)} {C_PlainOrder : Addr} {f_PlainOrder___init__ : Addr} {oc_PlainOrder___init__ doc_PlainOrder___init__ pm_PlainOrder___init__ cd_PlainOrder___init__ ct_PlainOrder___init__ kV_PlainOrder___init__ : Value} {od_PlainOrder___init__ an_PlainOrder___init__ : Option Addr} {osl_PlainOrder___init__ : Array (Option Value)} {f_PlainOrder_ahead : Addr} {oc_PlainOrder_ahead doc_PlainOrder_ahead pm_PlainOrder_ahead cd_PlainOrder_ahead ct_PlainOrder_ahead kV_PlainOrder_ahead : Value} {od_PlainOrder_ahead an_PlainOrder_ahead : Option Addr} {osl_PlainOrder_ahead : Array (Option Value)} {C_KeyOrder : Addr} {DT_KeyOrder : Addr} {DO_KeyOrder : Obj} {DI_KeyOrder : List Value} {DN_KeyOrder : Nat} {f_KeyOrder___init__ : Addr} {oc_KeyOrder___init__ doc_KeyOrder___init__ pm_KeyOrder___init__ cd_KeyOrder___init__ ct_KeyOrder___init__ kV_KeyOrder___init__ : Value} {od_KeyOrder___init__ an_KeyOrder___init__ : Option Addr} {osl_KeyOrder___init__ : Array (Option Value)} {f_KeyOrder_ahead : Addr} {oc_KeyOrder_ahead doc_KeyOrder_ahead pm_KeyOrder_ahead cd_KeyOrder_ahead ct_KeyOrder_ahead kV_KeyOrder_ahead : Value} {od_KeyOrder_ahead an_KeyOrder_ahead : Option Addr} {osl_KeyOrder_ahead : Array (Option Value)} {C_DownOrder : Addr} {f_DownOrder___init__ : Addr} {oc_DownOrder___init__ doc_DownOrder___init__ pm_DownOrder___init__ cd_DownOrder___init__ ct_DownOrder___init__ kV_DownOrder___init__ : Value} {od_DownOrder___init__ an_DownOrder___init__ : Option Addr} {osl_DownOrder___init__ : Array (Option Value)} {f_DownOrder_ahead : Addr} {oc_DownOrder_ahead doc_DownOrder_ahead pm_DownOrder_ahead cd_DownOrder_ahead ct_DownOrder_ahead kV_DownOrder_ahead : Value} {od_DownOrder_ahead an_DownOrder_ahead : Option Addr} {osl_DownOrder_ahead : Array (Option Value)} {C_ThenOrder : Addr} {f_ThenOrder___init__ : Addr} {oc_ThenOrder___init__ doc_ThenOrder___init__ pm_ThenOrder___init__ cd_ThenOrder___init__ ct_ThenOrder___init__ kV_ThenOrder___init__ : Value} {od_ThenOrder___init__ an_ThenOrder___init__ : Option Addr} {osl_ThenOrder___init__ : Array (Option Value)} {f_ThenOrder_ahead : Addr} {oc_ThenOrder_ahead doc_ThenOrder_ahead pm_ThenOrder_ahead cd_ThenOrder_ahead ct_ThenOrder_ahead kV_ThenOrder_ahead : Value} {od_ThenOrder_ahead an_ThenOrder_ahead : Option Addr} {osl_ThenOrder_ahead : Array (Option Value)} {f_need_order : Addr} {oc_need_order doc_need_order pm_need_order cd_need_order ct_need_order kV_need_order : Value} {od_need_order an_need_order : Option Addr} {osl_need_order : Array (Option Value)} {f__law_mixed : Addr} {oc__law_mixed doc__law_mixed pm__law_mixed cd__law_mixed ct__law_mixed kV__law_mixed : Value} {od__law_mixed an__law_mixed : Option Addr} {osl__law_mixed : Array (Option Value)} {f__law_take : Addr} {oc__law_take doc__law_take pm__law_take cd__law_take ct__law_take kV__law_take : Value} {od__law_take an__law_take : Option Addr} {osl__law_take : Array (Option Value)} {f__law_refusal : Addr} {oc__law_refusal doc__law_refusal pm__law_refusal cd__law_refusal ct__law_refusal kV__law_refusal : Value} {od__law_refusal an__law_refusal : Option Addr} {osl__law_refusal : Array (Option Value)} {f__law_heard : Addr} {oc__law_heard doc__law_heard pm__law_heard cd__law_heard ct__law_heard kV__law_heard : Value} {od__law_heard an__law_heard : Option Addr} {osl__law_heard : Array (Option Value)} {f__law_text_by : Addr} {oc__law_text_by doc__law_text_by pm__law_text_by cd__law_text_by ct__law_text_by kV__law_text_by : Value} {od__law_text_by an__law_text_by : Option Addr} {osl__law_text_by : Array (Option Value)} {f__law_number_by : Addr} {oc__law_number_by doc__law_number_by pm__law_number_by cd__law_number_by ct__law_number_by kV__law_number_by : Value} {od__law_number_by an__law_number_by : Option Addr} {osl__law_number_by : Array (Option Value)} {f__law_thing_by : Addr} {oc__law_thing_by doc__law_thing_by pm__law_thing_by cd__law_thing_by ct__law_thing_by kV__law_thing_by : Value} {od__law_thing_by an__law_thing_by : Option Addr} {osl__law_thing_by : Array (Option Value)} {f__law_plain_right : Addr} {oc__law_plain_right doc__law_plain_right pm__law_plain_right  ct__law_plain_right kV__law_plain_right : Value} {od__law_plain_right an__law_plain_right : Option Addr} {osl__law_plain_right : Array (Option Value)} {cc__law_plain_right : Addr} {f__law_door : Addr} {oc__law_door doc__law_door pm__law_door  ct__law_door kV__law_door : Value} {od__law_door an__law_door : Option Addr} {osl__law_door : Array (Option Value)} {cc__law_door : Addr} {f__law_doors_right : Addr} {oc__law_doors_right doc__law_doors_right pm__law_doors_right  ct__law_doors_right kV__law_doors_right : Value} {od__law_doors_right an__law_doors_right : Option Addr} {osl__law_doors_right : Array (Option Value)} {cc__law_doors_right : Addr} {f_law : Addr} {oc_law doc_law pm_law cd_law ct_law kV_law : Value} {od_law an_law : Option Addr} {osl_law : Array (Option Value)} (X : K.In h) (G : h.Ns mainGlobals mg)
    (a_SortError : PySem.W.nsIn K mainGlobals "SortError" = some (some (.ref C_SortError)))
    (ini_SortError : PySem.W.excIn K C_SortError [.type "Exception", .type "BaseException", .type "object"] "Exception.__new__" = true)
    (dic_SortError : PySem.W.hasDictIn K C_SortError = true)
    (bex_SortError : PySem.W.subIn K (.ref C_SortError) (.type "BaseException") = some true)
    (kpc_SortError : PySem.W.keepIn K (.ref C_SortError) = true)
    (xcl_SortError : (PySem.W.clsIn K C_SortError).isSome = true)
    (xga_SortError : PySem.W.findIn K (.ref C_SortError) "__getattribute__" = some (some (.builtin "BaseException.__getattribute__")))
    (xgg_SortError : PySem.W.findIn K (.ref C_SortError) "__getattr__" = some none)
    (xha_SortError : PySem.W.findIn K (.ref C_SortError) "__class__" = some (some (.builtin "object.__class__")))
    (xhn_SortError : PySem.W.specialIn K (.builtin "object.__class__") "__get__" = some (some (.builtin "getset_descriptor.__get__")))
    (xht_SortError : PySem.W.takesIn K (.builtin "object.__class__") = some true)
    (xhm_SortError : PySem.W.mroIn K C_SortError (.type "object") = some true)
    (rd_SortError : PySem.W.readsIn K C_SortError (.type "type") = true)
    (rg_SortError : PySem.W.specialIn K (.ref C_SortError) "__getattribute__" = some (some (.builtin "type.__getattribute__")))
    (a_BadAnswer : PySem.W.nsIn K mainGlobals "BadAnswer" = some (some (.ref C_BadAnswer)))
    (ini_BadAnswer : PySem.W.excInitIn K C_BadAnswer [.type "TypeError", .type "Exception", .type "BaseException", .type "object"] "TypeError.__new__" = true)
    (ovr_BadAnswer : PySem.W.excOver K C_BadAnswer [.type "TypeError", .type "Exception", .type "BaseException", .type "object"] = true)
    (dic_BadAnswer : PySem.W.hasDictIn K C_BadAnswer = true)
    (sav_BadAnswer : PySem.W.findIn K (.ref C_BadAnswer) "__setattr__" = some (some (.builtin "object.__setattr__")))
    (bex_BadAnswer : PySem.W.subIn K (.ref C_BadAnswer) (.type "BaseException") = some true)
    (tyc_BadAnswer : PySem.W.typeIn K (.ref C_BadAnswer) = some (.type "type"))
    (kpc_BadAnswer : PySem.W.keepIn K (.ref C_BadAnswer) = true)
    (xcl_BadAnswer : (PySem.W.clsIn K C_BadAnswer).isSome = true)
    (xga_BadAnswer : PySem.W.findIn K (.ref C_BadAnswer) "__getattribute__" = some (some (.builtin "BaseException.__getattribute__")))
    (xgg_BadAnswer : PySem.W.findIn K (.ref C_BadAnswer) "__getattr__" = some none)
    (xha_BadAnswer : PySem.W.findIn K (.ref C_BadAnswer) "__class__" = some (some (.builtin "object.__class__")))
    (xhn_BadAnswer : PySem.W.specialIn K (.builtin "object.__class__") "__get__" = some (some (.builtin "getset_descriptor.__get__")))
    (xht_BadAnswer : PySem.W.takesIn K (.builtin "object.__class__") = some true)
    (xhm_BadAnswer : PySem.W.mroIn K C_BadAnswer (.type "object") = some true)
    (tk_BadAnswer_answer : PySem.W.takerIn K C_BadAnswer "answer" = some none)
    (na_BadAnswer_answer : PySem.W.findIn K (.ref C_BadAnswer) "answer" = some none)
    (a_BadAnswer___init__ : PySem.W.findIn K (.ref C_BadAnswer) "__init__" = some (some (.ref f_BadAnswer___init__)))
    (y_BadAnswer___init__ : PySem.W.typeIn K (.ref f_BadAnswer___init__) = some (.type "function"))
    (l_BadAnswer___init__ : K.lookup f_BadAnswer___init__ = some ⟨oc_BadAnswer___init__, od_BadAnswer___init__, .func (PySem.W.fnOf "__init__" "BadAnswer.__init__" (defArgs s_BadAnswer___init__) (defBody s_BadAnswer___init__) (defScope s_BadAnswer___init__) .none kV_BadAnswer___init__ doc_BadAnswer___init__ pm_BadAnswer___init__ an_BadAnswer___init__ cd_BadAnswer___init__ ct_BadAnswer___init__), osl_BadAnswer___init__⟩)
    (e_BadAnswer___init__ : PySem.W.codeIn K cd_BadAnswer___init__ "BadAnswer.__init__" = true)
    (k_BadAnswer___init__ : PySem.W.keepIn K (.ref f_BadAnswer___init__) = true)
    (v_BadAnswer : PySem.W.findCls K (.type "TypeError") (.type "type") "__init__" = some (.val (.builtin "TypeError.__init__")))
    (a_BadKind : PySem.W.nsIn K mainGlobals "BadKind" = some (some (.ref C_BadKind)))
    (ini_BadKind : PySem.W.excInitIn K C_BadKind [.type "TypeError", .type "Exception", .type "BaseException", .type "object"] "TypeError.__new__" = true)
    (ovr_BadKind : PySem.W.excOver K C_BadKind [.type "TypeError", .type "Exception", .type "BaseException", .type "object"] = true)
    (dic_BadKind : PySem.W.hasDictIn K C_BadKind = true)
    (sav_BadKind : PySem.W.findIn K (.ref C_BadKind) "__setattr__" = some (some (.builtin "object.__setattr__")))
    (bex_BadKind : PySem.W.subIn K (.ref C_BadKind) (.type "BaseException") = some true)
    (tyc_BadKind : PySem.W.typeIn K (.ref C_BadKind) = some (.type "type"))
    (kpc_BadKind : PySem.W.keepIn K (.ref C_BadKind) = true)
    (xcl_BadKind : (PySem.W.clsIn K C_BadKind).isSome = true)
    (xga_BadKind : PySem.W.findIn K (.ref C_BadKind) "__getattribute__" = some (some (.builtin "BaseException.__getattribute__")))
    (xgg_BadKind : PySem.W.findIn K (.ref C_BadKind) "__getattr__" = some none)
    (xha_BadKind : PySem.W.findIn K (.ref C_BadKind) "__class__" = some (some (.builtin "object.__class__")))
    (xhn_BadKind : PySem.W.specialIn K (.builtin "object.__class__") "__get__" = some (some (.builtin "getset_descriptor.__get__")))
    (xht_BadKind : PySem.W.takesIn K (.builtin "object.__class__") = some true)
    (xhm_BadKind : PySem.W.mroIn K C_BadKind (.type "object") = some true)
    (tk_BadKind_wanted : PySem.W.takerIn K C_BadKind "wanted" = some none)
    (na_BadKind_wanted : PySem.W.findIn K (.ref C_BadKind) "wanted" = some none)
    (a_BadKind___init__ : PySem.W.findIn K (.ref C_BadKind) "__init__" = some (some (.ref f_BadKind___init__)))
    (y_BadKind___init__ : PySem.W.typeIn K (.ref f_BadKind___init__) = some (.type "function"))
    (l_BadKind___init__ : K.lookup f_BadKind___init__ = some ⟨oc_BadKind___init__, od_BadKind___init__, .func (PySem.W.fnOf "__init__" "BadKind.__init__" (defArgs s_BadKind___init__) (defBody s_BadKind___init__) (defScope s_BadKind___init__) .none kV_BadKind___init__ doc_BadKind___init__ pm_BadKind___init__ an_BadKind___init__ cd_BadKind___init__ ct_BadKind___init__), osl_BadKind___init__⟩)
    (e_BadKind___init__ : PySem.W.codeIn K cd_BadKind___init__ "BadKind.__init__" = true)
    (k_BadKind___init__ : PySem.W.keepIn K (.ref f_BadKind___init__) = true)
    (v_BadKind : PySem.W.findCls K (.type "TypeError") (.type "type") "__init__" = some (.val (.builtin "TypeError.__init__")))
    (a_BadPaper : PySem.W.nsIn K mainGlobals "BadPaper" = some (some (.ref C_BadPaper)))
    (a_Flawed : PySem.W.nsIn K mainGlobals "Flawed" = some (some (.ref C_Flawed)))
    (a_BadLine : PySem.W.nsIn K mainGlobals "BadLine" = some (some (.ref C_BadLine)))
    (a_Busy : PySem.W.nsIn K mainGlobals "Busy" = some (some (.ref C_Busy)))
    (a_Gone : PySem.W.nsIn K mainGlobals "Gone" = some (some (.ref C_Gone)))
    (a_BadText : PySem.W.nsIn K mainGlobals "BadText" = some (some (.ref C_BadText)))
    (a_BadNumber : PySem.W.nsIn K mainGlobals "BadNumber" = some (some (.ref C_BadNumber)))
    (a_NoSuch : PySem.W.nsIn K mainGlobals "NoSuch" = some (some (.ref C_NoSuch)))
    (a_TooMany : PySem.W.nsIn K mainGlobals "TooMany" = some (some (.ref C_TooMany)))
    (a_Stopped : PySem.W.nsIn K mainGlobals "Stopped" = some (some (.ref C_Stopped)))
    (a_Order : PySem.W.nsIn K mainGlobals "Order" = some (some (.ref C_Order)))
    (pg_Order : PySem.W.plainGet K C_Order Str.empty = true)
    (hd_Order : PySem.W.hasDictIn K C_Order = true)
    (po_Order : PySem.W.plainOver K C_Order = true)
    (sa_Order : PySem.W.findIn K (.ref C_Order) "__setattr__" = some (some (.builtin "object.__setattr__")))
    (mk_Order : PySem.W.makesIn K C_Order = true)
    (kc_Order : PySem.W.keepIn K (.ref C_Order) = true)
    (na_Order_own_rule : PySem.W.findIn K (.ref C_Order) "own_rule" = some none)
    (na_Order_times_asked : PySem.W.findIn K (.ref C_Order) "times_asked" = some none)
    (a_Order___init__ : PySem.W.findIn K (.ref C_Order) "__init__" = some (some (.ref f_Order___init__)))
    (i_Order___init__ : PySem.W.isFn K (.ref f_Order___init__) = true)
    (l_Order___init__ : K.lookup f_Order___init__ = some ⟨oc_Order___init__, od_Order___init__, .func (PySem.W.fnOf "__init__" "Order.__init__" (defArgs s_Order___init__) (defBody s_Order___init__) (defScope s_Order___init__) .none kV_Order___init__ doc_Order___init__ pm_Order___init__ an_Order___init__ cd_Order___init__ ct_Order___init__), osl_Order___init__⟩)
    (e_Order___init__ : PySem.W.codeIn K cd_Order___init__ "Order.__init__" = true)
    (k_Order___init__ : PySem.W.keepIn K (.ref f_Order___init__) = true)
    (a_Order_counted : PySem.W.findIn K (.ref C_Order) "counted" = some (some (.ref f_Order_counted)))
    (i_Order_counted : PySem.W.isFn K (.ref f_Order_counted) = true)
    (l_Order_counted : K.lookup f_Order_counted = some ⟨oc_Order_counted, od_Order_counted, .func (PySem.W.fnOf "counted" "Order.counted" (defArgs s_Order_counted) (defBody s_Order_counted) (defScope s_Order_counted) .none kV_Order_counted doc_Order_counted pm_Order_counted an_Order_counted cd_Order_counted ct_Order_counted), osl_Order_counted⟩)
    (e_Order_counted : PySem.W.codeIn K cd_Order_counted "Order.counted" = true)
    (k_Order_counted : PySem.W.keepIn K (.ref f_Order_counted) = true)
    (a_Order_ahead : PySem.W.findIn K (.ref C_Order) "ahead" = some (some (.ref f_Order_ahead)))
    (i_Order_ahead : PySem.W.isFn K (.ref f_Order_ahead) = true)
    (l_Order_ahead : K.lookup f_Order_ahead = some ⟨oc_Order_ahead, od_Order_ahead, .func (PySem.W.fnOf "ahead" "Order.ahead" (defArgs s_Order_ahead) (defBody s_Order_ahead) (defScope s_Order_ahead) .none kV_Order_ahead doc_Order_ahead pm_Order_ahead an_Order_ahead cd_Order_ahead ct_Order_ahead), osl_Order_ahead⟩)
    (e_Order_ahead : PySem.W.codeIn K cd_Order_ahead "Order.ahead" = true)
    (k_Order_ahead : PySem.W.keepIn K (.ref f_Order_ahead) = true)
    (a_Order_alike : PySem.W.findIn K (.ref C_Order) "alike" = some (some (.ref f_Order_alike)))
    (i_Order_alike : PySem.W.isFn K (.ref f_Order_alike) = true)
    (l_Order_alike : K.lookup f_Order_alike = some ⟨oc_Order_alike, od_Order_alike, .func (PySem.W.fnOf "alike" "Order.alike" (defArgs s_Order_alike) (defBody s_Order_alike) (defScope s_Order_alike) .none kV_Order_alike doc_Order_alike pm_Order_alike an_Order_alike cd_Order_alike ct_Order_alike), osl_Order_alike⟩)
    (e_Order_alike : PySem.W.codeIn K cd_Order_alike "Order.alike" = true)
    (k_Order_alike : PySem.W.keepIn K (.ref f_Order_alike) = true)
    (a_Order_many_asked : PySem.W.findIn K (.ref C_Order) "many_asked" = some (some (.ref f_Order_many_asked)))
    (i_Order_many_asked : PySem.W.isFn K (.ref f_Order_many_asked) = true)
    (l_Order_many_asked : K.lookup f_Order_many_asked = some ⟨oc_Order_many_asked, od_Order_many_asked, .func (PySem.W.fnOf "many_asked" "Order.many_asked" (defArgs s_Order_many_asked) (defBody s_Order_many_asked) (defScope s_Order_many_asked) .none kV_Order_many_asked doc_Order_many_asked pm_Order_many_asked an_Order_many_asked cd_Order_many_asked ct_Order_many_asked), osl_Order_many_asked⟩)
    (e_Order_many_asked : PySem.W.codeIn K cd_Order_many_asked "Order.many_asked" = true)
    (k_Order_many_asked : PySem.W.keepIn K (.ref f_Order_many_asked) = true)
    (rd_Order : PySem.W.readsIn K C_Order (.type "type") = true)
    (rg_Order : PySem.W.specialIn K (.ref C_Order) "__getattribute__" = some (some (.builtin "type.__getattribute__")))
    (vi_Order : PySem.W.findCls K (.ref C_Order) (.type "type") "__init__" = some (.val (.ref f_Order___init__)))
    (a_PlainOrder : PySem.W.nsIn K mainGlobals "PlainOrder" = some (some (.ref C_PlainOrder)))
    (pg_PlainOrder : PySem.W.plainGet K C_PlainOrder Str.empty = true)
    (hd_PlainOrder : PySem.W.hasDictIn K C_PlainOrder = true)
    (po_PlainOrder : PySem.W.plainOver K C_PlainOrder = true)
    (sa_PlainOrder : PySem.W.findIn K (.ref C_PlainOrder) "__setattr__" = some (some (.builtin "object.__setattr__")))
    (mk_PlainOrder : PySem.W.makesIn K C_PlainOrder = true)
    (kc_PlainOrder : PySem.W.keepIn K (.ref C_PlainOrder) = true)
    (na_PlainOrder_own_rule : PySem.W.findIn K (.ref C_PlainOrder) "own_rule" = some none)
    (na_PlainOrder_times_asked : PySem.W.findIn K (.ref C_PlainOrder) "times_asked" = some none)
    (a_PlainOrder___init__ : PySem.W.findIn K (.ref C_PlainOrder) "__init__" = some (some (.ref f_PlainOrder___init__)))
    (i_PlainOrder___init__ : PySem.W.isFn K (.ref f_PlainOrder___init__) = true)
    (l_PlainOrder___init__ : K.lookup f_PlainOrder___init__ = some ⟨oc_PlainOrder___init__, od_PlainOrder___init__, .func (PySem.W.fnOf "__init__" "PlainOrder.__init__" (defArgs s_PlainOrder___init__) (defBody s_PlainOrder___init__) (defScope s_PlainOrder___init__) .none kV_PlainOrder___init__ doc_PlainOrder___init__ pm_PlainOrder___init__ an_PlainOrder___init__ cd_PlainOrder___init__ ct_PlainOrder___init__), osl_PlainOrder___init__⟩)
    (e_PlainOrder___init__ : PySem.W.codeIn K cd_PlainOrder___init__ "PlainOrder.__init__" = true)
    (k_PlainOrder___init__ : PySem.W.keepIn K (.ref f_PlainOrder___init__) = true)
    (a_PlainOrder_ahead : PySem.W.findIn K (.ref C_PlainOrder) "ahead" = some (some (.ref f_PlainOrder_ahead)))
    (i_PlainOrder_ahead : PySem.W.isFn K (.ref f_PlainOrder_ahead) = true)
    (l_PlainOrder_ahead : K.lookup f_PlainOrder_ahead = some ⟨oc_PlainOrder_ahead, od_PlainOrder_ahead, .func (PySem.W.fnOf "ahead" "PlainOrder.ahead" (defArgs s_PlainOrder_ahead) (defBody s_PlainOrder_ahead) (defScope s_PlainOrder_ahead) .none kV_PlainOrder_ahead doc_PlainOrder_ahead pm_PlainOrder_ahead an_PlainOrder_ahead cd_PlainOrder_ahead ct_PlainOrder_ahead), osl_PlainOrder_ahead⟩)
    (e_PlainOrder_ahead : PySem.W.codeIn K cd_PlainOrder_ahead "PlainOrder.ahead" = true)
    (k_PlainOrder_ahead : PySem.W.keepIn K (.ref f_PlainOrder_ahead) = true)
    (a_PlainOrder_counted : PySem.W.findIn K (.ref C_PlainOrder) "counted" = some (some (.ref f_Order_counted)))
    (a_PlainOrder_alike : PySem.W.findIn K (.ref C_PlainOrder) "alike" = some (some (.ref f_Order_alike)))
    (a_PlainOrder_many_asked : PySem.W.findIn K (.ref C_PlainOrder) "many_asked" = some (some (.ref f_Order_many_asked)))
    (a_KeyOrder : PySem.W.nsIn K mainGlobals "KeyOrder" = some (some (.ref C_KeyOrder)))
    (pg_KeyOrder : PySem.W.plainGet K C_KeyOrder Str.empty = true)
    (hd_KeyOrder : PySem.W.hasDictIn K C_KeyOrder = true)
    (po_KeyOrder : PySem.W.plainOver K C_KeyOrder = true)
    (sa_KeyOrder : PySem.W.findIn K (.ref C_KeyOrder) "__setattr__" = some (some (.builtin "object.__setattr__")))
    (mk_KeyOrder : PySem.W.makesIn K C_KeyOrder = true)
    (kc_KeyOrder : PySem.W.keepIn K (.ref C_KeyOrder) = true)
    (na_KeyOrder_own_rule : PySem.W.findIn K (.ref C_KeyOrder) "own_rule" = some none)
    (na_KeyOrder_times_asked : PySem.W.findIn K (.ref C_KeyOrder) "times_asked" = some none)
    (na_KeyOrder_inner : PySem.W.findIn K (.ref C_KeyOrder) "inner" = some none)
    (na_KeyOrder_own_key : PySem.W.findIn K (.ref C_KeyOrder) "own_key" = some none)
    (a_KeyOrder___init__ : PySem.W.findIn K (.ref C_KeyOrder) "__init__" = some (some (.ref f_KeyOrder___init__)))
    (i_KeyOrder___init__ : PySem.W.isFn K (.ref f_KeyOrder___init__) = true)
    (l_KeyOrder___init__ : K.lookup f_KeyOrder___init__ = some ⟨oc_KeyOrder___init__, od_KeyOrder___init__, .func (PySem.W.fnOf "__init__" "KeyOrder.__init__" (defArgs s_KeyOrder___init__) (defBody s_KeyOrder___init__) (defScope s_KeyOrder___init__) (.ref DT_KeyOrder) kV_KeyOrder___init__ doc_KeyOrder___init__ pm_KeyOrder___init__ an_KeyOrder___init__ cd_KeyOrder___init__ ct_KeyOrder___init__), osl_KeyOrder___init__⟩)
    (e_KeyOrder___init__ : PySem.W.codeIn K cd_KeyOrder___init__ "KeyOrder.__init__" = true)
    (k_KeyOrder___init__ : PySem.W.keepIn K (.ref f_KeyOrder___init__) = true)
    (dl_KeyOrder : K.lookup DT_KeyOrder = some DO_KeyOrder)
    (do_KeyOrder : DO_KeyOrder.data = .seq DI_KeyOrder.toArray DN_KeyOrder)
    (dr_KeyOrder : Vals [.non] DI_KeyOrder)
    (a_KeyOrder_ahead : PySem.W.findIn K (.ref C_KeyOrder) "ahead" = some (some (.ref f_KeyOrder_ahead)))
    (i_KeyOrder_ahead : PySem.W.isFn K (.ref f_KeyOrder_ahead) = true)
    (l_KeyOrder_ahead : K.lookup f_KeyOrder_ahead = some ⟨oc_KeyOrder_ahead, od_KeyOrder_ahead, .func (PySem.W.fnOf "ahead" "KeyOrder.ahead" (defArgs s_KeyOrder_ahead) (defBody s_KeyOrder_ahead) (defScope s_KeyOrder_ahead) .none kV_KeyOrder_ahead doc_KeyOrder_ahead pm_KeyOrder_ahead an_KeyOrder_ahead cd_KeyOrder_ahead ct_KeyOrder_ahead), osl_KeyOrder_ahead⟩)
    (e_KeyOrder_ahead : PySem.W.codeIn K cd_KeyOrder_ahead "KeyOrder.ahead" = true)
    (k_KeyOrder_ahead : PySem.W.keepIn K (.ref f_KeyOrder_ahead) = true)
    (a_KeyOrder_counted : PySem.W.findIn K (.ref C_KeyOrder) "counted" = some (some (.ref f_Order_counted)))
    (a_KeyOrder_alike : PySem.W.findIn K (.ref C_KeyOrder) "alike" = some (some (.ref f_Order_alike)))
    (a_KeyOrder_many_asked : PySem.W.findIn K (.ref C_KeyOrder) "many_asked" = some (some (.ref f_Order_many_asked)))
    (a_DownOrder : PySem.W.nsIn K mainGlobals "DownOrder" = some (some (.ref C_DownOrder)))
    (pg_DownOrder : PySem.W.plainGet K C_DownOrder Str.empty = true)
    (hd_DownOrder : PySem.W.hasDictIn K C_DownOrder = true)
    (po_DownOrder : PySem.W.plainOver K C_DownOrder = true)
    (sa_DownOrder : PySem.W.findIn K (.ref C_DownOrder) "__setattr__" = some (some (.builtin "object.__setattr__")))
    (mk_DownOrder : PySem.W.makesIn K C_DownOrder = true)
    (kc_DownOrder : PySem.W.keepIn K (.ref C_DownOrder) = true)
    (na_DownOrder_own_rule : PySem.W.findIn K (.ref C_DownOrder) "own_rule" = some none)
    (na_DownOrder_times_asked : PySem.W.findIn K (.ref C_DownOrder) "times_asked" = some none)
    (na_DownOrder_inner : PySem.W.findIn K (.ref C_DownOrder) "inner" = some none)
    (a_DownOrder___init__ : PySem.W.findIn K (.ref C_DownOrder) "__init__" = some (some (.ref f_DownOrder___init__)))
    (i_DownOrder___init__ : PySem.W.isFn K (.ref f_DownOrder___init__) = true)
    (l_DownOrder___init__ : K.lookup f_DownOrder___init__ = some ⟨oc_DownOrder___init__, od_DownOrder___init__, .func (PySem.W.fnOf "__init__" "DownOrder.__init__" (defArgs s_DownOrder___init__) (defBody s_DownOrder___init__) (defScope s_DownOrder___init__) .none kV_DownOrder___init__ doc_DownOrder___init__ pm_DownOrder___init__ an_DownOrder___init__ cd_DownOrder___init__ ct_DownOrder___init__), osl_DownOrder___init__⟩)
    (e_DownOrder___init__ : PySem.W.codeIn K cd_DownOrder___init__ "DownOrder.__init__" = true)
    (k_DownOrder___init__ : PySem.W.keepIn K (.ref f_DownOrder___init__) = true)
    (a_DownOrder_ahead : PySem.W.findIn K (.ref C_DownOrder) "ahead" = some (some (.ref f_DownOrder_ahead)))
    (i_DownOrder_ahead : PySem.W.isFn K (.ref f_DownOrder_ahead) = true)
    (l_DownOrder_ahead : K.lookup f_DownOrder_ahead = some ⟨oc_DownOrder_ahead, od_DownOrder_ahead, .func (PySem.W.fnOf "ahead" "DownOrder.ahead" (defArgs s_DownOrder_ahead) (defBody s_DownOrder_ahead) (defScope s_DownOrder_ahead) .none kV_DownOrder_ahead doc_DownOrder_ahead pm_DownOrder_ahead an_DownOrder_ahead cd_DownOrder_ahead ct_DownOrder_ahead), osl_DownOrder_ahead⟩)
    (e_DownOrder_ahead : PySem.W.codeIn K cd_DownOrder_ahead "DownOrder.ahead" = true)
    (k_DownOrder_ahead : PySem.W.keepIn K (.ref f_DownOrder_ahead) = true)
    (a_DownOrder_counted : PySem.W.findIn K (.ref C_DownOrder) "counted" = some (some (.ref f_Order_counted)))
    (a_DownOrder_alike : PySem.W.findIn K (.ref C_DownOrder) "alike" = some (some (.ref f_Order_alike)))
    (a_DownOrder_many_asked : PySem.W.findIn K (.ref C_DownOrder) "many_asked" = some (some (.ref f_Order_many_asked)))
    (a_ThenOrder : PySem.W.nsIn K mainGlobals "ThenOrder" = some (some (.ref C_ThenOrder)))
    (pg_ThenOrder : PySem.W.plainGet K C_ThenOrder Str.empty = true)
    (hd_ThenOrder : PySem.W.hasDictIn K C_ThenOrder = true)
    (po_ThenOrder : PySem.W.plainOver K C_ThenOrder = true)
    (sa_ThenOrder : PySem.W.findIn K (.ref C_ThenOrder) "__setattr__" = some (some (.builtin "object.__setattr__")))
    (mk_ThenOrder : PySem.W.makesIn K C_ThenOrder = true)
    (kc_ThenOrder : PySem.W.keepIn K (.ref C_ThenOrder) = true)
    (na_ThenOrder_own_rule : PySem.W.findIn K (.ref C_ThenOrder) "own_rule" = some none)
    (na_ThenOrder_times_asked : PySem.W.findIn K (.ref C_ThenOrder) "times_asked" = some none)
    (na_ThenOrder_inner : PySem.W.findIn K (.ref C_ThenOrder) "inner" = some none)
    (na_ThenOrder_second_one : PySem.W.findIn K (.ref C_ThenOrder) "second_one" = some none)
    (a_ThenOrder___init__ : PySem.W.findIn K (.ref C_ThenOrder) "__init__" = some (some (.ref f_ThenOrder___init__)))
    (i_ThenOrder___init__ : PySem.W.isFn K (.ref f_ThenOrder___init__) = true)
    (l_ThenOrder___init__ : K.lookup f_ThenOrder___init__ = some ⟨oc_ThenOrder___init__, od_ThenOrder___init__, .func (PySem.W.fnOf "__init__" "ThenOrder.__init__" (defArgs s_ThenOrder___init__) (defBody s_ThenOrder___init__) (defScope s_ThenOrder___init__) .none kV_ThenOrder___init__ doc_ThenOrder___init__ pm_ThenOrder___init__ an_ThenOrder___init__ cd_ThenOrder___init__ ct_ThenOrder___init__), osl_ThenOrder___init__⟩)
    (e_ThenOrder___init__ : PySem.W.codeIn K cd_ThenOrder___init__ "ThenOrder.__init__" = true)
    (k_ThenOrder___init__ : PySem.W.keepIn K (.ref f_ThenOrder___init__) = true)
    (a_ThenOrder_ahead : PySem.W.findIn K (.ref C_ThenOrder) "ahead" = some (some (.ref f_ThenOrder_ahead)))
    (i_ThenOrder_ahead : PySem.W.isFn K (.ref f_ThenOrder_ahead) = true)
    (l_ThenOrder_ahead : K.lookup f_ThenOrder_ahead = some ⟨oc_ThenOrder_ahead, od_ThenOrder_ahead, .func (PySem.W.fnOf "ahead" "ThenOrder.ahead" (defArgs s_ThenOrder_ahead) (defBody s_ThenOrder_ahead) (defScope s_ThenOrder_ahead) .none kV_ThenOrder_ahead doc_ThenOrder_ahead pm_ThenOrder_ahead an_ThenOrder_ahead cd_ThenOrder_ahead ct_ThenOrder_ahead), osl_ThenOrder_ahead⟩)
    (e_ThenOrder_ahead : PySem.W.codeIn K cd_ThenOrder_ahead "ThenOrder.ahead" = true)
    (k_ThenOrder_ahead : PySem.W.keepIn K (.ref f_ThenOrder_ahead) = true)
    (a_ThenOrder_counted : PySem.W.findIn K (.ref C_ThenOrder) "counted" = some (some (.ref f_Order_counted)))
    (a_ThenOrder_alike : PySem.W.findIn K (.ref C_ThenOrder) "alike" = some (some (.ref f_Order_alike)))
    (a_ThenOrder_many_asked : PySem.W.findIn K (.ref C_ThenOrder) "many_asked" = some (some (.ref f_Order_many_asked)))
    (a_need_order : PySem.W.nsIn K mainGlobals "need_order" = some (some (.ref f_need_order)))
    (l_need_order : K.lookup f_need_order = some ⟨oc_need_order, od_need_order, .func (PySem.W.fnOf "need_order" "need_order" (defArgs s_need_order) (defBody s_need_order) (defScope s_need_order) .none kV_need_order doc_need_order pm_need_order an_need_order cd_need_order ct_need_order), osl_need_order⟩)
    (e_need_order : PySem.W.codeIn K cd_need_order "need_order" = true)
    (k_need_order : PySem.W.keepIn K (.ref f_need_order) = true)
    (a__law_mixed : PySem.W.nsIn K mainGlobals "_law_mixed" = some (some (.ref f__law_mixed)))
    (l__law_mixed : K.lookup f__law_mixed = some ⟨oc__law_mixed, od__law_mixed, .func (PySem.W.fnOf "_law_mixed" "_law_mixed" (defArgs s_l_mixed) (defBody s_l_mixed) (defScope s_l_mixed) .none kV__law_mixed doc__law_mixed pm__law_mixed an__law_mixed cd__law_mixed ct__law_mixed), osl__law_mixed⟩)
    (e__law_mixed : PySem.W.codeIn K cd__law_mixed "_law_mixed" = true)
    (k__law_mixed : PySem.W.keepIn K (.ref f__law_mixed) = true)
    (a__law_take : PySem.W.nsIn K mainGlobals "_law_take" = some (some (.ref f__law_take)))
    (l__law_take : K.lookup f__law_take = some ⟨oc__law_take, od__law_take, .func (PySem.W.fnOf "_law_take" "_law_take" (defArgs s_l_take) (defBody s_l_take) (defScope s_l_take) .none kV__law_take doc__law_take pm__law_take an__law_take cd__law_take ct__law_take), osl__law_take⟩)
    (e__law_take : PySem.W.codeIn K cd__law_take "_law_take" = true)
    (k__law_take : PySem.W.keepIn K (.ref f__law_take) = true)
    (a__law_refusal : PySem.W.nsIn K mainGlobals "_law_refusal" = some (some (.ref f__law_refusal)))
    (l__law_refusal : K.lookup f__law_refusal = some ⟨oc__law_refusal, od__law_refusal, .func (PySem.W.fnOf "_law_refusal" "_law_refusal" (defArgs s_l_refusal) (defBody s_l_refusal) (defScope s_l_refusal) .none kV__law_refusal doc__law_refusal pm__law_refusal an__law_refusal cd__law_refusal ct__law_refusal), osl__law_refusal⟩)
    (e__law_refusal : PySem.W.codeIn K cd__law_refusal "_law_refusal" = true)
    (k__law_refusal : PySem.W.keepIn K (.ref f__law_refusal) = true)
    (a__law_heard : PySem.W.nsIn K mainGlobals "_law_heard" = some (some (.ref f__law_heard)))
    (l__law_heard : K.lookup f__law_heard = some ⟨oc__law_heard, od__law_heard, .func (PySem.W.fnOf "_law_heard" "_law_heard" (defArgs s_l_heard) (defBody s_l_heard) (defScope s_l_heard) .none kV__law_heard doc__law_heard pm__law_heard an__law_heard cd__law_heard ct__law_heard), osl__law_heard⟩)
    (e__law_heard : PySem.W.codeIn K cd__law_heard "_law_heard" = true)
    (k__law_heard : PySem.W.keepIn K (.ref f__law_heard) = true)
    (a__law_text_by : PySem.W.nsIn K mainGlobals "_law_text_by" = some (some (.ref f__law_text_by)))
    (l__law_text_by : K.lookup f__law_text_by = some ⟨oc__law_text_by, od__law_text_by, .func (PySem.W.fnOf "_law_text_by" "_law_text_by" (defArgs s_l_text_by) (defBody s_l_text_by) (defScope s_l_text_by) .none kV__law_text_by doc__law_text_by pm__law_text_by an__law_text_by cd__law_text_by ct__law_text_by), osl__law_text_by⟩)
    (e__law_text_by : PySem.W.codeIn K cd__law_text_by "_law_text_by" = true)
    (k__law_text_by : PySem.W.keepIn K (.ref f__law_text_by) = true)
    (a__law_number_by : PySem.W.nsIn K mainGlobals "_law_number_by" = some (some (.ref f__law_number_by)))
    (l__law_number_by : K.lookup f__law_number_by = some ⟨oc__law_number_by, od__law_number_by, .func (PySem.W.fnOf "_law_number_by" "_law_number_by" (defArgs s_l_number_by) (defBody s_l_number_by) (defScope s_l_number_by) .none kV__law_number_by doc__law_number_by pm__law_number_by an__law_number_by cd__law_number_by ct__law_number_by), osl__law_number_by⟩)
    (e__law_number_by : PySem.W.codeIn K cd__law_number_by "_law_number_by" = true)
    (k__law_number_by : PySem.W.keepIn K (.ref f__law_number_by) = true)
    (a__law_thing_by : PySem.W.nsIn K mainGlobals "_law_thing_by" = some (some (.ref f__law_thing_by)))
    (l__law_thing_by : K.lookup f__law_thing_by = some ⟨oc__law_thing_by, od__law_thing_by, .func (PySem.W.fnOf "_law_thing_by" "_law_thing_by" (defArgs s_l_thing_by) (defBody s_l_thing_by) (defScope s_l_thing_by) .none kV__law_thing_by doc__law_thing_by pm__law_thing_by an__law_thing_by cd__law_thing_by ct__law_thing_by), osl__law_thing_by⟩)
    (e__law_thing_by : PySem.W.codeIn K cd__law_thing_by "_law_thing_by" = true)
    (k__law_thing_by : PySem.W.keepIn K (.ref f__law_thing_by) = true)
    (a__law_plain_right : PySem.W.nsIn K mainGlobals "_law_plain_right" = some (some (.ref f__law_plain_right)))
    (l__law_plain_right : K.lookup f__law_plain_right = some ⟨oc__law_plain_right, od__law_plain_right, .func (PySem.W.fnOf "_law_plain_right" "_law_plain_right" (defArgs s_l_plain_right) (defBody s_l_plain_right) (defScope s_l_plain_right) .none kV__law_plain_right doc__law_plain_right pm__law_plain_right an__law_plain_right (.ref cc__law_plain_right) ct__law_plain_right), osl__law_plain_right⟩)
    (e__law_plain_right : PySem.W.codeIn K (.ref cc__law_plain_right) "_law_plain_right" = true)
    (nt__law_plain_right : K.lookup 451 = none)
    (ht__law_plain_right : PySem.W.codeHdIn K cc__law_plain_right 451 = true)
    (k__law_plain_right : PySem.W.keepIn K (.ref f__law_plain_right) = true)
    (a__law_door : PySem.W.nsIn K mainGlobals "_law_door" = some (some (.ref f__law_door)))
    (l__law_door : K.lookup f__law_door = some ⟨oc__law_door, od__law_door, .func (PySem.W.fnOf "_law_door" "_law_door" (defArgs s_l_door) (defBody s_l_door) (defScope s_l_door) .none kV__law_door doc__law_door pm__law_door an__law_door (.ref cc__law_door) ct__law_door), osl__law_door⟩)
    (e__law_door : PySem.W.codeIn K (.ref cc__law_door) "_law_door" = true)
    (nt__law_door : K.lookup 456 = none)
    (ht__law_door : PySem.W.codeHdIn K cc__law_door 456 = true)
    (k__law_door : PySem.W.keepIn K (.ref f__law_door) = true)
    (a__law_doors_right : PySem.W.nsIn K mainGlobals "_law_doors_right" = some (some (.ref f__law_doors_right)))
    (l__law_doors_right : K.lookup f__law_doors_right = some ⟨oc__law_doors_right, od__law_doors_right, .func (PySem.W.fnOf "_law_doors_right" "_law_doors_right" (defArgs s_l_doors_right) (defBody s_l_doors_right) (defScope s_l_doors_right) .none kV__law_doors_right doc__law_doors_right pm__law_doors_right an__law_doors_right (.ref cc__law_doors_right) ct__law_doors_right), osl__law_doors_right⟩)
    (e__law_doors_right : PySem.W.codeIn K (.ref cc__law_doors_right) "_law_doors_right" = true)
    (nt__law_doors_right : K.lookup 463 = none)
    (ht__law_doors_right : PySem.W.codeHdIn K cc__law_doors_right 463 = true)
    (k__law_doors_right : PySem.W.keepIn K (.ref f__law_doors_right) = true)
    (a_law : PySem.W.nsIn K mainGlobals "law" = some (some (.ref f_law)))
    (l_law : K.lookup f_law = some ⟨oc_law, od_law, .func (PySem.W.fnOf "law" "law" (defArgs s_law) (defBody s_law) (defScope s_law) .none kV_law doc_law pm_law an_law cd_law ct_law), osl_law⟩)
    (e_law : PySem.W.codeIn K cd_law "law" = true)
    (k_law : PySem.W.keepIn K (.ref f_law) = true)
    (x_stat : PySem.W.nsIn K cStatics "sys.int_max_str_digits" = some none)
    (x_any_BadKind : PySem.W.exmAny K (.ref C_BadKind) [.ref C_SortError, .ref C_BadAnswer, .ref C_BadKind, .ref C_BadText, .ref C_BadNumber, .ref C_NoSuch, .ref C_TooMany, .ref C_Stopped] = some true)
    (x_kit_BadKind : ([.ref C_BadPaper, .ref C_Flawed, .ref C_BadLine, .ref C_Busy, .ref C_Gone, .ref C_BadAnswer, .ref C_BadKind, .ref C_BadText, .ref C_BadNumber, .ref C_NoSuch, .ref C_TooMany, .ref C_Stopped] : List Value).map (fun c => PySem.W.kitOne K (.ref C_BadKind) c) = [some false, some false, some false, some false, some false, some false, some true, some false, some false, some false, some false, some false])
    (x_i_Order : PySem.W.kitOne K (.ref C_Order) (.ref C_Order) = some true)
    (x_kit_Order : ([.ref C_PlainOrder, .ref C_KeyOrder, .ref C_DownOrder, .ref C_ThenOrder] : List Value).map (fun c => PySem.W.kitOne K (.ref C_Order) c) = [some false, some false, some false, some false])
    (x_oha_Order : PySem.W.findIn K (.ref C_Order) "__class__" = some (some (.builtin "object.__class__")))
    (x_ohm_Order : PySem.W.mroIn K C_Order (.type "object") = some true)
    (x_i_PlainOrder : PySem.W.kitOne K (.ref C_PlainOrder) (.ref C_Order) = some true)
    (x_kit_PlainOrder : ([.ref C_PlainOrder, .ref C_KeyOrder, .ref C_DownOrder, .ref C_ThenOrder] : List Value).map (fun c => PySem.W.kitOne K (.ref C_PlainOrder) c) = [some true, some false, some false, some false])
    (x_oha_PlainOrder : PySem.W.findIn K (.ref C_PlainOrder) "__class__" = some (some (.builtin "object.__class__")))
    (x_ohm_PlainOrder : PySem.W.mroIn K C_PlainOrder (.type "object") = some true)
    (x_i_KeyOrder : PySem.W.kitOne K (.ref C_KeyOrder) (.ref C_Order) = some true)
    (x_kit_KeyOrder : ([.ref C_PlainOrder, .ref C_KeyOrder, .ref C_DownOrder, .ref C_ThenOrder] : List Value).map (fun c => PySem.W.kitOne K (.ref C_KeyOrder) c) = [some false, some true, some false, some false])
    (x_oha_KeyOrder : PySem.W.findIn K (.ref C_KeyOrder) "__class__" = some (some (.builtin "object.__class__")))
    (x_ohm_KeyOrder : PySem.W.mroIn K C_KeyOrder (.type "object") = some true)
    (x_i_DownOrder : PySem.W.kitOne K (.ref C_DownOrder) (.ref C_Order) = some true)
    (x_kit_DownOrder : ([.ref C_PlainOrder, .ref C_KeyOrder, .ref C_DownOrder, .ref C_ThenOrder] : List Value).map (fun c => PySem.W.kitOne K (.ref C_DownOrder) c) = [some false, some false, some true, some false])
    (x_oha_DownOrder : PySem.W.findIn K (.ref C_DownOrder) "__class__" = some (some (.builtin "object.__class__")))
    (x_ohm_DownOrder : PySem.W.mroIn K C_DownOrder (.type "object") = some true)
    (x_i_ThenOrder : PySem.W.kitOne K (.ref C_ThenOrder) (.ref C_Order) = some true)
    (x_kit_ThenOrder : ([.ref C_PlainOrder, .ref C_KeyOrder, .ref C_DownOrder, .ref C_ThenOrder] : List Value).map (fun c => PySem.W.kitOne K (.ref C_ThenOrder) c) = [some false, some false, some false, some true])
    (x_oha_ThenOrder : PySem.W.findIn K (.ref C_ThenOrder) "__class__" = some (some (.builtin "object.__class__")))
    (x_ohm_ThenOrder : PySem.W.mroIn K C_ThenOrder (.type "object") = some true)
    (x_io_int : PySem.W.kitOne K (.type "int") (.ref C_Order) = some false)
    (x_io_bool : PySem.W.kitOne K (.type "bool") (.ref C_Order) = some false)
    (x_io_str : PySem.W.kitOne K (.type "str") (.ref C_Order) = some false)
    (x_io_non : PySem.W.kitOne K (.type "NoneType") (.ref C_Order) = some false)
    (x_io_lst : PySem.W.kitOne K (.type "list") (.ref C_Order) = some false)
    (x_io_tup : PySem.W.kitOne K (.type "tuple") (.ref C_Order) = some false)
    (x_io_dct : PySem.W.kitOne K (.type "dict") (.ref C_Order) = some false)
    (x_io_fun : PySem.W.kitOne K (.type "function") (.ref C_Order) = some false)
    (x_ohn : PySem.W.specialIn K (.builtin "object.__class__") "__get__" = some (some (.builtin "getset_descriptor.__get__")))
    (x_oht : PySem.W.takesIn K (.builtin "object.__class__") = some true)
    (z_len : PySem.W.nsIn K mainGlobals "len" = some none)
    (z_min : PySem.W.nsIn K mainGlobals "min" = some none)
    (z_range : PySem.W.nsIn K mainGlobals "range" = some none)
    (z_repr : PySem.W.nsIn K mainGlobals "repr" = some none)
    (z_isinstance : PySem.W.nsIn K mainGlobals "isinstance" = some none)
    (z_bool : PySem.W.nsIn K mainGlobals "bool" = some none)
    (z_tuple : PySem.W.nsIn K mainGlobals "tuple" = some none)
    (z_TypeError : PySem.W.nsIn K mainGlobals "TypeError" = some none)
    (z_IndexError : PySem.W.nsIn K mainGlobals "IndexError" = some none)
    (z_OverflowError : PySem.W.nsIn K mainGlobals "OverflowError" = some none)
    (z_KeyError : PySem.W.nsIn K mainGlobals "KeyError" = some none)
    (z_RuntimeError : PySem.W.nsIn K mainGlobals "RuntimeError" = some none)
    (z_Exception : PySem.W.nsIn K mainGlobals "Exception" = some none)
    : ∃ A, Txt K mg w A :=
  ⟨⟨C_SortError, C_BadAnswer, f_BadAnswer___init__, C_BadKind, f_BadKind___init__, C_BadPaper, C_Flawed, C_BadLine, C_Busy, C_Gone, C_BadText, C_BadNumber, C_NoSuch, C_TooMany, C_Stopped, C_Order, f_Order___init__, f_Order_counted, f_Order_ahead, f_Order_alike, f_Order_many_asked, C_PlainOrder, f_PlainOrder___init__, f_PlainOrder_ahead, C_KeyOrder, f_KeyOrder___init__, f_KeyOrder_ahead, C_DownOrder, f_DownOrder___init__, f_DownOrder_ahead, C_ThenOrder, f_ThenOrder___init__, f_ThenOrder_ahead, f_need_order, f__law_mixed, f__law_take, f__law_refusal, f__law_heard, f__law_text_by, f__law_number_by, f__law_thing_by, f__law_plain_right, cc__law_plain_right, f__law_door, cc__law_door, f__law_doors_right, cc__law_doors_right, f_law, (PySem.W.fnOf "__init__" "BadAnswer.__init__" (defArgs s_BadAnswer___init__) (defBody s_BadAnswer___init__) (defScope s_BadAnswer___init__) .none kV_BadAnswer___init__ doc_BadAnswer___init__ pm_BadAnswer___init__ an_BadAnswer___init__ cd_BadAnswer___init__ ct_BadAnswer___init__), (PySem.W.fnOf "__init__" "BadKind.__init__" (defArgs s_BadKind___init__) (defBody s_BadKind___init__) (defScope s_BadKind___init__) .none kV_BadKind___init__ doc_BadKind___init__ pm_BadKind___init__ an_BadKind___init__ cd_BadKind___init__ ct_BadKind___init__), (PySem.W.fnOf "__init__" "Order.__init__" (defArgs s_Order___init__) (defBody s_Order___init__) (defScope s_Order___init__) .none kV_Order___init__ doc_Order___init__ pm_Order___init__ an_Order___init__ cd_Order___init__ ct_Order___init__), (PySem.W.fnOf "counted" "Order.counted" (defArgs s_Order_counted) (defBody s_Order_counted) (defScope s_Order_counted) .none kV_Order_counted doc_Order_counted pm_Order_counted an_Order_counted cd_Order_counted ct_Order_counted), (PySem.W.fnOf "ahead" "Order.ahead" (defArgs s_Order_ahead) (defBody s_Order_ahead) (defScope s_Order_ahead) .none kV_Order_ahead doc_Order_ahead pm_Order_ahead an_Order_ahead cd_Order_ahead ct_Order_ahead), (PySem.W.fnOf "alike" "Order.alike" (defArgs s_Order_alike) (defBody s_Order_alike) (defScope s_Order_alike) .none kV_Order_alike doc_Order_alike pm_Order_alike an_Order_alike cd_Order_alike ct_Order_alike), (PySem.W.fnOf "many_asked" "Order.many_asked" (defArgs s_Order_many_asked) (defBody s_Order_many_asked) (defScope s_Order_many_asked) .none kV_Order_many_asked doc_Order_many_asked pm_Order_many_asked an_Order_many_asked cd_Order_many_asked ct_Order_many_asked), (PySem.W.fnOf "__init__" "PlainOrder.__init__" (defArgs s_PlainOrder___init__) (defBody s_PlainOrder___init__) (defScope s_PlainOrder___init__) .none kV_PlainOrder___init__ doc_PlainOrder___init__ pm_PlainOrder___init__ an_PlainOrder___init__ cd_PlainOrder___init__ ct_PlainOrder___init__), (PySem.W.fnOf "ahead" "PlainOrder.ahead" (defArgs s_PlainOrder_ahead) (defBody s_PlainOrder_ahead) (defScope s_PlainOrder_ahead) .none kV_PlainOrder_ahead doc_PlainOrder_ahead pm_PlainOrder_ahead an_PlainOrder_ahead cd_PlainOrder_ahead ct_PlainOrder_ahead), (PySem.W.fnOf "__init__" "KeyOrder.__init__" (defArgs s_KeyOrder___init__) (defBody s_KeyOrder___init__) (defScope s_KeyOrder___init__) (.ref DT_KeyOrder) kV_KeyOrder___init__ doc_KeyOrder___init__ pm_KeyOrder___init__ an_KeyOrder___init__ cd_KeyOrder___init__ ct_KeyOrder___init__), (PySem.W.fnOf "ahead" "KeyOrder.ahead" (defArgs s_KeyOrder_ahead) (defBody s_KeyOrder_ahead) (defScope s_KeyOrder_ahead) .none kV_KeyOrder_ahead doc_KeyOrder_ahead pm_KeyOrder_ahead an_KeyOrder_ahead cd_KeyOrder_ahead ct_KeyOrder_ahead), (PySem.W.fnOf "__init__" "DownOrder.__init__" (defArgs s_DownOrder___init__) (defBody s_DownOrder___init__) (defScope s_DownOrder___init__) .none kV_DownOrder___init__ doc_DownOrder___init__ pm_DownOrder___init__ an_DownOrder___init__ cd_DownOrder___init__ ct_DownOrder___init__), (PySem.W.fnOf "ahead" "DownOrder.ahead" (defArgs s_DownOrder_ahead) (defBody s_DownOrder_ahead) (defScope s_DownOrder_ahead) .none kV_DownOrder_ahead doc_DownOrder_ahead pm_DownOrder_ahead an_DownOrder_ahead cd_DownOrder_ahead ct_DownOrder_ahead), (PySem.W.fnOf "__init__" "ThenOrder.__init__" (defArgs s_ThenOrder___init__) (defBody s_ThenOrder___init__) (defScope s_ThenOrder___init__) .none kV_ThenOrder___init__ doc_ThenOrder___init__ pm_ThenOrder___init__ an_ThenOrder___init__ cd_ThenOrder___init__ ct_ThenOrder___init__), (PySem.W.fnOf "ahead" "ThenOrder.ahead" (defArgs s_ThenOrder_ahead) (defBody s_ThenOrder_ahead) (defScope s_ThenOrder_ahead) .none kV_ThenOrder_ahead doc_ThenOrder_ahead pm_ThenOrder_ahead an_ThenOrder_ahead cd_ThenOrder_ahead ct_ThenOrder_ahead), (PySem.W.fnOf "need_order" "need_order" (defArgs s_need_order) (defBody s_need_order) (defScope s_need_order) .none kV_need_order doc_need_order pm_need_order an_need_order cd_need_order ct_need_order), (PySem.W.fnOf "_law_mixed" "_law_mixed" (defArgs s_l_mixed) (defBody s_l_mixed) (defScope s_l_mixed) .none kV__law_mixed doc__law_mixed pm__law_mixed an__law_mixed cd__law_mixed ct__law_mixed), (PySem.W.fnOf "_law_take" "_law_take" (defArgs s_l_take) (defBody s_l_take) (defScope s_l_take) .none kV__law_take doc__law_take pm__law_take an__law_take cd__law_take ct__law_take), (PySem.W.fnOf "_law_refusal" "_law_refusal" (defArgs s_l_refusal) (defBody s_l_refusal) (defScope s_l_refusal) .none kV__law_refusal doc__law_refusal pm__law_refusal an__law_refusal cd__law_refusal ct__law_refusal), (PySem.W.fnOf "_law_heard" "_law_heard" (defArgs s_l_heard) (defBody s_l_heard) (defScope s_l_heard) .none kV__law_heard doc__law_heard pm__law_heard an__law_heard cd__law_heard ct__law_heard), (PySem.W.fnOf "_law_text_by" "_law_text_by" (defArgs s_l_text_by) (defBody s_l_text_by) (defScope s_l_text_by) .none kV__law_text_by doc__law_text_by pm__law_text_by an__law_text_by cd__law_text_by ct__law_text_by), (PySem.W.fnOf "_law_number_by" "_law_number_by" (defArgs s_l_number_by) (defBody s_l_number_by) (defScope s_l_number_by) .none kV__law_number_by doc__law_number_by pm__law_number_by an__law_number_by cd__law_number_by ct__law_number_by), (PySem.W.fnOf "_law_thing_by" "_law_thing_by" (defArgs s_l_thing_by) (defBody s_l_thing_by) (defScope s_l_thing_by) .none kV__law_thing_by doc__law_thing_by pm__law_thing_by an__law_thing_by cd__law_thing_by ct__law_thing_by), (PySem.W.fnOf "_law_plain_right" "_law_plain_right" (defArgs s_l_plain_right) (defBody s_l_plain_right) (defScope s_l_plain_right) .none kV__law_plain_right doc__law_plain_right pm__law_plain_right an__law_plain_right (.ref cc__law_plain_right) ct__law_plain_right), (PySem.W.fnOf "_law_door" "_law_door" (defArgs s_l_door) (defBody s_l_door) (defScope s_l_door) .none kV__law_door doc__law_door pm__law_door an__law_door (.ref cc__law_door) ct__law_door), (PySem.W.fnOf "_law_doors_right" "_law_doors_right" (defArgs s_l_doors_right) (defBody s_l_doors_right) (defScope s_l_doors_right) .none kV__law_doors_right doc__law_doors_right pm__law_doors_right an__law_doors_right (.ref cc__law_doors_right) ct__law_doors_right), (PySem.W.fnOf "law" "law" (defArgs s_law) (defBody s_law) (defScope s_law) .none kV_law doc_law pm_law an_law cd_law ct_law)⟩,
    { m_SortError := PySem.W.mg_of X G a_SortError
      q_SortError := ini_SortError
      p_SortError := kpc_SortError
      k_SortError := ⟨xcl_SortError, xga_SortError, xgg_SortError, bex_SortError, dic_SortError, xha_SortError, xhn_SortError, xht_SortError, xhm_SortError⟩
      r_SortError := ⟨rd_SortError, rg_SortError⟩
      m_BadAnswer := PySem.W.mg_of X G a_BadAnswer
      o_BadAnswer := ⟨⟨_, Xc.XB.of PySem.F.excBase_TypeError⟩, PySem.F.store_TypeError, ini_BadAnswer, ovr_BadAnswer, dic_BadAnswer, sav_BadAnswer, bex_BadAnswer, tyc_BadAnswer, kpc_BadAnswer⟩
      k_BadAnswer := ⟨xcl_BadAnswer, xga_BadAnswer, xgg_BadAnswer, bex_BadAnswer, dic_BadAnswer, xha_BadAnswer, xhn_BadAnswer, xht_BadAnswer, xhm_BadAnswer⟩
      t_BadAnswer_answer := tk_BadAnswer_answer
      na_BadAnswer_answer := na_BadAnswer_answer
      i_BadAnswer := a_BadAnswer___init__
      y_BadAnswer := y_BadAnswer___init__
      c_BadAnswer___init__ := ⟨fun_mk l_BadAnswer___init__ e_BadAnswer___init__ k_BadAnswer___init__, (fun_mk (st := s_BadAnswer___init__) l_BadAnswer___init__ e_BadAnswer___init__ k_BadAnswer___init__).binds (ps := ["self", "answer"]) (fun _ _ _ _ _ _ us hl => match us, hl with | [_, _], _ => rfl)⟩
      v_BadAnswer := v_BadAnswer
      m_BadKind := PySem.W.mg_of X G a_BadKind
      o_BadKind := ⟨⟨_, Xc.XB.of PySem.F.excBase_TypeError⟩, PySem.F.store_TypeError, ini_BadKind, ovr_BadKind, dic_BadKind, sav_BadKind, bex_BadKind, tyc_BadKind, kpc_BadKind⟩
      k_BadKind := ⟨xcl_BadKind, xga_BadKind, xgg_BadKind, bex_BadKind, dic_BadKind, xha_BadKind, xhn_BadKind, xht_BadKind, xhm_BadKind⟩
      t_BadKind_wanted := tk_BadKind_wanted
      na_BadKind_wanted := na_BadKind_wanted
      i_BadKind := a_BadKind___init__
      y_BadKind := y_BadKind___init__
      c_BadKind___init__ := ⟨fun_mk l_BadKind___init__ e_BadKind___init__ k_BadKind___init__, (fun_mk (st := s_BadKind___init__) l_BadKind___init__ e_BadKind___init__ k_BadKind___init__).binds (ps := ["self", "wanted"]) (fun _ _ _ _ _ _ us hl => match us, hl with | [_, _], _ => rfl)⟩
      v_BadKind := v_BadKind
      m_BadPaper := PySem.W.mg_of X G a_BadPaper
      m_Flawed := PySem.W.mg_of X G a_Flawed
      m_BadLine := PySem.W.mg_of X G a_BadLine
      m_Busy := PySem.W.mg_of X G a_Busy
      m_Gone := PySem.W.mg_of X G a_Gone
      m_BadText := PySem.W.mg_of X G a_BadText
      m_BadNumber := PySem.W.mg_of X G a_BadNumber
      m_NoSuch := PySem.W.mg_of X G a_NoSuch
      m_TooMany := PySem.W.mg_of X G a_TooMany
      m_Stopped := PySem.W.mg_of X G a_Stopped
      m_Order := PySem.W.mg_of X G a_Order
      cl_Order := ⟨pg_Order, hd_Order, po_Order, sa_Order⟩
      na_Order_own_rule := na_Order_own_rule
      na_Order_times_asked := na_Order_times_asked
      i_Order := ⟨mk_Order, a_Order___init__, i_Order___init__, kc_Order⟩
      c_Order___init__ := ⟨fun_mk l_Order___init__ e_Order___init__ k_Order___init__, (fun_mk (st := s_Order___init__) l_Order___init__ e_Order___init__ k_Order___init__).binds (ps := ["self", "rule"]) (fun _ _ _ _ _ _ us hl => match us, hl with | [_, _], _ => rfl)⟩
      h_Order_counted := ⟨a_Order_counted, i_Order_counted, k_Order_counted⟩
      c_Order_counted := ⟨fun_mk l_Order_counted e_Order_counted k_Order_counted, (fun_mk (st := s_Order_counted) l_Order_counted e_Order_counted k_Order_counted).binds (ps := ["self"]) (fun _ _ _ _ _ _ us hl => match us, hl with | [_], _ => rfl)⟩
      h_Order_ahead := ⟨a_Order_ahead, i_Order_ahead, k_Order_ahead⟩
      c_Order_ahead := ⟨fun_mk l_Order_ahead e_Order_ahead k_Order_ahead, (fun_mk (st := s_Order_ahead) l_Order_ahead e_Order_ahead k_Order_ahead).binds (ps := ["self", "one", "other"]) (fun _ _ _ _ _ _ us hl => match us, hl with | [_, _, _], _ => rfl)⟩
      h_Order_alike := ⟨a_Order_alike, i_Order_alike, k_Order_alike⟩
      c_Order_alike := ⟨fun_mk l_Order_alike e_Order_alike k_Order_alike, (fun_mk (st := s_Order_alike) l_Order_alike e_Order_alike k_Order_alike).binds (ps := ["self", "one", "other"]) (fun _ _ _ _ _ _ us hl => match us, hl with | [_, _, _], _ => rfl)⟩
      h_Order_many_asked := ⟨a_Order_many_asked, i_Order_many_asked, k_Order_many_asked⟩
      c_Order_many_asked := ⟨fun_mk l_Order_many_asked e_Order_many_asked k_Order_many_asked, (fun_mk (st := s_Order_many_asked) l_Order_many_asked e_Order_many_asked k_Order_many_asked).binds (ps := ["self"]) (fun _ _ _ _ _ _ us hl => match us, hl with | [_], _ => rfl)⟩
      r_Order := ⟨rd_Order, rg_Order⟩
      vi_Order := vi_Order
      m_PlainOrder := PySem.W.mg_of X G a_PlainOrder
      cl_PlainOrder := ⟨pg_PlainOrder, hd_PlainOrder, po_PlainOrder, sa_PlainOrder⟩
      na_PlainOrder_own_rule := na_PlainOrder_own_rule
      na_PlainOrder_times_asked := na_PlainOrder_times_asked
      i_PlainOrder := ⟨mk_PlainOrder, a_PlainOrder___init__, i_PlainOrder___init__, kc_PlainOrder⟩
      c_PlainOrder___init__ := ⟨fun_mk l_PlainOrder___init__ e_PlainOrder___init__ k_PlainOrder___init__, (fun_mk (st := s_PlainOrder___init__) l_PlainOrder___init__ e_PlainOrder___init__ k_PlainOrder___init__).binds (ps := ["self"]) (fun _ _ _ _ _ _ us hl => match us, hl with | [_], _ => rfl)⟩
      h_PlainOrder_ahead := ⟨a_PlainOrder_ahead, i_PlainOrder_ahead, k_PlainOrder_ahead⟩
      c_PlainOrder_ahead := ⟨fun_mk l_PlainOrder_ahead e_PlainOrder_ahead k_PlainOrder_ahead, (fun_mk (st := s_PlainOrder_ahead) l_PlainOrder_ahead e_PlainOrder_ahead k_PlainOrder_ahead).binds (ps := ["self", "one", "other"]) (fun _ _ _ _ _ _ us hl => match us, hl with | [_, _, _], _ => rfl)⟩
      h_PlainOrder_counted := ⟨a_PlainOrder_counted, i_Order_counted, k_Order_counted⟩
      h_PlainOrder_alike := ⟨a_PlainOrder_alike, i_Order_alike, k_Order_alike⟩
      h_PlainOrder_many_asked := ⟨a_PlainOrder_many_asked, i_Order_many_asked, k_Order_many_asked⟩
      m_KeyOrder := PySem.W.mg_of X G a_KeyOrder
      cl_KeyOrder := ⟨pg_KeyOrder, hd_KeyOrder, po_KeyOrder, sa_KeyOrder⟩
      na_KeyOrder_own_rule := na_KeyOrder_own_rule
      na_KeyOrder_times_asked := na_KeyOrder_times_asked
      na_KeyOrder_inner := na_KeyOrder_inner
      na_KeyOrder_own_key := na_KeyOrder_own_key
      i_KeyOrder := ⟨mk_KeyOrder, a_KeyOrder___init__, i_KeyOrder___init__, kc_KeyOrder⟩
      c_KeyOrder___init__ := ⟨⟨⟨_, _, .ref DT_KeyOrder, _, _, _, _, _, _, _, rfl, l_KeyOrder___init__, e_KeyOrder___init__, Or.inr ⟨by simp, DT_KeyOrder, DO_KeyOrder, DI_KeyOrder, DN_KeyOrder, rfl, dl_KeyOrder, do_KeyOrder, dr_KeyOrder⟩, Or.inl rfl⟩, k_KeyOrder___init__⟩⟩
      h_KeyOrder_ahead := ⟨a_KeyOrder_ahead, i_KeyOrder_ahead, k_KeyOrder_ahead⟩
      c_KeyOrder_ahead := ⟨fun_mk l_KeyOrder_ahead e_KeyOrder_ahead k_KeyOrder_ahead, (fun_mk (st := s_KeyOrder_ahead) l_KeyOrder_ahead e_KeyOrder_ahead k_KeyOrder_ahead).binds (ps := ["self", "one", "other"]) (fun _ _ _ _ _ _ us hl => match us, hl with | [_, _, _], _ => rfl)⟩
      h_KeyOrder_counted := ⟨a_KeyOrder_counted, i_Order_counted, k_Order_counted⟩
      h_KeyOrder_alike := ⟨a_KeyOrder_alike, i_Order_alike, k_Order_alike⟩
      h_KeyOrder_many_asked := ⟨a_KeyOrder_many_asked, i_Order_many_asked, k_Order_many_asked⟩
      m_DownOrder := PySem.W.mg_of X G a_DownOrder
      cl_DownOrder := ⟨pg_DownOrder, hd_DownOrder, po_DownOrder, sa_DownOrder⟩
      na_DownOrder_own_rule := na_DownOrder_own_rule
      na_DownOrder_times_asked := na_DownOrder_times_asked
      na_DownOrder_inner := na_DownOrder_inner
      i_DownOrder := ⟨mk_DownOrder, a_DownOrder___init__, i_DownOrder___init__, kc_DownOrder⟩
      c_DownOrder___init__ := ⟨fun_mk l_DownOrder___init__ e_DownOrder___init__ k_DownOrder___init__, (fun_mk (st := s_DownOrder___init__) l_DownOrder___init__ e_DownOrder___init__ k_DownOrder___init__).binds (ps := ["self", "order"]) (fun _ _ _ _ _ _ us hl => match us, hl with | [_, _], _ => rfl)⟩
      h_DownOrder_ahead := ⟨a_DownOrder_ahead, i_DownOrder_ahead, k_DownOrder_ahead⟩
      c_DownOrder_ahead := ⟨fun_mk l_DownOrder_ahead e_DownOrder_ahead k_DownOrder_ahead, (fun_mk (st := s_DownOrder_ahead) l_DownOrder_ahead e_DownOrder_ahead k_DownOrder_ahead).binds (ps := ["self", "one", "other"]) (fun _ _ _ _ _ _ us hl => match us, hl with | [_, _, _], _ => rfl)⟩
      h_DownOrder_counted := ⟨a_DownOrder_counted, i_Order_counted, k_Order_counted⟩
      h_DownOrder_alike := ⟨a_DownOrder_alike, i_Order_alike, k_Order_alike⟩
      h_DownOrder_many_asked := ⟨a_DownOrder_many_asked, i_Order_many_asked, k_Order_many_asked⟩
      m_ThenOrder := PySem.W.mg_of X G a_ThenOrder
      cl_ThenOrder := ⟨pg_ThenOrder, hd_ThenOrder, po_ThenOrder, sa_ThenOrder⟩
      na_ThenOrder_own_rule := na_ThenOrder_own_rule
      na_ThenOrder_times_asked := na_ThenOrder_times_asked
      na_ThenOrder_inner := na_ThenOrder_inner
      na_ThenOrder_second_one := na_ThenOrder_second_one
      i_ThenOrder := ⟨mk_ThenOrder, a_ThenOrder___init__, i_ThenOrder___init__, kc_ThenOrder⟩
      c_ThenOrder___init__ := ⟨fun_mk l_ThenOrder___init__ e_ThenOrder___init__ k_ThenOrder___init__⟩
      h_ThenOrder_ahead := ⟨a_ThenOrder_ahead, i_ThenOrder_ahead, k_ThenOrder_ahead⟩
      c_ThenOrder_ahead := ⟨fun_mk l_ThenOrder_ahead e_ThenOrder_ahead k_ThenOrder_ahead, (fun_mk (st := s_ThenOrder_ahead) l_ThenOrder_ahead e_ThenOrder_ahead k_ThenOrder_ahead).binds (ps := ["self", "one", "other"]) (fun _ _ _ _ _ _ us hl => match us, hl with | [_, _, _], _ => rfl)⟩
      h_ThenOrder_counted := ⟨a_ThenOrder_counted, i_Order_counted, k_Order_counted⟩
      h_ThenOrder_alike := ⟨a_ThenOrder_alike, i_Order_alike, k_Order_alike⟩
      h_ThenOrder_many_asked := ⟨a_ThenOrder_many_asked, i_Order_many_asked, k_Order_many_asked⟩
      c_need_order := ⟨fun_mk l_need_order e_need_order k_need_order, (fun_mk (st := s_need_order) l_need_order e_need_order k_need_order).binds (ps := ["thing"]) (fun _ _ _ _ _ _ us hl => match us, hl with | [_], _ => rfl), PySem.W.mg_of X G a_need_order⟩
      c__law_mixed := ⟨fun_mk l__law_mixed e__law_mixed k__law_mixed, (fun_mk (st := s_l_mixed) l__law_mixed e__law_mixed k__law_mixed).binds (ps := ["_law_drawn", "_law_k"]) (fun _ _ _ _ _ _ us hl => match us, hl with | [_, _], _ => rfl), PySem.W.mg_of X G a__law_mixed⟩
      c__law_take := ⟨fun_mk l__law_take e__law_take k__law_take, (fun_mk (st := s_l_take) l__law_take e__law_take k__law_take).binds (ps := ["_law_stream", "_law_many"]) (fun _ _ _ _ _ _ us hl => match us, hl with | [_, _], _ => rfl), PySem.W.mg_of X G a__law_take⟩
      c__law_refusal := ⟨fun_mk l__law_refusal e__law_refusal k__law_refusal, (fun_mk (st := s_l_refusal) l__law_refusal e__law_refusal k__law_refusal).binds (ps := ["_law_e"]) (fun _ _ _ _ _ _ us hl => match us, hl with | [_], _ => rfl), PySem.W.mg_of X G a__law_refusal⟩
      c__law_heard := ⟨fun_mk l__law_heard e__law_heard k__law_heard, (fun_mk (st := s_l_heard) l__law_heard e__law_heard k__law_heard).binds (ps := ["_law_deed"]) (fun _ _ _ _ _ _ us hl => match us, hl with | [_], _ => rfl), PySem.W.mg_of X G a__law_heard⟩
      c__law_text_by := ⟨fun_mk l__law_text_by e__law_text_by k__law_text_by, (fun_mk (st := s_l_text_by) l__law_text_by e__law_text_by k__law_text_by).binds (ps := ["_law_stream"]) (fun _ _ _ _ _ _ us hl => match us, hl with | [_], _ => rfl), PySem.W.mg_of X G a__law_text_by⟩
      c__law_number_by := ⟨fun_mk l__law_number_by e__law_number_by k__law_number_by, (fun_mk (st := s_l_number_by) l__law_number_by e__law_number_by k__law_number_by).binds (ps := ["_law_stream"]) (fun _ _ _ _ _ _ us hl => match us, hl with | [_], _ => rfl), PySem.W.mg_of X G a__law_number_by⟩
      c__law_thing_by := ⟨fun_mk l__law_thing_by e__law_thing_by k__law_thing_by, (fun_mk (st := s_l_thing_by) l__law_thing_by e__law_thing_by k__law_thing_by).binds (ps := ["_law_stream", "_law_kind"]) (fun _ _ _ _ _ _ us hl => match us, hl with | [_, _], _ => rfl), PySem.W.mg_of X G a__law_thing_by⟩
      cx__law_plain_right := ⟨_, _, _, _, _, _, _, _, rfl, l__law_plain_right, e__law_plain_right⟩
      nt__law_plain_right := nt__law_plain_right
      ht__law_plain_right := ht__law_plain_right
      c__law_plain_right := ⟨fun_mk l__law_plain_right e__law_plain_right k__law_plain_right, (fun_mk (st := s_l_plain_right) l__law_plain_right e__law_plain_right k__law_plain_right).binds (ps := ["_law_things"]) (fun _ _ _ _ _ _ us hl => match us, hl with | [_], _ => rfl), PySem.W.mg_of X G a__law_plain_right⟩
      cx__law_door := ⟨_, _, _, _, _, _, _, _, rfl, l__law_door, e__law_door⟩
      nt__law_door := nt__law_door
      ht__law_door := ht__law_door
      c__law_door := ⟨fun_mk l__law_door e__law_door k__law_door, (fun_mk (st := s_l_door) l__law_door e__law_door k__law_door).binds (ps := ["_law_which", "_law_odd", "_law_good"]) (fun _ _ _ _ _ _ us hl => match us, hl with | [_, _, _], _ => rfl), PySem.W.mg_of X G a__law_door⟩
      cx__law_doors_right := ⟨_, _, _, _, _, _, _, _, rfl, l__law_doors_right, e__law_doors_right⟩
      nt__law_doors_right := nt__law_doors_right
      ht__law_doors_right := ht__law_doors_right
      c__law_doors_right := ⟨fun_mk l__law_doors_right e__law_doors_right k__law_doors_right, (fun_mk (st := s_l_doors_right) l__law_doors_right e__law_doors_right k__law_doors_right).binds (ps := ["_law_stream"]) (fun _ _ _ _ _ _ us hl => match us, hl with | [_], _ => rfl), PySem.W.mg_of X G a__law_doors_right⟩
      c_law := ⟨fun_mk l_law e_law k_law, (fun_mk (st := s_law) l_law e_law k_law).binds (ps := ["_law_script"]) (fun _ _ _ _ _ _ us hl => match us, hl with | [_], _ => rfl), PySem.W.mg_of X G a_law⟩
      x_stat := x_stat
      x_any_BadKind := x_any_BadKind
      x_kit_BadKind := x_kit_BadKind
      x_i_Order := x_i_Order
      x_kit_Order := x_kit_Order
      x_oha_Order := x_oha_Order
      x_ohm_Order := x_ohm_Order
      x_i_PlainOrder := x_i_PlainOrder
      x_kit_PlainOrder := x_kit_PlainOrder
      x_oha_PlainOrder := x_oha_PlainOrder
      x_ohm_PlainOrder := x_ohm_PlainOrder
      x_i_KeyOrder := x_i_KeyOrder
      x_kit_KeyOrder := x_kit_KeyOrder
      x_oha_KeyOrder := x_oha_KeyOrder
      x_ohm_KeyOrder := x_ohm_KeyOrder
      x_i_DownOrder := x_i_DownOrder
      x_kit_DownOrder := x_kit_DownOrder
      x_oha_DownOrder := x_oha_DownOrder
      x_ohm_DownOrder := x_ohm_DownOrder
      x_i_ThenOrder := x_i_ThenOrder
      x_kit_ThenOrder := x_kit_ThenOrder
      x_oha_ThenOrder := x_oha_ThenOrder
      x_ohm_ThenOrder := x_ohm_ThenOrder
      x_io_int := x_io_int
      x_io_bool := x_io_bool
      x_io_str := x_io_str
      x_io_non := x_io_non
      x_io_lst := x_io_lst
      x_io_tup := x_io_tup
      x_io_dct := x_io_dct
      x_io_fun := x_io_fun
      x_ohn := x_ohn
      x_oht := x_oht
      n_len := PySem.W.mg_none_of X G z_len
      n_min := PySem.W.mg_none_of X G z_min
      n_range := PySem.W.mg_none_of X G z_range
      n_repr := PySem.W.mg_none_of X G z_repr
      n_isinstance := PySem.W.mg_none_of X G z_isinstance
      n_bool := PySem.W.mg_none_of X G z_bool
      n_tuple := PySem.W.mg_none_of X G z_tuple
      n_TypeError := PySem.W.mg_none_of X G z_TypeError
      n_IndexError := PySem.W.mg_none_of X G z_IndexError
      n_OverflowError := PySem.W.mg_none_of X G z_OverflowError
      n_KeyError := PySem.W.mg_none_of X G z_KeyError
      n_RuntimeError := PySem.W.mg_none_of X G z_RuntimeError
      n_Exception := PySem.W.mg_none_of X G z_Exception }⟩

/-! orders -/
/-- the fields of an order: its rule, how often it was asked, what else -/
def flds (r : V) (n : Int) (rest : List (Str × V)) : List (Str × V) := ("own_rule", r) :: ("times_asked", .int n) :: rest
theorem fl_put (r : V) : putF "times_asked" (.int 0) (putF "own_rule" r []) = flds r 0 [] := by rfl
theorem fl_up (r : V) (n m : Int) (rest : List (Str × V)) : putF "times_asked" (.int m) (flds r n rest) = flds r m rest := by rfl
theorem fl_times (r : V) (n : Int) (rest : List (Str × V)) : (flds r n rest).lookup ("times_asked" : Str) = some (.int n) := by rfl
theorem fl_rule (r : V) (n : Int) (rest : List (Str × V)) : (flds r n rest).lookup ("own_rule" : Str) = some r := by rfl
/-- a class of orders -/
structure OrdC (K : PySem.W.Frag) (A : Ad) (C : Addr) : Prop where
  cl : Cls K C
  oha : PySem.W.findIn K (.ref C) "__class__" = some (some (.builtin "object.__class__"))
  ohm : PySem.W.mroIn K C (.type "object") = some true
  kit : PySem.W.kitOne K (.ref C) (.ref A.C_Order) = some true
  nt : NoAttr K C "times_asked"
  nr : NoAttr K C "own_rule"
  hc : Meth K C "counted" A.f_Order_counted
  ha : Meth K C "alike" A.f_Order_alike
  hm : Meth K C "many_asked" A.f_Order_many_asked
/-- the order x tells of these two: what its class's ahead keeps -/
def AhTo (P : Program) (w : World) (K : PySem.W.Frag) (mg : Str → Option Value) (base : Heap) (k : Nat) (x one other : V) (H : Hp) (Q : VK) (E : XK) : Prop := ∃ a C dx fs f, x = .ref a ∧ H a = some (.ins C dx fs) ∧ Cls K C ∧ Meth K C "ahead" f ∧ fs.lookup ("ahead" : Str) = none ∧ CallsTo P w K mg base (L2.CX P w) k f H [x, one, other] Q E
/-- what the order makes of what its rule answered -/
def afterR (K : PySem.W.Frag) (C : Addr) (Q : VK) (E : XK) : VK := fun v H => ∃ kd, Kin K H v kd ∧ ((∃ b, v = .bl b ∧ Q v H) ∨ (kd ≠ .bool ∧ ∀ d, H d = none → E (.ref C) (some d) (upd H d (.xd [("answer", v)]))))
def sp_norder (K : PySem.W.Frag) (A : Ad) : Sp := fun vs H Q _ => ∃ (a C dx : Addr) (fs : List (Str × V)), vs = [.ref a] ∧ H a = some (.ins C dx fs) ∧ OrdC K A C ∧ Q .non H
def sp_oinit (C : Addr) : Sp := fun vs H Q _ => ∃ (x dx : Addr) (r : V), vs = [.ref x, r] ∧ H x = some (.ins C dx []) ∧ ∀ H', H' x = some (.ins C dx (flds r 0 [])) → (∀ b o, H b = some o → b ≠ x → H' b = some o) → Q .non H'
def sp_counted (C : Addr) : Sp := fun vs H Q _ => ∃ (x dx : Addr) (r : V) (n : Int) (rest : List (Str × V)), vs = [.ref x] ∧ H x = some (.ins C dx (flds r n rest)) ∧ rest.length ≤ 10 ∧ ∀ H', H' x = some (.ins C dx (flds r (n + 1) rest)) → (∀ b o, H b = some o → b ≠ x → H' b = some o) → Q .non H'
def sp_ahead (P : Program) (w : World) (K : PySem.W.Frag) (mg : Str → Option Value) (base : Heap) (C CA : Addr) : Sp := fun vs H Q E => ∃ (x dx f : Addr) (n : Int) (one other : V), vs = [.ref x, one, other] ∧ H x = some (.ins C dx (flds (.ref f) n [])) ∧
  ∀ H', H' x = some (.ins C dx (flds (.ref f) (n + 1) [])) → (∀ b o, H b = some o → b ≠ x → H' b = some o) → IsFn f H' ∧ CallsTo P w K mg base (L2.CX P w) 5 f H' [one, other] (afterR K CA Q E) E
def dR (i : Addr) : List (Str × V) := [("inner", .ref i)]
def kR (kf i : Addr) : List (Str × V) := [("own_key", .ref kf), ("inner", .ref i)]
def tR (i s : Addr) : List (Str × V) := [("inner", .ref i), ("second_one", .ref s)]
theorem fl_din (r : V) (n : Int) (i : Addr) : (flds r n (dR i)).lookup ("inner" : Str) = some (.ref i) := by rfl
theorem fl_kin (r : V) (n : Int) (f i : Addr) : (flds r n (kR f i)).lookup ("inner" : Str) = some (.ref i) := by rfl
theorem fl_kkey (r : V) (n : Int) (f i : Addr) : (flds r n (kR f i)).lookup ("own_key" : Str) = some (.ref f) := by rfl
theorem fl_tin (r : V) (n : Int) (i s : Addr) : (flds r n (tR i s)).lookup ("inner" : Str) = some (.ref i) := by rfl
theorem fl_tsec (r : V) (n : Int) (i s : Addr) : (flds r n (tR i s)).lookup ("second_one" : Str) = some (.ref s) := by rfl
theorem fl_o1 (r : V) (n : Int) : (flds r n []).lookup ("counted" : Str) = none := by rfl
theorem fl_o2 (r : V) (n : Int) : (flds r n []).lookup ("ahead" : Str) = none := by rfl
theorem fl_d1 (r : V) (n : Int) (i : Addr) : (flds r n (dR i)).lookup ("counted" : Str) = none := by rfl
theorem fl_d2 (r : V) (n : Int) (i : Addr) : (flds r n (dR i)).lookup ("ahead" : Str) = none := by rfl
theorem fl_k1 (r : V) (n : Int) (f i : Addr) : (flds r n (kR f i)).lookup ("counted" : Str) = none := by rfl
theorem fl_k2 (r : V) (n : Int) (f i : Addr) : (flds r n (kR f i)).lookup ("ahead" : Str) = none := by rfl
theorem fl_t1 (r : V) (n : Int) (i s : Addr) : (flds r n (tR i s)).lookup ("counted" : Str) = none := by rfl
theorem fl_t2 (r : V) (n : Int) (i s : Addr) : (flds r n (tR i s)).lookup ("ahead" : Str) = none := by rfl
theorem fl_oa (r : V) (n : Int) : (flds r n []).lookup ("alike" : Str) = none := by rfl
theorem fl_om (r : V) (n : Int) : (flds r n []).lookup ("many_asked" : Str) = none := by rfl
theorem fl_da (r : V) (n : Int) (i : Addr) : (flds r n (dR i)).lookup ("alike" : Str) = none := by rfl
theorem fl_dm (r : V) (n : Int) (i : Addr) : (flds r n (dR i)).lookup ("many_asked" : Str) = none := by rfl
theorem fl_ka (r : V) (n : Int) (f i : Addr) : (flds r n (kR f i)).lookup ("alike" : Str) = none := by rfl
theorem fl_km (r : V) (n : Int) (f i : Addr) : (flds r n (kR f i)).lookup ("many_asked" : Str) = none := by rfl
theorem fl_ta (r : V) (n : Int) (i s : Addr) : (flds r n (tR i s)).lookup ("alike" : Str) = none := by rfl
theorem fl_tm (r : V) (n : Int) (i s : Addr) : (flds r n (tR i s)).lookup ("many_asked" : Str) = none := by rfl
local macro_rules | `(tactic| walk_at "fv") => `(tactic| first | exact K05.fl_times _ _ _ | exact K05.fl_rule _ _ _ | exact K05.fl_din _ _ _ | exact K05.fl_kin _ _ _ _ | exact K05.fl_kkey _ _ _ _ | exact K05.fl_tin _ _ _ _ | exact K05.fl_tsec _ _ _ _ | exact K05.fl_o1 _ _ | exact K05.fl_o2 _ _ | exact K05.fl_d1 _ _ _ | exact K05.fl_d2 _ _ _ | exact K05.fl_k1 _ _ _ _ | exact K05.fl_k2 _ _ _ _ | exact K05.fl_t1 _ _ _ _ | exact K05.fl_t2 _ _ _ _)
/-- down -/
def sp_dahead (j : Nat) (P : Program) (w : World) (K : PySem.W.Frag) (mg : Str → Option Value) (base : Heap) (C : Addr) : Sp := fun vs H Q E => ∃ (x dx i : Addr) (r : V) (n : Int) (one other : V), vs = [.ref x, one, other] ∧ H x = some (.ins C dx (flds r n (dR i))) ∧
  ∀ H', H' x = some (.ins C dx (flds r (n + 1) (dR i))) → (∀ b o, H b = some o → b ≠ x → H' b = some o) → AhTo P w K mg base j (.ref i) other one H' Q E
/-- by keys -/
def sp_kahead (j : Nat) (P : Program) (w : World) (K : PySem.W.Frag) (mg : Str → Option Value) (base : Heap) (C : Addr) : Sp := fun vs H Q E => ∃ (x dx i kf : Addr) (r : V) (n : Int) (one other : V), vs = [.ref x, one, other] ∧ H x = some (.ins C dx (flds r n (kR kf i))) ∧
  ∀ H', H' x = some (.ins C dx (flds r (n + 1) (kR kf i))) → (∀ b o, H b = some o → b ≠ x → H' b = some o) → IsFn kf H' ∧ CallsTo P w K mg base (L2.CX P w) 5 kf H' [one] (fun v1 H2 => H2 x = some (.ins C dx (flds r (n + 1) (kR kf i))) ∧ IsFn kf H2 ∧
    ∃ Ci dxi fsi f, H2 i = some (.ins Ci dxi fsi) ∧ Cls K Ci ∧ Meth K Ci "ahead" f ∧ fsi.lookup ("ahead" : Str) = none ∧ CallsTo P w K mg base (L2.CX P w) 5 kf H2 [other] (fun v2 H3 => CallsTo P w K mg base (L2.CX P w) j f H3 [.ref i, v1, v2] Q E) E) E
/-- behind a first one -/
def sp_tahead (j : Nat) (P : Program) (w : World) (K : PySem.W.Frag) (mg : Str → Option Value) (base : Heap) (C : Addr) : Sp := fun vs H Q E => ∃ (x dx i s : Addr) (r : V) (n : Int) (one other : V), vs = [.ref x, one, other] ∧ H x = some (.ins C dx (flds r n (tR i s))) ∧
  ∀ H', H' x = some (.ins C dx (flds r (n + 1) (tR i s))) → (∀ b o, H b = some o → b ≠ x → H' b = some o) → AhTo P w K mg base j (.ref i) one other H' (fun v H2 => ∃ b, v = .bl b ∧ if b = true then Q (.bl true) H2 else (∃ (dx2 : Addr) (n2 : Int), H2 x = some (.ins C dx2 (flds r n2 (tR i s)))) ∧
    AhTo P w K mg base j (.ref i) other one H2 (fun v H3 => ∃ b, v = .bl b ∧ if b = true then Q (.bl false) H3 else (∃ (dx2 : Addr) (n2 : Int), H3 x = some (.ins C dx2 (flds r n2 (tR i s)))) ∧ AhTo P w K mg base j (.ref s) one other H3 Q E) E) E
/-- by Python's own less -/
def sp_pahead (K : PySem.W.Frag) (C : Addr) : Sp := fun vs H Q _ => ∃ (x dx : Addr) (r : V) (n : Int) (one other : V), vs = [.ref x, one, other] ∧ H x = some (.ins C dx (flds r n [])) ∧
  ∀ H', H' x = some (.ins C dx (flds r (n + 1) [])) → (∀ b o, H b = some o → b ≠ x → H' b = some o) → Xr.rLtD K one other H' Q
/-- alike -/
def sp_alike (j : Nat) (P : Program) (w : World) (K : PySem.W.Frag) (mg : Str → Option Value) (base : Heap) : Sp := fun vs H Q E => ∃ (x : Addr) (one other : V), vs = [.ref x, one, other] ∧
  AhTo P w K mg base j (.ref x) one other H (fun v H2 => ∃ b, v = .bl b ∧ if b = true then Q (.bl false) H2 else AhTo P w K mg base j (.ref x) other one H2 (fun v H3 => ∃ b, v = .bl b ∧ Q (.bl (!b)) H3) E) E
def sp_many (C : Addr) : Sp := fun vs H Q _ => ∃ (x dx : Addr) (r : V) (n : Int) (rest : List (Str × V)), vs = [.ref x] ∧ H x = some (.ins C dx (flds r n rest)) ∧ Q (.int n) H
section
variable {P : Program} {w : World} {K : PySem.W.Frag} {mg : Str → Option Value} {base : Heap} {A : Ad} {H H0 : Hp} {MM : List Addr} {L L' F : Led} {Q : VK} {E : XK}
local macro_rules | `(tactic| walk_at "rd1") => `(tactic| first
  | with_reducible refine Xc.rd_bi ?_
  | with_reducible refine Xc.rd_put1 ?_
  | with_reducible refine Xc.rd_tmk ?_
  | with_reducible refine Xc.rd_xv ?_
  | with_reducible refine Xh.rd_callF ?_
  | with_reducible refine Xj.rd_clsF ?_
  | with_reducible refine Xj.rd_methD ?_)
theorem ok_xBadAnswer (T : Txt K mg w A) : FnOk P w K mg base CX0 1 A.f_BadAnswer___init__ A.d_BadAnswer___init__ ["self", "answer"] (Xc.spInit1 A.C_BadAnswer "answer") := by
  refine T.c_BadAnswer___init__.F.ok sc_BadAnswer___init__ (fun vs H Q E h => ?_) (fun cdv Ar outer s H vs Q E hr h => ?_)
  · obtain ⟨a, v, rfl, _⟩ := h; rfl
  · obtain ⟨a, v, rfl, ha, k⟩ := h
    refine ⟨_, (pss_cons (ps_expr (Xc.pe_binit T.o_BadAnswer rfl T.n_TypeError (by decide +kernel) (by kernel_rfl) (by decide +kernel) (by decide +kernel) T.v_BadAnswer (pa_cons (pv 0) (pa_cons (pv 1) pa_nil))))
      (pss_one (Xc.ps_put T.o_BadAnswer (pv 0) (pv 1) rfl))), ?_⟩
    walk_at "st"
    walk_at "rd"
    refine ⟨a, _, [v], rfl, by simp, T.o_BadAnswer, ha, ?_⟩
    walk_at "rd"
    refine ⟨a, _, rfl, T.o_BadAnswer, T.t_BadAnswer_answer, Or.inl ⟨ha, fun dx n1 n2 => ?_⟩⟩
    exact k dx n1 n2
theorem ord_o (T : Txt K mg w A) : OrdC K A A.C_Order := ⟨T.cl_Order, T.x_oha_Order, T.x_ohm_Order, T.x_i_Order, T.na_Order_times_asked, T.na_Order_own_rule, T.h_Order_counted, T.h_Order_alike, T.h_Order_many_asked⟩
theorem ord_d (T : Txt K mg w A) : OrdC K A A.C_DownOrder := ⟨T.cl_DownOrder, T.x_oha_DownOrder, T.x_ohm_DownOrder, T.x_i_DownOrder, T.na_DownOrder_times_asked, T.na_DownOrder_own_rule, T.h_DownOrder_counted, T.h_DownOrder_alike, T.h_DownOrder_many_asked⟩
theorem ord_p (T : Txt K mg w A) : OrdC K A A.C_PlainOrder := ⟨T.cl_PlainOrder, T.x_oha_PlainOrder, T.x_ohm_PlainOrder, T.x_i_PlainOrder, T.na_PlainOrder_times_asked, T.na_PlainOrder_own_rule, T.h_PlainOrder_counted, T.h_PlainOrder_alike, T.h_PlainOrder_many_asked⟩
theorem ord_k (T : Txt K mg w A) : OrdC K A A.C_KeyOrder := ⟨T.cl_KeyOrder, T.x_oha_KeyOrder, T.x_ohm_KeyOrder, T.x_i_KeyOrder, T.na_KeyOrder_times_asked, T.na_KeyOrder_own_rule, T.h_KeyOrder_counted, T.h_KeyOrder_alike, T.h_KeyOrder_many_asked⟩
theorem ord_t (T : Txt K mg w A) : OrdC K A A.C_ThenOrder := ⟨T.cl_ThenOrder, T.x_oha_ThenOrder, T.x_ohm_ThenOrder, T.x_i_ThenOrder, T.na_ThenOrder_times_asked, T.na_ThenOrder_own_rule, T.h_ThenOrder_counted, T.h_ThenOrder_alike, T.h_ThenOrder_many_asked⟩
theorem ok_norder (T : Txt K mg w A) : FnOk P w K mg base CX0 1 A.f_need_order A.d_need_order ["thing"] (sp_norder K A) := by
  refine T.c_need_order.F.ok sc_need_order (fun vs H Q E h => ?_) (fun cdv Ar outer s H vs Q E hr h => ?_)
  · obtain ⟨a, C, dx, fs, rfl, _⟩ := h; rfl
  · obtain ⟨a, C, dx, fs, rfl, ha, O, q⟩ := h
    refine ⟨_, (pss_one (ps_if (pt_not (pt_val (pe_callB call_isi (by rfl) T.n_isinstance PyProof.Rows.boot_isinstance (pa_cons (pv 0) (pa_cons (pe_glob (v := .ref A.C_Order) rfl T.m_Order rfl) pa_nil)))))
        (pss_one ps_never)
        pss_nil)), ?_⟩
    walk_at "st"
    walk_at "rd"
    refine ⟨.ref a, .ref A.C_Order, .ref C, .ref A.C_Order, true, rfl, .own _, .base (.ins ha O.cl O.oha T.x_ohn T.x_oht O.ohm), O.kit, ?_⟩
    walk_at "rd"
    walk_at "if0"
    exact q
theorem ok_oinit (T : Txt K mg w A) {C : Addr} (O : OrdC K A C) : FnOk P w K mg base CX0 1 A.f_Order___init__ A.d_Order___init__ ["self", "rule"] (sp_oinit C) := by
  have hC := O.cl
  have n1 := O.nr
  have n2 := O.nt
  refine T.c_Order___init__.F.ok sc_Order___init__ (fun vs H Q E h => ?_) (fun cdv Ar outer s H vs Q E hr h => ?_)
  · obtain ⟨x, dx, f, rfl, _⟩ := h; rfl
  · obtain ⟨x, dx, f, rfl, hx, k⟩ := h
    refine ⟨_, (pss_cons (ps_fld (pv 0) (pv 1) rfl)
      (pss_one (ps_fld (pv 0) pe_int rfl))), ?_⟩
    have S := Hs.start1 hx [x] (.inr rfl)
    walk_at "st"
    walk_at "rd"
    rename_i H1 S1 H2 S2
    exact k _ (S2.get (o := .ins C dx (flds f 0 [])) (by rw [fl_put]; exact List.mem_cons_self)) (fun b o e hb => S2.old1 e hb)
theorem rd_fldaug {f : Str} {ta tv : TE} {rd : V → V → Hp → VK → Prop} {σ : L2.St} {nx : L2.St → Hp → Prop} {rt : VK} {bk ct : L2.St → Hp → Prop} (h : ta σ H fun x H1 => ∃ a C dx fs v, x = .ref a ∧ H1 a = some (.ins C dx fs) ∧ Cls K C ∧ NoAttr K C f ∧ fs.lookup f = some v ∧
  tv σ H1 fun y H2 => rd v y H2 fun z H3 => ∃ dx' fs', H3 a = some (.ins C dx' fs') ∧ fs'.length < 1000 ∧ nx σ (upd H3 a (.ins C dx' (putF f z fs')))) : sFldAug K ta tv rd f ⟨nx, rt, bk, ct⟩ σ H := h
theorem ok_counted (T : Txt K mg w A) {C : Addr} (O : OrdC K A C) : FnOk P w K mg base CX0 1 A.f_Order_counted A.d_Order_counted ["self"] (sp_counted C) := by
  have hC := O.cl
  have n2 := O.nt
  refine T.c_Order_counted.F.ok sc_Order_counted (fun vs H Q E h => ?_) (fun cdv Ar outer s H vs Q E hr h => ?_)
  · obtain ⟨x, dx, r, n, rest, rfl, _⟩ := h; rfl
  · obtain ⟨x, dx, r, n, rest, rfl, hx, hl, k⟩ := h
    refine ⟨_, (pss_one (ps_fldaug (pv 0) pe_int in_add)), ?_⟩
    have S := Hs.start1 hx [x] (.inr rfl)
    walk_at "st"
    walk_at "rd"
    refine rd_fldaug ?_
    walk_at "rd"
    refine ⟨x, _, dx, _, .int n, rfl, hx, hC, n2, fl_times r n rest, ?_⟩
    walk_at "rd"
    refine ⟨n, 1, rfl, rfl, ⟨dx, _, hx, by simp [flds]; omega, ?_⟩⟩
    have S1 := S.put (o' := .ins C dx (flds r (n + 1) rest)) .here (.inr (by simp))
    rw [fl_up]
    exact k _ (S1.get (by walk_at "mem")) (fun b o e hb => S1.old1 e hb)
theorem use_counted {C x dx : Addr} {r : V} {n : Int} {rest : List (Str × V)} {F : HO → Led} (S : Hs H0 MM H L) (ch : ∀ o', Chg x (.ins C dx (flds r n rest)) o' L (F o')) (hl : rest.length ≤ 10) (own : H0 x = none ∨ x ∈ MM) (h : ∀ H', Hs H0 MM H' (F (.ins C dx (flds r (n + 1) rest))) → Q .non H') : sp_counted C [.ref x] H Q E :=
  ⟨x, dx, r, n, rest, rfl, S.is _ (ch (.dK [])).mem, hl, fun H' e k => h H' (S.one (ch _) own k e)⟩
theorem ok_ahead (T : Txt K mg w A) : FnOk P w K mg base (L2.CX P w) 6 A.f_Order_ahead A.d_Order_ahead ["self", "one", "other"] (sp_ahead P w K mg base A.C_Order A.C_BadAnswer) := by
  have G_Order_counted : FnOk P w K mg base CX0 1 A.f_Order_counted A.d_Order_counted ["self"] (sp_counted A.C_Order) := ok_counted T (ord_o T)
  have G_BadAnswer : FnOk P w K mg base CX0 1 A.f_BadAnswer___init__ A.d_BadAnswer___init__ ["self", "answer"] (Xc.spInit1 A.C_BadAnswer "answer") := ok_xBadAnswer T
  have hC := T.cl_Order
  have n1 := T.na_Order_own_rule
  refine T.c_Order_ahead.F.okX sc_Order_ahead (fun vs H Q E h => ?_) (fun cdv Ar outer s H vs Q E hr h => ?_)
  · obtain ⟨x, dx, f, n, one, other, rfl, _⟩ := h; rfl
  · obtain ⟨x, dx, f, n, one, other, rfl, hx, k⟩ := h
    refine ⟨_, (pss_cons (ps_expr (pe_meth0 (pv 0) T.cl_Order T.h_Order_counted G_Order_counted (hr.mono (by first | decide | omega)) T.c_Order_counted.b .nil pass0))
      (pss_cons (ps_set (i := 3) sc_Order_ahead.nd rfl (Or.inl rfl) (Xh.pe_callF (CX := L2.CX P w) (k := 5) (pv 0) (pa_cons (pv 1) (pa_cons (pv 2) pa_nil)) hr (by first | decide | omega) (passes_call (takes_of rfl rfl rfl rfl) fun _ _ _ _ z => z)))
      (pss_cons (ps_if (pt_not (pt_val (pe_callB call_isi (by rfl) T.n_isinstance PyProof.Rows.boot_isinstance (pa_cons (pv 3) (pa_cons (pe_bltn (v := .ty "bool") rfl T.n_bool PyProof.Rows.boot_bool rfl) pa_nil)))))
        (pss_one (ps_raise rfl (takes_of rfl rfl rfl rfl) (Xc.pmk_own T.o_BadAnswer T.i_BadAnswer T.y_BadAnswer G_BadAnswer (hr.mono (by first | decide | omega)) T.c_BadAnswer___init__.b .nil pass0 rfl T.m_BadAnswer (pa_cons (pv 3) pa_nil))))
        pss_nil)
      (pss_one (ps_ret (pv 3)))))), ?_⟩
    have S := Hs.start1 hx [x] (.inr rfl)
    walk_at "st"
    walk_at "rd"
    refine use_counted S (by walk_at "chgF") (Nat.le_of_ble_eq_true rfl) (by walk_at "own") fun H1 S1 => ?_
    obtain ⟨k1, k2⟩ := k H1 (S1.get (by walk_at "mem")) (fun b o e hb => S1.old1 e hb)
    walk_at "rd"
    refine rd_callFV S1 (by walk_at "mem") hC n1 (fl_rule _ _ _) k1 ?_
    walk_at "rd"
    show CallsTo P w K mg base (L2.CX P w) 5 f H1 [one, other] _ E
    refine calls_mono k2 fun v H2 ⟨kd, hk, hv⟩ => ?_
    walk_at "rd"
    refine rd_isi hk (kit_bool _) ?_
    rcases hv with ⟨b, rfl, q⟩ | ⟨hn, q⟩
    · cases hk
      walk_at "rd"
      walk_at "if0"
      exact q
    · rw [show (kd == Kn.bool) = false from beq_eq_false_iff_ne.mpr hn]
      walk_at "rd"
      walk_at "if1"
      exact Xc.rd_mk1 q
theorem ok_dahead (T : Txt K mg w A) {j : Nat} (hj : 5 ≤ j) : FnOk P w K mg base (L2.CX P w) (j + 1) A.f_DownOrder_ahead A.d_DownOrder_ahead ["self", "one", "other"] (sp_dahead j P w K mg base A.C_DownOrder) := by
  have G_DownOrder_counted : FnOk P w K mg base CX0 1 A.f_Order_counted A.d_Order_counted ["self"] (sp_counted A.C_DownOrder) := ok_counted T (ord_d T)
  have hC := T.cl_DownOrder
  have n1 := T.na_DownOrder_inner
  refine T.c_DownOrder_ahead.F.okX sc_DownOrder_ahead (fun vs H Q E h => ?_) (fun cdv Ar outer s H vs Q E hr h => ?_)
  · obtain ⟨x, dx, i, r, n, one, other, rfl, _⟩ := h; rfl
  · obtain ⟨x, dx, i, r, n, one, other, rfl, hx, k⟩ := h
    refine ⟨_, (pss_cons (ps_expr (pe_meth0 (pv 0) T.cl_DownOrder T.h_DownOrder_counted G_DownOrder_counted (hr.mono (by first | decide | omega)) T.c_Order_counted.b .nil pass0))
      (pss_one (ps_ret (Xj.pe_methD (CX := L2.CX P w) (k := j) (pe_fld (pv 0) rfl) (pa_cons (pv 2) (pa_cons (pv 1) pa_nil)) hr (by first | decide | omega) (passes_call (takes_of rfl rfl rfl rfl) fun _ _ _ _ z => z))))), ?_⟩
    have S := Hs.start1 hx [x] (.inr rfl)
    walk_at "st"
    walk_at "rd"
    refine use_counted S (by walk_at "chgF") (Nat.le_of_ble_eq_true rfl) (by walk_at "own") fun H1 S1 => ?_
    obtain ⟨_, C, dxi, fs, f, e, q1, q2, q3, q4, q5⟩ := k H1 (S1.get (by walk_at "mem")) (fun b o e hb => S1.old1 e hb)
    cases e
    walk_at "rd"
    refine ⟨i, C, dxi, fs, f, rfl, q1, q2, q3, q4, ?_⟩
    walk_at "rd"
    exact q5
theorem ok_kahead (T : Txt K mg w A) {j : Nat} (hj : 5 ≤ j) : FnOk P w K mg base (L2.CX P w) (j + 1) A.f_KeyOrder_ahead A.d_KeyOrder_ahead ["self", "one", "other"] (sp_kahead j P w K mg base A.C_KeyOrder) := by
  have G_KeyOrder_counted : FnOk P w K mg base CX0 1 A.f_Order_counted A.d_Order_counted ["self"] (sp_counted A.C_KeyOrder) := ok_counted T (ord_k T)
  have hC := T.cl_KeyOrder
  have n1 := T.na_KeyOrder_inner
  have n2 := T.na_KeyOrder_own_key
  refine T.c_KeyOrder_ahead.F.okX sc_KeyOrder_ahead (fun vs H Q E h => ?_) (fun cdv Ar outer s H vs Q E hr h => ?_)
  · obtain ⟨x, dx, i, kf, r, n, one, other, rfl, _⟩ := h; rfl
  · obtain ⟨x, dx, i, kf, r, n, one, other, rfl, hx, k⟩ := h
    refine ⟨_, (pss_cons (ps_expr (pe_meth0 (pv 0) T.cl_KeyOrder T.h_KeyOrder_counted G_KeyOrder_counted (hr.mono (by first | decide | omega)) T.c_Order_counted.b .nil pass0))
      (pss_cons (ps_set (i := 3) sc_KeyOrder_ahead.nd rfl (Or.inl rfl) (Xh.pe_callF (CX := L2.CX P w) (k := 5) (pv 0) (pa_cons (pv 1) pa_nil) hr (by first | decide | omega) (passes_call (takes_of rfl rfl rfl rfl) fun _ _ _ _ z => z)))
      (pss_one (ps_ret (Xj.pe_methD (CX := L2.CX P w) (k := j) (pe_fld (pv 0) rfl) (pa_cons (pv 3) (pa_cons (Xh.pe_callF (CX := L2.CX P w) (k := 5) (pv 0) (pa_cons (pv 2) pa_nil) hr (by first | decide | omega) (passes_call (takes_of rfl rfl rfl rfl) fun _ _ _ _ z => z)) pa_nil)) hr (by first | decide | omega) (passes_call (takes_of rfl rfl rfl rfl) fun _ _ _ _ z => z)))))), ?_⟩
    have S := Hs.start1 hx [x] (.inr rfl)
    walk_at "st"
    walk_at "rd"
    refine use_counted S (by walk_at "chgF") (Nat.le_of_ble_eq_true rfl) (by walk_at "own") fun H1 S1 => ?_
    obtain ⟨q1, q2⟩ := k H1 (S1.get (by walk_at "mem")) (fun b o e hb => S1.old1 e hb)
    walk_at "rd"
    refine rd_callFV S1 (by walk_at "mem") hC n2 (fl_kkey _ _ _ _) q1 ?_
    walk_at "rd"
    show CallsTo P w K mg base (L2.CX P w) 5 kf H1 [one] _ E
    refine calls_mono q2 fun v1 H2 ⟨hx2, f2, C, dxi, fs, f, p1, p2, p3, p4, p5⟩ => ?_
    clear S S1
    have S := Hs.start1 hx2 [] (.inl rfl)
    walk_at "rd"
    refine ⟨i, C, dxi, fs, f, rfl, p1, p2, p3, p4, ?_⟩
    walk_at "rd"
    refine rd_callFV S (by walk_at "mem") hC n2 (fl_kkey _ _ _ _) f2 ?_
    walk_at "rd"
    exact p5
theorem ok_tahead (T : Txt K mg w A) {j : Nat} (hj : 5 ≤ j) : FnOk P w K mg base (L2.CX P w) (j + 1) A.f_ThenOrder_ahead A.d_ThenOrder_ahead ["self", "one", "other"] (sp_tahead j P w K mg base A.C_ThenOrder) := by
  have G_ThenOrder_counted : FnOk P w K mg base CX0 1 A.f_Order_counted A.d_Order_counted ["self"] (sp_counted A.C_ThenOrder) := ok_counted T (ord_t T)
  have hC := T.cl_ThenOrder
  have n1 := T.na_ThenOrder_inner
  have n2 := T.na_ThenOrder_second_one
  refine T.c_ThenOrder_ahead.F.okX sc_ThenOrder_ahead (fun vs H Q E h => ?_) (fun cdv Ar outer s H vs Q E hr h => ?_)
  · obtain ⟨x, dx, i, s, r, n, one, other, rfl, _⟩ := h; rfl
  · obtain ⟨x, dx, i, s, r, n, one, other, rfl, hx, k⟩ := h
    refine ⟨_, (pss_cons (ps_expr (pe_meth0 (pv 0) T.cl_ThenOrder T.h_ThenOrder_counted G_ThenOrder_counted (hr.mono (by first | decide | omega)) T.c_Order_counted.b .nil pass0))
      (pss_cons (ps_if (pt_val (Xj.pe_methD (CX := L2.CX P w) (k := j) (pe_fld (pv 0) rfl) (pa_cons (pv 1) (pa_cons (pv 2) pa_nil)) hr (by first | decide | omega) (passes_call (takes_of rfl rfl rfl rfl) fun _ _ _ _ z => z)))
        (pss_one (ps_ret pe_bl))
        pss_nil)
      (pss_cons (ps_if (pt_val (Xj.pe_methD (CX := L2.CX P w) (k := j) (pe_fld (pv 0) rfl) (pa_cons (pv 2) (pa_cons (pv 1) pa_nil)) hr (by first | decide | omega) (passes_call (takes_of rfl rfl rfl rfl) fun _ _ _ _ z => z)))
        (pss_one (ps_ret pe_bl))
        pss_nil)
      (pss_one (ps_ret (Xj.pe_methD (CX := L2.CX P w) (k := j) (pe_fld (pv 0) rfl) (pa_cons (pv 1) (pa_cons (pv 2) pa_nil)) hr (by first | decide | omega) (passes_call (takes_of rfl rfl rfl rfl) fun _ _ _ _ z => z))))))), ?_⟩
    have S := Hs.start1 hx [x] (.inr rfl)
    walk_at "st"
    walk_at "rd"
    refine use_counted S (by walk_at "chgF") (Nat.le_of_ble_eq_true rfl) (by walk_at "own") fun H1 S1 => ?_
    obtain ⟨_, C, dxi, fs, f, e, q1, q2, q3, q4, q5⟩ := k H1 (S1.get (by walk_at "mem")) (fun b o e hb => S1.old1 e hb)
    cases e
    walk_at "rd"
    refine ⟨i, C, dxi, fs, f, rfl, q1, q2, q3, q4, ?_⟩
    walk_at "rd"
    refine calls_mono q5 fun v H2 ⟨b, hb, q⟩ => ?_
    subst hb
    clear S S1
    walk_at "rd"
    cases b with
    | true => exact q
    | false =>
      rw [if_neg Bool.false_ne_true] at q
      obtain ⟨⟨dx2, n2, hx2⟩, _, C, dxi, fs, f, e, q1, q2, q3, q4, q5⟩ := q
      cases e
      have S := Hs.start1 hx2 [] (.inl rfl)
      walk_at "rd"
      refine ⟨i, C, dxi, fs, f, rfl, q1, q2, q3, q4, ?_⟩
      walk_at "rd"
      refine calls_mono q5 fun v H3 ⟨b, hb, q⟩ => ?_
      subst hb
      clear S
      walk_at "rd"
      cases b with
      | true => exact q
      | false =>
        rw [if_neg Bool.false_ne_true] at q
        obtain ⟨⟨dx3, n3, hx3⟩, _, C, dxi, fs, f, e, q1, q2, q3, q4, q5⟩ := q
        cases e
        have S := Hs.start1 hx3 [] (.inl rfl)
        walk_at "rd"
        refine ⟨_, C, dxi, fs, f, rfl, q1, q2, q3, q4, ?_⟩
        walk_at "rd"
        exact q5
theorem ok_pahead (T : Txt K mg w A) : FnOk P w K mg base (L2.CX P w) 6 A.f_PlainOrder_ahead A.d_PlainOrder_ahead ["self", "one", "other"] (sp_pahead K A.C_PlainOrder) := by
  have G_PlainOrder_counted : FnOk P w K mg base CX0 1 A.f_Order_counted A.d_Order_counted ["self"] (sp_counted A.C_PlainOrder) := ok_counted T (ord_p T)
  have G_Order_counted := G_PlainOrder_counted
  have hC := T.cl_PlainOrder
  refine T.c_PlainOrder_ahead.F.okX sc_PlainOrder_ahead (fun vs H Q E h => ?_) (fun cdv Ar outer s H vs Q E hr h => ?_)
  · obtain ⟨_, _, _, _, _, _, rfl, _⟩ := h; rfl
  · obtain ⟨x, dx, r, n, one, other, rfl, hx, k⟩ := h
    refine ⟨_, (pss_cons (ps_expr (pe_meth0 (pv 0) T.cl_PlainOrder T.h_PlainOrder_counted G_PlainOrder_counted (hr.mono (by first | decide | omega)) T.c_Order_counted.b .nil pass0))
      (pss_one (ps_ret (pe_cmpR (Xr.op_ltD hr.units) (pv 1) (pv 2) (nomark _))))), ?_⟩
    have S := Hs.start1 hx [x] (.inr rfl)
    walk_at "st"
    walk_at "rd"
    refine use_counted S (by walk_at "chgF") (by simp) (by walk_at "own") fun H1 S1 => ?_
    walk_at "rd"
    exact k H1 (S1.get (by walk_at "mem")) (fun b o e hb => S1.old1 e hb)
theorem ok_alike (T : Txt K mg w A) {j : Nat} (hj : 5 ≤ j) : FnOk P w K mg base (L2.CX P w) (j + 1) A.f_Order_alike A.d_Order_alike ["self", "one", "other"] (sp_alike j P w K mg base) := by
  refine T.c_Order_alike.F.okX sc_Order_alike (fun vs H Q E h => ?_) (fun cdv Ar outer s H vs Q E hr h => ?_)
  · obtain ⟨x, one, other, rfl, _⟩ := h; rfl
  · obtain ⟨x, one, other, rfl, h⟩ := h
    refine ⟨_, (pss_one (ps_ret (pe_and (pe_not (Xj.pe_methD (CX := L2.CX P w) (k := j) (pv 0) (pa_cons (pv 1) (pa_cons (pv 2) pa_nil)) hr (by first | decide | omega) (passes_call (takes_of rfl rfl rfl rfl) fun _ _ _ _ z => z))) (pe_one (pe_not (Xj.pe_methD (CX := L2.CX P w) (k := j) (pv 0) (pa_cons (pv 2) (pa_cons (pv 1) pa_nil)) hr (by first | decide | omega) (passes_call (takes_of rfl rfl rfl rfl) fun _ _ _ _ z => z))))))), ?_⟩
    obtain ⟨_, C, dx, fs, f, e, q1, q2, q3, q4, q5⟩ := h
    cases e
    walk_at "st"
    walk_at "rd"
    refine ⟨_, C, dx, fs, f, rfl, q1, q2, q3, q4, ?_⟩
    walk_at "rd"
    refine calls_mono q5 fun v H2 ⟨b, hb, q⟩ => ?_
    subst hb
    walk_at "rd"
    cases b with
    | true => exact q
    | false =>
      rw [if_neg Bool.false_ne_true] at q
      obtain ⟨_, C, dx, fs, f, e, q1, q2, q3, q4, q5⟩ := q
      cases e
      walk_at "rd"
      refine ⟨_, C, dx, fs, f, rfl, q1, q2, q3, q4, ?_⟩
      walk_at "rd"
      refine calls_mono q5 fun v H2 ⟨b, hb, q⟩ => ?_
      subst hb
      walk_at "rd"
      exact q
theorem ok_many (T : Txt K mg w A) {C : Addr} (O : OrdC K A C) : FnOk P w K mg base CX0 1 A.f_Order_many_asked A.d_Order_many_asked ["self"] (sp_many C) := by
  have hC := O.cl
  have n2 := O.nt
  refine T.c_Order_many_asked.F.ok sc_Order_many_asked (fun vs H Q E h => ?_) (fun cdv Ar outer s H vs Q E hr h => ?_)
  · obtain ⟨x, dx, r, n, rest, rfl, _⟩ := h; rfl
  · obtain ⟨x, dx, r, n, rest, rfl, hx, k⟩ := h
    refine ⟨_, (pss_one (ps_ret (pe_fld (pv 0) rfl))), ?_⟩
    have S := Hs.start1 hx [] (.inl rfl)
    walk_at "st"
    walk_at "rd"
    exact k
end
end K05

namespace K05
open PySem PySem.Spec PyProof.Rows L2 Rs Xc Xd Xg Xh Xi Xj Xk NdefX Xf Xq Xr
def But (a : Addr) (H H' : Hp) : Prop := ∀ b o, H b = some o → b ≠ a → H' b = some o
theorem _root_.Xj.CalMD.b {K : PySem.W.Frag} {f : Addr} {fd : FuncData} (c : CalMD K "KeyOrder.__init__" s_KeyOrder___init__ [.non] f fd) : Binds K fd ["self", "key", "order"] [] := by
  obtain ⟨ds, hv, hb⟩ := c.F.binds1 (ps := ["self", "key", "order"]) 3 1 (by simp) rfl (by
    intro T kV doc pm an cdv ct us its h1 h2
    match us, h1, its, h2 with
    | [u, v, x], _, [i], _ => exact ⟨_, rfl, rfl⟩)
  cases hv
  exact hb
def sp_dinit (K : PySem.W.Frag) (A : Ad) : Sp := fun vs H Q _ => ∃ (x dx i C dxi : Addr) (fs : List (Str × V)), vs = [.ref x, .ref i] ∧ H x = some (.ins A.C_DownOrder dx []) ∧ H i = some (.ins C dxi fs) ∧ OrdC K A C ∧ x ≠ i ∧ ∀ H', H' x = some (.ins A.C_DownOrder dx (flds .non 0 (dR i))) → But x H H' → Q .non H'
def sp_kinit (K : PySem.W.Frag) (A : Ad) : Sp := fun vs H Q _ => ∃ (x dx kf : Addr) (v : V), vs = [.ref x, .ref kf, v] ∧ H x = some (.ins A.C_KeyOrder dx []) ∧
  ((∃ (i C dxi : Addr) (fs : List (Str × V)), v = .ref i ∧ H i = some (.ins C dxi fs) ∧ OrdC K A C ∧ x ≠ i ∧ ∀ H', H' x = some (.ins A.C_KeyOrder dx (flds .non 0 (kR kf i))) → But x H H' → Q .non H') ∨
   (v = .non ∧ ∀ (y dy : Addr) (H' : Hp), H y = none → y ≠ x → H' y = some (.ins A.C_PlainOrder dy (flds .non 0 [])) → H' x = some (.ins A.C_KeyOrder dx (flds .non 0 (kR kf y))) → But x H H' → Q .non H'))
def sp_pinit (A : Ad) : Sp := fun vs H Q _ => ∃ (x dx : Addr), vs = [.ref x] ∧ H x = some (.ins A.C_PlainOrder dx []) ∧ ∀ H', H' x = some (.ins A.C_PlainOrder dx (flds .non 0 [])) → But x H H' → Q .non H'
def sp_tinit (K : PySem.W.Frag) (A : Ad) : Sp := fun vs H Q _ => ∃ (x dx i s C dxi C2 dxs : Addr) (fs fs2 : List (Str × V)), vs = [.ref x, .ref i, .ref s] ∧ H x = some (.ins A.C_ThenOrder dx []) ∧ H i = some (.ins C dxi fs) ∧ OrdC K A C ∧ H s = some (.ins C2 dxs fs2) ∧ OrdC K A C2 ∧ x ≠ i ∧ x ≠ s ∧ ∀ H', H' x = some (.ins A.C_ThenOrder dx (flds .non 0 (tR i s))) → But x H H' → Q .non H'
theorem put_inner (i : Addr) : putF "inner" (.ref i) (flds .non 0 []) = flds .non 0 (dR i) := by rfl
theorem put_key (kf : Addr) : putF "own_key" (.ref kf) (flds .non 0 []) = flds .non 0 [("own_key", .ref kf)] := by rfl
theorem put_inner2 (kf i : Addr) : putF "inner" (.ref i) (flds .non 0 [("own_key", .ref kf)]) = flds .non 0 (kR kf i) := by rfl
theorem put_second (i s : Addr) : putF "second_one" (.ref s) (flds .non 0 (dR i)) = flds .non 0 (tR i s) := by rfl
section
variable {P : Program} {w : World} {K : PySem.W.Frag} {mg : Str → Option Value} {base : Heap} {A : Ad} {H H0 : Hp} {MM : List Addr} {L L' F : Led} {Q : VK} {E : XK}
local macro_rules | `(tactic| walk_at "rd1") => `(tactic| first
  | with_reducible refine Xc.rd_bi ?_
  | with_reducible refine Xc.rd_put1 ?_
  | with_reducible refine Xc.rd_tmk ?_
  | with_reducible refine Xc.rd_xv ?_
  | with_reducible refine Xh.rd_callF ?_
  | with_reducible refine Xj.rd_clsF ?_
  | with_reducible refine Xj.rd_methD ?_)
theorem use_oinit {x dx C : Addr} {r : V} {F : HO → Led} (S : Hs H0 MM H L) (ch : ∀ o', Chg x (.ins C dx []) o' L (F o')) (own : H0 x = none ∨ x ∈ MM) (h : ∀ H', Hs H0 MM H' (F (.ins C dx (flds r 0 []))) → Q .non H') : sp_oinit C [.ref x, r] H Q E :=
  ⟨x, dx, r, rfl, S.is _ (ch (.dK [])).mem, fun H' e k => h H' (S.one (ch _) own k e)⟩
theorem use_norder {i C dxi : Addr} {fs : List (Str × V)} (S : Hs H0 MM H L) (m : (i, HO.ins C dxi fs) ∈ L) (O : OrdC K A C) (h : Q .non H) : sp_norder K A [.ref i] H Q E := ⟨i, C, dxi, fs, rfl, S.is _ m, O, h⟩
theorem ok_dinit (T : Txt K mg w A) : FnOk P w K mg base CX0 2 A.f_DownOrder___init__ A.d_DownOrder___init__ ["self", "order"] (sp_dinit K A) := by
  have G_Order___init__ : FnOk P w K mg base CX0 1 A.f_Order___init__ A.d_Order___init__ ["self", "rule"] (sp_oinit A.C_DownOrder) := ok_oinit T (ord_d T)
  have G_need_order : FnOk P w K mg base CX0 1 A.f_need_order A.d_need_order ["thing"] (sp_norder K A) := ok_norder T
  have hC := T.cl_DownOrder
  have n1 := T.na_DownOrder_inner
  refine T.c_DownOrder___init__.F.ok sc_DownOrder___init__ (fun vs H Q E h => ?_) (fun cdv Ar outer s H vs Q E hr h => ?_)
  · obtain ⟨_, _, _, _, _, _, rfl, _⟩ := h; rfl
  · obtain ⟨x, dx, i, C, dxi, fs, rfl, hx, hi, O, ne, k⟩ := h
    refine ⟨_, (pss_cons (ps_expr (Xj.pe_clsF rfl T.m_Order T.r_Order T.vi_Order rfl T.c_Order___init__.F.kp G_Order___init__ (hr.mono (by decide)) T.c_Order___init__.b pass0 (pa_cons (pv 0) (pa_cons pe_non pa_nil))))
      (pss_cons (ps_expr (pe_call G_need_order (hr.mono (by decide)) rfl T.c_need_order.m T.c_need_order.F.kp T.c_need_order.b .nil pass0 (pa_cons (pv 1) pa_nil)))
      (pss_one (ps_fld (pv 0) (pv 1) rfl)))), ?_⟩
    have S := Hs.start H [x] [(x, .ins A.C_DownOrder dx []), (i, .ins C dxi fs)] (by simpa using ne) (by
      intro q hq
      simp only [List.mem_cons, List.not_mem_nil, or_false] at hq
      rcases hq with rfl | rfl
      · exact hx
      · exact hi) (by
      intro b hb
      simp only [List.mem_cons, List.not_mem_nil, or_false] at hb
      subst hb
      rw [hx]; simp)
    walk_at "st"
    walk_at "rd"
    refine use_oinit S (by walk_at "chgF") (by walk_at "own") fun H1 S1 => ?_
    walk_at "rd"
    refine use_norder S1 (by walk_at "mem") O ?_
    walk_at "rd"
    rename_i H2 S2
    rw [put_inner] at S2
    exact k _ (S2.get (by walk_at "mem")) (fun b o e hb => S2.old1 e hb)
theorem ok_pinit (T : Txt K mg w A) : FnOk P w K mg base CX0 2 A.f_PlainOrder___init__ A.d_PlainOrder___init__ ["self"] (sp_pinit A) := by
  have G_Order___init__ : FnOk P w K mg base CX0 1 A.f_Order___init__ A.d_Order___init__ ["self", "rule"] (sp_oinit A.C_PlainOrder) := ok_oinit T (ord_p T)
  have hC := T.cl_PlainOrder
  refine T.c_PlainOrder___init__.F.ok sc_PlainOrder___init__ (fun vs H Q E h => ?_) (fun cdv Ar outer s H vs Q E hr h => ?_)
  · obtain ⟨_, _, rfl, _⟩ := h; rfl
  · obtain ⟨x, dx, rfl, hx, k⟩ := h
    refine ⟨_, (pss_one (ps_expr (Xj.pe_clsF rfl T.m_Order T.r_Order T.vi_Order rfl T.c_Order___init__.F.kp G_Order___init__ (hr.mono (by decide)) T.c_Order___init__.b pass0 (pa_cons (pv 0) (pa_cons pe_non pa_nil))))), ?_⟩
    have S := Hs.start1 hx [x] (.inr rfl)
    walk_at "st"
    walk_at "rd"
    refine use_oinit S (by walk_at "chgF") (by walk_at "own") fun H1 S1 => ?_
    walk_at "rd"
    exact k _ (S1.get (by walk_at "mem")) (fun b o e hb => S1.old1 e hb)
theorem ok_kinit (T : Txt K mg w A) : FnOk P w K mg base CX0 4 A.f_KeyOrder___init__ A.d_KeyOrder___init__ ["self", "key", "order"] (sp_kinit K A) := by
  have G_Order___init__ : FnOk P w K mg base CX0 1 A.f_Order___init__ A.d_Order___init__ ["self", "rule"] (sp_oinit A.C_KeyOrder) := ok_oinit T (ord_k T)
  have G_PlainOrder___init__ : FnOk P w K mg base CX0 2 A.f_PlainOrder___init__ A.d_PlainOrder___init__ ["self"] (sp_pinit A) := ok_pinit T
  have G_need_order : FnOk P w K mg base CX0 1 A.f_need_order A.d_need_order ["thing"] (sp_norder K A) := ok_norder T
  have hC := T.cl_KeyOrder
  have n1 := T.na_KeyOrder_inner
  have n2 := T.na_KeyOrder_own_key
  refine T.c_KeyOrder___init__.F.ok sc_KeyOrder___init__ (fun vs H Q E h => ?_) (fun cdv Ar outer s H vs Q E hr h => ?_)
  · obtain ⟨_, _, _, _, rfl, _⟩ := h; rfl
  · obtain ⟨x, dx, kf, v, rfl, hx, h⟩ := h
    refine ⟨_, (pss_cons (ps_expr (Xj.pe_clsF rfl T.m_Order T.r_Order T.vi_Order rfl T.c_Order___init__.F.kp G_Order___init__ (hr.mono (by decide)) T.c_Order___init__.b pass0 (pa_cons (pv 0) (pa_cons pe_non pa_nil))))
      (pss_cons (ps_if (pt_cmpR op_notN (pv 2) pe_non (nomark _))
        (pss_one (ps_expr (pe_call G_need_order (hr.mono (by decide)) rfl T.c_need_order.m T.c_need_order.F.kp T.c_need_order.b .nil pass0 (pa_cons (pv 2) pa_nil))))
        pss_nil)
      (pss_cons (ps_fld (pv 0) (pv 1) rfl)
      (pss_one (ps_fld (pv 0) (pe_ifExp (pt_cmpR op_isN (pv 2) pe_non (nomark _)) (pe_make0 T.i_PlainOrder G_PlainOrder___init__ (hr.mono (by decide)) rfl T.m_PlainOrder T.c_PlainOrder___init__.b .nil pass0) (pv 2)) rfl))))), ?_⟩
    rcases h with ⟨i, C, dxi, fs, rfl, hi, O, ne, k⟩ | ⟨rfl, k⟩
    · have S := Hs.start H [x] [(x, .ins A.C_KeyOrder dx []), (i, .ins C dxi fs)] (by simpa using ne) (by
        intro q hq
        simp only [List.mem_cons, List.not_mem_nil, or_false] at hq
        rcases hq with rfl | rfl
        · exact hx
        · exact hi) (by
        intro b hb
        simp only [List.mem_cons, List.not_mem_nil, or_false] at hb
        subst hb
        rw [hx]; simp)
      walk_at "st"
      walk_at "rd"
      refine use_oinit S (by walk_at "chgF") (by walk_at "own") fun H1 S1 => ?_
      walk_at "rd"
      walk_at "if1"
      refine use_norder S1 (by walk_at "mem") O ?_
      walk_at "rd"
      rename_i H2 S2
      rw [put_key] at S2
      rw [decide_eq_false (fun z => by cases z)]
      walk_at "if0"
      rename_i H3 S3
      rw [put_inner2] at S3
      exact k _ (S3.get (by walk_at "mem")) (fun b o e hb => S3.old1 e hb)
    · have S := Hs.start1 hx [x] (.inr rfl)
      walk_at "st"
      walk_at "rd"
      refine use_oinit S (by walk_at "chgF") (by walk_at "own") fun H1 S1 => ?_
      walk_at "rd"
      walk_at "if0"
      rename_i H2 S2
      rw [put_key] at S2
      rw [decide_eq_true rfl]
      walk_at "if1"
      intro y dy hy hdy nd
      obtain ⟨hd0, S3⟩ := S2.new hdy (.own y)
      obtain ⟨hy0, S4⟩ := S3.new (a := y) (by rw [upd_ne (Ne.symm nd)]; exact hy) (.ins A.C_PlainOrder dy [])
      refine ⟨y, dy, rfl, upd_same, fun H5 e5 k5 => ⟨rfl, ?_⟩⟩
      have S5 := S4.one (o' := .ins A.C_PlainOrder dy (flds .non 0 [])) (by walk_at "chg") (.inl hy0) k5 e5
      walk_at "rd"
      rename_i H6 S6
      rw [put_inner2] at S6
      have yx : y ≠ x := fun z => by rw [z, hx] at hy0; cases hy0
      exact k y dy H6 hy0 yx (S6.get (by walk_at "mem")) (S6.get (by walk_at "mem")) (fun b o e hb => S6.old1 e hb)
theorem ok_tinit (T : Txt K mg w A) : FnOk P w K mg base CX0 2 A.f_ThenOrder___init__ A.d_ThenOrder___init__ ["self", "first", "second"] (sp_tinit K A) := by
  have G_Order___init__ : FnOk P w K mg base CX0 1 A.f_Order___init__ A.d_Order___init__ ["self", "rule"] (sp_oinit A.C_ThenOrder) := ok_oinit T (ord_t T)
  have G_need_order : FnOk P w K mg base CX0 1 A.f_need_order A.d_need_order ["thing"] (sp_norder K A) := ok_norder T
  have hC := T.cl_ThenOrder
  have n1 := T.na_ThenOrder_inner
  have n2 := T.na_ThenOrder_second_one
  refine T.c_ThenOrder___init__.F.ok sc_ThenOrder___init__ (fun vs H Q E h => ?_) (fun cdv Ar outer s H vs Q E hr h => ?_)
  · obtain ⟨_, _, _, _, _, _, _, _, _, _, rfl, _⟩ := h; rfl
  · obtain ⟨x, dx, i, s, C, dxi, C2, dxs, fs, fs2, rfl, hx, hi, O, hs, O2, ne, ne2, k⟩ := h
    refine ⟨_, (pss_cons (ps_expr (Xj.pe_clsF rfl T.m_Order T.r_Order T.vi_Order rfl T.c_Order___init__.F.kp G_Order___init__ (hr.mono (by decide)) T.c_Order___init__.b pass0 (pa_cons (pv 0) (pa_cons pe_non pa_nil))))
      (pss_cons (ps_expr (pe_call G_need_order (hr.mono (by decide)) rfl T.c_need_order.m T.c_need_order.F.kp T.c_need_order.b .nil pass0 (pa_cons (pv 1) pa_nil)))
      (pss_cons (ps_expr (pe_call G_need_order (hr.mono (by decide)) rfl T.c_need_order.m T.c_need_order.F.kp T.c_need_order.b .nil pass0 (pa_cons (pv 2) pa_nil)))
      (pss_cons (ps_fld (pv 0) (pv 1) rfl)
      (pss_one (ps_fld (pv 0) (pv 2) rfl)))))), ?_⟩
    have S := Hs.start1 hx [x] (.inr rfl)
    walk_at "st"
    walk_at "rd"
    refine use_oinit S (by walk_at "chgF") (by walk_at "own") fun H1 S1 => ?_
    walk_at "rd"
    refine ⟨i, C, dxi, fs, rfl, S1.old1 hi ne.symm, O, ?_⟩
    walk_at "rd"
    refine ⟨s, C2, dxs, fs2, rfl, S1.old1 hs ne2.symm, O2, ?_⟩
    walk_at "rd"
    rename_i H2 S2 H3 S3
    rw [put_inner, put_second] at S3
    exact k _ (S3.get (by walk_at "mem")) (fun b o e hb => S3.old1 e hb)
theorem mk_keep {x dx C : Addr} {H' : Hp} (hx : H x = none) (hd : H dx = none) (k : ∀ b o, upd (upd H dx (.own x)) x (.ins C dx []) b = some o → b ≠ x → H' b = some o) : Same H H' := fun b o e => by
  have n1 : b ≠ x := fun z => by subst z; rw [hx] at e; cases e
  have n2 : b ≠ dx := fun z => by subst z; rw [hd] at e; cases e
  exact k b o (by rw [upd_ne n1, upd_ne n2]; exact e) n1
theorem mk_ne {x i : Addr} {o : HO} (hx : H x = none) (e : H i = some o) : x ≠ i := fun z => by subst z; rw [hx] at e; cases e
theorem mk_at {x dx C i : Addr} {o : HO} (hx : H x = none) (hd : H dx = none) (e : H i = some o) : upd (upd H dx (.own x)) x (.ins C dx []) i = some o := by
  have n1 : i ≠ x := fun z => by subst z; rw [hx] at e; cases e
  have n2 : i ≠ dx := fun z => by subst z; rw [hd] at e; cases e
  rw [upd_ne n1, upd_ne n2]; exact e
theorem mk_o {R : Addr → Hp → Prop} {f : Addr} (h : ∀ x dx H', H x = none → H' x = some (.ins A.C_Order dx (flds (.ref f) 0 [])) → Same H H' → R x H') : ∀ x dx, H x = none → H dx = none → dx ≠ x → sp_oinit A.C_Order (.ref x :: ([.ref f] ++ [])) (upd (upd H dx (.own x)) x (.ins A.C_Order dx [])) (fun v H2 => v = .non ∧ R x H2) E :=
  fun x dx hx hd ne => ⟨x, dx, .ref f, rfl, upd_same, fun H' e k => ⟨rfl, h x dx H' hx e (mk_keep hx hd k)⟩⟩
theorem mk_d {R : Addr → Hp → Prop} {i C dxi : Addr} {fs : List (Str × V)} (hi : H i = some (.ins C dxi fs)) (O : OrdC K A C) (h : ∀ x dx H', H x = none → H' x = some (.ins A.C_DownOrder dx (flds .non 0 (dR i))) → Same H H' → R x H') : ∀ x dx, H x = none → H dx = none → dx ≠ x → sp_dinit K A (.ref x :: ([.ref i] ++ [])) (upd (upd H dx (.own x)) x (.ins A.C_DownOrder dx [])) (fun v H2 => v = .non ∧ R x H2) E :=
  fun x dx hx hd ne => ⟨x, dx, i, C, dxi, fs, rfl, upd_same, mk_at hx hd hi, O, mk_ne hx hi, fun H' e k => ⟨rfl, h x dx H' hx e (mk_keep hx hd k)⟩⟩
theorem mk_p {R : Addr → Hp → Prop} (h : ∀ x dx H', H x = none → H' x = some (.ins A.C_PlainOrder dx (flds .non 0 [])) → Same H H' → R x H') : ∀ x dx, H x = none → H dx = none → dx ≠ x → sp_pinit A [.ref x] (upd (upd H dx (.own x)) x (.ins A.C_PlainOrder dx [])) (fun v H2 => v = .non ∧ R x H2) E :=
  fun x dx hx hd ne => ⟨x, dx, rfl, upd_same, fun H' e k => ⟨rfl, h x dx H' hx e (mk_keep hx hd k)⟩⟩
theorem mk_k {R : Addr → Hp → Prop} {kf i C dxi : Addr} {fs : List (Str × V)} (hi : H i = some (.ins C dxi fs)) (O : OrdC K A C) (h : ∀ x dx H', H x = none → H' x = some (.ins A.C_KeyOrder dx (flds .non 0 (kR kf i))) → Same H H' → R x H') : ∀ x dx, H x = none → H dx = none → dx ≠ x → sp_kinit K A (.ref x :: ([.ref kf, .ref i] ++ [])) (upd (upd H dx (.own x)) x (.ins A.C_KeyOrder dx [])) (fun v H2 => v = .non ∧ R x H2) E :=
  fun x dx hx hd ne => ⟨x, dx, kf, .ref i, rfl, upd_same, .inl ⟨i, C, dxi, fs, rfl, mk_at hx hd hi, O, mk_ne hx hi, fun H' e k => ⟨rfl, h x dx H' hx e (mk_keep hx hd k)⟩⟩⟩
theorem mk_kn {R : Addr → Hp → Prop} {kf : Addr} (h : ∀ x dx y dy H', H x = none → H y = none → x ≠ y → H' y = some (.ins A.C_PlainOrder dy (flds .non 0 [])) → H' x = some (.ins A.C_KeyOrder dx (flds .non 0 (kR kf y))) → Same H H' → R x H') : ∀ x dx, H x = none → H dx = none → dx ≠ x → sp_kinit K A (.ref x :: ([.ref kf] ++ [.non])) (upd (upd H dx (.own x)) x (.ins A.C_KeyOrder dx [])) (fun v H2 => v = .non ∧ R x H2) E :=
  fun x dx hx hd ne => ⟨x, dx, kf, .non, rfl, upd_same, .inr ⟨rfl, fun y dy H' hy yx ey ex k => ⟨rfl, h x dx y dy H' hx (by
    by_cases q : y = dx
    · subst q; rw [upd_ne yx, upd_same] at hy; cases hy
    · rw [upd_ne yx, upd_ne q] at hy; exact hy) yx.symm ey ex (mk_keep hx hd k)⟩⟩⟩
theorem mk_t {R : Addr → Hp → Prop} {i s C dxi C2 dxs : Addr} {fs fs2 : List (Str × V)} (hi : H i = some (.ins C dxi fs)) (O : OrdC K A C) (hs : H s = some (.ins C2 dxs fs2)) (O2 : OrdC K A C2) (h : ∀ x dx H', H x = none → H' x = some (.ins A.C_ThenOrder dx (flds .non 0 (tR i s))) → Same H H' → R x H') : ∀ x dx, H x = none → H dx = none → dx ≠ x → sp_tinit K A [.ref x, .ref i, .ref s] (upd (upd H dx (.own x)) x (.ins A.C_ThenOrder dx [])) (fun v H2 => v = .non ∧ R x H2) E :=
  fun x dx hx hd ne => ⟨x, dx, i, s, C, dxi, C2, dxs, fs, fs2, rfl, upd_same, mk_at hx hd hi, O, mk_at hx hd hs, O2, mk_ne hx hi, mk_ne hx hs, fun H' e k => ⟨rfl, h x dx H' hx e (mk_keep hx hd k)⟩⟩
theorem b_key (T : Txt K mg w A) : ∃ ds : List Value, Vals [V.non] ds ∧ Binds K A.d_KeyOrder___init__ ["self", "key", "order"] ds := by
  obtain ⟨ds, hv, hb⟩ := T.c_KeyOrder___init__.F.binds1 (ps := ["self", "key", "order"]) 2 0 (by simp) rfl (by
    intro T kV doc pm an cdv ct us its h1 h2
    match us, h1, its, h2 with
    | [u, v], _, [i], _ => exact ⟨_, rfl, rfl⟩)
  exact ⟨ds, hv, hb⟩
end
end K05

namespace K05
open PySem L2 Rs Xc Xd Xg Xh Xi Xj Xk NdefX Xf Xq Xr
/-! ### what is no order -/
inductive Odd (H : Hp) : V → Prop
  | int (i : Int) : Odd H (.int i)
  | bl (b : Bool) : Odd H (.bl b)
  | str (x : Str) : Odd H (.str x)
  | non : Odd H .non
  | lst (a : Addr) (xs : List V) (h : H a = some (.lst xs)) : Odd H (.ref a)
  | tup (a : Addr) (xs : List V) (h : H a = some (.tup xs)) : Odd H (.ref a)
  | dct (a : Addr) (kvs : List (Key × V)) (h : H a = some (.dK kvs)) : Odd H (.ref a)
  | fn (f : Addr) (F : Xh.LF) (h : H f = some (Xh.LamO f F)) : Odd H (.ref f)
theorem Odd.move {H H' : Hp} {v : V} (o : Odd H v) (k : ∀ b u, H b = some u → (∀ C dx fs, u ≠ .ins C dx fs) → (∀ ps, u ≠ .tbl ps) → H' b = some u) : Odd H' v := by
  cases o with
  | int i => exact .int i
  | bl b => exact .bl b
  | str x => exact .str x
  | non => exact .non
  | lst a xs h => exact .lst a xs (k _ _ h (fun _ _ _ z => by cases z) (fun _ z => by cases z))
  | tup a xs h => exact .tup a xs (k _ _ h (fun _ _ _ z => by cases z) (fun _ z => by cases z))
  | dct a xs h => exact .dct a xs (k _ _ h (fun _ _ _ z => by cases z) (fun _ z => by cases z))
  | fn f F h => exact .fn f F (k _ _ h (fun _ _ _ z => by cases z) (fun _ z => by cases z))
theorem Odd.but {H H' : Hp} {v : V} {x C dx : Addr} {fs : List (Str × V)} (o : Odd H v) (hx : H x = some (.ins C dx fs)) (k : But x H H') : Odd H' v :=
  o.move fun b u e n _ => k _ _ e fun z => by subst z; rw [hx] at e; cases e; exact n _ _ _ rfl
/-- BadKind("Order") -/
def Ref (A : Ad) (H : Hp) (E : XK) : Prop := ∀ d, H d = none → E (.ref A.C_BadKind) (some d) (upd H d (.xd [("wanted", .str "Order")]))
def sp_xorder (A : Ad) : Sp := fun vs H _ E => ∃ v : V, vs = [v] ∧ Odd H v ∧ Ref A H E
/-- of one of both what is an order is let by -/
def sp_order2 (K : PySem.W.Frag) (A : Ad) : Sp := fun vs H Q E => sp_xorder A vs H Q E ∨ sp_norder K A vs H Q E
def sp_xdinit (A : Ad) : Sp := fun vs H _ E => ∃ (x dx : Addr) (v : V), vs = [.ref x, v] ∧ H x = some (.ins A.C_DownOrder dx []) ∧ Odd H v ∧ ∀ H', But x H H' → Ref A H' E
def sp_xtinit (K : PySem.W.Frag) (A : Ad) : Sp := fun vs H _ E => ∃ (x dx : Addr) (v1 v2 : V), vs = [.ref x, v1, v2] ∧ H x = some (.ins A.C_ThenOrder dx []) ∧ (Odd H v1 ∨ ((∃ (i C dxi : Addr) (fs : List (Str × V)), v1 = .ref i ∧ H i = some (.ins C dxi fs) ∧ OrdC K A C ∧ x ≠ i) ∧ Odd H v2)) ∧ ∀ H', But x H H' → Ref A H' E
def sp_xkinit (A : Ad) : Sp := fun vs H _ E => ∃ (x dx kf : Addr) (v : V), vs = [.ref x, .ref kf, v] ∧ H x = some (.ins A.C_KeyOrder dx []) ∧ Odd H v ∧ v ≠ .non ∧ ∀ H', But x H H' → Ref A H' E
section
variable {P : Program} {w : World} {K : PySem.W.Frag} {mg : Str → Option Value} {base : Heap} {A : Ad} {H H0 : Hp} {MM : List Addr} {L L' F : Led} {Q : VK} {E : XK}
local macro_rules | `(tactic| walk_at "rd1") => `(tactic| first
  | with_reducible refine Xc.rd_bi ?_
  | with_reducible refine Xc.rd_put1 ?_
  | with_reducible refine Xc.rd_tmk ?_
  | with_reducible refine Xc.rd_xv ?_
  | with_reducible refine Xh.rd_callF ?_
  | with_reducible refine Xj.rd_clsF ?_
  | with_reducible refine Xj.rd_methD ?_)
theorem ok_xBadKind (T : Txt K mg w A) : FnOk P w K mg base CX0 1 A.f_BadKind___init__ A.d_BadKind___init__ ["self", "wanted"] (Xc.spInit1 A.C_BadKind "wanted") := by
  refine T.c_BadKind___init__.F.ok sc_BadKind___init__ (fun vs H Q E h => ?_) (fun cdv Ar outer s H vs Q E hr h => ?_)
  · obtain ⟨a, v, rfl, _⟩ := h; rfl
  · obtain ⟨a, v, rfl, ha, k⟩ := h
    refine ⟨_, (pss_cons (ps_expr (Xc.pe_binit T.o_BadKind rfl T.n_TypeError (by decide +kernel) (by kernel_rfl) (by decide +kernel) (by decide +kernel) T.v_BadKind (pa_cons (pv 0) (pa_cons (pv 1) pa_nil))))
      (pss_one (Xc.ps_put T.o_BadKind (pv 0) (pv 1) rfl))), ?_⟩
    walk_at "st"
    walk_at "rd"
    refine ⟨a, _, [v], rfl, by simp, T.o_BadKind, ha, ?_⟩
    walk_at "rd"
    refine ⟨a, _, rfl, T.o_BadKind, T.t_BadKind_wanted, Or.inl ⟨ha, fun dx n1 n2 => ?_⟩⟩
    exact k dx n1 n2
theorem ok_order2 (T : Txt K mg w A) : FnOk P w K mg base (L2.CX P w) 3 A.f_need_order A.d_need_order ["thing"] (sp_order2 K A) := by
  have G_BadKind : FnOk P w K mg base CX0 1 A.f_BadKind___init__ A.d_BadKind___init__ ["self", "wanted"] (Xc.spInit1 A.C_BadKind "wanted") := ok_xBadKind T
  refine T.c_need_order.F.okX sc_need_order (fun vs H Q E h => ?_) (fun cdv Ar outer s H vs Q E hr h => ?_)
  · rcases h with ⟨v, rfl, _⟩ | ⟨a, C, dx, fs, rfl, _⟩ <;> rfl
  · have hv : ∃ v, vs = [v] := by
      rcases h with ⟨v, rfl, _⟩ | ⟨a, C, dx, fs, rfl, _⟩ <;> exact ⟨_, rfl⟩
    obtain ⟨v0, rfl⟩ := hv
    refine ⟨_, (pss_one (ps_if (pt_not (pt_val (pe_callB Xl.call_isiF (by rfl) T.n_isinstance PyProof.Rows.boot_isinstance (pa_cons (pv 0) (pa_cons (pe_glob (v := .ref A.C_Order) rfl T.m_Order rfl) pa_nil)))))
        (pss_one (ps_raise rfl (takes_of rfl rfl rfl rfl) (Xc.pmk_own T.o_BadKind T.i_BadKind T.y_BadKind G_BadKind (hr.mono (by decide)) T.c_BadKind___init__.b .nil pass0 rfl T.m_BadKind (pa_cons pe_str pa_nil))))
        pss_nil)), ?_⟩
    walk_at "st"
    walk_at "rd"
    rcases h with ⟨v, e, n, r⟩ | ⟨a, C, dx, fs, e, ha, O, q⟩
    · cases e
      have fin := fun (H1 : Hp) (e : H1 = H) => Xc.rd_mk1 (H := H1) fun d hd => by subst e; exact r d hd
      cases n with
      | int i => refine .inl ⟨.int i, .ref A.C_Order, _, .ref A.C_Order, false, rfl, .own _, .base (.int i), T.x_io_int, ?_⟩; walk_at "rd"; walk_at "if1"; exact fin _ rfl
      | bl i => refine .inl ⟨.bl i, .ref A.C_Order, _, .ref A.C_Order, false, rfl, .own _, .base (.bl i), T.x_io_bool, ?_⟩; walk_at "rd"; walk_at "if1"; exact fin _ rfl
      | str i => refine .inl ⟨.str i, .ref A.C_Order, _, .ref A.C_Order, false, rfl, .own _, .base (.str i), T.x_io_str, ?_⟩; walk_at "rd"; walk_at "if1"; exact fin _ rfl
      | non => refine .inl ⟨.non, .ref A.C_Order, _, .ref A.C_Order, false, rfl, .own _, .base .non, T.x_io_non, ?_⟩; walk_at "rd"; walk_at "if1"; exact fin _ rfl
      | lst a xs h => refine .inl ⟨.ref a, .ref A.C_Order, _, .ref A.C_Order, false, rfl, .own _, .base (.lst h), T.x_io_lst, ?_⟩; walk_at "rd"; walk_at "if1"; exact fin _ rfl
      | tup a xs h => refine .inl ⟨.ref a, .ref A.C_Order, _, .ref A.C_Order, false, rfl, .own _, .base (.tup h), T.x_io_tup, ?_⟩; walk_at "rd"; walk_at "if1"; exact fin _ rfl
      | dct a xs h => refine .inl ⟨.ref a, .ref A.C_Order, _, .ref A.C_Order, false, rfl, .own _, .base (.dK h), T.x_io_dct, ?_⟩; walk_at "rd"; walk_at "if1"; exact fin _ rfl
      | fn f F h =>
        refine .inr ⟨_, _, .ref A.C_Order, .ref A.C_Order, false, rfl, .own _, h, T.x_io_fun, ?_⟩
        walk_at "rd"; walk_at "if1"; exact fin _ rfl
    · cases e
      refine .inl ⟨.ref a, .ref A.C_Order, .ref C, .ref A.C_Order, true, rfl, .own _, .base (.ins ha O.cl O.oha T.x_ohn T.x_oht O.ohm), O.kit, ?_⟩
      walk_at "rd"
      walk_at "if0"
      exact q
theorem ok_xdinit (T : Txt K mg w A) : FnOk P w K mg base (L2.CX P w) 4 A.f_DownOrder___init__ A.d_DownOrder___init__ ["self", "order"] (sp_xdinit A) := by
  have G_Order___init__ : FnOk P w K mg base CX0 1 A.f_Order___init__ A.d_Order___init__ ["self", "rule"] (sp_oinit A.C_DownOrder) := ok_oinit T (ord_d T)
  have G_need_order : FnOk P w K mg base (L2.CX P w) 3 A.f_need_order A.d_need_order ["thing"] (sp_order2 K A) := ok_order2 T
  have hC := T.cl_DownOrder
  have n1 := T.na_DownOrder_inner
  refine T.c_DownOrder___init__.F.okX sc_DownOrder___init__ (fun vs H Q E h => ?_) (fun cdv Ar outer s H vs Q E hr h => ?_)
  · obtain ⟨_, _, _, rfl, _⟩ := h; rfl
  · obtain ⟨x, dx, v, rfl, hx, o, k⟩ := h
    refine ⟨_, (pss_cons (ps_expr (Xj.pe_clsF rfl T.m_Order T.r_Order T.vi_Order rfl T.c_Order___init__.F.kp G_Order___init__ (hr.mono (by decide)) T.c_Order___init__.b pass0 (pa_cons (pv 0) (pa_cons pe_non pa_nil))))
      (pss_cons (ps_expr (pe_call G_need_order (hr.mono (by decide)) rfl T.c_need_order.m T.c_need_order.F.kp T.c_need_order.b .nil (passes_call (takes_of rfl rfl rfl rfl) fun _ _ _ _ z => z) (pa_cons (pv 1) pa_nil)))
      (pss_one (ps_fld (pv 0) (pv 1) rfl)))), ?_⟩
    have S := Hs.start1 hx [x] (.inr rfl)
    walk_at "st"
    walk_at "rd"
    refine use_oinit S (by walk_at "chgF") (by walk_at "own") fun H1 S1 => ?_
    have b1 : But x H H1 := fun b o e hb => S1.old1 e hb
    walk_at "rd"
    exact .inl ⟨v, rfl, o.but hx b1, k H1 b1⟩
theorem ok_xtinit (T : Txt K mg w A) : FnOk P w K mg base (L2.CX P w) 4 A.f_ThenOrder___init__ A.d_ThenOrder___init__ ["self", "first", "second"] (sp_xtinit K A) := by
  have G_Order___init__ : FnOk P w K mg base CX0 1 A.f_Order___init__ A.d_Order___init__ ["self", "rule"] (sp_oinit A.C_ThenOrder) := ok_oinit T (ord_t T)
  have G_need_order : FnOk P w K mg base (L2.CX P w) 3 A.f_need_order A.d_need_order ["thing"] (sp_order2 K A) := ok_order2 T
  have hC := T.cl_ThenOrder
  have n1 := T.na_ThenOrder_inner
  have n2 := T.na_ThenOrder_second_one
  refine T.c_ThenOrder___init__.F.okX sc_ThenOrder___init__ (fun vs H Q E h => ?_) (fun cdv Ar outer s H vs Q E hr h => ?_)
  · obtain ⟨_, _, _, _, rfl, _⟩ := h; rfl
  · obtain ⟨x, dx, v1, v2, rfl, hx, o, k⟩ := h
    refine ⟨_, (pss_cons (ps_expr (Xj.pe_clsF rfl T.m_Order T.r_Order T.vi_Order rfl T.c_Order___init__.F.kp G_Order___init__ (hr.mono (by decide)) T.c_Order___init__.b pass0 (pa_cons (pv 0) (pa_cons pe_non pa_nil))))
      (pss_cons (ps_expr (pe_call G_need_order (hr.mono (by decide)) rfl T.c_need_order.m T.c_need_order.F.kp T.c_need_order.b .nil (passes_call (takes_of rfl rfl rfl rfl) fun _ _ _ _ z => z) (pa_cons (pv 1) pa_nil)))
      (pss_cons (ps_expr (pe_call G_need_order (hr.mono (by decide)) rfl T.c_need_order.m T.c_need_order.F.kp T.c_need_order.b .nil (passes_call (takes_of rfl rfl rfl rfl) fun _ _ _ _ z => z) (pa_cons (pv 2) pa_nil)))
      (pss_cons (ps_fld (pv 0) (pv 1) rfl)
      (pss_one (ps_fld (pv 0) (pv 2) rfl)))))), ?_⟩
    have S := Hs.start1 hx [x] (.inr rfl)
    walk_at "st"
    walk_at "rd"
    refine use_oinit S (by walk_at "chgF") (by walk_at "own") fun H1 S1 => ?_
    have b1 : But x H H1 := fun b o e hb => S1.old1 e hb
    walk_at "rd"
    rcases o with o | ⟨⟨i, C, dxi, fs, rfl, hi, O, ne⟩, o⟩
    · exact .inl ⟨v1, rfl, o.but hx b1, k H1 b1⟩
    · refine .inr ⟨i, C, dxi, fs, rfl, b1 _ _ hi ne.symm, O, ?_⟩
      walk_at "rd"
      exact .inl ⟨v2, rfl, o.but hx b1, k H1 b1⟩
theorem ok_xkinit (T : Txt K mg w A) : FnOk P w K mg base (L2.CX P w) 4 A.f_KeyOrder___init__ A.d_KeyOrder___init__ ["self", "key", "order"] (sp_xkinit A) := by
  have G_Order___init__ : FnOk P w K mg base CX0 1 A.f_Order___init__ A.d_Order___init__ ["self", "rule"] (sp_oinit A.C_KeyOrder) := ok_oinit T (ord_k T)
  have G_PlainOrder___init__ : FnOk P w K mg base CX0 2 A.f_PlainOrder___init__ A.d_PlainOrder___init__ ["self"] (sp_pinit A) := ok_pinit T
  have G_need_order : FnOk P w K mg base (L2.CX P w) 3 A.f_need_order A.d_need_order ["thing"] (sp_order2 K A) := ok_order2 T
  have hC := T.cl_KeyOrder
  have n1 := T.na_KeyOrder_inner
  have n2 := T.na_KeyOrder_own_key
  refine T.c_KeyOrder___init__.F.ok sc_KeyOrder___init__ (fun vs H Q E h => ?_) (fun cdv Ar outer s H vs Q E hr h => ?_)
  · obtain ⟨_, _, _, _, rfl, _⟩ := h; rfl
  · obtain ⟨x, dx, kf, v, rfl, hx, o, nn, k⟩ := h
    refine ⟨_, (pss_cons (ps_expr (Xj.pe_clsF rfl T.m_Order T.r_Order T.vi_Order rfl T.c_Order___init__.F.kp G_Order___init__ (hr.mono (by decide)) T.c_Order___init__.b pass0 (pa_cons (pv 0) (pa_cons pe_non pa_nil))))
      (pss_cons (ps_if (pt_cmpR op_notN (pv 2) pe_non (nomark _))
        (pss_one (ps_expr (pe_call G_need_order (hr.mono (by decide)) rfl T.c_need_order.m T.c_need_order.F.kp T.c_need_order.b .nil (passes_call (takes_of rfl rfl rfl rfl) fun _ _ _ _ z => z) (pa_cons (pv 2) pa_nil))))
        pss_nil)
      (pss_cons (ps_fld (pv 0) (pv 1) rfl)
      (pss_one (ps_fld (pv 0) (pe_ifExp (pt_cmpR op_isN (pv 2) pe_non (nomark _)) (pe_make0 T.i_PlainOrder G_PlainOrder___init__ (hr.mono (by decide)) rfl T.m_PlainOrder T.c_PlainOrder___init__.b .nil pass0) (pv 2)) rfl))))), ?_⟩
    have S := Hs.start1 hx [x] (.inr rfl)
    walk_at "st"
    walk_at "rd"
    refine use_oinit S (by walk_at "chgF") (by walk_at "own") fun H1 S1 => ?_
    have b1 : But x H H1 := fun b o e hb => S1.old1 e hb
    walk_at "rd"
    rw [decide_eq_false nn]
    walk_at "if1"
    exact .inl ⟨v, rfl, o.but hx b1, k H1 b1⟩
end
end K05

namespace K05
open PySem L2 Rs
/-! the draws -/
abbrev stm (b : Addr) (l k m : Int) : HO := .lst [.ref b, .int l, .int k, .int m]
def R_mixed : SepM := fun vs Ch L post => ∃ c k : Int, vs = [.int c, .int k] ∧ L = [] ∧ Ch = [] ∧ 0 ≤ k ∧ k < 2 ^ 16 ∧ post = fun v N L' => ∃ r : Int, v = .int r ∧ 0 ≤ r ∧ r < 2147483629 ∧ N = [] ∧ L' = []
def R_take : SepM := fun vs Ch L post => ∃ (a b : Addr) (l k m n : Int) (ns : List Int), vs = [.ref a, .int n] ∧ L = [(a, stm b l k m), (b, .lst (ns.map V.int))] ∧ Ch = [a, b] ∧ 1 ≤ n ∧ n < 2 ^ 40 ∧ 0 ≤ k ∧ k < 2 ^ 15 ∧
  post = fun v N L' => ∃ (r l' m' : Int) (ns' : List Int), v = .int r ∧ 0 ≤ r ∧ r < n ∧ N = [] ∧ L' = [(a, stm b l' (k + 1) m'), (b, .lst (ns'.map V.int))]
section
variable {P : Program} {w : World} {K : PySem.W.Frag} {mg : Str → Option Value} {base : Heap} {A : Ad} {H H0 : Hp} {MM : List Addr} {L L' F : Led} {Q : VK} {E : XK}
theorem ok_mixed (T : Txt K mg w A) : FnOk P w K mg base CX0 1 A.f__law_mixed A.d__law_mixed ["_law_drawn", "_law_k"] (SepN R_mixed) := by
  refine T.c__law_mixed.F.ok sc_l_mixed (fun vs H Q E h => ?_) (fun cdv Ar outer s H vs Q E hr h => ?_)
  · obtain ⟨_, _, _, ⟨_, _, rfl, _⟩, _⟩ := h; rfl
  · obtain ⟨Ch, L, post, ⟨c, kk, rfl, rfl, rfl, hk0, hk1, rfl⟩, nd, is, hc, k⟩ := h
    refine ⟨_, (pss_cons (ps_set (i := 0) sc_l_mixed.nd rfl (Or.inl rfl) (pe_op op_mod (pe_op op_pow (pe_op op_add (pe_op op_add (pe_op op_add (pe_op op_mod (pv 0) pe_int) (pe_op op_mul (pe_op op_mul pe_int (pv 1)) (pv 1))) (pe_op op_mul pe_int (pv 1))) pe_int) pe_int) pe_int))
      (pss_one (ps_ret (pe_op op_fdivW (pe_op op_mod (pe_op op_mul (pv 0) (pe_op op_add pe_int (pe_op op_mul pe_int (pv 1)))) pe_int) pe_int)))), ?_⟩
    have S := Sep.led nd is hc
    have q1 : 0 ≤ 7919 * kk * kk := Int.mul_nonneg (by omega) hk0
    have q2 : 7919 * kk * kk ≤ 7919 * 2 ^ 16 * 2 ^ 16 := Int.mul_le_mul (by omega) (by omega) hk0 (by omega)
    walk_at "st"
    walk_at "rd"
    exact k _ _ [] [] ⟨_, rfl, by omega, by omega, rfl, rfl⟩ (Hs.sub (by assumption) (List.nil_sublist _)) (fun q h => nomatch h) (fun q h => nomatch h)
theorem use_mixed {c kk : Int} (S : Hs H0 MM H L) (h0 : 0 ≤ kk) (h1 : kk < 2 ^ 16) (h : ∀ (r : Int) (H' : Hp), Hs H0 MM H' L → 0 ≤ r → r < 2147483629 → Q (.int r) H') : SepN R_mixed [.int c, .int kk] H Q E :=
  sepn_use (F := L) S ⟨c, kk, rfl, rfl, rfl, h0, h1, rfl⟩ (fun _ => Nat.le_refl _) (fun c hc => nomatch hc) fun v H' N L' ⟨r, e1, b0, b1, e2, e3⟩ _ S' => by subst e1 e2 e3; exact h r H' S' b0 b1
local macro_rules | `(tactic| walk_at "rd1") => `(tactic| ((with_reducible refine' use_mixed (by assumption) ?a ?b ?_); (case a => omega); (case b => omega); intro r H S h0 h1))
theorem set1 {a b : Addr} {l k m z : Int} {N : Hp → Prop} (S : Hs H0 MM H L) (c : Chg a (stm b l k m) (stm b z k m) L L') (hm : H0 a = none ∨ a ∈ MM) (h : ∀ H', Hs H0 MM H' L' → N H') : rSetL (.ref a) (.int 1) (.int z) H N := gt_setL (j := 1) S c hm rfl h
theorem set2 {a b : Addr} {l k m z : Int} {N : Hp → Prop} (S : Hs H0 MM H L) (c : Chg a (stm b l k m) (stm b l z m) L L') (hm : H0 a = none ∨ a ∈ MM) (h : ∀ H', Hs H0 MM H' L' → N H') : rSetL (.ref a) (.int 2) (.int z) H N := gt_setL (j := 2) S c hm rfl h
theorem set3 {a b : Addr} {l k m z : Int} {N : Hp → Prop} (S : Hs H0 MM H L) (c : Chg a (stm b l k m) (stm b l k z) L L') (hm : H0 a = none ∨ a ∈ MM) (h : ∀ H', Hs H0 MM H' L' → N H') : rSetL (.ref a) (.int 3) (.int z) H N := gt_setL (j := 3) S c hm rfl h
local macro_rules | `(tactic| walk_at "rd1") => `(tactic| first
  | ((with_reducible refine' set1 (by assumption) ?c ?o ?_); (case c => (walk_at "chg"; done)); (case o => walk_at "own"); intro H S)
  | ((with_reducible refine' set2 (by assumption) ?c ?o ?_); (case c => (walk_at "chg"; done)); (case o => walk_at "own"); intro H S)
  | ((with_reducible refine' set3 (by assumption) ?c ?o ?_); (case c => (walk_at "chg"; done)); (case o => walk_at "own"); intro H S))
theorem ok_take (T : Txt K mg w A) : FnOk P w K mg base CX0 2 A.f__law_take A.d__law_take ["_law_stream", "_law_many"] (SepN R_take) := by
  have G__law_mixed : FnOk P w K mg base CX0 1 A.f__law_mixed A.d__law_mixed ["_law_drawn", "_law_k"] (SepN R_mixed) := ok_mixed T
  refine T.c__law_take.F.ok sc_l_take (fun vs H Q E h => ?_) (fun cdv Ar outer s H vs Q E hr h => ?_)
  · obtain ⟨_, _, _, ⟨_, _, _, _, _, _, _, rfl, _⟩, _⟩ := h; rfl
  · obtain ⟨Ch, L, post, ⟨a, b, l, kk, m, n, ns, rfl, rfl, rfl, hn1, hn2, hk1, hk2, rfl⟩, nd, is, hc, k⟩ := h
    refine ⟨_, (pss_cons (ps_asg (pe_op op_add (pe_ix ix_list (pv 0) pe_int (fun _ _ => rfl)) pe_int) (pg_sub (pv 0) pe_int set_list))
      (pss_cons (ps_if (PW.pt (pw_and (pt_cmpR op_lt (pe_ix ix_list (pv 0) pe_int (fun _ _ => rfl)) pe_int (nomark _)) (pw_and1 (pt_cmpR (op_neD hr.units) (pe_ix ix_list (pv 0) pe_int (fun _ _ => rfl)) (pe_lst pa_nil) (nomark _)))))
        (pss_cons (ps_set (i := 2) sc_l_take.nd rfl (Or.inl rfl) (pe_bm PySem.F.plainAttrs_list PySem.F.slot_list_pop PySem.F.type_list_pop mt_popAt (pe_ix ix_list (pv 0) pe_int (fun _ _ => rfl)) (pa_cons pe_int pa_nil)))
        (pss_cons (ps_asg (pe_ifExp (pt_cmpR op_ge (pv 2) (pe_op op_pow pe_int pe_int) (nomark _)) (pv 2) pe_int) (pg_sub (pv 0) pe_int set_list))
        (pss_one (ps_asg (pe_call G__law_mixed (hr.mono (by decide)) rfl T.c__law_mixed.m T.c__law_mixed.F.kp T.c__law_mixed.b .nil pass0 (pa_cons (pe_op op_add (pe_ix ix_list (pv 0) pe_int (fun _ _ => rfl)) (pv 2)) (pa_cons (pe_ix ix_list (pv 0) pe_int (fun _ _ => rfl)) pa_nil))) (pg_sub (pv 0) pe_int set_list)))))
        pss_nil)
      (pss_cons (ps_if (pt_cmpR op_gt (pe_ix ix_list (pv 0) pe_int (fun _ _ => rfl)) pe_int (nomark _))
        (pss_cons (ps_set (i := 3) sc_l_take.nd rfl (Or.inl rfl) (pe_op op_mod (pe_ix ix_list (pv 0) pe_int (fun _ _ => rfl)) (pv 1)))
        (pss_cons (ps_asg (pe_op op_fdivW (pe_ix ix_list (pv 0) pe_int (fun _ _ => rfl)) (pv 1)) (pg_sub (pv 0) pe_int set_list))
        (pss_one (ps_ret (pv 3)))))
        pss_nil)
      (pss_one (ps_ret (pe_op op_mod (pe_op op_fdivW (pe_call G__law_mixed (hr.mono (by decide)) rfl T.c__law_mixed.m T.c__law_mixed.F.kp T.c__law_mixed.b .nil pass0 (pa_cons (pe_op op_add (pe_ix ix_list (pv 0) pe_int (fun _ _ => rfl)) (pe_op op_mul pe_int (pe_ix ix_list (pv 0) pe_int (fun _ _ => rfl)))) (pa_cons (pe_ix ix_list (pv 0) pe_int (fun _ _ => rfl)) pa_nil))) pe_int) (pv 1))))))), ?_⟩
    have S := Sep.led nd is hc
    have k2 : ∀ (r l' m' : Int) (ns' : List Int) (H' : Hp) (F : Led), Hs H [a, b] H' ((a, stm b l' (kk + 1) m') :: (b, .lst (ns'.map V.int)) :: F) → 0 ≤ r → r < n → Q (.int r) H' := fun r l' m' ns' H' F S h0 h1 =>
      k _ _ [] [_, _] ⟨r, l', m', ns', rfl, h0, h1, rfl, rfl⟩ (S.re (L' := [(a, stm b l' (kk + 1) m'), (b, .lst (ns'.map V.int))]) (by walk_at "led")) (by simp) (fun q h => nomatch h)
    clear k
    walk_at "st"
    walk_at "rd"
    rename_i H1 S1
    clear S
    refine rd_dec ?_ ?_ <;> intro hl
    · walk_at "rd"
      rename_i p H2 hp S2
      refine rd_neIs (xs := ns.map V.int) (ys := []) (ns := ns) (ms := []) S2 (by walk_at "mem") (by walk_at "mem") rfl rfl ?_
      have S3 : Hs H [a, b] H2 [(a, stm b l (kk + 1) m), (b, .lst (ns.map V.int))] := S2.sub (by walk_at "sub")
      clear S1 S2
      walk_at "rd"
      cases ns with
      | nil =>
        refine rd_decF (by simp) ?_
        walk_at "rd"
        refine rd_decF (by omega) ?_
        walk_at "rd"
        exact k2 _ l m [] _ [] (by assumption) (by assumption) (by assumption)
      | cons z ns =>
        refine rd_decT (by simp) ?_
        walk_at "rd"
        refine rd_popAt (i := 0) (xs := (z :: ns).map V.int) (xs' := ns.map V.int) (y := .int z) S3 (by walk_at "chg") (by walk_at "own") rfl (by decide) rfl fun H4 S4 => ?_
        clear S3
        walk_at "rd"
        refine rd_dec ?_ ?_ <;> intro hz
        · walk_at "rd"
          refine rd_decT (by have : (10 : Int) ^ (18 : Int).toNat = 1000000000000000000 := by decide
                             omega) ?_
          walk_at "rd"
          exact k2 _ _ _ ns _ [] (by assumption) (by assumption) (by assumption)
        · walk_at "rd"
          refine rd_decF (by omega) ?_
          walk_at "rd"
          exact k2 _ _ _ ns _ [] (by assumption) (by assumption) (by assumption)
    · walk_at "rd"
      refine rd_decT (by omega) ?_
      walk_at "rd"
      exact k2 _ _ _ _ _ [] (by assumption) (by assumption) (by assumption)
theorem use_take {a b : Addr} {l k m n : Int} {ns : List Int} (S : Hs H0 MM H L) (pm : ∀ x, cn x ([(a, stm b l k m), (b, HO.lst (ns.map V.int))] ++ F) ≤ cn x L) (own : H0 a = none ∨ a ∈ MM) (own2 : H0 b = none ∨ b ∈ MM) (h1 : 1 ≤ n) (h2 : n < 2 ^ 40) (h3 : 0 ≤ k) (h4 : k < 2 ^ 15)
    (h : ∀ (r l' m' : Int) (ns' : List Int) (H' : Hp), Hs H0 MM H' ((a, stm b l' (k + 1) m') :: (b, .lst (ns'.map V.int)) :: F) → 0 ≤ r → r < n → Q (.int r) H') : SepN R_take [.ref a, .int n] H Q E :=
  sepn_use S ⟨a, b, l, k, m, n, ns, rfl, rfl, rfl, h1, h2, h3, h4, rfl⟩ pm (fun c hc => by
    simp only [List.mem_cons, List.not_mem_nil, or_false] at hc
    rcases hc with rfl | rfl
    · exact ⟨by simp, own⟩
    · exact ⟨by simp, own2⟩) fun v H' N L' ⟨r, l', m', ns', e1, b0, b1, e2, e3⟩ _ S' => by subst e1 e2 e3; exact h r l' m' ns' H' S' b0 b1
end
end K05
namespace K05
open PySem L2 Rs Xc Xd Xg Xh Xi Xj Xk NdefX Xf Xq Xr
/-! a refusal: BadKind -/
def R_ref (A : Ad) : SepM := fun vs Ch L post => ∃ (a dx : Addr) (v : V), vs = [.ref a] ∧ L = [(a, Xc.Exv a (.ref A.C_BadKind) (some dx)), (dx, .xd [("wanted", v)])] ∧ Ch = [] ∧ post = fun u N L' => ∃ t, u = .ref t ∧ N = [(t, .tup [.str "kind", v])] ∧ L' = L
theorem kx {l : List Value} {f : Value → Option Bool} {r : List (Option Bool)} (h : l.map f = r) (i : Nat) {c : Value} {b : Option Bool} (hc : l[i]? = some c) (hb : r[i]? = some b) : f c = b := by
  have e := congrArg (fun l => l[i]?) h
  simp only [List.getElem?_map, hc, hb, Option.map_some, Option.some.injEq] at e
  exact e
section
variable {P : Program} {w : World} {K : PySem.W.Frag} {mg : Str → Option Value} {base : Heap} {A : Ad} {H H0 : Hp} {MM : List Addr} {L L' F : Led} {Q : VK} {E : XK}
local macro_rules | `(tactic| walk_at "rd1") => `(tactic| first
  | with_reducible refine Xc.rd_bi2 ?_
  | with_reducible refine Xc.rd_ib2 ?_
  | with_reducible refine Xc.rd_xv ?_)
theorem ok_refusal (T : Txt K mg w A) : FnOk P w K mg base CX0 1 A.f__law_refusal A.d__law_refusal ["_law_e"] (SepN (R_ref A)) := by
  refine T.c__law_refusal.F.ok sc_l_refusal (fun vs H Q E h => ?_) (fun cdv Ar outer s H vs Q E hr h => ?_)
  · obtain ⟨_, _, _, ⟨_, _, _, rfl, _⟩, _⟩ := h; rfl
  · obtain ⟨Ch, L, post, ⟨a, dx, v, rfl, rfl, rfl, rfl⟩, nd, is, hc, k⟩ := h
    refine ⟨_, (pss_cons (ps_set (i := 1) sc_l_refusal.nd rfl (Or.inl rfl) (pe_lst (pa_cons (pe_callB Xc.call_isX (by rfl) T.n_isinstance PyProof.Rows.boot_isinstance (pa_cons (pv 0) (pa_cons (pe_glob (v := .ref A.C_BadPaper) rfl T.m_BadPaper rfl) pa_nil))) (pa_cons (pe_callB Xc.call_isX (by rfl) T.n_isinstance PyProof.Rows.boot_isinstance (pa_cons (pv 0) (pa_cons (pe_glob (v := .ref A.C_Flawed) rfl T.m_Flawed rfl) pa_nil))) (pa_cons (pe_callB Xc.call_isX (by rfl) T.n_isinstance PyProof.Rows.boot_isinstance (pa_cons (pv 0) (pa_cons (pe_glob (v := .ref A.C_BadLine) rfl T.m_BadLine rfl) pa_nil))) (pa_cons (pe_callB Xc.call_isX (by rfl) T.n_isinstance PyProof.Rows.boot_isinstance (pa_cons (pv 0) (pa_cons (pe_glob (v := .ref A.C_Busy) rfl T.m_Busy rfl) pa_nil))) pa_nil))))))
      (pss_cons (ps_set (i := 1) sc_l_refusal.nd rfl (Or.inl rfl) (pe_op op_cat (pv 1) (pe_lst (pa_cons (pe_callB Xc.call_isX (by rfl) T.n_isinstance PyProof.Rows.boot_isinstance (pa_cons (pv 0) (pa_cons (pe_glob (v := .ref A.C_Gone) rfl T.m_Gone rfl) pa_nil))) (pa_cons (pe_callB Xc.call_isX (by rfl) T.n_isinstance PyProof.Rows.boot_isinstance (pa_cons (pv 0) (pa_cons (pe_glob (v := .ref A.C_BadAnswer) rfl T.m_BadAnswer rfl) pa_nil))) (pa_cons (pe_callB Xc.call_isX (by rfl) T.n_isinstance PyProof.Rows.boot_isinstance (pa_cons (pv 0) (pa_cons (pe_glob (v := .ref A.C_BadKind) rfl T.m_BadKind rfl) pa_nil))) (pa_cons (pe_callB Xc.call_isX (by rfl) T.n_isinstance PyProof.Rows.boot_isinstance (pa_cons (pv 0) (pa_cons (pe_glob (v := .ref A.C_BadText) rfl T.m_BadText rfl) pa_nil))) pa_nil)))))))
      (pss_cons (ps_set (i := 1) sc_l_refusal.nd rfl (Or.inl rfl) (pe_op op_cat (pv 1) (pe_lst (pa_cons (pe_callB Xc.call_isX (by rfl) T.n_isinstance PyProof.Rows.boot_isinstance (pa_cons (pv 0) (pa_cons (pe_glob (v := .ref A.C_BadNumber) rfl T.m_BadNumber rfl) pa_nil))) (pa_cons (pe_callB Xc.call_isX (by rfl) T.n_isinstance PyProof.Rows.boot_isinstance (pa_cons (pv 0) (pa_cons (pe_glob (v := .ref A.C_NoSuch) rfl T.m_NoSuch rfl) pa_nil))) (pa_cons (pe_callB Xc.call_isX (by rfl) T.n_isinstance PyProof.Rows.boot_isinstance (pa_cons (pv 0) (pa_cons (pe_glob (v := .ref A.C_TooMany) rfl T.m_TooMany rfl) pa_nil))) (pa_cons (pe_callB Xc.call_isX (by rfl) T.n_isinstance PyProof.Rows.boot_isinstance (pa_cons (pv 0) (pa_cons (pe_glob (v := .ref A.C_Stopped) rfl T.m_Stopped rfl) pa_nil))) pa_nil)))))))
      (pss_cons (ps_if (pt_cmpR op_ne (pe_bm PySem.F.plainAttrs_list PySem.F.slot_list_count PySem.F.type_list_count Xc.mt_bcount (pv 1) (pa_cons pe_bl pa_nil)) pe_int (nomark _))
        (pss_one (ps_ret (pe_tup (pa_cons pe_str (pa_cons pe_non pa_nil)))))
        pss_nil)
      (pss_cons (ps_if (PW.pt (pw_or (pt_val (pe_ix ix_list (pv 1) pe_int (fun _ _ => rfl))) (pw_or (pt_val (pe_ix ix_list (pv 1) pe_int (fun _ _ => rfl))) (pw_or1 (pt_val (pe_ix ix_list (pv 1) pe_int (fun _ _ => rfl)))))))
        (pss_one (ps_ret (pe_tup (pa_cons (pe_ix ix_list (pe_lst (pa_cons pe_str (pa_cons pe_str (pa_cons pe_str pa_nil)))) (pe_op Xc.op_addBI (pe_ix ix_list (pv 1) pe_int (fun _ _ => rfl)) (pe_op Xc.op_mulIB pe_int (pe_ix ix_list (pv 1) pe_int (fun _ _ => rfl)))) (fun _ _ => rfl)) (pa_cons (Xc.pe_xv (pv 0)) pa_nil)))))
        pss_nil)
      (pss_cons (ps_if (pt_val (pe_ix ix_list (pv 1) pe_int (fun _ _ => rfl)))
        (pss_one (ps_ret (pe_tup (pa_cons pe_str (pa_cons (pe_tup (pa_cons (Xc.pe_xv (pv 0)) (pa_cons (Xc.pe_xv (pv 0)) pa_nil))) pa_nil)))))
        pss_nil)
      (pss_cons (ps_if (pt_val (pe_ix ix_list (pv 1) pe_int (fun _ _ => rfl)))
        (pss_one (ps_ret (pe_tup (pa_cons pe_str (pa_cons (Xc.pe_xv (pv 0)) pa_nil)))))
        pss_nil)
      (pss_cons (ps_if (pt_val (pe_ix ix_list (pv 1) pe_int (fun _ _ => rfl)))
        (pss_one (ps_ret (pe_tup (pa_cons pe_str (pa_cons (Xc.pe_xv (pv 0)) pa_nil)))))
        pss_nil)
      (pss_cons (ps_if (pt_val (pe_ix ix_list (pv 1) pe_int (fun _ _ => rfl)))
        (pss_one (ps_ret (pe_tup (pa_cons pe_str (pa_cons (Xc.pe_xv (pv 0)) pa_nil)))))
        pss_nil)
      (pss_one (ps_ret (pe_ifExp (pt_val (pe_ix ix_list (pv 1) pe_int (fun _ _ => rfl))) (pe_tup (pa_cons pe_str (pa_cons (Xc.pe_xv (pv 0)) pa_nil))) (pe_tup (pa_cons pe_str (pa_cons pe_non pa_nil))))))))))))))), ?_⟩
    have S := Sep.led nd is hc
    walk_at "st"
    walk_at "rd"
    refine Xc.rd_isX S (by walk_at "mem") (by walk_at "mem") T.k_BadKind (.own _) (kx T.x_kit_BadKind 0 rfl rfl) ?_
    walk_at "rd"
    refine Xc.rd_isX S (by walk_at "mem") (by walk_at "mem") T.k_BadKind (.own _) (kx T.x_kit_BadKind 1 rfl rfl) ?_
    walk_at "rd"
    refine Xc.rd_isX S (by walk_at "mem") (by walk_at "mem") T.k_BadKind (.own _) (kx T.x_kit_BadKind 2 rfl rfl) ?_
    walk_at "rd"
    refine Xc.rd_isX S (by walk_at "mem") (by walk_at "mem") T.k_BadKind (.own _) (kx T.x_kit_BadKind 3 rfl rfl) ?_
    walk_at "rd"
    rename_i p1 H1 hp1 S1
    refine Xc.rd_isX S1 (by walk_at "mem") (by walk_at "mem") T.k_BadKind (.own _) (kx T.x_kit_BadKind 4 rfl rfl) ?_
    walk_at "rd"
    refine Xc.rd_isX S1 (by walk_at "mem") (by walk_at "mem") T.k_BadKind (.own _) (kx T.x_kit_BadKind 5 rfl rfl) ?_
    walk_at "rd"
    refine Xc.rd_isX S1 (by walk_at "mem") (by walk_at "mem") T.k_BadKind (.own _) (kx T.x_kit_BadKind 6 rfl rfl) ?_
    walk_at "rd"
    refine Xc.rd_isX S1 (by walk_at "mem") (by walk_at "mem") T.k_BadKind (.own _) (kx T.x_kit_BadKind 7 rfl rfl) ?_
    walk_at "rd"
    rename_i p2 H2 hp2 S2 p3 H3 hp3 S3
    refine Xc.rd_isX S3 (by walk_at "mem") (by walk_at "mem") T.k_BadKind (.own _) (kx T.x_kit_BadKind 8 rfl rfl) ?_
    walk_at "rd"
    refine Xc.rd_isX S3 (by walk_at "mem") (by walk_at "mem") T.k_BadKind (.own _) (kx T.x_kit_BadKind 9 rfl rfl) ?_
    walk_at "rd"
    refine Xc.rd_isX S3 (by walk_at "mem") (by walk_at "mem") T.k_BadKind (.own _) (kx T.x_kit_BadKind 10 rfl rfl) ?_
    walk_at "rd"
    refine Xc.rd_isX S3 (by walk_at "mem") (by walk_at "mem") T.k_BadKind (.own _) (kx T.x_kit_BadKind 11 rfl rfl) ?_
    walk_at "rd"
    rename_i p4 H4 hp4 S4 p5 H5 hp5 S5
    simp only [List.cons_append, List.nil_append] at S5
    have S6 : Hs H [] H5 [(p5, .lst [.bl false, .bl false, .bl false, .bl false, .bl false, .bl false, .bl true, .bl false, .bl false, .bl false, .bl false, .bl false]), (a, Xc.Exv a (.ref A.C_BadKind) (some dx)), (dx, .xd [("wanted", v)])] := S5.sub (by walk_at "sub")
    clear S S1 S2 S3 S4 S5
    refine' Xc.rd_cntB (bs := [false, false, false, false, false, false, true, false, false, false, false, false]) S6 ?m ?e ?_
    (case m => (walk_at "mem"; done))
    (case e => rfl)
    rw [show PySem.Spec.countIn (.bool true) (List.map PyData.bool [false, false, false, false, false, false, true, false, false, false, false, false]) = 1 from by decide +kernel]
    walk_at "rd"
    refine rd_decF (by simp) ?_
    walk_at "rd"
    iterate 5 (walk_at "if0")
    walk_at "if1"
    refine Xc.rd_xvV S6 (by walk_at "mem") (by walk_at "mem") T.k_BadKind T.na_BadKind_wanted rfl ?_
    walk_at "rd"
    rename_i t H8 ht S8
    exact k _ _ [_] _ ⟨t, rfl, rfl, rfl⟩ (S8.re (by walk_at "led")) (fun q hq => List.mem_map_of_mem (f := (·.1)) hq) (by simpa using ht)
end
end K05

namespace K05
open PySem L2 Rs Xc Xd Xg Xh Xi Xj Xk NdefX Xf Xq Xr
/-! a lambda handed to _law_heard -/
def csA (A : Ad) : List Value := [.ref A.C_SortError, .ref A.C_BadAnswer, .ref A.C_BadKind, .ref A.C_BadText, .ref A.C_BadNumber, .ref A.C_NoSuch, .ref A.C_TooMany, .ref A.C_Stopped]
def TSaid (K : PySem.W.Frag) (A : Ad) : (XK → Hp → VK → Prop) → Hp → VK → Prop := fun tl H Q =>
  ∀ (H1 : Hp) (R : VK), Same H H1 → (∀ v H', (∀ t, H' t = none → Q (.ref t) (upd H' t (.tup [.str "told", v]))) → R v H') → tl (fun cls d H' => PySem.W.exmAny K cls (csA A) = some true ∧ ∀ a, H' a = none → SepN (R_ref A) [.ref a] (upd H' a (Xc.Exv a cls d)) Q E0) H1 R
section
variable {X : Cx} {A : Ad} {c P : Addr} {TT : List (Addr × Str)}
theorem said_gives (T : Txt X.K X.mg w A) (hr0 : Room 8 X.A) (Gw : FnOk X.prog X.w X.K X.mg X.base CX0 1 A.f__law_refusal A.d__law_refusal ["_law_e"] (SepN (R_ref A))) {q : Str} {cdv : Value} :
    LamX.GivesTo X ["_law_deed", "_law_caught", "_law_found", "error"] "_law_heard" (defScope s_l_heard) A.f__law_heard cdv (defBody s_l_heard) "_law_deed" q (TSaid X.K A) := by
  intro f c' s H Q tl act hc' h
  have hr := hr0.deeper (PyProof.Rows.envOfC "_law_heard" (defScope s_l_heard) s.heap.objs.size A.f__law_heard cdv)
  have G__law_refusal := Gw
  refine ⟨_, pss_cons (ps_asg (pe_tup (pa_cons pe_non (pa_cons pe_non pa_nil))) (pg_tup rfl (pgs_cons (pg_name (i := 1) sc_l_heard.nd rfl (Or.inl rfl)) (pgs_cons (pg_name (i := 2) sc_l_heard.nd rfl (Or.inl rfl)) pgs_nil))))
    (pss_cons (Xc.ps_try_keep (i := 3) (X := (cxOf C8.CX0 X.prog X.w X.K X.mg X.base ["_law_deed", "_law_caught", "_law_found", "error"] "_law_heard" (defScope s_l_heard) A.f__law_heard cdv X.A X.stack s H C8.E0).nox)
      (cs := csA A)
      (tb := fun W D σ H => ∃ Ech : XK, (∀ cls d σ' H', Ech cls d H' → σ'.length = 4 → W cls d σ' H') ∧ σ[0]? = some (some (.ref f)) ∧ H c' = some (LamX.CodeO c' q) ∧ tl Ech H (fun v H' => D.nx (σ.set 2 (some v)) H'))
      rfl rfl sc_l_heard.nd rfl rfl ((.cons ⟨rfl, by decide, .inl T.m_SortError⟩ (.cons ⟨rfl, by decide, .inl T.m_BadAnswer⟩ (.cons ⟨rfl, by decide, .inl T.m_BadKind⟩ (.cons ⟨rfl, by decide, .inl T.m_BadText⟩ (.cons ⟨rfl, by decide, .inl T.m_BadNumber⟩ (.cons ⟨rfl, by decide, .inl T.m_NoSuch⟩ (.cons ⟨rfl, by decide, .inl T.m_TooMany⟩ (.cons ⟨rfl, by decide, .inl T.m_Stopped⟩ .nil))))))))) (by simp [csA]) LamX.takes0
      (fun W pn xe tk _ => ⟨fun pins s1 σ1 H1 D I ⟨Ech, hW, h1, h2, h3⟩ => (pss_one (ps_set (i := 2) sc_l_heard.nd rfl (Or.inl rfl) (act _ pn xe Ech _ _ (Xc.takes_len tk) fun cls d σ' H' z l => hW cls d σ' H' z l))).run pins s1 σ1 H1 D I ⟨h1, h2, h3⟩⟩)
      (fun a oe cls d pn _ _ => pss_one (ps_set (i := 1) sc_l_heard.nd rfl (Or.inl rfl) (pv 3))))
    (pss_one (ps_ret (pe_ifExp (pt_cmpR op_isN (pv 1) pe_non (nomark _)) (pe_tup (pa_cons pe_str (pa_cons (pv 2) pa_nil))) (pe_call G__law_refusal (hr.mono (by decide)) rfl T.c__law_refusal.m T.c__law_refusal.F.kp T.c__law_refusal.b .nil pass0 (pa_cons (pv 1) pa_nil)))))), ?_⟩
  have S := Hs.start0 H
  walk_at "st"
  walk_at "rd"
  rename_i t0 H1 ht0 S1
  have sm : Same H H1 := S1.same
  refine ⟨fun cls d H' => PySem.W.exmAny X.K cls (csA A) = some true ∧ ∀ a, H' a = none → SepN (R_ref A) [.ref a] (upd H' a (Xc.Exv a cls d)) Q E0, ?_, rfl, sm _ _ hc', ?_⟩
  · rintro cls d σ' H' ⟨e1, e2⟩ hl
    obtain ⟨x0, x1, x2, x3, rfl⟩ : ∃ x0 x1 x2 x3, σ' = [x0, x1, x2, x3] := by
      match σ', hl with
      | [x0, x1, x2, x3], _ => exact ⟨_, _, _, _, rfl⟩
    refine ⟨true, e1, fun _ a ha => ?_, fun z => Bool.noConfusion z⟩
    dsimp only [List.set]
    walk_at "rd"
    dsimp only [List.set]
    walk_at "rd"
    refine rd_decF (by simp) ?_
    walk_at "rd"
    exact e2 a ha
  · refine h H1 _ sm fun v H' kk => ?_
    dsimp only [List.set]
    walk_at "rd"
    refine rd_decT rfl ?_
    walk_at "rd"
    exact ⟨by rw [sizeLine_eq]; simp, fun t ht => kk t ht⟩
theorem pe_heard {params : Arguments} {body : Expr} {scope : Scope} {t : XK → TE} {p lpos pos : Pos} (T : Txt X.K X.mg X.w A) (TB : LamX.TabB X.base X.mg c P) (hm : (P, X.env.qual ++ "<lambda>") ∈ TT) (hu : ∀ p ∈ TT, p.1 = P → p.2 = X.env.qual ++ "<lambda>")
    (Gw : FnOk X.prog X.w X.K X.mg X.base CX0 1 A.f__law_refusal A.d__law_refusal ["_law_e"] (SepN (R_ref A)))
    (hg : Gl X "_law_heard") (hcode : X.env.code = .ref c) (hr : Room 8 X.A) (L : LamX.LamS X.env.scope scope) (hdef : defaultsOf params X.env = ([], []))
    (hbind : ∀ (q : Str) (cl : List (Str × Addr)) (pm cv ctv : Value), bindArgs (PySem.W.kla_fn "<lambda>" q params body scope cl pm cv ctv) ⟨[], []⟩ = pure [])
    (hbody : ∀ (A : Around) (outer : List Env) (s : Shared) (H : Hp) (E : XK) (f c' : Addr), Room 6 (A.deeper (LamX.lamEnv X scope s.heap.objs.size f c')) → PE (LamX.lamCx X A outer s H E scope f c') body (t E)) :
    PE X (.Call (.Name "_law_heard" p) [.Lambda params body scope lpos] [] pos) (LamX.tLam TT (TSaid X.K A) t) := by
  obtain ⟨oc, od, kV, doc, pm, an, cdv, ct, osl, e, lk, hcd⟩ := T.c__law_heard.F.ex
  have b := T.c__law_heard.b
  rw [e] at lk b
  exact LamX.pe_lamcall (k := 6) hg T.c__law_heard.m T.c__law_heard.F.kp lk hcd b sc_l_heard rfl (Or.inl rfl) (said_gives T hr Gw) TB hcode hm hu hr L hdef hbind hbody
end
end K05

namespace K05
open PySem L2 Rs Xc Xd Xg Xh Xi Xj Xk NdefX Xf Xq Xr
/-! ### the doors -/
abbrev doorQ : Str := (("_law_door" : Str) ++ ".<locals>.") ++ "<lambda>"
abbrev doorsQ : Str := (("_law_doors_right" : Str) ++ ".<locals>.") ++ "<lambda>"
abbrev plainQ : Str := (("_law_plain_right" : Str) ++ ".<locals>.") ++ "<lambda>"
def TT : List (Addr × Str) := [(456, doorQ), (463, doorsQ), (451, plainQ)]
theorem tt_uni : ∀ (q : Addr × Str), q ∈ TT → ∀ p ∈ TT, p.1 = q.1 → p.2 = q.2 := by
  intro q hq p hp e
  simp only [TT, List.mem_cons, List.not_mem_nil, or_false] at hp hq
  rcases hp with rfl | rfl | rfl <;> rcases hq with rfl | rfl | rfl <;> first | exact absurd e (by decide) | rfl
def sp_door (K : PySem.W.Frag) (A : Ad) : Sp := fun vs H _ E => ∃ (which : Int) (odd : V) (g C dx : Addr) (fs : List (Str × V)), vs = [.int which, odd, .ref g] ∧ 0 ≤ which ∧ which < 9 ∧ Odd H odd ∧ (7 ≤ which → odd ≠ .non) ∧ H g = some (.ins C dx fs) ∧ OrdC K A C ∧ LamX.Tabs TT H ∧
  ∀ H', LamX.ExtN H H' → LamX.Tabs TT H' → Ref A H' E
section
variable {P : Program} {w : World} {K : PySem.W.Frag} {mg : Str → Option Value} {base : Heap} {A : Ad} {H H0 : Hp} {MM : List Addr} {L L' F : Led} {Q : VK} {E : XK}
local macro_rules | `(tactic| walk_at "rd1") => `(tactic| first
  | with_reducible refine Xc.rd_bi ?_
  | with_reducible refine Xc.rd_put1 ?_
  | with_reducible refine Xc.rd_tmk ?_
  | with_reducible refine Xc.rd_xv ?_
  | with_reducible refine Xh.rd_callF ?_
  | with_reducible refine Xj.rd_clsF ?_
  | with_reducible refine Xj.rd_methD ?_)
theorem rd_mkP {C : Addr} {sp : Sp} {dvs : List V} {E : XK} {t : TA} {σ : L2.St} (h : t σ H fun vs H1 => ∀ x dx, H1 x = none → H1 dx = none → dx ≠ x → sp (.ref x :: (vs ++ dvs)) (upd (upd H1 dx (.own x)) x (.ins C dx [])) (fun v H3 => v = .non ∧ Q (.ref x) H3) E) : tMake C sp dvs E t σ H Q := h
theorem odd_mk {x dx C : Addr} {v : V} (hx : H x = none) (hd : H dx = none) (o : Odd H v) : Odd (upd (upd H dx (.own x)) x (.ins C dx [])) v := o.move fun _ _ e _ _ => mk_at hx hd e
theorem ref_mk {x dx C : Addr} (hx : H x = none) (hd : H dx = none) (tb : LamX.Tabs TT H) (k : ∀ H', LamX.ExtN H H' → LamX.Tabs TT H' → Ref A H' E) : ∀ H', But x (upd (upd H dx (.own x)) x (.ins C dx [])) H' → Ref A H' E := fun H' b => by
  have sm := mk_keep hx hd b
  exact k H' (fun b o e _ => sm b o e) (tb.ext sm)
theorem mk_xd {v : V} (o : Odd H v) (tb : LamX.Tabs TT H) (k : ∀ H', LamX.ExtN H H' → LamX.Tabs TT H' → Ref A H' E) {R : VK} : ∀ x dx, H x = none → H dx = none → dx ≠ x → sp_xdinit A [.ref x, v] (upd (upd H dx (.own x)) x (.ins A.C_DownOrder dx [])) R E :=
  fun x dx hx hd _ => ⟨x, dx, v, rfl, upd_same, odd_mk hx hd o, ref_mk hx hd tb k⟩
theorem mk_xk {v : V} {kf : Addr} (o : Odd H v) (nn : v ≠ .non) (tb : LamX.Tabs TT H) (k : ∀ H', LamX.ExtN H H' → LamX.Tabs TT H' → Ref A H' E) {R : VK} : ∀ x dx, H x = none → H dx = none → dx ≠ x → sp_xkinit A [.ref x, .ref kf, v] (upd (upd H dx (.own x)) x (.ins A.C_KeyOrder dx [])) R E :=
  fun x dx hx hd _ => ⟨x, dx, kf, v, rfl, upd_same, odd_mk hx hd o, nn, ref_mk hx hd tb k⟩
theorem mk_xt1 {v v2 : V} (o : Odd H v) (tb : LamX.Tabs TT H) (k : ∀ H', LamX.ExtN H H' → LamX.Tabs TT H' → Ref A H' E) {R : VK} : ∀ x dx, H x = none → H dx = none → dx ≠ x → sp_xtinit K A [.ref x, v, v2] (upd (upd H dx (.own x)) x (.ins A.C_ThenOrder dx [])) R E :=
  fun x dx hx hd _ => ⟨x, dx, v, v2, rfl, upd_same, .inl (odd_mk hx hd o), ref_mk hx hd tb k⟩
theorem mk_xt2 {v : V} {g C dg : Addr} {fs : List (Str × V)} (hg : H g = some (.ins C dg fs)) (O : OrdC K A C) (o : Odd H v) (tb : LamX.Tabs TT H) (k : ∀ H', LamX.ExtN H H' → LamX.Tabs TT H' → Ref A H' E) {R : VK} : ∀ x dx, H x = none → H dx = none → dx ≠ x → sp_xtinit K A [.ref x, .ref g, v] (upd (upd H dx (.own x)) x (.ins A.C_ThenOrder dx [])) R E :=
  fun x dx hx hd _ => ⟨x, dx, .ref g, v, rfl, upd_same, .inr ⟨⟨g, C, dg, fs, rfl, mk_at hx hd hg, O, mk_ne hx hg⟩, odd_mk hx hd o⟩, ref_mk hx hd tb k⟩
theorem ok_door (T : Txt K mg w A) (TB : LamX.TabB base mg A.cc__law_door 456) : FnOk P w K mg base (L2.CX P w) 6 A.f__law_door A.d__law_door ["_law_which", "_law_odd", "_law_good"] (sp_door K A) := by
  have G_need_order : FnOk P w K mg base (L2.CX P w) 3 A.f_need_order A.d_need_order ["thing"] (sp_order2 K A) := ok_order2 T
  have G_DownOrder___init__ : FnOk P w K mg base (L2.CX P w) 4 A.f_DownOrder___init__ A.d_DownOrder___init__ ["self", "order"] (sp_xdinit A) := ok_xdinit T
  have G_ThenOrder___init__ : FnOk P w K mg base (L2.CX P w) 4 A.f_ThenOrder___init__ A.d_ThenOrder___init__ ["self", "first", "second"] (sp_xtinit K A) := ok_xtinit T
  have G_KeyOrder___init__ : FnOk P w K mg base (L2.CX P w) 4 A.f_KeyOrder___init__ A.d_KeyOrder___init__ ["self", "key", "order"] (sp_xkinit A) := ok_xkinit T
  have hmem : (456, doorQ) ∈ TT := by simp [TT]
  have huni : ∀ p ∈ TT, p.1 = 456 → p.2 = doorQ := tt_uni (456, doorQ) (by simp [TT])
  have kb_need_order : ∀ (T : Txt K mg w A), KBn K A.d_need_order ["thing"] 0 ["thing"] (fun us ws => us ++ [0].filterMap (ws[·]?)) (fun us ws => us ++ [0].filterMap (ws[·]?)) :=
    fun T => kb_of T.c_need_order.F _ fun _ _ _ _ _ _ us ws h1 h2 => match us, h1, ws, h2 with | [], _, [_], _ => rfl
  have kb_DownOrder_init : KBn K A.d_DownOrder___init__ ["self", "order"] 1 ["order"] (fun us ws => us ++ [0].filterMap (ws[·]?)) (fun us ws => us ++ [0].filterMap (ws[·]?)) :=
    kb_of T.c_DownOrder___init__.F _ fun _ _ _ _ _ _ us ws h1 h2 => match us, h1, ws, h2 with | [_], _, [_], _ => rfl
  have kb_ThenOrder_init_second : KBn K A.d_ThenOrder___init__ ["self", "first", "second"] 2 ["second"] (fun us ws => us ++ [0].filterMap (ws[·]?)) (fun us ws => us ++ [0].filterMap (ws[·]?)) :=
    kb_of T.c_ThenOrder___init__.F _ fun _ _ _ _ _ _ us ws h1 h2 => match us, h1, ws, h2 with | [_, _], _, [_], _ => rfl
  have kb_ThenOrder_init : KBn K A.d_ThenOrder___init__ ["self", "first", "second"] 1 ["second", "first"] (fun us ws => us ++ [1, 0].filterMap (ws[·]?)) (fun us ws => us ++ [1, 0].filterMap (ws[·]?)) :=
    kb_of T.c_ThenOrder___init__.F _ fun _ _ _ _ _ _ us ws h1 h2 => match us, h1, ws, h2 with | [_], _, [_, _], _ => rfl
  obtain ⟨_, kb_KeyOrder_init⟩ := T.c_KeyOrder___init__.F.kbindsD (ps := ["self", "key", "order"]) 1 ["order", "key"] (fun us _ ws => us ++ [1, 0].filterMap (ws[·]?)) (by simp) (fun r1 _ rz => r1.append (vals_pick rz _)) (by
    intro T kV doc pm an cdv ct us its ws h1 h2 h3
    match us, h1, its, h2, ws, h3 with
    | [_], _, [i], _, [_, _], _ => exact ⟨_, rfl, rfl⟩)
  refine T.cx__law_door.okX sc_l_door (fun vs H Q E h => ?_) (fun Ar outer s H vs Q E hr h => ?_)
  · obtain ⟨_, _, _, _, _, _, rfl, _⟩ := h; rfl
  · obtain ⟨which, odd, g, C, dx, fs, rfl, w0, w9, o, nn, hg, O, tb, k⟩ := h
    refine ⟨_, (pss_cons (ps_if (pt_cmpR op_eq (pv 0) pe_int (nomark _))
        (pss_one (ps_ret (pe_call G_need_order (hr.mono (by decide)) rfl T.c_need_order.m T.c_need_order.F.kp T.c_need_order.b .nil (passes_call (takes_of rfl rfl rfl rfl) fun _ _ _ _ z => z) (pa_cons (pv 1) pa_nil))))
        pss_nil)
      (pss_cons (ps_if (pt_cmpR op_eq (pv 0) pe_int (nomark _))
        (pss_one (ps_ret (pe_callK0 G_need_order (hr.mono (by decide)) rfl T.c_need_order.m T.c_need_order.F.kp (kb_need_order T) (passes_call (takes_of rfl rfl rfl rfl) fun _ _ _ _ z => z) (pk_cons (pv 1) pk_nil))))
        pss_nil)
      (pss_cons (ps_if (pt_cmpR op_eq (pv 0) pe_int (nomark _))
        (pss_one (ps_ret (pe_make T.i_DownOrder G_DownOrder___init__ (hr.mono (by decide)) rfl T.m_DownOrder T.c_DownOrder___init__.b .nil (passes_call (takes_of rfl rfl rfl rfl) fun _ _ _ _ z => z) (pa_cons (pv 1) pa_nil))))
        pss_nil)
      (pss_cons (ps_if (pt_cmpR op_eq (pv 0) pe_int (nomark _))
        (pss_one (ps_ret (pe_makeK0 T.i_DownOrder G_DownOrder___init__ (hr.mono (by decide)) rfl T.m_DownOrder kb_DownOrder_init (passes_call (takes_of rfl rfl rfl rfl) fun _ _ _ _ z => z) (pk_cons (pv 1) pk_nil))))
        pss_nil)
      (pss_cons (ps_if (pt_cmpR op_eq (pv 0) pe_int (nomark _))
        (pss_one (ps_ret (pe_makeK T.i_ThenOrder G_ThenOrder___init__ (hr.mono (by decide)) rfl T.m_ThenOrder kb_ThenOrder_init_second (passes_call (takes_of rfl rfl rfl rfl) fun _ _ _ _ z => z) (pa_cons (pv 1) pa_nil) (pk_cons (pv 2) pk_nil))))
        pss_nil)
      (pss_cons (ps_if (pt_cmpR op_eq (pv 0) pe_int (nomark _))
        (pss_one (ps_ret (pe_makeK T.i_ThenOrder G_ThenOrder___init__ (hr.mono (by decide)) rfl T.m_ThenOrder kb_ThenOrder_init_second (passes_call (takes_of rfl rfl rfl rfl) fun _ _ _ _ z => z) (pa_cons (pv 2) pa_nil) (pk_cons (pv 1) pk_nil))))
        pss_nil)
      (pss_cons (ps_if (pt_cmpR op_eq (pv 0) pe_int (nomark _))
        (pss_one (ps_ret (pe_makeK0 T.i_ThenOrder G_ThenOrder___init__ (hr.mono (by decide)) rfl T.m_ThenOrder kb_ThenOrder_init (passes_call (takes_of rfl rfl rfl rfl) fun _ _ _ _ z => z) (pk_cons (pv 1) (pk_cons (pv 1) pk_nil)))))
        pss_nil)
      (pss_cons (ps_if (pt_cmpR op_eq (pv 0) pe_int (nomark _))
        (pss_one (ps_ret (pe_make T.i_KeyOrder G_KeyOrder___init__ (hr.mono (by decide)) rfl T.m_KeyOrder T.c_KeyOrder___init__.b .nil (passes_call (takes_of rfl rfl rfl rfl) fun _ _ _ _ z => z) (pa_cons (Xh.pe_lamv TB rfl hmem huni rfl (NdefX.ndef_free (fr := []) (by first | rfl | kernel_rfl))) (pa_cons (pv 1) pa_nil)))))
        pss_nil)
      (pss_one (ps_ret (pe_makeK0 T.i_KeyOrder G_KeyOrder___init__ (hr.mono (by decide)) rfl T.m_KeyOrder kb_KeyOrder_init (passes_call (takes_of rfl rfl rfl rfl) fun _ _ _ _ z => z) (pk_cons (pv 1) (pk_cons (Xh.pe_lamv TB rfl hmem huni rfl (NdefX.ndef_free (fr := []) (by first | rfl | kernel_rfl))) pk_nil))))))))))))), ?_⟩
    walk_at "st"
    walk_at "rd"
    have r0 := k H (fun _ _ e _ => e) tb
    refine rd_dec ?_ ?_ <;> intro c0
    · walk_at "rd"
      exact .inl ⟨odd, rfl, o, r0⟩
    walk_at "rd"
    refine rd_dec ?_ ?_ <;> intro c1
    · walk_at "rd"
      exact ⟨rfl, rfl, .inl ⟨odd, rfl, o, r0⟩⟩
    walk_at "rd"
    refine rd_dec ?_ ?_ <;> intro c2
    · walk_at "rd"
      refine rd_mkP ?_
      walk_at "rd"
      exact mk_xd (R := fun _ _ => False) o tb k
    walk_at "rd"
    refine rd_dec ?_ ?_ <;> intro c3
    · walk_at "rd"
      refine rd_mkK ?_
      walk_at "rd"
      exact ⟨rfl, rfl, mk_xd (R := fun _ _ => False) o tb k⟩
    walk_at "rd"
    refine rd_dec ?_ ?_ <;> intro c4
    · walk_at "rd"
      refine rd_mkK ?_
      walk_at "rd"
      exact ⟨rfl, rfl, mk_xt1 (R := fun _ _ => False) o tb k⟩
    walk_at "rd"
    refine rd_dec ?_ ?_ <;> intro c5
    · walk_at "rd"
      refine rd_mkK ?_
      walk_at "rd"
      exact ⟨rfl, rfl, mk_xt2 (R := fun _ _ => False) hg O o tb k⟩
    walk_at "rd"
    refine rd_dec ?_ ?_ <;> intro c6
    · walk_at "rd"
      refine rd_mkK ?_
      walk_at "rd"
      exact ⟨rfl, rfl, mk_xt1 (R := fun _ _ => False) o tb k⟩
    have nn := nn (by omega)
    have oE : ∀ {H1 : Hp}, LamX.ExtN H H1 → Odd H1 odd := fun e => o.move fun _ _ h _ n => e _ _ h n
    have kE : ∀ {H1 : Hp}, LamX.ExtN H H1 → ∀ H', LamX.ExtN H1 H' → LamX.Tabs TT H' → Ref A H' E := fun e H' e' t' => k H' (fun b o h n => e' _ _ (e _ _ h n) n) t'
    walk_at "rd"
    refine rd_dec ?_ ?_ <;> intro c7
    · walk_at "rd"
      refine rd_mkP ?_
      walk_at "rd"
      refine ⟨tb, fun f c' H1 eN _ T1 f0 f1 c1 => ?_⟩
      walk_at "rd"
      exact mk_xk (R := fun _ _ => False) (oE eN) nn T1 (kE eN)
    walk_at "rd"
    refine rd_mkK ?_
    walk_at "rd"
    refine ⟨tb, fun f c' H1 eN _ T1 f0 f1 c1 => ?_⟩
    walk_at "rd"
    exact ⟨rfl, rfl, mk_xk (R := fun _ _ => False) (oE eN) nn T1 (kE eN)⟩
end
end K05

namespace K05
open PySem L2 Rs Xc Xd Xg Xh Xi Xj Xk NdefX Xf Xq Xr
section
variable {P : Program} {w : World} {K : PySem.W.Frag} {mg : Str → Option Value} {base : Heap} {A : Ad} {H H0 : Hp} {MM : List Addr} {L L' F : Led} {Q : VK} {E : XK}
theorem func_ok {x qual : Str} {st : Stmt} {f c : Addr} {fd : FuncData} {N ps : List Str} {k : Nat} {sp : Sp} (F : Xc.FunC K x qual st f fd c) (S : FnScope N ps (defScope st)) (len : ∀ vs H Q E, sp vs H Q E → vs.length = ps.length)
    (hbody : ∀ (A : Around) (outer : List Env) (s : Shared) (H : Hp) (vs : List V) (Q : VK) (E : XK), Room k (A.deeper (PyProof.Rows.envOfC qual (defScope st) s.heap.objs.size f (.ref c))) → sp vs H Q E →
      ∃ t, PSs (cxOf CX0 P w K mg base N qual (defScope st) f (.ref c) A outer s H E).nox (defBody st) t ∧ t { nx := fun _ H' => Q .non H', rt := Q } (L2.start N vs) H) : FnOk P w K mg base CX0 (k + 1) f fd ps sp := by
  obtain ⟨oc, od, kV, doc, pm, an, ct, osl, rfl, lk, hcd⟩ := F.ex
  refine fn_of lk hcd S len fun A outer s H vs Q E hr hsp => ?_
  obtain ⟨t, h, q⟩ := hbody A outer s H vs Q E hr hsp
  exact ⟨t, h.nox, q⟩
local macro_rules | `(tactic| walk_at "rd1") => `(tactic| first
  | with_reducible refine Xc.rd_bi ?_
  | with_reducible refine Xc.rd_put1 ?_
  | with_reducible refine Xc.rd_tmk ?_
  | with_reducible refine Xc.rd_xv ?_
  | with_reducible refine Xh.rd_callF ?_
  | with_reducible refine Xj.rd_clsF ?_
  | with_reducible refine Xj.rd_methD ?_)
def sp_doors : Sp := fun vs H Q _ => ∃ (a b : Addr) (l k m : Int) (ns : List Int), vs = [.ref a] ∧ H a = some (stm b l k m) ∧ H b = some (.lst (ns.map V.int)) ∧ a ≠ b ∧ 0 ≤ k ∧ k < 30000 ∧ LamX.Tabs TT H ∧
  ∀ (H' : Hp) (l' m' : Int) (ns' : List Int), H' a = some (stm b l' (k + 2) m') → H' b = some (.lst (ns'.map V.int)) → (∀ c o, H c = some o → (∀ ps, o ≠ .tbl ps) → c ≠ a → c ≠ b → H' c = some o) → LamX.Tabs TT H' → Q (.bl true) H'
/-- what is known between -/
structure DF (A : Ad) (H0 H : Hp) (a b g : Addr) (l k m : Int) (ns : List Int) : Prop where
  ha : H a = some (stm b l k m)
  hb : H b = some (.lst (ns.map V.int))
  hg : ∃ dx, H g = some (.ins A.C_PlainOrder dx (flds .non 0 []))
  tb : LamX.Tabs TT H
  old : ∀ c o, H0 c = some o → (∀ ps, o ≠ .tbl ps) → c ≠ a → c ≠ b → H c = some o
theorem DF.ext {H' : Hp} {a b g : Addr} {l k m : Int} {ns : List Int} (D : DF A H0 H a b g l k m ns) (e : LamX.ExtN H H') (t : LamX.Tabs TT H') : DF A H0 H' a b g l k m ns := by
  obtain ⟨dx, hg⟩ := D.hg
  exact ⟨e _ _ D.ha (fun _ z => by cases z), e _ _ D.hb (fun _ z => by cases z), ⟨dx, e _ _ hg (fun _ z => by cases z)⟩, t, fun c o h n n1 n2 => e _ _ (D.old c o h n n1 n2) n⟩
theorem DF.same {H' : Hp} {a b g : Addr} {l k m : Int} {ns : List Int} (D : DF A H0 H a b g l k m ns) (s : Same H H') : DF A H0 H' a b g l k m ns := D.ext (fun b o e _ => s b o e) (D.tb.ext s)
theorem Odd.ext {H' : Hp} {v : V} (o : Odd H v) (e : LamX.ExtN H H') : Odd H' v := o.move fun _ _ h _ n => e _ _ h n
theorem DF.led {a b g : Addr} {l k m : Int} {ns : List Int} (D : DF A H0 H a b g l k m ns) (ne : a ≠ b) : Hs H [a, b] H [(a, stm b l k m), (b, .lst (ns.map V.int))] := Hs.start H [a, b] _ (by simpa using ne) (by
    intro q hq
    simp only [List.mem_cons, List.not_mem_nil, or_false] at hq
    rcases hq with rfl | rfl
    · exact D.ha
    · exact D.hb) (by
    intro c hc
    simp only [List.mem_cons, List.not_mem_nil, or_false] at hc
    rcases hc with rfl | rfl
    · rw [D.ha]; simp
    · rw [D.hb]; simp)
/-- behind a stretch by a ledger -/
theorem DF.step {H' : Hp} {a b g : Addr} {l k m l' k' m' : Int} {ns ns' : List Int} {L : Led} (D : DF A H0 H a b g l k m ns) (S : Hs H [a, b] H' L) (h1 : H' a = some (stm b l' k' m')) (h2 : H' b = some (.lst (ns'.map V.int))) : DF A H0 H' a b g l' k' m' ns' := by
  have nl : ∀ {c : Addr} {o : HO}, H c = some o → (∀ xs, o ≠ .lst xs) → H' c = some o := fun {c o} e n => S.old _ _ e (fun hm => by
    simp only [List.mem_cons, List.not_mem_nil, or_false] at hm
    rcases hm with rfl | rfl
    · rw [D.ha] at e; cases e; exact n _ rfl
    · rw [D.hb] at e; cases e; exact n _ rfl)
  obtain ⟨dx, hg⟩ := D.hg
  exact ⟨h1, h2, ⟨dx, nl hg (fun _ z => by cases z)⟩, tabs_pers ⟨fun c r e => nl e (fun _ z => by cases z), fun c r e => nl e (fun _ z => by cases z)⟩ (fun c ps e => nl e (fun _ z => by cases z)) D.tb, fun c o h n n1 n2 => S.old _ _ (D.old c o h n n1 n2) (by simp; exact ⟨n1, n2⟩)⟩
theorem Odd.step {H' : Hp} {v : V} {a b : Addr} {x1 x2 y1 y2 : List V} {L : Led} (o : Odd H v) (S : Hs H [a, b] H' L) (ha : H a = some (.lst x1)) (hb : H b = some (.lst x2)) (h1 : H' a = some (.lst y1)) (h2 : H' b = some (.lst y2)) : Odd H' v := by
  have nl : ∀ {c : Addr} {o : HO}, H c = some o → (∀ xs, o ≠ .lst xs) → H' c = some o := fun {c o} e n => S.old _ _ e (fun hm => by
    simp only [List.mem_cons, List.not_mem_nil, or_false] at hm
    rcases hm with rfl | rfl
    · rw [ha] at e; cases e; exact n _ rfl
    · rw [hb] at e; cases e; exact n _ rfl)
  cases o with
  | int i => exact .int i
  | bl i => exact .bl i
  | str i => exact .str i
  | non => exact .non
  | lst c xs h =>
    by_cases e1 : c = a
    · subst e1; exact .lst _ _ h1
    · by_cases e2 : c = b
      · subst e2; exact .lst _ _ h2
      · exact .lst c xs (S.old _ _ h (by simp; exact ⟨e1, e2⟩))
  | tup c xs h => exact .tup c xs (nl h (fun _ z => by cases z))
  | dct c xs h => exact .dct c xs (nl h (fun _ z => by cases z))
  | fn f F h => exact .fn f F (nl h (fun _ z => by cases z))
theorem rd_neK {t p : Addr} {R : VK} (h1 : H t = some (.tup [.str "kind", .str "Order"])) (h2 : H p = some (.tup [.str "kind", .str "Order"])) (h : R (.bl false) H) : rNeD K (.ref t) (.ref p) H R := by
  refine ⟨.tuple [.str "kind", .str "Order"], .tuple [.str "kind", .str "Order"], .tup (SqT.of h1) (.cons (.str _) (.cons (.str _) .nil)), .tup (SqT.of h2) (.cons (.str _) (.cons (.str _) .nil)), by decide +kernel, by decide +kernel, ?_⟩
  rw [show PyData.eqv (.tuple [.str "kind", .str "Order"]) (.tuple [.str "kind", .str "Order"]) = true from by decide +kernel]
  exact h
theorem said_door (T : Txt K mg w A) {R : VK} {which : Int} {odd : V} {g dx : Addr} {fs : List (Str × V)} (w0 : 0 ≤ which) (w9 : which < 9) (o : Odd H odd) (nn : 7 ≤ which → odd ≠ .non) (hg : H g = some (.ins A.C_PlainOrder dx fs)) (tb : LamX.Tabs TT H)
    (h : ∀ (t : Addr) (H' : Hp), LamX.ExtN H H' → LamX.Tabs TT H' → H' t = some (.tup [.str "kind", .str "Order"]) → Q (.ref t) H') :
    sp_door K A [.int which, odd, .ref g] H R (fun cls d H' => PySem.W.exmAny K cls (csA A) = some true ∧ ∀ a, H' a = none → SepN (R_ref A) [.ref a] (upd H' a (Xc.Exv a cls d)) Q E0) := by
  refine ⟨which, odd, g, _, dx, fs, rfl, w0, w9, o, nn, hg, ord_p T, tb, fun H3 e3 t3 d hd => ⟨T.x_any_BadKind, fun ea hea => ?_⟩⟩
  have S := Hs.start0 H3
  obtain ⟨n1, S3⟩ := S.newAt (o := .xd [("wanted", .str "Order")]) hd
  obtain ⟨n2, S4⟩ := S3.newAt (o := Xc.Exv ea (.ref A.C_BadKind) (some d)) hea
  refine sepn_use (F := []) S4 ⟨ea, d, .str "Order", rfl, rfl, rfl, rfl⟩ (by intro a'; simp only [Rs.cn_app, Rs.cn_cons, Rs.cn_nil, List.append_assoc, List.cons_append, List.nil_append]; omega) (fun c hc => nomatch hc) fun v' H5 N L' ⟨t5, e1, e2, e3'⟩ hn S5 => ?_
  subst e1 e2 e3'
  exact h t5 H5 (fun b o e n => S5.same _ _ (e3 _ _ e n)) (t3.ext S5.same) (S5.is (t5, .tup [.str "kind", .str "Order"]) List.mem_cons_self)
theorem ok_doors (T : Txt K mg w A) (TBd : LamX.TabB base mg A.cc__law_door 456) (TB : LamX.TabB base mg A.cc__law_doors_right 463) : FnOk P w K mg base CX0 16 A.f__law_doors_right A.d__law_doors_right ["_law_stream"] sp_doors := by
  have G__law_take : FnOk P w K mg base CX0 2 A.f__law_take A.d__law_take ["_law_stream", "_law_many"] (SepN R_take) := ok_take T
  have G__law_refusal : FnOk P w K mg base CX0 1 A.f__law_refusal A.d__law_refusal ["_law_e"] (SepN (R_ref A)) := ok_refusal T
  have G__law_door : FnOk P w K mg base (L2.CX P w) 6 A.f__law_door A.d__law_door ["_law_which", "_law_odd", "_law_good"] (sp_door K A) := ok_door T TBd
  have G_PlainOrder___init__ : FnOk P w K mg base CX0 2 A.f_PlainOrder___init__ A.d_PlainOrder___init__ ["self"] (sp_pinit A) := ok_pinit T
  have hmem : (463, doorsQ) ∈ TT := by simp [TT]
  have huni : ∀ p ∈ TT, p.1 = 463 → p.2 = doorsQ := tt_uni (463, doorsQ) (by simp [TT])
  refine func_ok T.cx__law_doors_right sc_l_doors_right (fun vs H Q E h => ?_) (fun Ar outer s H vs Q E hr h => ?_)
  · obtain ⟨_, _, _, _, _, _, rfl, _⟩ := h; rfl
  · obtain ⟨a, b, l, kk, m, ns, rfl, ha, hb, ne, k0, k1, tb, k⟩ := h
    have hu := hu_of hr
    refine ⟨_, (pss_cons (ps_set (i := 1) sc_l_doors_right.nd rfl (Or.inr rfl) (pe_make0 T.i_PlainOrder G_PlainOrder___init__ (hr.mono (by first | decide | omega)) rfl T.m_PlainOrder T.c_PlainOrder___init__.b .nil pass0))
      (pss_cons (ps_set (i := 2) sc_l_doors_right.nd rfl (Or.inr rfl) (pe_ix ix_list (pe_lst (pa_cons pe_int (pa_cons pe_str (pa_cons (pe_lst (pa_cons (pv 1) pa_nil)) (pa_cons (pe_tup (pa_cons (pv 1) pa_nil)) (pa_cons pe_dnewK (pa_cons pe_bl (pa_cons pe_str (pa_cons pe_int (pa_cons (pe_disp (pps_cons pe_int (pv 1) pps_nil) (by rfl) (by rfl) (fun z => by cases z) (by decide)) (pa_cons (pe_lst pa_nil) (pa_cons (pe_tup pa_nil) pa_nil)))))))))))) (pe_call G__law_take (hr.mono (by first | decide | omega)) rfl T.c__law_take.m T.c__law_take.F.kp T.c__law_take.b .nil pass0 (pa_cons (pv 0) (pa_cons pe_int pa_nil))) (fun _ _ => rfl)))
      (pss_cons (ps_set (i := 3) sc_l_doors_right.nd rfl (Or.inr rfl) (pe_ix ix_list (pe_lst (pa_cons (Xh.pe_lamv TB rfl hmem huni rfl (NdefX.ndef_free (fr := []) (by first | rfl | kernel_rfl))) (pa_cons (Xj.pe_methD0 (CX := CX0) (E := E0) (k := 14) (pv 1) hr (by first | decide | omega) pass0) (pa_cons pe_non pa_nil)))) (pe_call G__law_take (hr.mono (by first | decide | omega)) rfl T.c__law_take.m T.c__law_take.F.kp T.c__law_take.b .nil pass0 (pa_cons (pv 0) (pa_cons pe_int pa_nil))) (fun _ _ => rfl)))
      (pss_cons (ps_for PassesOwn.never rfl (pi_range1 rfl T.n_range (pa_cons pe_int pa_nil)) (pg_name (i := 4) sc_l_doors_right.nd rfl (Or.inr rfl))
        (pss_cons (ps_if (pt_cmpR (op_neD hr.units) (pe_heard T TB hmem huni G__law_refusal rfl rfl (hr.mono (by first | decide | omega)) (LamX.lamS_by (by first | rfl | kernel_rfl)) rfl (fun _ _ _ _ _ => rfl) (fun _ _ _ _ _ _ _ hr2 => pe_call G__law_door (hr2.mono (by decide)) rfl T.c__law_door.m T.c__law_door.F.kp T.c__law_door.b .nil (passes_call (takes_of rfl rfl rfl rfl) fun _ _ _ _ z => z) (pa_cons (pv 4) (pa_cons (pv 2) (pa_cons (pv 1) pa_nil))))) (pe_tup (pa_cons pe_str (pa_cons pe_str pa_nil))) (nomark _))
          (pss_one (ps_ret pe_bl))
          pss_nil)
        (pss_one (ps_if (PW.pt (pw_and (pt_cmpR op_lt (pv 4) pe_int (nomark _)) (pw_and1 (pt_cmpR (op_neD hr.units) (pe_heard T TB hmem huni G__law_refusal rfl rfl (hr.mono (by first | decide | omega)) (LamX.lamS_by (by first | rfl | kernel_rfl)) rfl (fun _ _ _ _ _ => rfl) (fun _ _ _ _ _ _ _ hr2 => pe_call G__law_door (hr2.mono (by decide)) rfl T.c__law_door.m T.c__law_door.F.kp T.c__law_door.b .nil (passes_call (takes_of rfl rfl rfl rfl) fun _ _ _ _ z => z) (pa_cons (pv 4) (pa_cons (pv 3) (pa_cons (pv 1) pa_nil))))) (pe_tup (pa_cons pe_str (pa_cons pe_str pa_nil))) (nomark _)))))
          (pss_one (ps_ret pe_bl))
          pss_nil))))
      (pss_one (ps_ret (pe_cmpR op_eq (Xj.pe_methD0 (CX := CX0) (E := E0) (k := 14) (pv 1) hr (by first | decide | omega) pass0) pe_int (nomark _)))))))), ?_⟩
    walk_at "st"
    walk_at "rd"
    refine rd_mkP ?_
    walk_at "rd"
    refine mk_p fun g dg H2 hg0 hg s2 => ?_
    have D2 : DF A H H2 a b g l kk m ns := ⟨s2 _ _ ha, s2 _ _ hb, ⟨dg, hg⟩, tb.ext s2, fun c o e _ _ _ => s2 _ _ e⟩
    clear hg s2
    have S := D2.led ne
    walk_at "rd"
    rename_i p1 H3 hp1 S3 p2 H4 hp2 S4
    intro pd hpd
    obtain ⟨_, S5⟩ := S4.newAt (o := .dK []) hpd
    revert S5
    generalize upd H4 pd (.dK []) = H5
    intro S5
    clear S S3 S4
    walk_at "rd"
    rename_i p3 H6a hp3 S6a H6 S6 p4 H7 hp4 S7 p5 H8 hp5 S8 p0 H9 hp0 S9
    clear S5 S6a S6 S7 S8
    refine use_take (b := b) (l := l) (k := kk) (m := m) (ns := ns) (F := [(p0, .lst [.int 5, .str "Order", .ref p1, .ref p2, .ref pd, .bl true, .str "", .int 0, .ref p3, .ref p4, .ref p5]), (p5, .tup []), (p4, .lst []), (p3, .dK (mergeK [] (toK [(.int 1, .ref g)]))), (pd, .dK []), (p2, .tup [.ref g]), (p1, .lst [.ref g])]) S9 (by walk_at "led") (.inr (by simp)) (.inr (by simp)) (by decide) (by decide) (by omega) (by omega) fun r1 l1 m1 ns1 HA SA a1 b1 => ?_
    clear S9
    refine rd_ixAny SA (by walk_at "mem") a1 (by simpa using b1) fun odd hod _ => ?_
    have nn : odd ≠ .non := by
      intro z
      subst z
      simp at hod
    have od : Odd HA odd := by
      simp only [List.mem_cons, List.not_mem_nil, or_false] at hod
      rcases hod with rfl | rfl | rfl | rfl | rfl | rfl | rfl | rfl | rfl | rfl | rfl
      · exact .int _
      · exact .str _
      · exact .lst _ _ (SA.is (p1, .lst [.ref g]) (by simp))
      · exact .tup _ _ (SA.is (p2, .tup [.ref g]) (by simp))
      · exact .dct _ _ (SA.is (pd, .dK []) (by simp))
      · exact .bl _
      · exact .str _
      · exact .int _
      · exact .dct _ _ (SA.is (p3, .dK (mergeK [] (toK [(.int 1, .ref g)]))) (by simp))
      · exact .lst _ _ (SA.is (p4, .lst []) (by simp))
      · exact .tup _ _ (SA.is (p5, .tup []) (by simp))
    have DA := D2.step SA (SA.is (a, stm b l1 (kk + 1) m1) (by simp)) (SA.is (b, .lst (ns1.map V.int)) (by simp))
    clear SA D2 hod
    walk_at "rd"
    refine ⟨DA.tb, fun f c' HB eN _ TB' f0 f1 c1 => ?_⟩
    have DB := DA.ext eN TB'
    have odB := od.ext eN
    clear DA od
    walk_at "rd"
    obtain ⟨dg', hg'⟩ := DB.hg
    refine ⟨g, _, _, _, _, rfl, hg', T.cl_PlainOrder, (ord_p T).hm, rfl, ?_⟩
    walk_at "rd"
    refine calls_up (j := 1) (calls_fn T.c_Order_many_asked.F (ok_many T (ord_p T)) T.c_Order_many_asked.b ⟨g, _, _, _, _, rfl, hg', ?_⟩) (by decide)
    have S := DB.led ne
    walk_at "rd"
    rename_i p6 HC hp6 SC
    clear S
    refine use_take (b := b) (l := l1) (k := kk + 1) (m := m1) (ns := ns1) (F := [(p6, .lst [.ref f, .int 0, .non])]) SC (by walk_at "led") (.inr (by simp)) (.inr (by simp)) (by decide) (by decide) (by omega) (by omega) fun r2 l2 m2 ns2 HD SD a2 b2 => ?_
    clear SC
    refine rd_ixAny SD (by walk_at "mem") a2 (by simpa using b2) fun rule hru _ => ?_
    have nM : ∀ {c : Addr} {o : HO}, HB c = some o → (∀ xs, o ≠ .lst xs) → HD c = some o := fun {c o} e n => SD.old _ _ e (fun hm => by
      simp only [List.mem_cons, List.not_mem_nil, or_false] at hm
      rcases hm with rfl | rfl
      · rw [DB.ha] at e; cases e; exact n _ rfl
      · rw [DB.hb] at e; cases e; exact n _ rfl)
    have rod : Odd HD rule := by
      simp only [List.mem_cons, List.not_mem_nil, or_false] at hru
      rcases hru with rfl | rfl | rfl
      · exact .fn _ _ (nM f1 (fun _ z => by cases z))
      · exact .int _
      · exact .non
    have e1 := SD.is (a, stm b l2 (kk + 1 + 1) m2) (by simp)
    have e2 := SD.is (b, .lst (ns2.map V.int)) (by simp)
    have DD := DB.step SD e1 e2
    have odD := odB.step SD DB.ha DB.hb e1 e2
    clear SD DB odB nM f0 f1 c1 hru hg' e1 e2
    walk_at "rd"
    refine fw_range (fun i σ H' => ∃ o4 : Option V, σ = [some (.ref a), some (.ref g), some odd, some rule, o4] ∧ DF A H H' a b g l2 (kk + 1 + 1) m2 ns2 ∧ Odd H' odd ∧ Odd H' rule)
      ⟨_, rfl, DD, odD, rod⟩ ?_ ?_
    · clear DD odD rod
      rintro i σ HE hi ⟨o4, rfl, DE, odE, roE⟩
      have hi9 : i < 9 := by omega
      walk_at "rd"
      refine ⟨DE.tb, fun HF eF tF => ?_⟩
      have DF1 := DE.ext eF tF
      have odF := odE.ext eF
      have roF := roE.ext eF
      clear DE odE roE
      intro HG R sm hR
      have DG := DF1.same sm
      have odG := odF.ext (fun b o e _ => sm b o e)
      have roG := roF.ext (fun b o e _ => sm b o e)
      clear DF1 odF roF
      walk_at "rd"
      obtain ⟨dx, hg⟩ := DG.hg
      refine said_door T (by omega) (by omega) odG (fun _ => nn) hg DG.tb fun t HH eH tH et => ?_
      have DH := DG.ext eH tH
      have odH := odG.ext eH
      have roH := roG.ext eH
      clear DG odG roG
      have S := Hs.start1 et [] (.inl rfl)
      walk_at "rd"
      rename_i p HI hp SI
      refine rd_neK (SI.same _ _ et) (SI.is (p, .tup [.str "kind", .str "Order"]) List.mem_cons_self) ?_
      have DI := DH.same SI.same
      have odI := odH.ext (fun b o e _ => SI.same b o e)
      have roI := roH.ext (fun b o e _ => SI.same b o e)
      clear DH odH roH S SI et hg
      walk_at "rd"
      refine rd_dec ?_ ?_ <;> intro c7
      · walk_at "rd"
        refine ⟨DI.tb, fun HJ eJ tJ => ?_⟩
        have DJ := DI.ext eJ tJ
        have odJ := odI.ext eJ
        have roJ := roI.ext eJ
        clear DI odI roI
        intro HK R2 smK hR2
        have DK := DJ.same smK
        have odK := odJ.ext (fun b o e _ => smK b o e)
        have roK := roJ.ext (fun b o e _ => smK b o e)
        clear DJ odJ roJ
        walk_at "rd"
        obtain ⟨dx2, hg⟩ := DK.hg
        refine said_door T (by omega) (by omega) roK (fun z => absurd z (by omega)) hg DK.tb fun t HL eL tL et => ?_
        have DL := DK.ext eL tL
        have odL := odK.ext eL
        have roL := roK.ext eL
        clear DK odK roK
        have S := Hs.start1 et [] (.inl rfl)
        walk_at "rd"
        rename_i p HM hp SM
        refine rd_neK (SM.same _ _ et) (SM.is (p, .tup [.str "kind", .str "Order"]) List.mem_cons_self) ?_
        walk_at "rd"
        exact ⟨_, rfl, DL.same SM.same, odL.ext (fun b o e _ => SM.same b o e), roL.ext (fun b o e _ => SM.same b o e)⟩
      · walk_at "rd"
        exact ⟨_, rfl, DI, odI, roI⟩
    · rintro σ HE ⟨o4, rfl, DE, odE, roE⟩
      walk_at "rd"
      obtain ⟨dx, hg⟩ := DE.hg
      refine ⟨g, _, _, _, _, rfl, hg, T.cl_PlainOrder, (ord_p T).hm, rfl, ?_⟩
      walk_at "rd"
      refine calls_up (j := 1) (calls_fn T.c_Order_many_asked.F (ok_many T (ord_p T)) T.c_Order_many_asked.b ⟨g, _, _, _, _, rfl, hg, ?_⟩) (by decide)
      walk_at "rd"
      exact k HE l2 m2 ns2 (by rw [show kk + 2 = kk + 1 + 1 by omega]; exact DE.ha) DE.hb DE.old DE.tb
end
end K05

namespace K05
open PySem PySem.Spec PyProof.Rows L2 Rs Xc Xd Xg Xh Xi Xj Xk NdefX Xf Xq Xr
/-! the things -/
mutual
def tam : PyData → Bool
  | .none | .bool _ => true
  | .int i => decide (i.natAbs < 10 ^ 31)
  | .str x => PyData.strOk x && decide (x.cps.size ≤ 40)
  | .list xs | .tuple xs => tams xs
  | .dict _ => false
def tams : List PyData → Bool
  | [] => true
  | x :: xs => tam x && tams xs
end
mutual
theorem tam_show : ∀ d : PyData, tam d = true → d.showable = true ∧ d.shown.length + 2 ≤ 460 * Rs.cnt d
  | .none, _ => ⟨by simp [PyData.showable], by decide +kernel⟩
  | .bool b, _ => ⟨by simp [PyData.showable], by cases b <;> decide +kernel⟩
  | .int i, h => by
    have h1 : i.natAbs < 10 ^ 31 := by simpa [tam] using h
    have h2 : i.natAbs.log2 < 1920 := by
      by_cases z : i.natAbs = 0
      · rw [z]; decide
      · have := (Nat.log2_lt z (k := 120)).mpr (Nat.lt_of_lt_of_le h1 (by decide +kernel))
        omega
    refine ⟨by simp only [PyData.showable, decide_eq_true_eq]; exact h2, ?_⟩
    have e := int_text_length_le10 (k := 31) (by decide) h1
    rw [PyData.shown_int]
    have e2 : ((toString i : String) : Str).length = (toString i).length := PySem.ofString_length _
    simp only [Rs.cnt]
    omega
  | .str x, h => by
    simp only [tam, Bool.and_eq_true, decide_eq_true_eq] at h
    refine ⟨by simp [PyData.showable], ?_⟩
    have e := StrLaws.reprText_len x (fun c hc => by
      have h1 := h.1
      unfold PyData.strOk at h1
      rw [Array.all_eq_true_iff_forall_mem] at h1
      have := h1 c (by simpa using hc)
      have h2 : c < 0x110000 := by simpa using this
      exact Nat.lt_trans h2 (by decide))
    have e3 : x.length = x.cps.size := rfl
    rw [PyData.shown_str]
    simp only [Rs.cnt]
    omega
  | .list xs, h => by
    obtain ⟨h1, h2⟩ := tams_show xs (by simpa [tam] using h)
    refine ⟨by simpa [PyData.showable] using h1, ?_⟩
    have g2 := listText_len_le (PyData.shownAll xs)
    have g3 := PyData.shownAll_length xs
    simp only [PyData.shown, Rs.cnt]
    omega
  | .tuple xs, h => by
    obtain ⟨h1, h2⟩ := tams_show xs (by simpa [tam] using h)
    refine ⟨by simpa [PyData.showable] using h1, ?_⟩
    have g2 := tupleText_len_le (PyData.shownAll xs)
    have g3 := PyData.shownAll_length xs
    simp only [PyData.shown, Rs.cnt]
    omega
  | .dict _, h => by simp [tam] at h
theorem tams_show : ∀ xs : List PyData, tams xs = true → PyData.showableAll xs = true ∧ ((PyData.shownAll xs).map (·.length)).sum + 2 * xs.length ≤ 460 * Rs.cnts xs
  | [], _ => by simp [PyData.showableAll, PyData.shownAll, Rs.cnts]
  | x :: xs, h => by
    have h' : tam x = true ∧ tams xs = true := by simpa [tams] using h
    obtain ⟨a1, a2⟩ := tam_show x h'.1
    obtain ⟨b1, b2⟩ := tams_show xs h'.2
    refine ⟨by simp only [PyData.showableAll, a1, b1, Bool.and_self], ?_⟩
    simp only [PyData.shownAll, List.map_cons, List.sum_cons, List.length_cons, Rs.cnts]
    omega
end
theorem shw_tam {d : PyData} (h : tam d = true) (hc : Rs.cnt d ≤ 20000) : Shw d := by
  obtain ⟨h1, h2⟩ := tam_show d h
  refine ⟨h1, ?_⟩
  rw [sizeLine_eq]
  omega
/-- what is made: its data, and the objects that it is made of -/
structure TG (v : V) (d : PyData) (N : Led) : Prop where
  dp : ∀ (K : PySem.W.Frag) (H : Hp), (∀ q ∈ N, H q.1 = some q.2) → Dp K H v d
  lt : ∀ q ∈ N, (∃ xs, q.2 = HO.lst xs) ∨ (∃ xs, q.2 = HO.tup xs)
structure TGs (vs : List V) (ds : List PyData) (N : Led) : Prop where
  dp : ∀ (K : PySem.W.Frag) (H : Hp), (∀ q ∈ N, H q.1 = some q.2) → DpAll K H vs ds
  lt : ∀ q ∈ N, (∃ xs, q.2 = HO.lst xs) ∨ (∃ xs, q.2 = HO.tup xs)
theorem dpAll_snoc {K : PySem.W.Frag} {H : Hp} {v : V} {d : PyData} : ∀ {vs : List V} {ds : List PyData}, DpAll K H vs ds → Dp K H v d → DpAll K H (vs ++ [v]) (ds ++ [d])
  | [], [], .nil, h => .cons h .nil
  | _ :: _, _ :: _, .cons a b, h => .cons a (dpAll_snoc b h)
theorem TGs.nil : TGs [] [] [] := ⟨fun _ _ _ => .nil, fun _ h => nomatch h⟩
theorem TGs.snoc {vs : List V} {ds : List PyData} {N N1 : Led} {v : V} {d : PyData} (a : TGs vs ds N) (b : TG v d N1) : TGs (vs ++ [v]) (ds ++ [d]) (N1 ++ N) :=
  ⟨fun K H h => dpAll_snoc (a.dp K H fun q hq => h q (List.mem_append_right _ hq)) (b.dp K H fun q hq => h q (List.mem_append_left _ hq)), fun q hq => (List.mem_append.mp hq).elim (b.lt q) (a.lt q)⟩
theorem TG.int (i : Int) : TG (.int i) (.int i) [] := ⟨fun _ _ _ => .int i, fun _ h => nomatch h⟩
theorem TG.str (x : Str) : TG (.str x) (.str x) [] := ⟨fun _ _ _ => .str x, fun _ h => nomatch h⟩
theorem TGs.tup {vs : List V} {ds : List PyData} {N : Led} (a : TGs vs ds N) (p : Addr) : TG (.ref p) (.tuple ds) ((p, .tup vs) :: N) :=
  ⟨fun K H h => .tup (SqT.of (h (p, .tup vs) List.mem_cons_self)) (a.dp K H fun q hq => h q (List.mem_cons_of_mem _ hq)), fun q hq => by
    rcases List.mem_cons.mp hq with rfl | hq
    · exact .inr ⟨_, rfl⟩
    · exact a.lt q hq⟩
theorem TGs.lst {vs : List V} {ds : List PyData} {N : Led} (a : TGs vs ds N) (p : Addr) : TG (.ref p) (.list ds) ((p, .lst vs) :: N) :=
  ⟨fun K H h => .lst (SqL.of (h (p, .lst vs) List.mem_cons_self)) (a.dp K H fun q hq => h q (List.mem_cons_of_mem _ hq)), fun q hq => by
    rcases List.mem_cons.mp hq with rfl | hq
    · exact .inl ⟨_, rfl⟩
    · exact a.lt q hq⟩
/-- a whole number, a text -/
def At : Bool → PyData → Prop
  | true, d => ∃ i : Int, d = .int i
  | false, d => ∃ x : Str, d = .str x
/-- what a part of a kind is -/
def Pt (k : Int) (d : PyData) : Prop := if k = 3 then ∃ i j : Int, d = .tuple [.int i, .int j] else At (decide (k = 2)) d
/-- what a thing of a kind is -/
def Kd (k : Int) (d : PyData) : Prop := if k = 0 then At true d else if k = 1 then At false d else ∃ ds, (∀ e ∈ ds, Pt k e) ∧ d = if k = 2 ∨ k = 4 then .tuple ds else .list ds
/-- a text of few signs -/
def SmS (x : Str) : Prop := PyData.strOk x = true ∧ x.cps.size ≤ 3
theorem join_ok : ∀ ts : List Str, (∀ t ∈ ts, PyData.strOk t = true) → PyData.strOk (Str.join ("" : Str) ts) = true
  | [], _ => by decide +kernel
  | [x], h => h x List.mem_cons_self
  | x :: y :: r, h => by
    have ih := join_ok (y :: r) fun t ht => h t (List.mem_cons_of_mem _ ht)
    have hx := h x List.mem_cons_self
    show PyData.strOk (x ++ ("" : Str) ++ Str.join ("" : Str) (y :: r)) = true
    unfold PyData.strOk at *
    show (x.cps ++ #[] ++ (Str.join ("" : Str) (y :: r)).cps).all _ = true
    rw [Array.all_append, Array.all_append, hx, ih]
    simp
theorem sm_join {ts : List Str} (h : ∀ t ∈ ts, PyData.strOk t = true ∧ t.length = 1) (hl : ts.length ≤ 3) : SmS (Txt.join ("" : Str) ts) ∧ JoinOk ("" : Str) ts = true := by
  have hs : (ts.map (·.length)).sum = ts.length := by
    clear hl
    induction ts with
    | nil => rfl
    | cons t ts ih => simp only [List.map_cons, List.sum_cons, List.length_cons, (h t List.mem_cons_self).2, ih fun u hu => h u (List.mem_cons_of_mem _ hu)]; omega
  refine ⟨⟨?_, ?_⟩, ?_⟩
  · show PyData.strOk (Builtin.Str.glued ("" : Str) ts) = true
    rw [StrLaws.glued_eq_join]
    exact join_ok ts fun t ht => (h t ht).1
  · show (Builtin.Str.glued ("" : Str) ts).length ≤ 3
    rw [StrLaws.glued_eq_join]
    have e := StrLaws.join_length_le ("" : Str) ts
    have z : ("" : Str).length = 0 := rfl
    rw [z, hs] at e
    omega
  · unfold JoinOk
    rw [StrLaws.joinTotal, hs]
    have z : ("" : Str).length = 0 := rfl
    rw [z, Bool.not_eq_true']
    unfold Builtin.Str.tooLong
    rw [sizeLine_eq] <;> simp <;> omega
theorem tams_snoc {d : PyData} : ∀ {ds : List PyData}, tams ds = true → tam d = true → tams (ds ++ [d]) = true
  | [], _, h => by simp [tams, h]
  | x :: xs, h1, h => by
    have h1' : tam x = true ∧ tams xs = true := by simpa [tams] using h1
    simp only [List.cons_append, tams, h1'.1, tams_snoc h1'.2 h, Bool.and_self]
theorem cnts_snoc {d : PyData} : ∀ ds : List PyData, Rs.cnts (ds ++ [d]) = Rs.cnts ds + Rs.cnt d
  | [] => by simp [Rs.cnts]
  | x :: xs => by simp only [List.cons_append, Rs.cnts, cnts_snoc xs]; omega
theorem depth_snoc {d : PyData} {n : Nat} : ∀ {ds : List PyData}, PyData.depthAll ds ≤ n → d.depth ≤ n → PyData.depthAll (ds ++ [d]) ≤ n
  | [], _, h => by simp only [List.nil_append, PyData.depthAll]; omega
  | x :: xs, h1, h => by
    simp only [PyData.depthAll] at h1
    have := depth_snoc (ds := xs) (d := d) (n := n) (by omega) h
    simp only [List.cons_append, PyData.depthAll]
    omega
abbrev stL (a b : Addr) (l k m : Int) (ns : List Int) : Led := [(a, stm b l k m), (b, .lst (ns.map V.int))]
def R_text : SepM := fun vs Ch L post => ∃ (a b : Addr) (l k m : Int) (ns : List Int), vs = [.ref a] ∧ L = stL a b l k m ns ∧ Ch = [a, b] ∧ 0 ≤ k ∧ k < 30000 ∧
  post = fun v N L' => ∃ (x : Str) (l' k' m' : Int) (ns' : List Int), v = .str x ∧ SmS x ∧ N = [] ∧ k ≤ k' ∧ k' ≤ k + 4 ∧ L' = stL a b l' k' m' ns'
def R_numb : SepM := fun vs Ch L post => ∃ (a b : Addr) (l k m : Int) (ns : List Int), vs = [.ref a] ∧ L = stL a b l k m ns ∧ Ch = [a, b] ∧ 0 ≤ k ∧ k < 30000 ∧
  post = fun v N L' => ∃ (x l' k' m' : Int) (ns' : List Int), v = .int x ∧ x.natAbs < 10 ^ 31 ∧ N = [] ∧ k ≤ k' ∧ k' ≤ k + 4 ∧ L' = stL a b l' k' m' ns'
def R_thing : SepM := fun vs Ch L post => ∃ (a b : Addr) (l k m kd : Int) (ns : List Int), vs = [.ref a, .int kd] ∧ L = stL a b l k m ns ∧ Ch = [a, b] ∧ 0 ≤ k ∧ k < 20000 ∧ 0 ≤ kd ∧ kd < 6 ∧
  post = fun v N L' => ∃ (d : PyData) (l' k' m' : Int) (ns' : List Int), TG v d N ∧ Kd kd d ∧ tam d = true ∧ Rs.cnt d ≤ 30 ∧ d.depth ≤ 2 ∧ k ≤ k' ∧ k' ≤ k + 20 ∧ L' = stL a b l' k' m' ns'
section
variable {P : Program} {w : World} {K : PySem.W.Frag} {mg : Str → Option Value} {base : Heap} {A : Ad} {H H0 : Hp} {MM : List Addr} {L L' F : Led} {Q : VK} {E : XK}
theorem rd_strIx {z : Str} {i : Int} {R : VK} (h0 : 0 ≤ i) (h1 : i < z.length) (h2 : z.length ≤ sizeLine) (h : ∀ c, c ∈ z.cps.toList → R (.str ⟨#[c]⟩) H) : rIxS (.str z) (.int i) H R := by
  obtain ⟨c, hc, _, he⟩ := atI_any (xs := z.cps.toList) h0 (by simpa [Str.length] using h1)
  exact ⟨z, i, c, rfl, rfl, h2, he, h c hc⟩
theorem two {a b : Addr} {l k m : Int} {ns : List Int} {F1 : HO → Led} {F2 : HO → HO → Led} (S : Hs H0 MM H L) (c1 : ∀ o', Chg a (stm b l k m) o' L (F1 o')) (c2 : ∀ o' o2, Chg b (.lst (ns.map V.int)) o2 (F1 o') (F2 o' o2)) (own : H0 a = none ∨ a ∈ MM) (own2 : H0 b = none ∨ b ∈ MM) :
    ((stL a b l k m ns).map (·.1)).Nodup ∧ (∀ q ∈ stL a b l k m ns, H q.1 = some q.2) ∧ ∀ {N : Led} {H' : Hp} {l' k' m' : Int} {ns' : List Int}, Hs H [a, b] H' (N ++ stL a b l' k' m' ns') → (∀ q ∈ N, H q.1 = none) → Hs H0 MM H' (N ++ F2 (stm b l' k' m') (.lst (ns'.map V.int))) ∧ ∀ q ∈ N, H0 q.1 = none := by
  have Sa := S.put (c1 (stm b l k m)) own
  have ha : H a = some (stm b l k m) := S.is _ (c1 (stm b l k m)).mem
  have hb0 := Sa.is _ (c2 (stm b l k m) (.lst (ns.map V.int))).mem
  have ne : a ≠ b := fun z => by
    subst z
    have hb0 : upd H a (stm a l k m) a = some (.lst (ns.map V.int)) := hb0
    rw [upd_same] at hb0
    have e := Option.some.inj hb0
    injection e with e
    cases ns with
    | nil => cases e
    | cons x xs => cases e
  have hb : H b = some (.lst (ns.map V.int)) := by
    have hb0 : upd H a (stm b l k m) b = some (.lst (ns.map V.int)) := hb0
    rwa [upd_ne ne.symm] at hb0
  refine ⟨by simpa [stL] using ne, ?_, fun {N H' l' k' m' ns'} S' hN => ⟨?_, fun q hq => S.none0 (hN q hq)⟩⟩
  · intro q hq
    simp only [stL, List.mem_cons, List.not_mem_nil, or_false] at hq
    rcases hq with rfl | rfl
    · exact ha
    · exact hb
  have S1 := S.put (c1 (stm b l' k' m')) own
  have S2 := S1.put (c2 (stm b l' k' m') (.lst (ns'.map V.int))) own2
  have sm : Same (upd (upd H a (stm b l' k' m')) b (.lst (ns'.map V.int))) H' := fun c u e => by
    by_cases ec : c = b
    · subst ec
      rw [upd_same] at e
      cases e
      exact S'.is (c, .lst (ns'.map V.int)) (by simp [stL])
    · rw [upd_ne ec] at e
      by_cases ea : c = a
      · subst ea
        rw [upd_same] at e
        cases e
        exact S'.is (c, stm b l' k' m') (by simp [stL])
      · rw [upd_ne ea] at e
        exact S'.old _ _ e (by simp; exact ⟨ea, ec⟩)
  have S3 := S2.more sm
  refine ⟨?_, ?_, S3.old, S3.mu⟩
  · rw [List.map_append, List.nodup_append]
    have nN := S'.nd
    rw [List.map_append, List.nodup_append] at nN
    refine ⟨nN.1, S3.nd, ?_⟩
    intro x hx y hy e
    subst e
    obtain ⟨q, hq, rfl⟩ := List.mem_map.mp hx
    obtain ⟨r, hr, e⟩ := List.mem_map.mp hy
    have e1 := S2.is r hr
    have e2 := hN q hq
    rw [e] at e1
    by_cases ec : q.1 = b
    · rw [ec, hb] at e2; cases e2
    · by_cases ea : q.1 = a
      · rw [ea, ha] at e2; cases e2
      · rw [upd_ne ec, upd_ne ea, e2] at e1; cases e1
  · intro q hq
    rcases List.mem_append.mp hq with z | z
    · exact S'.is q (List.mem_append_left _ z)
    · exact S3.is q z
theorem use_takeA {a b : Addr} {l k m n : Int} {ns : List Int} {F1 : HO → Led} {F2 : HO → HO → Led} (S : Hs H0 MM H L) (c1 : ∀ o', Chg a (stm b l k m) o' L (F1 o')) (c2 : ∀ o' o2, Chg b (.lst (ns.map V.int)) o2 (F1 o') (F2 o' o2)) (own : H0 a = none ∨ a ∈ MM) (own2 : H0 b = none ∨ b ∈ MM) (h1 : 1 ≤ n) (h2 : n < 2 ^ 40) (h3 : 0 ≤ k) (h4 : k < 2 ^ 15)
    (h : ∀ (r l' m' : Int) (ns' : List Int) (H' : Hp), Hs H0 MM H' (F2 (stm b l' (k + 1) m') (.lst (ns'.map V.int))) → 0 ≤ r → r < n → Q (.int r) H') : SepN R_take [.ref a, .int n] H Q E := by
  obtain ⟨nd, is, hh⟩ := two S c1 c2 own own2
  refine ⟨[a, b], _, _, ⟨a, b, l, k, m, n, ns, rfl, rfl, rfl, h1, h2, h3, h4, rfl⟩, nd, is, by simp, fun v H' N L' ⟨r, l', m', ns', e1, b0, b1, e2, e3⟩ S' _ hN => ?_⟩
  subst e1 e2 e3
  exact h r l' m' ns' H' (hh S' hN).1 b0 b1
theorem use_textA {a b : Addr} {l k m : Int} {ns : List Int} {F1 : HO → Led} {F2 : HO → HO → Led} (S : Hs H0 MM H L) (c1 : ∀ o', Chg a (stm b l k m) o' L (F1 o')) (c2 : ∀ o' o2, Chg b (.lst (ns.map V.int)) o2 (F1 o') (F2 o' o2)) (own : H0 a = none ∨ a ∈ MM) (own2 : H0 b = none ∨ b ∈ MM) (h3 : 0 ≤ k) (h4 : k < 30000)
    (h : ∀ (x : Str) (l' k' m' : Int) (ns' : List Int) (H' : Hp), SmS x → k ≤ k' → k' ≤ k + 4 → Hs H0 MM H' (F2 (stm b l' k' m') (.lst (ns'.map V.int))) → Q (.str x) H') : SepN R_text [.ref a] H Q E := by
  obtain ⟨nd, is, hh⟩ := two S c1 c2 own own2
  refine ⟨[a, b], _, _, ⟨a, b, l, k, m, ns, rfl, rfl, rfl, h3, h4, rfl⟩, nd, is, by simp, fun v H' N L' ⟨x, l', k', m', ns', e1, hx, e2, b0, b1, e3⟩ S' _ hN => ?_⟩
  subst e1 e2 e3
  exact h x l' k' m' ns' H' hx b0 b1 (hh S' hN).1
theorem use_numbA {a b : Addr} {l k m : Int} {ns : List Int} {F1 : HO → Led} {F2 : HO → HO → Led} (S : Hs H0 MM H L) (c1 : ∀ o', Chg a (stm b l k m) o' L (F1 o')) (c2 : ∀ o' o2, Chg b (.lst (ns.map V.int)) o2 (F1 o') (F2 o' o2)) (own : H0 a = none ∨ a ∈ MM) (own2 : H0 b = none ∨ b ∈ MM) (h3 : 0 ≤ k) (h4 : k < 30000)
    (h : ∀ (x l' k' m' : Int) (ns' : List Int) (H' : Hp), x.natAbs < 10 ^ 31 → k ≤ k' → k' ≤ k + 4 → Hs H0 MM H' (F2 (stm b l' k' m') (.lst (ns'.map V.int))) → Q (.int x) H') : SepN R_numb [.ref a] H Q E := by
  obtain ⟨nd, is, hh⟩ := two S c1 c2 own own2
  refine ⟨[a, b], _, _, ⟨a, b, l, k, m, ns, rfl, rfl, rfl, h3, h4, rfl⟩, nd, is, by simp, fun v H' N L' ⟨x, l', k', m', ns', e1, hx, e2, b0, b1, e3⟩ S' _ hN => ?_⟩
  subst e1 e2 e3
  exact h x l' k' m' ns' H' hx b0 b1 (hh S' hN).1
local macro_rules | `(tactic| walk_at "rd1") => `(tactic| ((with_reducible refine' use_takeA (by assumption) ?c1 ?c2 ?o1 ?o2 ?e1 ?e2 ?e3 ?e4 ?_); (case c1 => (intro o'; walk_at "chg")); (case c2 => (intro o' o2; walk_at "chg")); (case o1 => walk_at "own"); (case o2 => walk_at "own"); (case e1 => first | decide | omega); (case e2 => first | decide | omega); (case e3 => omega); (case e4 => omega); intro r l' m' ns' H S h0 h1))
local macro_rules | `(tactic| walk_at "rd1") => `(tactic| first
  | ((with_reducible refine' use_textA (by assumption) ?c1 ?c2 ?o1 ?o2 ?e3 ?e4 ?_); (case c1 => (intro o'; walk_at "chg")); (case c2 => (intro o' o2; walk_at "chg")); (case o1 => walk_at "own"); (case o2 => walk_at "own"); (case e3 => omega); (case e4 => omega); intro x l' k' m' ns' H hx h0 h1 S)
  | ((with_reducible refine' use_numbA (by assumption) ?c1 ?c2 ?o1 ?o2 ?e3 ?e4 ?_); (case c1 => (intro o'; walk_at "chg")); (case c2 => (intro o' o2; walk_at "chg")); (case o1 => walk_at "own"); (case o2 => walk_at "own"); (case e3 => omega); (case e4 => omega); intro x l' k' m' ns' H hx h0 h1 S))
theorem ok_text (T : Txt K mg w A) : FnOk P w K mg base CX0 3 A.f__law_text_by A.d__law_text_by ["_law_stream"] (SepN R_text) := by
  have G__law_take : FnOk P w K mg base CX0 2 A.f__law_take A.d__law_take ["_law_stream", "_law_many"] (SepN R_take) := ok_take T
  refine T.c__law_text_by.F.ok sc_l_text_by (fun vs H Q E h => ?_) (fun cdv Ar outer s H vs Q E hr h => ?_)
  · obtain ⟨_, _, _, ⟨_, _, _, _, _, _, rfl, _⟩, _⟩ := h; rfl
  · obtain ⟨Ch, L, post, ⟨a, b, l, kk, m, ns, rfl, rfl, rfl, hk1, hk2, rfl⟩, nd, is, hc, k⟩ := h
    refine ⟨_, (pss_cons (ps_set (i := 1) sc_l_text_by.nd rfl (Or.inr rfl) pe_str)
      (pss_one (ps_ret (pe_bm PySem.F.plainAttrs_str PySem.F.slot_str_join PySem.F.type_str_join Xr.mt_join pe_str (pa_cons (pe_lc (own := [("_law_turn", 2)]) (g := gName 2) (tt := tYes) rfl sc_l_text_by.nd (pi_range1 rfl T.n_range (pa_cons (pe_call G__law_take (hr.mono (by decide)) rfl T.c__law_take.m T.c__law_take.F.kp T.c__law_take.b .nil pass0 (pa_cons (pv 0) (pa_cons pe_int pa_nil))) pa_nil)) (blkOk_by (N := ["_law_stream", "_law_signs", "_law_turn"]) (sc := defScope s_l_text_by) (by decide +kernel)) (fun _ _ _ _ _ => (pg_name (i := 2) sc_l_text_by.nd rfl (Or.inl rfl))) (fun _ _ _ _ _ => pts_nil) (fun _ _ _ _ _ => (pe_ix ix_str (pv 1) (pe_call G__law_take (hr.mono (by decide)) rfl T.c__law_take.m T.c__law_take.F.kp T.c__law_take.b .nil pass0 (pa_cons (pv 0) (pa_cons pe_int pa_nil))) (fun _ _ => rfl)))) pa_nil))))), ?_⟩
    have S := Sep.led nd is hc
    walk_at "st"
    walk_at "rd"
    refine ⟨rfl, ?_⟩
    walk_at "rd"
    rename_i r1 l1 m1 ns1 H1 S1 a1 b1
    clear S
    have hn : r1.toNat ≤ 3 := by omega
    refine Xg.lcv_range S1 (fun j acc L' => ∃ (ts : List Str) (l' m' : Int) (ns' : List Int), acc = ts.map V.str ∧ ts.length = j ∧ (∀ t ∈ ts, PyData.strOk t = true ∧ t.length = 1) ∧ L' = stL a b l' (kk + 1 + j) m' ns')
      ⟨[], l1, m1, ns1, rfl, rfl, fun z hz => (nomatch hz), by simp [stL]⟩ ?_ ?_
    · rintro D j acc L' H2 hj ⟨ts, l', m', ns', rfl, tl, tok, rfl⟩ hD S2
      clear S1
      have hj4 : j < 3 := by omega
      walk_at "lc"
      rename_i r3 l3 m3 ns3 H3 S3 a3 b3
      refine rd_strIx a3 b3 (by decide +kernel) fun c hc => ?_
      refine Xg.rd_lvPut (acc := ts.map V.str) (L1 := stL a b l3 (kk + 1 + j + 1) m3 ns3) S3 (by walk_at "led") hD (Rs.sz' (by rw [List.length_map]; omega)) ⟨ts ++ [⟨#[c]⟩], l3, m3, ns3, by simp, by simp [tl], fun t ht => ?_, by simp [stL]; omega⟩
      rcases List.mem_append.mp ht with ht | ht
      · exact tok t ht
      · rw [List.mem_singleton.mp ht]
        refine ⟨?_, rfl⟩
        have hall : ∀ d ∈ (("ab Z~09!&z" : Str)).cps.toList, PyData.strOk ⟨#[d]⟩ = true := by decide +kernel
        exact hall c hc
    · rintro D acc L' H2 ⟨ts, l', m', ns', rfl, tl, tok, rfl⟩ hD S2
      clear S1
      obtain ⟨g1, g2⟩ := sm_join tok (by omega)
      walk_at "rd"
      refine ⟨"", D, ts, rfl, rfl, S2.lst List.mem_cons_self, g2, ?_⟩
      exact k _ _ [] _ ⟨_, l', kk + 1 + r1.toNat, m', ns', rfl, g1, rfl, by omega, by omega, rfl⟩ (S2.re (by walk_at "led")) (by simp [stL]) (fun q h => nomatch h)
theorem ok_numb (T : Txt K mg w A) : FnOk P w K mg base CX0 3 A.f__law_number_by A.d__law_number_by ["_law_stream"] (SepN R_numb) := by
  have G__law_take : FnOk P w K mg base CX0 2 A.f__law_take A.d__law_take ["_law_stream", "_law_many"] (SepN R_take) := ok_take T
  refine T.c__law_number_by.F.ok sc_l_number_by (fun vs H Q E h => ?_) (fun cdv Ar outer s H vs Q E hr h => ?_)
  · obtain ⟨_, _, _, ⟨_, _, _, _, _, _, rfl, _⟩, _⟩ := h; rfl
  · obtain ⟨Ch, L, post, ⟨a, b, l, kk, m, ns, rfl, rfl, rfl, hk1, hk2, rfl⟩, nd, is, hc, k⟩ := h
    refine ⟨_, (pss_cons (ps_set (i := 1) sc_l_number_by.nd rfl (Or.inl rfl) (pe_op op_sub (pe_call G__law_take (hr.mono (by decide)) rfl T.c__law_take.m T.c__law_take.F.kp T.c__law_take.b .nil pass0 (pa_cons (pv 0) (pa_cons pe_int pa_nil))) pe_int))
      (pss_one (ps_ret (pe_ix ix_list (pe_lst (pa_cons (pv 1) (pa_cons (pe_op op_mul (pv 1) (pe_op op_pow pe_int pe_int)) (pa_cons (pe_op op_add (pe_op op_pow pe_int pe_int) (pv 1)) (pa_cons (pe_call G__law_take (hr.mono (by decide)) rfl T.c__law_take.m T.c__law_take.F.kp T.c__law_take.b .nil pass0 (pa_cons (pv 0) (pa_cons pe_int pa_nil))) pa_nil))))) (pe_call G__law_take (hr.mono (by decide)) rfl T.c__law_take.m T.c__law_take.F.kp T.c__law_take.b .nil pass0 (pa_cons (pv 0) (pa_cons pe_int pa_nil))) (fun _ _ => rfl))))), ?_⟩
    have S := Sep.led nd is hc
    walk_at "st"
    walk_at "rd"
    rename_i r0 l0 m0 ns0 H0 S0 a0 b0 r1 l1 m1 ns1 H1 S1 a1 b1 p H2 hp S2 r3 l3 m3 ns3 H3 S3 a3 b3
    clear S S0 S1 S2
    refine rd_ixAny S3 (by walk_at "mem") a3 (by simpa using b3) fun v hv _ => ?_
    have e30 : (10 : Int) ^ (30 : Int).toNat = 10 ^ 30 := rfl
    have fin : ∀ x : Int, x.natAbs < 10 ^ 31 → Q (.int x) H3 := fun x hx => k _ _ [] _ ⟨x, l3, kk + 1 + 1 + 1, m3, ns3, rfl, hx, rfl, by omega, by omega, rfl⟩ (S3.re (by walk_at "led")) (by simp [stL]) (fun q h => nomatch h)
    simp only [List.mem_cons, List.not_mem_nil, or_false] at hv
    have p30 : (10 : Int) ^ 30 = 1000000000000000000000000000000 := by decide +kernel
    rw [e30, p30] at hv
    have p31 : (10 : Nat) ^ 31 = 10000000000000000000000000000000 := by decide +kernel
    rcases hv with rfl | rfl | rfl | rfl <;> exact fin _ (by rw [p31]; omega)
theorem ok_thing (T : Txt K mg w A) : FnOk P w K mg base CX0 5 A.f__law_thing_by A.d__law_thing_by ["_law_stream", "_law_kind"] (SepN R_thing) := by
  have G__law_take : FnOk P w K mg base CX0 2 A.f__law_take A.d__law_take ["_law_stream", "_law_many"] (SepN R_take) := ok_take T
  have G__law_text_by : FnOk P w K mg base CX0 3 A.f__law_text_by A.d__law_text_by ["_law_stream"] (SepN R_text) := ok_text T
  have G__law_number_by : FnOk P w K mg base CX0 3 A.f__law_number_by A.d__law_number_by ["_law_stream"] (SepN R_numb) := ok_numb T
  refine T.c__law_thing_by.F.ok sc_l_thing_by (fun vs H Q E h => ?_) (fun cdv Ar outer s H vs Q E hr h => ?_)
  · obtain ⟨_, _, _, ⟨_, _, _, _, _, _, _, rfl, _⟩, _⟩ := h; rfl
  · obtain ⟨Ch, L, post, ⟨a, b, l, kk, m, kd, ns, rfl, rfl, rfl, hk1, hk2, hd1, hd2, rfl⟩, nd, is, hc, k⟩ := h
    refine ⟨_, (pss_cons (ps_if (pt_cmpR op_eq (pv 1) pe_int (nomark _))
        (pss_one (ps_ret (pe_call G__law_number_by (hr.mono (by decide)) rfl T.c__law_number_by.m T.c__law_number_by.F.kp T.c__law_number_by.b .nil pass0 (pa_cons (pv 0) pa_nil))))
        pss_nil)
      (pss_cons (ps_if (pt_cmpR op_eq (pv 1) pe_int (nomark _))
        (pss_one (ps_ret (pe_call G__law_text_by (hr.mono (by decide)) rfl T.c__law_text_by.m T.c__law_text_by.F.kp T.c__law_text_by.b .nil pass0 (pa_cons (pv 0) pa_nil))))
        pss_nil)
      (pss_cons (ps_set (i := 2) sc_l_thing_by.nd rfl (Or.inl rfl) (pe_lst pa_nil))
      (pss_cons (ps_for PassesOwn.never rfl (pi_range1 rfl T.n_range (pa_cons (pe_call G__law_take (hr.mono (by decide)) rfl T.c__law_take.m T.c__law_take.F.kp T.c__law_take.b .nil pass0 (pa_cons (pv 0) (pa_cons pe_int pa_nil))) pa_nil)) (pg_name (i := 3) sc_l_thing_by.nd rfl (Or.inl rfl))
        (pss_cons (ps_set (i := 4) sc_l_thing_by.nd rfl (Or.inl rfl) (pe_ifExp (pt_cmpR op_in_seq (pv 1) (pe_tup (pa_cons pe_int (pa_cons pe_int pa_nil))) (by rfl)) (pe_call G__law_number_by (hr.mono (by decide)) rfl T.c__law_number_by.m T.c__law_number_by.F.kp T.c__law_number_by.b .nil pass0 (pa_cons (pv 0) pa_nil)) (pe_call G__law_text_by (hr.mono (by decide)) rfl T.c__law_text_by.m T.c__law_text_by.F.kp T.c__law_text_by.b .nil pass0 (pa_cons (pv 0) pa_nil))))
        (pss_one (ps_expr (pe_bm PySem.F.plainAttrs_list PySem.F.slot_list_append PySem.F.type_list_append mt_append (pv 2) (pa_cons (pe_ifExp (pt_cmpR op_eq (pv 1) pe_int (nomark _)) (pe_tup (pa_cons (pv 4) (pa_cons (pv 3) pa_nil))) (pv 4)) pa_nil))))))
      (pss_one (ps_ret (pe_ifExp (pt_cmpR op_in_seq (pv 1) (pe_tup (pa_cons pe_int (pa_cons pe_int pa_nil))) (by rfl)) (pe_callTy call_tuple_of (by rfl) T.n_tuple (by decide +kernel) (pa_cons (pv 2) pa_nil)) (pv 2)))))))), ?_⟩
    have S := Sep.led nd is hc
    have one : ∀ (d : PyData) (v : V) (l' k' m' : Int) (ns' : List Int) (H' : Hp), TG v d [] → Kd kd d → tam d = true → Rs.cnt d ≤ 30 → d.depth ≤ 2 → kk ≤ k' → k' ≤ kk + 4 → Hs H [a, b] H' [(a, stm b l' k' m'), (b, .lst (ns'.map V.int))] → Q v H' :=
      fun d v l' k' m' ns' H' g1 g2 g3 g4 g5 g6 g7 S => k v H' [] _ ⟨d, l', k', m', ns', g1, g2, g3, g4, g5, g6, by omega, rfl⟩ S (by simp [stL]) (fun q h => nomatch h)
    have hi' : ∀ x : Int, x.natAbs < 10 ^ 31 → tam (.int x) = true := fun x hx => by simp only [tam, decide_eq_true_eq]; exact hx
    have hx : ∀ x : Str, SmS x → tam (.str x) = true := fun x hx => by
      simp only [tam, Bool.and_eq_true, decide_eq_true_eq]
      exact ⟨hx.1, Nat.le_trans hx.2 (by decide)⟩
    walk_at "st"
    walk_at "rd"
    refine rd_dec ?_ ?_ <;> intro c0
    · walk_at "rd"
      rename_i x l1 k1 m1 ns1 H1 x1 g1 g2 S1
      exact one (.int x) _ l1 k1 m1 ns1 H1 (.int x) (by rw [c0]; exact ⟨x, rfl⟩) (hi' x x1) (by simp [Rs.cnt]) (by simp [PyData.depth]) g1 g2 S1
    walk_at "rd"
    refine rd_dec ?_ ?_ <;> intro c1
    · walk_at "rd"
      rename_i x l1 k1 m1 ns1 H1 x1 g1 g2 S1
      exact one (.str x) _ l1 k1 m1 ns1 H1 (.str x) (by rw [c1]; exact ⟨x, rfl⟩) (hx x x1) (by simp [Rs.cnt]) (by simp [PyData.depth]) g1 g2 S1
    clear one
    walk_at "rd"
    rename_i p H1 hp S1 r l1 m1 ns1 H2 S2 r0 r1
    clear S S1
    have hrn : r.toNat ≤ 3 := by omega
    refine fw_range (fun i σ H' => ∃ (o3 o4 : Option V) (acc : List V) (ds : List PyData) (N : Led) (l' k' m' : Int) (ns' : List Int), σ = [some (.ref a), some (.int kd), some (.ref p), o3, o4] ∧ Hs H [a, b] H' ((p, .lst acc) :: (N ++ stL a b l' k' m' ns')) ∧ TGs acc ds N ∧ acc.length = i ∧ (∀ d ∈ ds, Pt kd d) ∧ tams ds = true ∧ Rs.cnts ds ≤ 3 * i ∧ PyData.depthAll ds ≤ 1 ∧ (∀ q ∈ N, H q.1 = none) ∧ kk + 1 ≤ k' ∧ k' ≤ kk + 1 + 4 * i)
      ⟨_, _, [], [], [], l1, _, m1, ns1, rfl, S2, .nil, rfl, (fun d h => (nomatch h)), by simp [tams], by simp [Rs.cnts], by simp [PyData.depthAll], (fun q h => (nomatch h)), by omega, by omega⟩ ?_ ?_
    · rintro i σ H' hi ⟨o3, o4, acc, ds, N, l', k', m', ns', rfl, S3, tg, al, pt, tm, cn1, dp1, nn, c2, c3⟩
      clear S2
      have hi3 : i < 3 := by omega
      walk_at "rd"
      rename_i t H4 ht S4
      clear S3
      refine ⟨t, [.int 2, .int 3], rfl, .inr (S4.tup (by walk_at "mem")), rfl, rfl, ?_⟩
      have nb : inV (.int kd) [.int 2, .int 3] = decide (kd = 2 ∨ kd = 3) := by
        have : kd = 2 ∨ kd = 3 ∨ kd = 4 ∨ kd = 5 := by omega
        rcases this with rfl | rfl | rfl | rfl <;> decide +kernel
      have fin : ∀ (v : V) (d : PyData) (N1 : Led) (H5 : Hp) (L5 : Led) (l2 k2 m2 : Int) (ns2 : List Int) (o3 o4 : Option V), TG v d N1 → Pt kd d → tam d = true → Rs.cnt d ≤ 3 → d.depth ≤ 1 → (∀ q ∈ N1, H q.1 = none) → Hs H [a, b] H5 L5 → (∀ x, cn x ((p, .lst (acc ++ [v])) :: ((N1 ++ N) ++ stL a b l2 k2 m2 ns2)) ≤ cn x L5) → k' ≤ k2 → k2 ≤ k' + 4 →
          (∃ (o3' o4' : Option V) (acc : List V) (ds : List PyData) (N : Led) (l' k' m' : Int) (ns' : List Int), [some (.ref a), some (.int kd), some (.ref p), o3, o4] = [some (.ref a), some (.int kd), some (.ref p), o3', o4'] ∧ Hs H [a, b] H5 ((p, .lst acc) :: (N ++ stL a b l' k' m' ns')) ∧ TGs acc ds N ∧ acc.length = i + 1 ∧ (∀ d ∈ ds, Pt kd d) ∧ tams ds = true ∧ Rs.cnts ds ≤ 3 * (i + 1) ∧ PyData.depthAll ds ≤ 1 ∧ (∀ q ∈ N, H q.1 = none) ∧ kk + 1 ≤ k' ∧ k' ≤ kk + 1 + 4 * ((i + 1 : Nat) : Int)) :=
        fun v d N1 H5 L5 l2 k2 m2 ns2 o3 o4 g1 g2 g3 g4 g5 g6 S5 pm g7 g8 =>
          ⟨o3, o4, acc ++ [v], ds ++ [d], N1 ++ N, l2, k2, m2, ns2, rfl, S5.re pm, tg.snoc g1, by simp [al], (fun e he => (List.mem_append.mp he).elim (pt e) (fun z => by rw [List.mem_singleton.mp z]; exact g2)), tams_snoc tm g3, by rw [cnts_snoc]; omega, depth_snoc dp1 g5, (fun q hq => (List.mem_append.mp hq).elim (g6 q) (nn q)), by omega, by omega⟩
      rw [if_neg Bool.false_ne_true, nb]
      refine ⟨_, rfl, ?_⟩
      by_cases hk : kd = 2 ∨ kd = 3
      · rw [decide_eq_true hk]
        walk_at "if1"
        refine rd_dec ?_ ?_ <;> intro c5
        · walk_at "rd"
          rename_i x l2 k2 m2 ns2 H5 hx5 g1 g2 S5 u H6 hu S6 H7 S7
          clear S4 S5 S6
          refine fin (.ref u) (.tuple [.int x, .int (0 + i)]) [(u, .tup [.int x, .int (0 + i)])] H7 _ l2 k2 m2 ns2 _ _ (((TGs.nil.snoc (TG.int x)).snoc (TG.int (0 + (i : Int)))).tup u) (by unfold Pt; rw [if_pos c5]; exact ⟨_, _, rfl⟩) ?_ (by simp [Rs.cnt, Rs.cnts]) (by simp [PyData.depth, PyData.depthAll]) (fun q hq => by rw [List.mem_singleton.mp hq]; exact hu) S7 (by walk_at "led") g1 g2
          have p31 : (10 : Nat) ^ 31 = 10000000000000000000000000000000 := by decide +kernel
          simp only [tam, tams, Bool.and_eq_true, decide_eq_true_eq, and_true]
          exact ⟨hx5, by rw [p31]; omega⟩
        · walk_at "rd"
          rename_i x l2 k2 m2 ns2 H5 hx5 g1 g2 S5 H7 S7
          clear S4 S5
          exact fin (.int x) (.int x) [] H7 _ l2 k2 m2 ns2 _ _ (TG.int x) (by unfold Pt; rw [if_neg c5, decide_eq_true (show kd = 2 by omega)]; exact ⟨_, rfl⟩) (hi' x hx5) (by simp [Rs.cnt]) (by simp [PyData.depth]) (fun q hq => nomatch hq) S7 (by walk_at "led") g1 g2
      · rw [decide_eq_false hk]
        walk_at "if0"
        refine rd_decF (by omega) ?_
        walk_at "rd"
        rename_i x l2 k2 m2 ns2 H5 hx5 g1 g2 S5 H7 S7
        clear S4 S5
        exact fin (.str x) (.str x) [] H7 _ l2 k2 m2 ns2 _ _ (TG.str x) (by unfold Pt; rw [if_neg (by omega), decide_eq_false (show ¬ kd = 2 by omega)]; exact ⟨_, rfl⟩) (hx x hx5) (by simp [Rs.cnt]) (by simp [PyData.depth]) (fun q hq => nomatch hq) S7 (by walk_at "led") g1 g2
    · rintro σ H' ⟨o3, o4, acc, ds, N, l', k', m', ns', rfl, S3, tg, al, pt, tm, cn1, dp1, nn, c2, c3⟩
      clear S2
      walk_at "rd"
      rename_i t H4 ht S4
      clear S3
      refine ⟨t, [.int 2, .int 4], rfl, .inr (S4.tup (by walk_at "mem")), rfl, rfl, ?_⟩
      have nb : inV (.int kd) [.int 2, .int 4] = decide (kd = 2 ∨ kd = 4) := by
        have : kd = 2 ∨ kd = 3 ∨ kd = 4 ∨ kd = 5 := by omega
        rcases this with rfl | rfl | rfl | rfl <;> decide +kernel
      rw [if_neg Bool.false_ne_true, nb]
      refine ⟨_, rfl, ?_⟩
      by_cases hk : kd = 2 ∨ kd = 4
      · rw [decide_eq_true hk]
        walk_at "if1"
        refine ⟨p, acc, rfl, .inl ⟨S4.lst (by walk_at "mem"), fun u hu => ?_⟩⟩
        obtain ⟨n1, S5⟩ := S4.new hu (.tup acc)
        exact k _ _ ((u, .tup acc) :: N) _ ⟨.tuple ds, l', k', m', ns', tg.tup u, by unfold Kd; rw [if_neg c0, if_neg c1]; exact ⟨ds, pt, (by split <;> first | rfl | exact absurd hk ‹_›)⟩, by simpa only [tam] using tm, by simp only [Rs.cnt]; omega, by simp only [PyData.depth]; omega, by omega, by omega, rfl⟩ (S5.re (by walk_at "led")) (by simp [stL]) (fun q hq => (List.mem_cons.mp hq).elim (fun z => by rw [z]; exact n1) (nn q))
      · rw [decide_eq_false hk]
        walk_at "if0"
        exact k _ _ ((p, .lst acc) :: N) _ ⟨.list ds, l', k', m', ns', tg.lst p, by unfold Kd; rw [if_neg c0, if_neg c1]; exact ⟨ds, pt, (by split <;> first | rfl | exact absurd ‹_› hk)⟩, by simpa only [tam] using tm, by simp only [Rs.cnt]; omega, by simp only [PyData.depth]; omega, by omega, by omega, rfl⟩ (S4.re (by walk_at "led")) (by simp [stL]) (fun q hq => (List.mem_cons.mp hq).elim (fun z => by rw [z]; exact hp) (nn q))
end
end K05

namespace K05
open PySem PySem.Spec PyProof.Rows L2 Rs Xc Xd Xg Xh Xi Xj Xk NdefX Xf Xq Xr
/-! less of data -/
open PySem.W (dataLt alike alikeAll) in
theorem lt_asymm {d e : PyData} (h : dataLt d e = true) : dataLt e d = false := by
  cases h2 : dataLt e d with
  | false => rfl
  | true =>
    have := PyProof.Rows.lex_trans _ _ _ h h2
    rw [PyProof.Rows.lex_irrefl] at this
    cases this
theorem key_alike {d e : PyData} (h : PySem.W.alike d e = true) : PySem.W.alike (.list [d, .int 1]) (.list [e, .int 1]) = true := by
  simp only [PySem.W.alike, PySem.W.alikeAll, h, Bool.and_self]
theorem key_lt {d e : PyData} (h : PySem.W.alike d e = true) : PySem.W.dataLt (.list [d, .int 1]) (.list [e, .int 1]) = PySem.W.dataLt d e := by
  rw [PySem.W.dataLt_list]
  cases q : PyData.eqv d e with
  | true =>
    rw [PySem.W.dataLt_all_yes h q, PyProof.Rows.lex_irrefl]
    unfold PySem.W.dataLt
    rw [(PySem.W.toks_eqv d e h).1 q, PyProof.Rows.lex_irrefl]
  | false => exact PySem.W.dataLt_all_no h q
theorem alike_all : ∀ {ds es : List PyData} {R : PyData → Prop}, (∀ d e, R d → R e → PySem.W.alike d e = true) → (∀ d ∈ ds, R d) → (∀ e ∈ es, R e) → PySem.W.alikeAll ds es = true
  | [], _, _, _, _, _ => by simp [PySem.W.alikeAll]
  | _ :: _, [], _, _, _, _ => by simp [PySem.W.alikeAll]
  | d :: ds, e :: es, R, h, h1, h2 => by
    simp only [PySem.W.alikeAll, h d e (h1 d List.mem_cons_self) (h2 e List.mem_cons_self), alike_all h (fun x hx => h1 x (List.mem_cons_of_mem _ hx)) (fun x hx => h2 x (List.mem_cons_of_mem _ hx)), Bool.and_self]
theorem at_alike {b : Bool} {d e : PyData} (h1 : At b d) (h2 : At b e) : PySem.W.alike d e = true := by
  cases b with
  | true =>
    obtain ⟨i, rfl⟩ := h1
    obtain ⟨j, rfl⟩ := h2
    simp [PySem.W.alike]
  | false =>
    obtain ⟨i, rfl⟩ := h1
    obtain ⟨j, rfl⟩ := h2
    simp [PySem.W.alike]
theorem pt_alike {k : Int} {d e : PyData} (h1 : Pt k d) (h2 : Pt k e) : PySem.W.alike d e = true := by
  unfold Pt at h1 h2
  split at h1
  · rw [if_pos ‹_›] at h2
    obtain ⟨i, j, rfl⟩ := h1
    obtain ⟨i', j', rfl⟩ := h2
    simp [PySem.W.alike, PySem.W.alikeAll]
  · rw [if_neg ‹_›] at h2
    exact at_alike h1 h2
theorem kd_alike {k : Int} {d e : PyData} (h1 : Kd k d) (h2 : Kd k e) : PySem.W.alike d e = true := by
  unfold Kd at h1 h2
  by_cases c0 : k = 0
  · rw [if_pos c0] at h1 h2; exact at_alike h1 h2
  rw [if_neg c0] at h1 h2
  by_cases c1 : k = 1
  · rw [if_pos c1] at h1 h2; exact at_alike h1 h2
  rw [if_neg c1] at h1 h2
  obtain ⟨ds, h1, rfl⟩ := h1
  obtain ⟨es, h2, rfl⟩ := h2
  have := alike_all (R := Pt k) (fun _ _ => pt_alike) h1 h2
  split <;> simpa only [PySem.W.alike] using this
theorem at_nn {b : Bool} {d : PyData} (h : At b d) : d ≠ .none := by
  cases b <;> obtain ⟨i, rfl⟩ := h <;> exact fun z => by cases z
theorem kd_nn {k : Int} {d : PyData} (h : Kd k d) : d ≠ .none := by
  unfold Kd at h
  split at h
  · exact at_nn h
  split at h
  · exact at_nn h
  obtain ⟨ds, _, rfl⟩ := h
  split <;> exact fun z => by cases z
/-! the things, where they stand -/
def NAt (N : Led) (H : Hp) : Prop := ∀ q ∈ N, H q.1 = some q.2
theorem TG.mono {v : V} {d : PyData} {N N' : Led} (h : TG v d N) (s : ∀ q ∈ N, q ∈ N') (l : ∀ q ∈ N', (∃ xs, q.2 = HO.lst xs) ∨ (∃ xs, q.2 = HO.tup xs)) : TG v d N' := ⟨fun K H hN => h.dp K H fun q hq => hN q (s q hq), l⟩
/-- what an asking may change: counts of orders -/
structure Mv (H H' : Hp) : Prop where
  old : ∀ c o, H c = some o → (∀ C dx r n rest, o ≠ .ins C dx (flds r n rest)) → H' c = some o
  ord : ∀ c C dx r n rest, H c = some (.ins C dx (flds r n rest)) → ∃ n', n ≤ n' ∧ H' c = some (.ins C dx (flds r n' rest))
theorem Mv.refl (H : Hp) : Mv H H := ⟨fun _ _ e _ => e, fun _ _ _ _ n _ e => ⟨n, Int.le_refl _, e⟩⟩
theorem Mv.same {H H' : Hp} (s : Same H H') : Mv H H' := ⟨fun _ _ e _ => s _ _ e, fun _ _ _ _ n _ e => ⟨n, Int.le_refl _, s _ _ e⟩⟩
theorem Mv.trans {H H1 H2 : Hp} (a : Mv H H1) (b : Mv H1 H2) : Mv H H2 := ⟨fun c o e n => b.old c o (a.old c o e n) n, fun c C dx r n rest e => by
  obtain ⟨n1, l1, e1⟩ := a.ord c C dx r n rest e
  obtain ⟨n2, l2, e2⟩ := b.ord c C dx r n1 rest e1
  exact ⟨n2, Int.le_trans l1 l2, e2⟩⟩
theorem Mv.cnt {H H' : Hp} {q C dx : Addr} {r : V} {n : Int} {rest : List (Str × V)} (h : H q = some (.ins C dx (flds r n rest))) (h' : H' q = some (.ins C dx (flds r (n + 1) rest))) (b : But q H H') : Mv H H' := by
  refine ⟨fun c o e ne => b c o e (fun z => by subst z; rw [h] at e; cases e; exact ne _ _ _ _ _ rfl), fun c C2 dx2 r2 n2 rest2 e => ?_⟩
  by_cases z : c = q
  · subst z
    rw [h] at e
    have e := Option.some.inj e
    unfold flds at e
    cases e
    exact ⟨n + 1, by omega, h'⟩
  · exact ⟨n2, Int.le_refl _, b c _ e z⟩
theorem Mv.nat {H H' : Hp} {N : Led} (m : Mv H H') (l : ∀ q ∈ N, (∃ xs, q.2 = HO.lst xs) ∨ (∃ xs, q.2 = HO.tup xs)) (h : NAt N H) : NAt N H' := fun q hq => m.old _ _ (h q hq) fun C dx r n rest z => by
  rcases l q hq with ⟨xs, e⟩ | ⟨xs, e⟩ <;> rw [e] at z <;> cases z
def PlAt (A : Ad) (H : Hp) (q : Addr) : Prop := ∃ dx n, H q = some (.ins A.C_PlainOrder dx (flds .non n []))
def DnAt (A : Ad) (H : Hp) (q i : Addr) (n0 : Int) : Prop := ∃ dx n, n0 ≤ n ∧ H q = some (.ins A.C_DownOrder dx (flds .non n (dR i)))
theorem PlAt.mv {A : Ad} {H H' : Hp} {q : Addr} (h : PlAt A H q) (m : Mv H H') : PlAt A H' q := by
  obtain ⟨dx, n, e⟩ := h
  obtain ⟨n', _, e'⟩ := m.ord _ _ _ _ _ _ e
  exact ⟨dx, n', e'⟩
theorem DnAt.mv {A : Ad} {H H' : Hp} {q i : Addr} {n0 : Int} (h : DnAt A H q i n0) (m : Mv H H') : DnAt A H' q i n0 := by
  obtain ⟨dx, n, l, e⟩ := h
  obtain ⟨n', l', e'⟩ := m.ord _ _ _ _ _ _ e
  exact ⟨dx, n', by omega, e'⟩
/-! the keys -/
def asgV : Stmt → Expr
  | .Assign (value := v) .. => v
  | _ => .Constant .none 0 ⟨0, 0, 0, 0⟩
def exV : Stmt → Expr
  | .Expr v _ => v
  | _ => .Constant .none 0 ⟨0, 0, 0, 0⟩
def argsE : Expr → List Expr
  | .Call _ es _ _ => es
  | .Tuple (elts := es) .. => es
  | .List (elts := es) .. => es
  | _ => []
def kwsE : Expr → List Expr
  | .Call _ _ ks _ => ks.map (·.value)
  | _ => []
def lamP : Expr → Arguments
  | .Lambda p _ _ _ => p
  | _ => ⟨[], [], none, [], [], none, []⟩
def lamB : Expr → Expr
  | .Lambda _ b _ _ => b
  | e => e
def lamS : Expr → Scope
  | .Lambda _ _ s _ => s
  | _ => defScope s_l_mixed
abbrev noE : Expr := .Constant .none 0 ⟨0, 0, 0, 0⟩
abbrev stP (i : Nat) : Stmt := (defBody s_l_plain_right).getD i (.Pass ⟨0, 0, 0, 0⟩)
def lamE : Nat → Expr
  | 0 => (argsE ((argsE (asgV (stP 0))).getD 1 noE)).getD 0 noE
  | 1 => (argsE ((argsE (asgV (stP 1))).getD 1 noE)).getD 0 noE
  | _ => (kwsE ((argsE (exV (stP 2))).getD 0 noE)).getD 1 noE
abbrev lamF (i : Nat) (c' : Addr) : LF := ⟨plainQ, lamP (lamE i), lamB (lamE i), lamS (lamE i), [], c'⟩
theorem lam_scope : ∀ i, NdefX.NScope ["_law_item"] ["_law_item"] [] (lamS (lamE i))
  | 0 => NdefX.nscope_by (by decide +kernel)
  | 1 => NdefX.nscope_by (by decide +kernel)
  | _ + 2 => (NdefX.nscope_by (by decide +kernel) : NdefX.NScope ["_law_item"] ["_law_item"] [] (lamS (lamE 2)))
/-- a key's function as it stands -/
def KFn (H : Hp) (f : Addr) : Prop := ∃ i c', H f = some (LamO f (lamF i c')) ∧ H c' = some (LamX.CodeO c' plainQ)
theorem KFn.mv {H H' : Hp} {f : Addr} (h : KFn H f) (m : Mv H H') : KFn H' f := by
  obtain ⟨i, c', h1, h2⟩ := h
  exact ⟨i, c', m.old _ _ h1 (fun _ _ _ _ _ z => by cases z), m.old _ _ h2 (fun _ _ _ _ _ z => by cases z)⟩
theorem KFn.fn {H : Hp} {f : Addr} (h : KFn H f) : IsFn f H := by
  obtain ⟨i, c', h1, h2⟩ := h
  exact isFn_lam h1
def fln : HO → Nat
  | .ins _ _ fs => fs.length
  | _ => 0
section
variable {P : Program} {w : World} {K : PySem.W.Frag} {mg : Str → Option Value} {base : Heap} {A : Ad} {H H0 : Hp} {MM : List Addr} {L L' F : Led} {Q : VK} {E : XK} {N : Led}
theorem key_calls {f : Addr} {x : V} (h : KFn H f) (q : ∀ l, H l = none → Q (.ref l) (upd H l (.lst [x, .int 1]))) : CallsTo P w K mg base (L2.CX P w) 5 f H [x] Q E := by
  obtain ⟨i, c', h1, h2⟩ := h
  refine calls_ok (calls_up (k := 5) (j := 1) ?_ (by decide))
  have hb : ∀ (pm ctv : Value) (us : List Value), us.length = 1 → bindArgs ((lamF i c').fd pm ctv) ⟨us, []⟩ = pure ((["_law_item"] : List Str).zip us) := fun pm ctv us hl =>
    match i, us, hl with
    | 0, [_], _ => rfl
    | 1, [_], _ => rfl
    | _ + 2, [_], _ => rfl
  have hbody : ∀ (B : Around) (outer : List Env) (s : Shared), Room 0 (B.deeper (NdefX.envF (lamF i c').nf f s.heap.objs.size)) → PE (NdefX.ncx CX0 P w K mg base ["_law_item"] (lamF i c').nf f B outer s H E0) (lamB (lamE i)) (tLst (tCons (tVar 0) (tCons (tC (.int 1)) tNil))) := fun B outer s _ =>
    match i with
    | 0 => pe_lst (pa_cons (pv 0) (pa_cons pe_int pa_nil))
    | 1 => pe_lst (pa_cons (pv 0) (pa_cons pe_int pa_nil))
    | _ + 2 => (pe_lst (pa_cons (pv 0) (pa_cons pe_int pa_nil)) : PE (NdefX.ncx CX0 P w K mg base ["_law_item"] (lamF 2 c').nf f B outer s H E0) (lamB (lamE 2)) _)
  refine calls_lam (F := lamF i c') (lam_scope i) rfl hb rfl h1 h2 hbody ?_
  show tLst _ [some x] H Q
  walk_at "rd"
  exact ⟨Rs.sz (Nat.le_of_ble_eq_true rfl), q⟩
/-- a plain order's telling -/
theorem ask_p (T : Txt K mg w A) {q dx : Addr} {n : Int} {x y : V} {d e : PyData} (hq : H q = some (.ins A.C_PlainOrder dx (flds .non n []))) (g1 : TG x d N) (g2 : TG y e N) (hN : NAt N H) (al : PySem.W.alike d e = true) (nn : d ≠ .none) (dp : d.depth ≤ 60)
    (h : ∀ H', H' q = some (.ins A.C_PlainOrder dx (flds .non (n + 1) [])) → But q H H' → Mv H H' → Q (.bl (PySem.W.dataLt d e)) H') : CallsTo P w K mg base (L2.CX P w) 6 A.f_PlainOrder_ahead H [.ref q, x, y] Q E := by
  refine calls_fn T.c_PlainOrder_ahead.F (ok_pahead T) T.c_PlainOrder_ahead.b ⟨q, dx, .non, n, x, y, rfl, hq, fun H1 e1 k1 => ?_⟩
  have m := Mv.cnt hq e1 k1
  have hN1 := m.nat g1.lt hN
  exact ⟨d, e, g1.dp K H1 hN1, g2.dp K H1 hN1, al, nn, dp, h H1 e1 k1 m⟩
theorem ah_p (T : Txt K mg w A) {q : Addr} {x y : V} {d e : PyData} (hq : PlAt A H q) (g1 : TG x d N) (g2 : TG y e N) (hN : NAt N H) (al : PySem.W.alike d e = true) (nn : d ≠ .none) (dp : d.depth ≤ 60)
    (h : ∀ H', PlAt A H' q → But q H H' → Mv H H' → Q (.bl (PySem.W.dataLt d e)) H') : AhTo P w K mg base 6 (.ref q) x y H Q E := by
  obtain ⟨dx, n, hq⟩ := hq
  exact ⟨q, A.C_PlainOrder, dx, _, _, rfl, hq, T.cl_PlainOrder, T.h_PlainOrder_ahead, rfl, ask_p T hq g1 g2 hN al nn dp fun H' e b m => h H' ⟨dx, _, e⟩ b m⟩
/-- what changed at most -/
def ButS (S : List Addr) (H H' : Hp) : Prop := ∀ b o, H b = some o → b ∉ S → H' b = some o
/-- an order down over a plain one -/
theorem ah_d (T : Txt K mg w A) {q i : Addr} {n0 : Int} {x y : V} {d e : PyData} (hq : DnAt A H q i n0) (hi : PlAt A H i) (g1 : TG x d N) (g2 : TG y e N) (hN : NAt N H) (al : PySem.W.alike e d = true) (nn : e ≠ .none) (dp : e.depth ≤ 60)
    (h : ∀ H', DnAt A H' q i (n0 + 1) → PlAt A H' i → ButS [q, i] H H' → Mv H H' → Q (.bl (PySem.W.dataLt e d)) H') : AhTo P w K mg base 7 (.ref q) x y H Q E := by
  obtain ⟨dx, n, l, hq⟩ := hq
  refine ⟨q, A.C_DownOrder, dx, _, _, rfl, hq, T.cl_DownOrder, T.h_DownOrder_ahead, rfl, ?_⟩
  refine calls_fn T.c_DownOrder_ahead.F (ok_dahead T (j := 6) (by decide)) T.c_DownOrder_ahead.b ⟨q, dx, i, .non, n, x, y, rfl, hq, fun H1 e1 k1 => ?_⟩
  have m := Mv.cnt hq e1 k1
  refine ah_p T (hi.mv m) g2 g1 (m.nat g1.lt hN) al nn dp fun H2 p2 b2 m2 => ?_
  obtain ⟨n', l', e'⟩ := m2.ord _ _ _ _ _ _ e1
  exact h H2 ⟨dx, n', by omega, e'⟩ p2 (fun c o e hc => b2 _ _ (k1 _ _ e (fun z => hc (by simp [z]))) (fun z => hc (by simp [z]))) (m.trans m2)
/-- the order of both: the first one down, the second one plain, over one -/
theorem ah_b (T : Txt K mg w A) {q dx f p : Addr} {n : Int} {x y : V} {d e : PyData} (hq : H q = some (.ins A.C_ThenOrder dx (flds .non n (tR f p)))) (hf : DnAt A H f p 0) (hp : PlAt A H p) (g1 : TG x d N) (g2 : TG y e N) (hN : NAt N H) (al : PySem.W.alike d e = true) (al2 : PySem.W.alike e d = true) (nn : d ≠ .none) (nn2 : e ≠ .none) (dp : d.depth ≤ 60) (dp2 : e.depth ≤ 60)
    (h : ∀ H', H' q = some (.ins A.C_ThenOrder dx (flds .non (n + 1) (tR f p))) → ButS [q, f, p] H H' → Mv H H' → Q (.bl (PySem.W.dataLt e d)) H') : AhTo P w K mg base 8 (.ref q) x y H Q E := by
  refine ⟨q, A.C_ThenOrder, dx, _, _, rfl, hq, T.cl_ThenOrder, T.h_ThenOrder_ahead, rfl, ?_⟩
  refine calls_fn T.c_ThenOrder_ahead.F (ok_tahead T (j := 7) (by decide)) T.c_ThenOrder_ahead.b ⟨q, dx, f, p, .non, n, x, y, rfl, hq, fun H1 e1 k1 => ?_⟩
  have qf : q ≠ f := by
    obtain ⟨_, _, _, e⟩ := hf
    exact ne_of hq e (fun z => absurd (congrArg fln z) (by simp [fln, flds, tR, dR]))
  have qp : q ≠ p := by
    obtain ⟨_, _, e⟩ := hp
    exact ne_of hq e (fun z => absurd (congrArg fln z) (by simp [fln, flds, tR]))
  have m := Mv.cnt hq e1 k1
  have b1 : ButS [q, f, p] H H1 := fun c o e hc => k1 _ _ e (fun z => hc (by simp [z]))
  refine ah_d T (hf.mv m) (hp.mv m) g1 g2 (m.nat g1.lt hN) al2 nn2 dp2 fun H2 f2 p2 b2 m2 => ⟨_, rfl, ?_⟩
  have q2 := b2 _ _ e1 (by simp; exact ⟨qf, qp⟩)
  have m12 := m.trans m2
  have b12 : ButS [q, f, p] H H2 := fun c o e hc => b2 _ _ (b1 _ _ e hc) (fun z => hc (by simp at z ⊢; exact .inr z))
  cases c1 : PySem.W.dataLt e d with
  | true =>
    rw [if_pos rfl]
    rw [c1] at h
    exact h H2 q2 b12 m12
  | false =>
    rw [if_neg Bool.false_ne_true]
    refine ⟨⟨dx, _, q2⟩, ?_⟩
    refine ah_d T f2 p2 g2 g1 (m12.nat g1.lt hN) al nn dp fun H3 f3 p3 b3 m3 => ⟨_, rfl, ?_⟩
    have q3 := b3 _ _ q2 (by simp; exact ⟨qf, qp⟩)
    have m13 := m12.trans m3
    have b13 : ButS [q, f, p] H H3 := fun c o e hc => b3 _ _ (b12 _ _ e hc) (fun z => hc (by simp at z ⊢; exact .inr z))
    cases c2 : PySem.W.dataLt d e with
    | true =>
      rw [if_pos rfl]
      rw [c1] at h
      exact h H3 q3 b13 m13
    | false =>
      rw [if_neg Bool.false_ne_true]
      refine ⟨⟨dx, _, q3⟩, ?_⟩
      have := ah_p (P := P) (base := base) (Q := Q) (E := E) T p3 g1 g2 (m13.nat g1.lt hN) al nn dp fun H4 p4 b4 m4 => by
        rw [c2, ← c1]
        exact h H4 (b4 _ _ q3 qp) (fun c o e hc => b4 _ _ (b13 _ _ e hc) (fun z => hc (by simp [z]))) (m13.trans m4)
      obtain ⟨a, C, dx5, fs, f5, z1, z2, z3, z4, z5, z6⟩ := this
      exact ⟨a, C, dx5, fs, f5, z1, z2, z3, z4, z5, calls_up z6 (by decide)⟩
/-- an order by keys over a plain one -/
theorem ah_k (T : Txt K mg w A) {q dx f i : Addr} {n : Int} {x y : V} {d e : PyData} (hq : H q = some (.ins A.C_KeyOrder dx (flds .non n (kR f i)))) (hf : KFn H f) (hi : PlAt A H i) (g1 : TG x d N) (g2 : TG y e N) (hN : NAt N H) (al : PySem.W.alike d e = true) (dp : d.depth ≤ 50)
    (h : ∀ H', H' q = some (.ins A.C_KeyOrder dx (flds .non (n + 1) (kR f i))) → ButS [q, i] H H' → Mv H H' → Q (.bl (PySem.W.dataLt d e)) H') : AhTo P w K mg base 7 (.ref q) x y H Q E := by
  refine ⟨q, A.C_KeyOrder, dx, _, _, rfl, hq, T.cl_KeyOrder, T.h_KeyOrder_ahead, rfl, ?_⟩
  refine calls_fn T.c_KeyOrder_ahead.F (ok_kahead T (j := 6) (by decide)) T.c_KeyOrder_ahead.b ⟨q, dx, i, f, .non, n, x, y, rfl, hq, fun H1 e1 k1 => ?_⟩
  have qi : q ≠ i := by
    obtain ⟨_, _, e⟩ := hi
    exact ne_of hq e (fun z => absurd (congrArg fln z) (by simp [fln, flds, kR]))
  have m := Mv.cnt hq e1 k1
  have f1 := hf.mv m
  refine ⟨f1.fn, key_calls f1 fun l1 hl1 => ?_⟩
  have s2 : Same H1 (upd H1 l1 (.lst [x, .int 1])) := fun c o e => by rw [upd_ne (ne_of_none e hl1)]; exact e
  have m2 := m.trans (Mv.same s2)
  have e2 := s2 _ _ e1
  obtain ⟨dxi, ni, ei⟩ := hi.mv m2
  have f2 := hf.mv m2
  refine ⟨e2, f2.fn, A.C_PlainOrder, dxi, _, _, ei, T.cl_PlainOrder, T.h_PlainOrder_ahead, rfl, key_calls f2 fun l2 hl2 => ?_⟩
  have s3 : Same (upd H1 l1 (.lst [x, .int 1])) (upd (upd H1 l1 (.lst [x, .int 1])) l2 (.lst [y, .int 1])) := fun c o e => by rw [upd_ne (ne_of_none e hl2)]; exact e
  have m3 := m2.trans (Mv.same s3)
  have l12 : l1 ≠ l2 := fun z => by rw [← z, upd_same] at hl2; cases hl2
  have hN3 := m3.nat g1.lt hN
  have lt' : ∀ r ∈ (l1, HO.lst [x, .int 1]) :: (l2, HO.lst [y, .int 1]) :: N, (∃ xs, r.2 = HO.lst xs) ∨ (∃ xs, r.2 = HO.tup xs) := fun r hr => by
    rcases List.mem_cons.mp hr with rfl | hr
    · exact .inl ⟨_, rfl⟩
    rcases List.mem_cons.mp hr with rfl | hr
    · exact .inl ⟨_, rfl⟩
    exact g1.lt r hr
  have t1 : TG (.ref l1) (.list [d, .int 1]) ((l1, HO.lst [x, .int 1]) :: (l2, HO.lst [y, .int 1]) :: N) := ⟨fun K H hN => .lst (SqL.of (hN (l1, .lst [x, .int 1]) (by simp))) (.cons (g1.dp K H fun r hr => hN r (by simp [hr])) (.cons (.int 1) .nil)), lt'⟩
  have t2 : TG (.ref l2) (.list [e, .int 1]) ((l1, HO.lst [x, .int 1]) :: (l2, HO.lst [y, .int 1]) :: N) := ⟨fun K H hN => .lst (SqL.of (hN (l2, .lst [y, .int 1]) (by simp))) (.cons (g2.dp K H fun r hr => hN r (by simp [hr])) (.cons (.int 1) .nil)), lt'⟩
  obtain ⟨dxj, nj, ej⟩ := hi.mv m3
  refine ask_p T ej t1 t2 (fun r hr => ?_) (key_alike al) (fun z => by cases z) (by simp only [PyData.depth, PyData.depthAll]; omega) fun H4 e4 b4 m4 => ?_
  · rcases List.mem_cons.mp hr with rfl | hr
    · exact s3 _ _ upd_same
    rcases List.mem_cons.mp hr with rfl | hr
    · exact upd_same
    exact hN3 r hr
  · rw [key_lt al]
    exact h H4 (b4 _ _ (s3 _ _ e2) qi) (fun c o e hc => b4 _ _ (s3 _ _ (s2 _ _ (k1 _ _ e (fun z => hc (by simp [z]))))) (fun z => hc (by simp [z]))) (m3.trans m4)
/-- alike of a plain one, and of one down -/
theorem al_p (T : Txt K mg w A) {q : Addr} {x y : V} {d e : PyData} (hq : PlAt A H q) (g1 : TG x d N) (g2 : TG y e N) (hN : NAt N H) (al : PySem.W.alike d e = true) (al2 : PySem.W.alike e d = true) (nn : d ≠ .none) (nn2 : e ≠ .none) (dp : d.depth ≤ 60) (dp2 : e.depth ≤ 60)
    (h : ∀ H', PlAt A H' q → But q H H' → Mv H H' → Q (.bl (!PySem.W.dataLt d e && !PySem.W.dataLt e d)) H') : CallsTo P w K mg base (L2.CX P w) 7 A.f_Order_alike H [.ref q, x, y] Q E := by
  refine calls_fn T.c_Order_alike.F (ok_alike T (j := 6) (by decide)) T.c_Order_alike.b ⟨q, x, y, rfl, ah_p T hq g1 g2 hN al nn dp fun H1 p1 b1 m1 => ⟨_, rfl, ?_⟩⟩
  cases c : PySem.W.dataLt d e with
  | true =>
    rw [if_pos rfl]
    rw [c] at h
    exact h H1 p1 b1 m1
  | false =>
    rw [if_neg Bool.false_ne_true]
    refine ah_p T p1 g2 g1 (m1.nat g1.lt hN) al2 nn2 dp2 fun H2 p2 b2 m2 => ⟨_, rfl, ?_⟩
    rw [c] at h
    exact h H2 p2 (fun c o e hc => b2 _ _ (b1 _ _ e hc) hc) (m1.trans m2)
theorem al_d (T : Txt K mg w A) {q i : Addr} {n0 : Int} {x y : V} {d e : PyData} (hq : DnAt A H q i n0) (hi : PlAt A H i) (g1 : TG x d N) (g2 : TG y e N) (hN : NAt N H) (al : PySem.W.alike d e = true) (al2 : PySem.W.alike e d = true) (nn : d ≠ .none) (nn2 : e ≠ .none) (dp : d.depth ≤ 60) (dp2 : e.depth ≤ 60)
    (h : ∀ H', DnAt A H' q i (n0 + 1) → PlAt A H' i → ButS [q, i] H H' → Mv H H' → Q (.bl (!PySem.W.dataLt d e && !PySem.W.dataLt e d)) H') : CallsTo P w K mg base (L2.CX P w) 8 A.f_Order_alike H [.ref q, x, y] Q E := by
  refine calls_fn T.c_Order_alike.F (ok_alike T (j := 7) (by decide)) T.c_Order_alike.b ⟨q, x, y, rfl, ah_d T hq hi g1 g2 hN al2 nn2 dp2 fun H1 q1 p1 b1 m1 => ⟨_, rfl, ?_⟩⟩
  cases c : PySem.W.dataLt e d with
  | true =>
    rw [if_pos rfl]
    rw [c] at h
    rw [Bool.not_true, Bool.and_false] at h
    exact h H1 q1 p1 b1 m1
  | false =>
    rw [if_neg Bool.false_ne_true]
    refine ah_d T q1 p1 g2 g1 (m1.nat g1.lt hN) al nn dp fun H2 q2 p2 b2 m2 => ⟨_, rfl, ?_⟩
    rw [c, Bool.not_false, Bool.and_true] at h
    obtain ⟨dx, n, l, e⟩ := q2
    exact h H2 ⟨dx, n, by omega, e⟩ p2 (fun c o e hc => b2 _ _ (b1 _ _ e hc) hc) (m1.trans m2)
end
end K05

namespace K05
open PySem PySem.Spec PyProof.Rows L2 Rs Xc Xd Xg Xh Xi Xj Xk NdefX Xf Xq Xr
/-! plain ones and others, by turns -/
structure Ors where
  (p k1 i1 f1 k2 i2 f2 k3 i3 f3 d pd d2 b : Addr)
def Ors.all (z : Ors) : List Addr := [z.p, z.k1, z.i1, z.k2, z.i2, z.k3, z.i3, z.d, z.pd, z.d2, z.b]
def KyAt (A : Ad) (H : Hp) (q f i : Addr) : Prop := ∃ dx n, H q = some (.ins A.C_KeyOrder dx (flds .non n (kR f i)))
structure PS (A : Ad) (N : Led) (H0 H : Hp) (z : Ors) (nk nb nd : Int) : Prop where
  p : PlAt A H z.p
  i1 : PlAt A H z.i1
  i2 : PlAt A H z.i2
  i3 : PlAt A H z.i3
  pd : PlAt A H z.pd
  k1 : ∃ dx, H z.k1 = some (.ins A.C_KeyOrder dx (flds .non nk (kR z.f1 z.i1)))
  k2 : KyAt A H z.k2 z.f2 z.i2
  k3 : KyAt A H z.k3 z.f3 z.i3
  f1 : KFn H z.f1
  f2 : KFn H z.f2
  f3 : KFn H z.f3
  d : DnAt A H z.d z.pd nd
  d2 : DnAt A H z.d2 z.p 0
  b : ∃ dx, H z.b = some (.ins A.C_ThenOrder dx (flds .non nb (tR z.d2 z.p)))
  nk1 : z.k1 ∉ [z.p, z.i1, z.k2, z.i2, z.k3, z.i3, z.d, z.pd, z.d2, z.b]
  nb1 : z.b ∉ [z.p, z.k1, z.i1, z.k2, z.i2, z.k3, z.i3, z.d, z.pd, z.d2]
  nw : ∀ c ∈ z.all, H0 c = none
  at_ : NAt N H
  tb : LamX.Tabs TT H
  old : LamX.ExtN H0 H
  nn : ∀ b, H b = none → H0 b = none
section
variable {P : Program} {w : World} {K : PySem.W.Frag} {mg : Str → Option Value} {base : Heap} {A : Ad} {H H0 H' : Hp} {MM : List Addr} {L L' F : Led} {Q : VK} {E : XK} {N : Led} {z : Ors} {nk nb nd nk' nb' nd' : Int}
theorem KyAt.mv {q f i : Addr} (h : KyAt A H q f i) (m : Mv H H') : KyAt A H' q f i := by
  obtain ⟨dx, n, e⟩ := h
  obtain ⟨n', _, e'⟩ := m.ord _ _ _ _ _ _ e
  exact ⟨dx, n', e'⟩
theorem tabs_mv (m : Mv H H') (t : LamX.Tabs TT H) : LamX.Tabs TT H' :=
  tabs_pers ⟨fun c r e => m.old _ _ e (fun _ _ _ _ _ z => by cases z), fun c r e => m.old _ _ e (fun _ _ _ _ _ z => by cases z)⟩ (fun c ps e => m.old _ _ e (fun _ _ _ _ _ z => by cases z)) t
theorem Mv.none_ (m : Mv H H') {c : Addr} (h : H' c = none) : H c = none := by
  cases e : H c with
  | none => rfl
  | some o =>
    by_cases q : ∃ C dx r n rest, o = .ins C dx (flds r n rest)
    · obtain ⟨C, dx, r, n, rest, rfl⟩ := q
      obtain ⟨n', _, e'⟩ := m.ord _ _ _ _ _ _ e
      rw [e'] at h; cases h
    · rw [m.old _ _ e (fun C dx r n rest z => q ⟨C, dx, r, n, rest, z⟩)] at h; cases h
theorem PS.mv (S : PS A N H0 H z nk nb nd) (lt : ∀ q ∈ N, (∃ xs, q.2 = HO.lst xs) ∨ (∃ xs, q.2 = HO.tup xs)) (m : Mv H H') (bt : ButS z.all H H') (k1 : ∃ dx, H' z.k1 = some (.ins A.C_KeyOrder dx (flds .non nk' (kR z.f1 z.i1)))) (b : ∃ dx, H' z.b = some (.ins A.C_ThenOrder dx (flds .non nb' (tR z.d2 z.p)))) (d : DnAt A H' z.d z.pd nd') : PS A N H0 H' z nk' nb' nd' :=
  ⟨S.p.mv m, S.i1.mv m, S.i2.mv m, S.i3.mv m, S.pd.mv m, k1, S.k2.mv m, S.k3.mv m, S.f1.mv m, S.f2.mv m, S.f3.mv m, d, S.d2.mv m, b, S.nk1, S.nb1, S.nw, m.nat lt S.at_, tabs_mv m S.tb, (fun c o e n => bt _ _ (S.old c o e n) fun hc => by rw [S.nw c hc] at e; cases e), fun c h => S.nn c (m.none_ h)⟩
theorem PS.mv0 (S : PS A N H0 H z nk nb nd) (lt : ∀ q ∈ N, (∃ xs, q.2 = HO.lst xs) ∨ (∃ xs, q.2 = HO.tup xs)) {T : List Addr} (m : Mv H H') (bt : ButS T H H') (sub : ∀ c ∈ T, c ∈ z.all) (n1 : z.k1 ∉ T) (n2 : z.b ∉ T) : PS A N H0 H' z nk nb nd := by
  obtain ⟨dx, e⟩ := S.k1
  obtain ⟨dx2, e2⟩ := S.b
  exact S.mv lt m (fun c o e hc => bt _ _ e fun h => hc (sub c h)) ⟨dx, bt _ _ e n1⟩ ⟨dx2, bt _ _ e2 n2⟩ (S.d.mv m)
theorem PS.same (S : PS A N H0 H z nk nb nd) (lt : ∀ q ∈ N, (∃ xs, q.2 = HO.lst xs) ∨ (∃ xs, q.2 = HO.tup xs)) (s : Same H H') : PS A N H0 H' z nk nb nd :=
  S.mv0 lt (T := []) (Mv.same s) (fun c o e _ => s _ _ e) (fun _ h => nomatch h) (by simp) (by simp)
def sp_plain (kd : Int) : Sp := fun vs H Q _ => ∃ (t : Addr) (xs : List V) (ds : List PyData) (N : Led), vs = [.ref t] ∧ H t = some (.lst xs) ∧ TGs xs ds N ∧ NAt N H ∧ ds.length = xs.length ∧ (∀ d ∈ ds, Kd kd d ∧ d.depth ≤ 2) ∧ xs.length ≤ 6 ∧ LamX.Tabs TT H ∧
  ∀ H', LamX.ExtN H H' → LamX.Tabs TT H' → Q (.bl true) H'
theorem NAt.ext {L : Led} (h : NAt L H) (e : LamX.ExtN H H') (n : ∀ q ∈ L, ∀ ps, q.2 ≠ .tbl ps) : NAt L H' := fun q hq => e _ _ (h q hq) (n q hq)
theorem NAt.same {L : Led} (h : NAt L H) (e : Same H H') : NAt L H' := fun q hq => e _ _ (h q hq)
theorem NAt.cons {L : Led} {q : Addr × HO} (h : NAt L H) (e : H q.1 = some q.2) : NAt (q :: L) H := fun r hr => by
  rcases List.mem_cons.mp hr with rfl | hr
  · exact e
  · exact h r hr
def NT (L : Led) : Prop := ∀ q ∈ L, ∀ ps, q.2 ≠ HO.tbl ps
theorem NT.cons {L : Led} {q : Addr × HO} (h : NT L) (e : ∀ ps, q.2 ≠ .tbl ps) : NT (q :: L) := fun r hr => by
  rcases List.mem_cons.mp hr with rfl | hr
  · exact e
  · exact h r hr
/-- what stands, seen from the entry -/
structure WL (H0 H : Hp) (L : Led) : Prop where
  at_ : NAt L H
  nt : NT L
  tb : LamX.Tabs TT H
  old : LamX.ExtN H0 H
  nn : ∀ b, H b = none → H0 b = none
theorem WL.ext {L : Led} (W : WL H0 H L) (e : LamX.ExtN H H') (t : LamX.Tabs TT H') (n : ∀ b, H' b = none → H b = none) : WL H0 H' L := ⟨W.at_.ext e W.nt, W.nt, t, W.old.trans e, fun b h => W.nn b (n b h)⟩
theorem WL.same {L : Led} (W : WL H0 H L) (s : Same H H') : WL H0 H' L := W.ext (fun b o e _ => s b o e) (W.tb.ext s) fun b h => by
  cases e : H b with
  | none => rfl
  | some o => rw [s _ _ e] at h; cases h
theorem WL.add {L : Led} (W : WL H0 H L) {a : Addr} {o : HO} (e : H a = some o) (n : ∀ ps, o ≠ .tbl ps) : WL H0 H ((a, o) :: L) := ⟨W.at_.cons e, W.nt.cons n, W.tb, W.old, W.nn⟩
theorem WL.new {L : Led} (W : WL H0 H L) {a : Addr} (h : H a = none) : H0 a = none ∧ a ∉ L.map (·.1) := ⟨W.nn a h, fun hm => by
  obtain ⟨q, hq, e⟩ := List.mem_map.mp hm
  have := W.at_ q hq
  rw [e, h] at this
  cases this⟩
theorem WL.but {L : Led} {a : Addr} {ys : List V} (W : WL H0 H L) (e : H a = some (.lst ys)) (b : But a H H') (n : a ∉ L.map (·.1)) (h0 : H0 a = none) : WL H0 H' L := by
  have k : ∀ c o, H c = some o → (∀ zs, o ≠ .lst zs) → H' c = some o := fun c o h z => b c o h (fun w => by subst w; rw [e] at h; cases h; exact z _ rfl)
  refine ⟨fun q hq => b _ _ (W.at_ q hq) (fun z => n (z ▸ List.mem_map_of_mem (f := (·.1)) hq)), W.nt, tabs_pers ⟨fun c r h => k _ _ h (fun _ z => by cases z), fun c r h => k _ _ h (fun _ z => by cases z)⟩ (fun c ps h => k _ _ h (fun _ z => by cases z)) W.tb, fun c o h z => b _ _ (W.old c o h z) (fun w => by subst w; rw [h0] at h; cases h), fun c h => ?_⟩
  cases e2 : H c with
  | none => exact W.nn c e2
  | some o =>
    by_cases z : c = a
    · subst z; exact h0
    · rw [b _ _ e2 z] at h; cases h
local macro_rules | `(tactic| walk_at "rd1") => `(tactic| first
  | with_reducible refine Xc.rd_bi ?_
  | with_reducible refine Xc.rd_put1 ?_
  | with_reducible refine Xc.rd_tmk ?_
  | with_reducible refine Xc.rd_xv ?_
  | with_reducible refine Xh.rd_callF ?_
  | with_reducible refine Xj.rd_clsF ?_
  | with_reducible refine Xj.rd_methD ?_)
/-- an asking of an order, handed on -/
theorem meth_go {j k : Nat} {q : Addr} {x y : V} {Z : Addr → Prop} (h : AhTo P w K mg base j (.ref q) x y H Q E) (hj : j ≤ k) (g : ∀ f, CallsTo P w K mg base (L2.CX P w) k f H [.ref q, x, y] Q E → Z f) :
    ∃ a C dx fs f, V.ref q = .ref a ∧ H a = some (.ins C dx fs) ∧ Cls K C ∧ Meth K C "ahead" f ∧ fs.lookup ("ahead" : Str) = none ∧ Z f := by
  obtain ⟨a, C, dx, fs, f, q1, q2, q3, q4, q5, q6⟩ := h
  exact ⟨a, C, dx, fs, f, q1, q2, q3, q4, q5, g f (calls_up q6 hj)⟩
theorem meth_al (T : Txt K mg w A) {C dx k j : Nat} {q : Addr} {fs : List (Str × V)} {x y : V} {Z : Addr → Prop} (hq : H q = some (.ins C dx fs)) (cl : Cls K C) (m : Meth K C "alike" A.f_Order_alike) (l : fs.lookup ("alike" : Str) = none) (h : CallsTo P w K mg base (L2.CX P w) j A.f_Order_alike H [.ref q, x, y] Q E) (hj : j ≤ k) (g : ∀ f, CallsTo P w K mg base (L2.CX P w) k f H [.ref q, x, y] Q E → Z f) :
    ∃ a C dx fs f, V.ref q = .ref a ∧ H a = some (.ins C dx fs) ∧ Cls K C ∧ Meth K C "alike" f ∧ fs.lookup ("alike" : Str) = none ∧ Z f :=
  ⟨q, C, dx, fs, _, rfl, hq, cl, m, l, g _ (calls_up h hj)⟩
theorem dpAll_get {v : V} {d : PyData} : ∀ {vs : List V} {ds : List PyData} {i : Nat}, DpAll K H vs ds → vs[i]? = some v → ds[i]? = some d → Dp K H v d
  | _ :: _, _ :: _, 0, .cons a _, h1, h2 => by
    simp only [List.getElem?_cons_zero, Option.some.injEq] at h1 h2
    subst h1 h2; exact a
  | _ :: _, _ :: _, i + 1, .cons _ b, h1, h2 => by
    simp only [List.getElem?_cons_succ] at h1 h2
    exact dpAll_get b h1 h2
theorem TGs.get {vs : List V} {ds : List PyData} {N : Led} {i : Nat} {v : V} (h : TGs vs ds N) (l : ds.length = vs.length) (e : vs[i]? = some v) : ∃ d, d ∈ ds ∧ TG v d N := by
  have hi : i < ds.length := by rw [l]; exact (List.getElem?_eq_some_iff.mp e).1
  have e2 : ds[i]? = some ds[i] := List.getElem?_eq_getElem hi
  exact ⟨ds[i], List.getElem_mem hi, fun K H hN => dpAll_get (h.dp K H hN) e e2, h.lt⟩
theorem dps_bl : ∀ bs : List Bool, DpAll K H (bs.map V.bl) (bs.map .bool)
  | [] => .nil
  | b :: bs => .cons (.bl b) (dps_bl bs)
theorem tams_bl : ∀ bs : List Bool, tams (bs.map .bool) = true
  | [] => by simp [tams]
  | b :: bs => by simp only [List.map_cons, tams, tam, tams_bl bs, Bool.and_self]
theorem cnts_bl : ∀ bs : List Bool, Rs.cnts (bs.map .bool) = bs.length
  | [] => by simp [Rs.cnts]
  | b :: bs => by simp only [List.map_cons, Rs.cnts, Rs.cnt, cnts_bl bs, List.length_cons]; omega
theorem depth_bl : ∀ bs : List Bool, PyData.depthAll (bs.map .bool) = 0
  | [] => by simp [PyData.depthAll]
  | b :: bs => by simp only [List.map_cons, PyData.depthAll, PyData.depth, depth_bl bs]; rfl
theorem rd_reprB {a : Addr} {bs : List Bool} (S : Hs H0 MM H L) (m : (a, HO.lst (bs.map V.bl)) ∈ L) (hl : bs.length ≤ 1000) (h : Q (.str (PyData.list (bs.map .bool)).shown) H) : rRepr K [.ref a] H Q :=
  ⟨.ref a, .list (bs.map .bool), rfl, .lst (S.lst m) (dps_bl bs), shw_tam (by simp only [tam]; exact tams_bl bs) (by simp only [Rs.cnt, cnts_bl]; omega), by simp only [PyData.depth, depth_bl]; decide, h⟩
theorem PS.but (S : PS A N H0 H z nk nb nd) {a : Addr} {ys : List V} (e : H a = some (.lst ys)) (b : But a H H') (n : a ∉ N.map (·.1)) (h0 : H0 a = none) : PS A N H0 H' z nk nb nd := by
  have k : ∀ c o, H c = some o → (∀ zs, o ≠ .lst zs) → H' c = some o := fun c o h z => b c o h (fun w => by subst w; rw [e] at h; cases h; exact z _ rfl)
  have pl : ∀ {q}, PlAt A H q → PlAt A H' q := fun ⟨dx, n, h⟩ => ⟨dx, n, k _ _ h (fun _ z => by cases z)⟩
  have dn : ∀ {q i n}, DnAt A H q i n → DnAt A H' q i n := fun ⟨dx, n, l, h⟩ => ⟨dx, n, l, k _ _ h (fun _ z => by cases z)⟩
  have ky : ∀ {q f i}, KyAt A H q f i → KyAt A H' q f i := fun ⟨dx, n, h⟩ => ⟨dx, n, k _ _ h (fun _ z => by cases z)⟩
  have kf : ∀ {f}, KFn H f → KFn H' f := fun ⟨i, c, h1, h2⟩ => ⟨i, c, k _ _ h1 (fun _ z => by cases z), k _ _ h2 (fun _ z => by cases z)⟩
  obtain ⟨dk, ek⟩ := S.k1
  obtain ⟨db, eb⟩ := S.b
  exact ⟨pl S.p, pl S.i1, pl S.i2, pl S.i3, pl S.pd, ⟨dk, k _ _ ek (fun _ z => by cases z)⟩, ky S.k2, ky S.k3, kf S.f1, kf S.f2, kf S.f3, dn S.d, dn S.d2, ⟨db, k _ _ eb (fun _ z => by cases z)⟩, S.nk1, S.nb1, S.nw, (fun q hq => b _ _ (S.at_ q hq) (fun z => n (z ▸ List.mem_map_of_mem (f := (·.1)) hq))),
    tabs_pers ⟨fun c r h => k _ _ h (fun _ z => by cases z), fun c r h => k _ _ h (fun _ z => by cases z)⟩ (fun c ps h => k _ _ h (fun _ z => by cases z)) S.tb, (fun c o h z => b _ _ (S.old c o h z) (fun w => by subst w; rw [h0] at h; cases h)), fun c h => by
      cases e2 : H c with
      | none => exact S.nn c e2
      | some o =>
        by_cases z : c = a
        · subst z; exact h0
        · rw [b _ _ e2 z] at h; cases h⟩
def Ors.r1 (z : Ors) : List Addr := [z.p, z.i1, z.k2, z.i2, z.k3, z.i3, z.d, z.pd, z.d2, z.b]
def Ors.rb (z : Ors) : List Addr := [z.p, z.k1, z.i1, z.k2, z.i2, z.k3, z.i3, z.d, z.pd, z.d2]
theorem r1_all {z : Ors} {c : Addr} (h : c ∈ z.r1) : c ∈ z.all := by
  simp only [Ors.r1, Ors.all, List.mem_cons, List.not_mem_nil, or_false] at h ⊢
  rcases h with h | h | h | h | h | h | h | h | h | h <;> simp [h]
theorem PS.mvo (S : PS A N H0 H z nk nb nd) (lt : ∀ q ∈ N, (∃ xs, q.2 = HO.lst xs) ∨ (∃ xs, q.2 = HO.tup xs)) {T : List Addr} (m : Mv H H') (bt : ButS T H H') (s1 : ∀ c ∈ T, c ∈ z.r1) (s2 : ∀ c ∈ T, c ∈ z.rb) : PS A N H0 H' z nk nb nd :=
  S.mv0 lt m bt (fun c hc => r1_all (s1 c hc)) (fun h => S.nk1 (s1 _ h)) (fun h => S.nb1 (s2 _ h))
theorem PS.mvd (S : PS A N H0 H z nk nb nd) (lt : ∀ q ∈ N, (∃ xs, q.2 = HO.lst xs) ∨ (∃ xs, q.2 = HO.tup xs)) (m : Mv H H') (bt : ButS [z.d, z.pd] H H') (d : DnAt A H' z.d z.pd (nd + 1)) : PS A N H0 H' z nk nb (nd + 1) := by
  have S' := S.mvo lt m bt (by simp [Ors.r1]) (by simp [Ors.rb])
  exact ⟨S'.p, S'.i1, S'.i2, S'.i3, S'.pd, S'.k1, S'.k2, S'.k3, S'.f1, S'.f2, S'.f3, d, S'.d2, S'.b, S'.nk1, S'.nb1, S'.nw, S'.at_, S'.tb, S'.old, S'.nn⟩
theorem PS.mvb (S : PS A N H0 H z nk nb nd) (lt : ∀ q ∈ N, (∃ xs, q.2 = HO.lst xs) ∨ (∃ xs, q.2 = HO.tup xs)) (m : Mv H H') (bt : ButS [z.b, z.d2, z.p] H H') (b : ∃ dx, H' z.b = some (.ins A.C_ThenOrder dx (flds .non (nb + 1) (tR z.d2 z.p)))) : PS A N H0 H' z nk (nb + 1) nd := by
  obtain ⟨dx, e⟩ := S.k1
  exact S.mv lt m (fun c o e hc => bt _ _ e fun h => hc (by
    simp only [Ors.all, List.mem_cons, List.not_mem_nil, or_false] at h ⊢
    rcases h with h | h | h <;> simp [h])) ⟨dx, bt _ _ e (fun h => S.nk1 (by
    simp only [List.mem_cons, List.not_mem_nil, or_false] at h ⊢
    rcases h with h | h | h <;> simp [h]))⟩ b (S.d.mv m)
theorem PS.mvk (S : PS A N H0 H z nk nb nd) (lt : ∀ q ∈ N, (∃ xs, q.2 = HO.lst xs) ∨ (∃ xs, q.2 = HO.tup xs)) (m : Mv H H') (bt : ButS [z.k1, z.i1] H H') (k : ∃ dx, H' z.k1 = some (.ins A.C_KeyOrder dx (flds .non (nk + 1) (kR z.f1 z.i1)))) : PS A N H0 H' z (nk + 1) nb nd := by
  obtain ⟨dx, e⟩ := S.b
  exact S.mv lt m (fun c o e hc => bt _ _ e fun h => hc (by
    simp only [Ors.all, List.mem_cons, List.not_mem_nil, or_false] at h ⊢
    rcases h with h | h <;> simp [h])) k ⟨dx, bt _ _ e (fun h => S.nb1 (by
    simp only [List.mem_cons, List.not_mem_nil, or_false] at h ⊢
    rcases h with h | h <;> simp [h]))⟩ (S.d.mv m)
theorem same_new {p : Addr} {o : HO} (h : H p = none) : Same H (upd H p o) := fun c u e => by rw [upd_ne (ne_of_none e h)]; exact e
theorem rd_reprB' {a : Addr} {bs : List Bool} {kp : Str} (S : Hs H0 MM H L) (m : (a, HO.lst (bs.map V.bl)) ∈ L) (hl : bs.length ≤ 1000) (e : (PyData.list (bs.map .bool)).shown = kp) (h : Q (.str kp) H) : rRepr K [.ref a] H Q := by
  subst e
  exact rd_reprB S m hl h
theorem rd_ne3 {p q : Addr} {n m : Int} {b : Bool} (S : Hs H0 MM H L) (m1 : (p, HO.lst [.int n, .int m, .bl b]) ∈ L) (m2 : (q, HO.lst [.int n, .int m, .bl b]) ∈ L) (h : Q (.bl false) H) : rNeD K (.ref p) (.ref q) H Q := by
  have sh : SeqAt.shaped (.list [.int n, .int m, .bool b]) = true := by
    unfold SeqAt.shaped
    simp [PyData.canLay0, PyData.canLayAll0, PyData.depth, PyData.depthAll]
  refine ⟨.list [.int n, .int m, .bool b], .list [.int n, .int m, .bool b], .lst (S.lst m1) (.cons (.int n) (.cons (.int m) (.cons (.bl b) .nil))), .lst (S.lst m2) (.cons (.int n) (.cons (.int m) (.cons (.bl b) .nil))), sh, sh, ?_⟩
  rw [show PyData.eqv (.list [.int n, .int m, .bool b]) (.list [.int n, .int m, .bool b]) = true by simp [PyData.eqv, PyData.eqvAll]]
  exact h
theorem rd_eqBs {p q : Addr} {bs : List Bool} (S : Hs H0 MM H L) (m1 : (p, HO.lst (bs.map V.bl)) ∈ L) (m2 : (q, HO.lst (bs.map V.bl)) ∈ L) (hl : bs.length ≤ 1000) (h : Q (.bl true) H) : rEqD K (.ref p) (.ref q) H Q := by
  have sh : SeqAt.shaped (.list (bs.map .bool)) = true := by
    unfold SeqAt.shaped
    have : ∀ bs : List Bool, PyData.canLayAll0 (bs.map .bool) = true := fun bs => by
      induction bs with
      | nil => simp [PyData.canLayAll0]
      | cons b bs ih => simp only [List.map_cons, PyData.canLayAll0, PyData.canLay0, ih, Bool.and_self]
    simp [PyData.canLay0, PyData.depth, depth_bl, this]
  have ev : ∀ bs : List Bool, PyData.eqvAll (bs.map .bool) (bs.map .bool) = true := fun bs => by
    induction bs with
    | nil => simp [PyData.eqvAll]
    | cons b bs ih => simp [PyData.eqvAll, PyData.eqv, ih]
  refine ⟨.list (bs.map .bool), .list (bs.map .bool), .lst (S.lst m1) (dps_bl bs), .lst (S.lst m2) (dps_bl bs), sh, sh, ?_⟩
  rw [show PyData.eqv (.list (bs.map .bool)) (.list (bs.map .bool)) = true by simp only [PyData.eqv]; exact ev bs]
  exact h
/-- an order, of whatever class -/
def AnyO (K : PySem.W.Frag) (A : Ad) (H : Hp) (v : V) : Prop := ∃ a C dx fs, v = .ref a ∧ H a = some (.ins C dx fs) ∧ OrdC K A C
theorem kitAny_noL {C : Value} {l : List Value} {r : List (Option Bool)} {us : List Value} (h : l.map (fun c => PySem.W.kitOne K C c) = r) (g : ∀ u ∈ us, ∃ i : Nat, l[i]? = some u ∧ r[i]? = some (some false)) : PySem.W.kitAny K C us = some false :=
  Xn.kitAny_no fun u hu => by
    obtain ⟨i, h1, h2⟩ := g u hu
    exact kx h i h1 h2
end
end K05

namespace K05
open PySem PySem.Spec PyProof.Rows L2 Rs Xc Xd Xg Xh Xi Xj Xk NdefX Xf Xq Xr
section
variable {P : Program} {w : World} {K : PySem.W.Frag} {mg : Str → Option Value} {base : Heap} {A : Ad} {H H0 H' : Hp} {MM : List Addr} {L L' F : Led} {Q : VK} {E : XK} {N : Led} {z : Ors} {nk nb nd nk' nb' nd' : Int}
local macro_rules | `(tactic| walk_at "rd1") => `(tactic| first
  | with_reducible refine Xc.rd_bi ?_
  | with_reducible refine Xc.rd_put1 ?_
  | with_reducible refine Xc.rd_tmk ?_
  | with_reducible refine Xc.rd_xv ?_
  | with_reducible refine Xh.rd_callF ?_
  | with_reducible refine Xj.rd_clsF ?_
  | with_reducible refine Xj.rd_methD ?_)
theorem ok_plain (T : Txt K mg w A) (TB : LamX.TabB base mg A.cc__law_plain_right 451) (kd : Int) : FnG P w K mg base 17 A.f__law_plain_right A.d__law_plain_right ["_law_things"] (sp_plain kd) := by
  have G_need_order : FnOk P w K mg base CX0 1 A.f_need_order A.d_need_order ["thing"] (sp_norder K A) := ok_norder T
  have G_PlainOrder___init__ : FnOk P w K mg base CX0 2 A.f_PlainOrder___init__ A.d_PlainOrder___init__ ["self"] (sp_pinit A) := ok_pinit T
  have G_DownOrder___init__ : FnOk P w K mg base CX0 2 A.f_DownOrder___init__ A.d_DownOrder___init__ ["self", "order"] (sp_dinit K A) := ok_dinit T
  have G_ThenOrder___init__ : FnOk P w K mg base CX0 2 A.f_ThenOrder___init__ A.d_ThenOrder___init__ ["self", "first", "second"] (sp_tinit K A) := ok_tinit T
  have G_KeyOrder___init__ : FnOk P w K mg base CX0 4 A.f_KeyOrder___init__ A.d_KeyOrder___init__ ["self", "key", "order"] (sp_kinit K A) := ok_kinit T
  have G_Order___init__ : FnOk P w K mg base CX0 1 A.f_Order___init__ A.d_Order___init__ ["self", "rule"] (sp_oinit A.C_Order) := ok_oinit T (ord_o T)
  have hmem : (451, plainQ) ∈ TT := by simp [TT]
  have huni : ∀ p ∈ TT, p.1 = 451 → p.2 = plainQ := tt_uni (451, plainQ) (by simp [TT])
  have kb_need_order : ∀ (T : Txt K mg w A), KBn K A.d_need_order ["thing"] 0 ["thing"] (fun us ws => us ++ [0].filterMap (ws[·]?)) (fun us ws => us ++ [0].filterMap (ws[·]?)) :=
    fun T => kb_of T.c_need_order.F _ fun _ _ _ _ _ _ us ws h1 h2 => match us, h1, ws, h2 with | [], _, [_], _ => rfl
  have kb_DownOrder_init : KBn K A.d_DownOrder___init__ ["self", "order"] 1 ["order"] (fun us ws => us ++ [0].filterMap (ws[·]?)) (fun us ws => us ++ [0].filterMap (ws[·]?)) :=
    kb_of T.c_DownOrder___init__.F _ fun _ _ _ _ _ _ us ws h1 h2 => match us, h1, ws, h2 with | [_], _, [_], _ => rfl
  have kb_ThenOrder_init : KBn K A.d_ThenOrder___init__ ["self", "first", "second"] 1 ["first", "second"] (fun us ws => us ++ [0, 1].filterMap (ws[·]?)) (fun us ws => us ++ [0, 1].filterMap (ws[·]?)) :=
    kb_of T.c_ThenOrder___init__.F _ fun _ _ _ _ _ _ us ws h1 h2 => match us, h1, ws, h2 with | [_], _, [_, _], _ => rfl
  obtain ⟨_, kb_KeyOrder_init⟩ := T.c_KeyOrder___init__.F.kbindsD (ps := ["self", "key", "order"]) 1 ["order", "key"] (fun us _ ws => us ++ [1, 0].filterMap (ws[·]?)) (by simp) (fun r1 _ rz => r1.append (vals_pick rz _)) (by
    intro T kV doc pm an cdv ct us its ws h1 h2 h3
    match us, h1, its, h2, ws, h3 with
    | [_], _, [i], _, [_, _], _ => exact ⟨_, rfl, rfl⟩)
  obtain ⟨_, d_KeyOrder, b_KeyOrder⟩ := b_key T
  refine Xc.defGC T.cx__law_plain_right sc_l_plain_right (fun vs H Q E h => ?_) (fun Ar outer s H vs Q E cl hr h => ?_)
  · obtain ⟨_, _, _, _, rfl, _⟩ := h; rfl
  · obtain ⟨t, xs, ds, N, rfl, ht, tg, hN, dl, hds, xl, tb, k⟩ := h
    refine ⟨_, (pss_cons (ps_par (i := 1) (j := 2) rfl sc_l_plain_right.nd rfl rfl (by decide) rfl rfl (pa_cons (pe_make0 T.i_PlainOrder G_PlainOrder___init__ (hr.mono (by decide)) rfl T.m_PlainOrder T.c_PlainOrder___init__.b .nil pass0) (pa_cons (pe_make T.i_KeyOrder G_KeyOrder___init__ (hr.mono (by decide)) rfl T.m_KeyOrder b_KeyOrder d_KeyOrder pass0 (pa_cons (Xh.pe_lamv TB rfl hmem huni rfl (NdefX.ndef_free (fr := []) (by first | rfl | kernel_rfl))) pa_nil)) pa_nil)) (by rfl))
      (pss_cons (ps_set (i := 3) sc_l_plain_right.nd rfl (Or.inl rfl) (pe_lst (pa_cons (pv 2) (pa_cons (pe_make T.i_KeyOrder G_KeyOrder___init__ (hr.mono (by decide)) rfl T.m_KeyOrder T.c_KeyOrder___init__.b .nil pass0 (pa_cons (Xh.pe_lamv TB rfl hmem huni rfl (NdefX.ndef_free (fr := []) (by first | rfl | kernel_rfl))) (pa_cons pe_non pa_nil))) pa_nil))))
      (pss_cons (ps_expr (pe_bm PySem.F.plainAttrs_list PySem.F.slot_list_append PySem.F.type_list_append mt_append (pv 3) (pa_cons (pe_makeK0 T.i_KeyOrder G_KeyOrder___init__ (hr.mono (by decide)) rfl T.m_KeyOrder kb_KeyOrder_init pass0 (pk_cons pe_non (pk_cons (Xh.pe_lamv TB rfl hmem huni rfl (NdefX.ndef_free (fr := []) (by first | rfl | kernel_rfl))) pk_nil))) pa_nil)))
      (pss_cons (ps_par (i := 4) (j := 5) rfl sc_l_plain_right.nd rfl rfl (by decide) rfl rfl (pa_cons (pe_makeK0 T.i_DownOrder G_DownOrder___init__ (hr.mono (by decide)) rfl T.m_DownOrder kb_DownOrder_init pass0 (pk_cons (pe_make0 T.i_PlainOrder G_PlainOrder___init__ (hr.mono (by decide)) rfl T.m_PlainOrder T.c_PlainOrder___init__.b .nil pass0) pk_nil)) (pa_cons (pe_makeK0 T.i_ThenOrder G_ThenOrder___init__ (hr.mono (by decide)) rfl T.m_ThenOrder kb_ThenOrder_init pass0 (pk_cons (pe_make T.i_DownOrder G_DownOrder___init__ (hr.mono (by decide)) rfl T.m_DownOrder T.c_DownOrder___init__.b .nil pass0 (pa_cons (pv 1) pa_nil)) (pk_cons (pv 1) pk_nil))) pa_nil)) (by rfl))
      (pss_cons (ps_for PassesOwn.never rfl (pi_list (pv 0)) (pg_name (i := 6) sc_l_plain_right.nd rfl (Or.inr rfl))
        (pss_one (ps_for PassesOwn.never rfl (pi_list (pv 0)) (pg_name (i := 7) sc_l_plain_right.nd rfl (Or.inr rfl))
          (pss_cons (ps_par (i := 8) (j := 9) rfl sc_l_plain_right.nd rfl rfl (by decide) rfl rfl (pa_cons (pe_cmpR (Xr.op_ltD hr.units) (pv 6) (pv 7) (nomark _)) (pa_cons (pe_cmpR (Xr.op_ltD hr.units) (pv 7) (pv 6) (nomark _)) pa_nil)) (by rfl))
          (pss_cons (ps_set (i := 10) sc_l_plain_right.nd rfl (Or.inl rfl) (pe_lst (pa_cons (Xj.pe_methD (CX := L2.CX P w) (k := 14) (pv 1) (pa_cons (pv 6) (pa_cons (pv 7) pa_nil)) hr (by decide) passL) (pa_cons (Xj.pe_methD (CX := L2.CX P w) (k := 14) (pv 4) (pa_cons (pv 6) (pa_cons (pv 7) pa_nil)) hr (by decide) passL) (pa_cons (Xj.pe_methD (CX := L2.CX P w) (k := 14) (pv 5) (pa_cons (pv 6) (pa_cons (pv 7) pa_nil)) hr (by decide) passL) pa_nil)))))
          (pss_cons (ps_set (i := 10) sc_l_plain_right.nd rfl (Or.inl rfl) (pe_op op_cat (pv 10) (pe_lst (pa_cons (Xj.pe_methD (CX := L2.CX P w) (k := 14) (pv 1) (pa_cons (pv 6) (pa_cons (pv 7) pa_nil)) hr (by decide) passL) (pa_cons (Xj.pe_methD (CX := L2.CX P w) (k := 14) (pv 4) (pa_cons (pv 6) (pa_cons (pv 7) pa_nil)) hr (by decide) passL) pa_nil)))))
          (pss_cons (ps_set (i := 10) sc_l_plain_right.nd rfl (Or.inl rfl) (pe_op op_cat (pv 10) (pe_lc (own := [("_law_house", 11)]) (g := gName 11) (tt := tYes) rfl sc_l_plain_right.nd (pi_list (pv 3)) (blkOk_by (N := ["_law_things", "_law_plain", "_law_keyed", "_law_keys", "_law_down", "_law_both", "_law_item", "_law_mate", "_law_less", "_law_more", "_law_told", "_law_house", "_law_alike", "_law_many", "_law_houses", "_law_kinds"]) (sc := defScope s_l_plain_right) (by decide +kernel)) (fun _ _ _ _ _ => (pg_name (i := 11) sc_l_plain_right.nd rfl (Or.inl rfl))) (fun _ _ _ _ _ => pts_nil) (fun _ _ _ _ _ => (show PE _ _ (Xj.tMethD (cxOf CX0 P w K mg base ["_law_things", "_law_plain", "_law_keyed", "_law_keys", "_law_down", "_law_both", "_law_item", "_law_mate", "_law_less", "_law_more", "_law_told", "_law_house", "_law_alike", "_law_many", "_law_houses", "_law_kinds"] "_law_plain_right" (defScope s_l_plain_right) A.f__law_plain_right (.ref A.cc__law_plain_right) Ar outer s H E) (L2.CX P w) 14 "ahead" (tVar 11) (tCons (tVar 6) (tCons (tVar 7) tNil)) E0) from Xj.pe_methD (CX := L2.CX P w) (k := 14) (pv 11) (pa_cons (pv 6) (pa_cons (pv 7) pa_nil)) hr (by decide) passL)))))
          (pss_cons (ps_set (i := 12) sc_l_plain_right.nd rfl (Or.inl rfl) (pe_and (pe_not (pv 8)) (pe_one (pe_not (pv 9)))))
          (pss_one (ps_if (pt_cmpR op_ne (pe_callB (call_repr cl hr) (by rfl) T.n_repr PyProof.Rows.boot_repr (pa_cons (pv 10) pa_nil)) (pe_callB (call_repr cl hr) (by rfl) T.n_repr PyProof.Rows.boot_repr (pa_cons (pe_lst (pa_cons (pv 8) (pa_cons (pv 9) (pa_cons (pv 9) (pa_cons (pv 12) (pa_cons (pv 12) (pa_cons (pv 8) (pa_cons (pv 8) (pa_cons (pv 8) pa_nil))))))))) pa_nil)) (nomark _))
            (pss_one (ps_ret pe_bl))
            pss_nil))))))))))
      (pss_cons (ps_set (i := 13) sc_l_plain_right.nd rfl (Or.inl rfl) (pe_op op_mul (pe_callB call_len_seq (by rfl) T.n_len PySem.boot_len (pa_cons (pv 0) pa_nil)) (pe_callB call_len_seq (by rfl) T.n_len PySem.boot_len (pa_cons (pv 0) pa_nil))))
      (pss_cons (ps_if (pt_cmpR (op_neD hr.units) (pe_lst (pa_cons (Xj.pe_methD0 (CX := CX0) (E := E0) (k := 14) (pv 2) hr (by decide) pass0) (pa_cons (Xj.pe_methD0 (CX := CX0) (E := E0) (k := 14) (pv 5) hr (by decide) pass0) (pa_cons (pe_cmpR op_ge (Xj.pe_methD0 (CX := CX0) (E := E0) (k := 14) (pv 4) hr (by decide) pass0) (pe_op op_mul pe_int (pv 13)) (nomark _)) pa_nil)))) (pe_lst (pa_cons (pv 13) (pa_cons (pv 13) (pa_cons pe_bl pa_nil)))) (nomark _))
        (pss_one (ps_ret pe_bl))
        pss_nil)
      (pss_cons (ps_set (i := 14) sc_l_plain_right.nd rfl (Or.inl rfl) (pe_lst (pa_cons (pv 1) (pa_cons (pv 2) (pa_cons (pv 4) (pa_cons (pv 5) (pa_cons (pe_make T.i_Order G_Order___init__ (hr.mono (by decide)) rfl T.m_Order T.c_Order___init__.b .nil pass0 (pa_cons (Xh.pe_lamv TB rfl hmem huni rfl (NdefX.ndef_free (fr := []) (by first | rfl | kernel_rfl))) pa_nil)) pa_nil)))))))
      (pss_cons (ps_for PassesOwn.never rfl (pi_list (pv 14)) (pg_name (i := 11) sc_l_plain_right.nd rfl (Or.inl rfl))
        (pss_one (ps_if (PW.pt (pw_or (pt_not (pt_val (pe_callB call_isi (by rfl) T.n_isinstance PyProof.Rows.boot_isinstance (pa_cons (pv 11) (pa_cons (pe_glob (v := .ref A.C_Order) rfl T.m_Order rfl) pa_nil))))) (pw_or (pt_cmpR op_notN (pe_call G_need_order (hr.mono (by decide)) rfl T.c_need_order.m T.c_need_order.F.kp T.c_need_order.b .nil pass0 (pa_cons (pv 11) pa_nil)) pe_non (nomark _)) (pw_or1 (pt_cmpR op_notN (pe_callK0 G_need_order (hr.mono (by decide)) rfl T.c_need_order.m T.c_need_order.F.kp (kb_need_order T) pass0 (pk_cons (pv 11) pk_nil)) pe_non (nomark _))))))
          (pss_one (ps_ret pe_bl))
          pss_nil)))
      (pss_cons (ps_set (i := 15) sc_l_plain_right.nd rfl (Or.inl rfl) (pe_lst (pa_cons (pe_callB call_isiT (by rfl) T.n_isinstance PyProof.Rows.boot_isinstance (pa_cons (pv 1) (pa_cons (pe_tup (pa_cons (pe_glob (v := .ref A.C_KeyOrder) rfl T.m_KeyOrder rfl) (pa_cons (pe_glob (v := .ref A.C_DownOrder) rfl T.m_DownOrder rfl) (pa_cons (pe_glob (v := .ref A.C_ThenOrder) rfl T.m_ThenOrder rfl) pa_nil)))) pa_nil))) (pa_cons (pe_callB call_isiT (by rfl) T.n_isinstance PyProof.Rows.boot_isinstance (pa_cons (pv 2) (pa_cons (pe_tup (pa_cons (pe_glob (v := .ref A.C_PlainOrder) rfl T.m_PlainOrder rfl) (pa_cons (pe_glob (v := .ref A.C_DownOrder) rfl T.m_DownOrder rfl) (pa_cons (pe_glob (v := .ref A.C_ThenOrder) rfl T.m_ThenOrder rfl) pa_nil)))) pa_nil))) pa_nil))))
      (pss_cons (ps_set (i := 15) sc_l_plain_right.nd rfl (Or.inl rfl) (pe_op op_cat (pv 15) (pe_lst (pa_cons (pe_callB call_isiT (by rfl) T.n_isinstance PyProof.Rows.boot_isinstance (pa_cons (pv 4) (pa_cons (pe_tup (pa_cons (pe_glob (v := .ref A.C_PlainOrder) rfl T.m_PlainOrder rfl) (pa_cons (pe_glob (v := .ref A.C_KeyOrder) rfl T.m_KeyOrder rfl) pa_nil))) pa_nil))) (pa_cons (pe_callB call_isiT (by rfl) T.n_isinstance PyProof.Rows.boot_isinstance (pa_cons (pv 5) (pa_cons (pe_tup (pa_cons (pe_glob (v := .ref A.C_PlainOrder) rfl T.m_PlainOrder rfl) (pa_cons (pe_glob (v := .ref A.C_KeyOrder) rfl T.m_KeyOrder rfl) (pa_cons (pe_glob (v := .ref A.C_DownOrder) rfl T.m_DownOrder rfl) pa_nil)))) pa_nil))) pa_nil)))))
      (pss_one (ps_ret (pe_cmpR (op_eqD hr.units) (pv 15) (pe_lst (pa_cons pe_bl (pa_cons pe_bl (pa_cons pe_bl (pa_cons pe_bl pa_nil))))) (nomark _))))))))))))))), ?_⟩
    have W0 : WL H H ((t, .lst xs) :: N) := WL.add ⟨hN, (fun q hq ps z => by
      rcases tg.lt q hq with ⟨_, e⟩ | ⟨_, e⟩ <;> rw [e] at z <;> cases z), tb, LamX.ExtN.refl H, fun _ h => h⟩ ht (fun _ z => by cases z)
    have hN0 := W0.at_
    clear hN ht tb
    walk_at "st"
    walk_at "rd"
    refine rd_mkP ?_
    walk_at "rd"
    refine mk_p fun p dp H1 p0 ep s1 => ?_
    have fp := W0.new p0
    have W1 := (W0.same s1).add ep (fun _ z => by cases z)
    clear W0 s1 ep p0
    refine rd_mkP ?_
    walk_at "rd"
    refine ⟨W1.tb, fun f1 c1 H2 e2 n2 t2 _ ef1 ec1 => ?_⟩
    have W2 := ((W1.ext e2 t2 n2).add (o := LamO f1 (lamF 0 c1)) ef1 (fun _ z => by cases z)).add (o := LamX.CodeO c1 plainQ) ec1 (fun _ z => by cases z)
    clear W1 e2 n2 t2 ef1 ec1
    walk_at "rd"
    refine mk_kn fun k1 dk1 i1 di1 H3 k10 i10 ki1 ei1 ek1 s3 => ?_
    have fk1 := W2.new k10
    have fi1 := W2.new i10
    have W3 := ((W2.same s3).add ei1 (fun _ z => by cases z)).add ek1 (fun _ z => by cases z)
    clear W2 k10 i10 ei1 ek1 s3
    walk_at "rd"
    refine rd_mkP ?_
    walk_at "rd"
    refine ⟨W3.tb, fun f2 c2 H4 e4 n4 t4 _ ef2 ec2 => ?_⟩
    have W4 := ((W3.ext e4 t4 n4).add (o := LamO f2 (lamF 1 c2)) ef2 (fun _ z => by cases z)).add (o := LamX.CodeO c2 plainQ) ec2 (fun _ z => by cases z)
    clear W3 e4 n4 t4 ef2 ec2
    walk_at "rd"
    refine mk_kn fun k2 dk2 i2 di2 H5 k20 i20 ki2 ei2 ek2 s5 => ?_
    have fk2 := W4.new k20
    have fi2 := W4.new i20
    have W5 := ((W4.same s5).add ei2 (fun _ z => by cases z)).add ek2 (fun _ z => by cases z)
    clear W4 k20 i20 ei2 ek2 s5
    walk_at "rd"
    refine ⟨Rs.sz (Nat.le_of_ble_eq_true rfl), fun kl kl0 => ?_⟩
    have fkl := W5.new kl0
    have W6 : WL H (upd H5 kl (.lst [.ref k1, .ref k2])) _ := W5.same (fun b o e => by rw [upd_ne (ne_of_none e kl0)]; exact e)
    have ekl : upd H5 kl (.lst [.ref k1, .ref k2]) kl = some (.lst [.ref k1, .ref k2]) := upd_same
    generalize upd H5 kl (.lst [.ref k1, .ref k2]) = H6 at *
    clear W5 kl0
    have Sk := Hs.start1 ekl [kl] (.inr rfl)
    walk_at "rd"
    clear Sk
    refine Rs.rd_mkK ?_
    walk_at "rd"
    refine ⟨W6.tb, fun f3 c3 H7 e7 n7 t7 _ ef3 ec3 => ?_⟩
    have W7 := ((W6.ext e7 t7 n7).add (o := LamO f3 (lamF 2 c3)) ef3 (fun _ z => by cases z)).add (o := LamX.CodeO c3 plainQ) ec3 (fun _ z => by cases z)
    have ekl := e7 _ _ ekl (fun _ z => by cases z)
    clear W6 e7 n7 t7 ef3 ec3
    walk_at "rd"
    refine ⟨rfl, rfl, ?_⟩
    refine mk_kn fun k3 dk3 i3 di3 H8 k30 i30 ki3 ei3 ek3 s8 => ?_
    have fk3 := W7.new k30
    have fi3 := W7.new i30
    have W8 := ((W7.same s8).add ei3 (fun _ z => by cases z)).add ek3 (fun _ z => by cases z)
    have ekl := s8 _ _ ekl
    clear W7 k30 i30 ei3 ek3 s8
    have Sk := Hs.start1 ekl [kl] (.inr rfl)
    walk_at "rd"
    rename_i H9 S9
    have nkl : kl ∉ List.map (·.1) ((k3, HO.ins A.C_KeyOrder dk3 (flds V.non 0 (kR f3 i3))) :: (i3, HO.ins A.C_PlainOrder di3 (flds V.non 0 [])) :: (c3, LamX.CodeO c3 plainQ) :: (f3, LamO f3 (lamF 2 c3)) :: (k2, HO.ins A.C_KeyOrder dk2 (flds V.non 0 (kR f2 i2))) :: (i2, HO.ins A.C_PlainOrder di2 (flds V.non 0 [])) :: (c2, LamX.CodeO c2 plainQ) :: (f2, LamO f2 (lamF 1 c2)) :: (k1, HO.ins A.C_KeyOrder dk1 (flds V.non 0 (kR f1 i1))) :: (i1, HO.ins A.C_PlainOrder di1 (flds V.non 0 [])) :: (c1, LamX.CodeO c1 plainQ) :: (f1, LamO f1 (lamF 0 c1)) :: (p, HO.ins A.C_PlainOrder dp (flds V.non 0 [])) :: (t, HO.lst xs) :: N) := by
      intro hm
      obtain ⟨q, hq, e⟩ := List.mem_map.mp hm
      have hq8 := W8.at_ q hq
      rw [e, ekl] at hq8
      rcases List.mem_cons.mp hq with rfl | hq
      · cases hq8
      rcases List.mem_cons.mp hq with rfl | hq
      · cases hq8
      rcases List.mem_cons.mp hq with rfl | hq
      · cases hq8
      rcases List.mem_cons.mp hq with rfl | hq
      · cases hq8
      rcases List.mem_cons.mp hq with rfl | hq
      · cases hq8
      rcases List.mem_cons.mp hq with rfl | hq
      · cases hq8
      rcases List.mem_cons.mp hq with rfl | hq
      · cases hq8
      rcases List.mem_cons.mp hq with rfl | hq
      · cases hq8
      rcases List.mem_cons.mp hq with rfl | hq
      · cases hq8
      rcases List.mem_cons.mp hq with rfl | hq
      · cases hq8
      rcases List.mem_cons.mp hq with rfl | hq
      · cases hq8
      rcases List.mem_cons.mp hq with rfl | hq
      · cases hq8
      rcases List.mem_cons.mp hq with rfl | hq
      · cases hq8
      have := hN0 q hq
      rw [e, fkl.1] at this
      cases this
    have W9 := W8.but ekl (fun b o e h => S9.old1 e h) nkl fkl.1
    have ekl := S9.is (kl, .lst ([.ref k1, .ref k2] ++ [.ref k3])) (by simp)
    clear W8 Sk S9 nkl
    refine Rs.rd_mkK ?_
    walk_at "rd"
    refine rd_mkP ?_
    walk_at "rd"
    refine mk_p fun pd dpd HA pd0 epd sA => ?_
    have fpd := W9.new pd0
    have WA := (W9.same sA).add epd (fun _ z => by cases z)
    have ekl := sA _ _ ekl
    clear W9 pd0 sA
    walk_at "rd"
    refine ⟨rfl, rfl, ?_⟩
    refine mk_d epd (ord_p T) fun d dd HB d0 ed sB => ?_
    have fd := WA.new d0
    have WB := (WA.same sB).add ed (fun _ z => by cases z)
    have ekl := sB _ _ ekl
    clear WA d0 ed sB epd
    walk_at "rd"
    refine Rs.rd_mkK ?_
    walk_at "rd"
    refine rd_mkP ?_
    walk_at "rd"
    have ep := WB.at_ (p, .ins A.C_PlainOrder dp (flds .non 0 [])) (by simp)
    refine mk_d ep (ord_p T) fun d2 dd2 HC d20 ed2 sC => ?_
    have fd2 := WB.new d20
    have WC := (WB.same sC).add ed2 (fun _ z => by cases z)
    have ekl := sC _ _ ekl
    have ep := sC _ _ ep
    clear WB d20 sC
    walk_at "rd"
    refine ⟨rfl, rfl, ?_⟩
    refine mk_t ed2 (ord_d T) ep (ord_p T) fun b db HD b0 eb sD => ?_
    have fb := WC.new b0
    have WD := (WC.same sD).add eb (fun _ z => by cases z)
    have ekl := sD _ _ ekl
    clear WC b0 eb sD ed2 ep
    walk_at "rd"
    have zz : ∃ z : Ors, z = ⟨p, k1, i1, f1, k2, i2, f2, k3, i3, f3, d, pd, d2, b⟩ := ⟨_, rfl⟩
    obtain ⟨z, hz⟩ := zz
    have S0 : PS A ((t, .lst xs) :: (kl, .lst [.ref k1, .ref k2, .ref k3]) :: N) H HD z 0 0 0 := by
      subst hz
      have g : ∀ q : Addr × HO, q ∈ _ → HD q.1 = some q.2 := WD.at_
      refine ⟨⟨dp, 0, g (p, _) (by walk_at "mem")⟩, ⟨di1, 0, g (i1, _) (by walk_at "mem")⟩, ⟨di2, 0, g (i2, _) (by walk_at "mem")⟩, ⟨di3, 0, g (i3, _) (by walk_at "mem")⟩, ⟨dpd, 0, g (pd, _) (by walk_at "mem")⟩, ⟨dk1, g (k1, _) (by walk_at "mem")⟩, ⟨dk2, 0, g (k2, _) (by walk_at "mem")⟩, ⟨dk3, 0, g (k3, _) (by walk_at "mem")⟩, ⟨0, c1, g (f1, LamO f1 (lamF 0 c1)) (by walk_at "mem"), g (c1, LamX.CodeO c1 plainQ) (by walk_at "mem")⟩, ⟨1, c2, g (f2, LamO f2 (lamF 1 c2)) (by walk_at "mem"), g (c2, LamX.CodeO c2 plainQ) (by walk_at "mem")⟩, ⟨2, c3, g (f3, LamO f3 (lamF 2 c3)) (by walk_at "mem"), g (c3, LamX.CodeO c3 plainQ) (by walk_at "mem")⟩, ⟨dd, 0, by decide, g (d, _) (by walk_at "mem")⟩, ⟨dd2, 0, by decide, g (d2, _) (by walk_at "mem")⟩, ⟨db, g (b, _) (by walk_at "mem")⟩, ?_, ?_, ?_, ?_, WD.tb, WD.old, WD.nn⟩
      · intro hm
        simp only [List.mem_cons, List.not_mem_nil, or_false] at hm
        rcases hm with e | e | e | e | e | e | e | e | e | e
        · exact fk1.2 (by rw [e]; simp)
        · exact ki1 e
        · exact fk2.2 (by rw [← e]; simp)
        · exact fi2.2 (by rw [← e]; simp)
        · exact fk3.2 (by rw [← e]; simp)
        · exact fi3.2 (by rw [← e]; simp)
        · exact fd.2 (by rw [← e]; simp)
        · exact fpd.2 (by rw [← e]; simp)
        · exact fd2.2 (by rw [← e]; simp)
        · exact fb.2 (by rw [← e]; simp)
      · intro hm
        simp only [List.mem_cons, List.not_mem_nil, or_false] at hm
        rcases hm with e | e | e | e | e | e | e | e | e | e <;> exact fb.2 (by rw [e]; simp)
      · intro c hc
        simp only [Ors.all, List.mem_cons, List.not_mem_nil, or_false] at hc
        rcases hc with e | e | e | e | e | e | e | e | e | e | e <;> rw [e]
        · exact fp.1
        · exact fk1.1
        · exact fi1.1
        · exact fk2.1
        · exact fi2.1
        · exact fk3.1
        · exact fi3.1
        · exact fd.1
        · exact fpd.1
        · exact fd2.1
        · exact fb.1
      · intro q hq
        rcases List.mem_cons.mp hq with rfl | hq
        · exact g (t, .lst xs) (by simp)
        rcases List.mem_cons.mp hq with rfl | hq
        · exact ekl
        exact g q (by simp [hq])
    have nk0 := fkl.1
    clear WD ekl fp fk1 fi1 fk2 fi2 fk3 fi3 fd fpd fd2 fb ki1 ki2 ki3 fkl
    have lt : ∀ q ∈ ((t, HO.lst xs) :: (kl, HO.lst [.ref k1, .ref k2, .ref k3]) :: N), (∃ xs, q.2 = HO.lst xs) ∨ (∃ xs, q.2 = HO.tup xs) := fun q hq => by
      rcases List.mem_cons.mp hq with rfl | hq
      · exact .inl ⟨_, rfl⟩
      rcases List.mem_cons.mp hq with rfl | hq
      · exact .inl ⟨_, rfl⟩
      exact tg.lt q hq
    have tgN : ∀ {i : Nat} {v : V}, xs[i]? = some v → ∃ d, d ∈ ds ∧ TG v d ((t, HO.lst xs) :: (kl, HO.lst [.ref k1, .ref k2, .ref k3]) :: N) := fun e => by
      obtain ⟨d, hd, g⟩ := tg.get dl e
      exact ⟨d, hd, g.mono (fun q hq => by simp [hq]) lt⟩
    have eqs : p = z.p ∧ k1 = z.k1 ∧ d = z.d ∧ b = z.b ∧ k2 = z.k2 ∧ k3 = z.k3 := by subst hz; exact ⟨rfl, rfl, rfl, rfl, rfl, rfl⟩
    clear hz
    obtain ⟨rfl, rfl, rfl, rfl, rfl, rfl⟩ := eqs
    refine ⟨t, rfl, ⟨xs, SqL.of (S0.at_ (t, .lst xs) (by simp))⟩, ?_⟩
    generalize hN' : ((t, HO.lst xs) :: (kl, HO.lst [.ref z.k1, .ref z.k2, .ref z.k3]) :: N) = N' at *
    have ht : ∀ {H'}, NAt N' H' → H' t = some (.lst xs) := fun h => h (t, .lst xs) (by rw [← hN']; simp)
    have hkl : ∀ {H'}, NAt N' H' → H' kl = some (.lst [.ref z.k1, .ref z.k2, .ref z.k3]) := fun h => h (kl, .lst _) (by rw [← hN']; simp)
    have hn : ∀ a, a ∈ N'.map (·.1) → H a = none → a = kl := fun a hm h0 => by
      rw [← hN'] at hm
      obtain ⟨q, hq, e⟩ := List.mem_map.mp hm
      rcases List.mem_cons.mp hq with rfl | hq
      · rw [← e, hN0 (t, .lst xs) (by simp)] at h0; cases h0
      rcases List.mem_cons.mp hq with rfl | hq
      · exact e.symm
      · rw [← e, hN0 q (by simp [hq])] at h0; cases h0
    refine fw_list (xs := xs) (fun i σ H' => ∃ (o6 o7 o8 o9 o10 o11 o12 : Option V), σ = [some (.ref t), some (.ref z.p), some (.ref z.k1), some (.ref kl), some (.ref z.d), some (.ref z.b), o6, o7, o8, o9, o10, o11, o12, none, none, none] ∧ PS A N' H H' z (xs.length * i) (xs.length * i) (2 * (xs.length * i)))
      ⟨none, none, none, none, none, none, none, rfl, by simpa using S0⟩ (fun i σ H' _ ⟨_, _, _, _, _, _, _, _, S⟩ => SqL.of (ht S.at_)) ?_ ?_
    · rintro i x σ H1 hi ⟨o6, o7, o8, o9, o10, o11, o12, rfl, S1⟩
      clear S0
      obtain ⟨dx, dxm, gx⟩ := tgN hi
      obtain ⟨kdx, dpx⟩ := hds dx dxm
      walk_at "rd"
      refine ⟨t, rfl, ⟨xs, SqL.of (ht S1.at_)⟩, ?_⟩
      refine fw_list (xs := xs) (fun j σ H' => ∃ (o7 o8 o9 o10 o11 o12 : Option V), σ = [some (.ref t), some (.ref z.p), some (.ref z.k1), some (.ref kl), some (.ref z.d), some (.ref z.b), some x, o7, o8, o9, o10, o11, o12, none, none, none] ∧ PS A N' H H' z (xs.length * i + j) (xs.length * i + j) (2 * (xs.length * i + j)))
        ⟨o7, o8, o9, o10, o11, o12, rfl, by simpa using S1⟩ (fun i σ H' _ ⟨_, _, _, _, _, _, _, S⟩ => SqL.of (ht S.at_)) ?_ ?_
      · rintro j y σ H2 hj ⟨o7, o8, o9, o10, o11, o12, rfl, S2⟩
        clear S1
        obtain ⟨dy, dym, gy⟩ := tgN hj
        obtain ⟨kdy, dpy⟩ := hds dy dym
        have axy := kd_alike kdx kdy
        have ayx := kd_alike kdy kdx
        have nx := kd_nn kdx
        have ny := kd_nn kdy
        walk_at "rd"
        refine ⟨dx, dy, gx.dp _ _ S2.at_, gy.dp _ _ S2.at_, axy, nx, by omega, ?_⟩
        walk_at "rd"
        refine ⟨dy, dx, gy.dp _ _ S2.at_, gx.dp _ _ S2.at_, ayx, ny, by omega, ?_⟩
        walk_at "rd"
        refine' meth_go (Q := ?Q1) (E := E0) (j := 6) (k := 14) ?h1 (by decide) (fun f cf => ?g1)
        case g1 => walk_at "rd"; exact cf
        refine ah_p T S2.p gx gy S2.at_ axy nx (by omega) fun H3 p3 b3 m3 => ?_
        have S3 := S2.mvo lt m3 (T := [z.p]) (fun c o e hc => b3 _ _ e (fun w => hc (by simp [w]))) (by simp [Ors.r1]) (by simp [Ors.rb])
        clear S2 p3 b3 m3
        walk_at "rd"
        refine' meth_go (Q := ?Q2) (E := E0) (j := 7) (k := 14) ?h2 (by decide) (fun f cf => ?g2)
        case g2 => walk_at "rd"; exact cf
        refine ah_d T S3.d S3.pd gx gy S3.at_ ayx ny (by omega) fun H4 d4 p4 b4 m4 => ?_
        have S4 := S3.mvd lt m4 b4 d4
        clear S3 d4 p4 b4 m4
        walk_at "rd"
        refine' meth_go (Q := ?Q3) (E := E0) (j := 8) (k := 14) ?h3 (by decide) (fun f cf => ?g3)
        case g3 => walk_at "rd"; exact cf
        obtain ⟨db4, eb4⟩ := S4.b
        refine ah_b T eb4 S4.d2 S4.p gx gy S4.at_ axy ayx nx ny (by omega) (by omega) fun H5 e5 b5 m5 => ?_
        have S5 := S4.mvb lt m5 b5 ⟨db4, e5⟩
        clear S4 b5 m5 e5 eb4
        walk_at "rd"
        refine ⟨Rs.sz (Nat.le_of_ble_eq_true rfl), fun l1 hl1 => ?_⟩
        have S6 := S5.same lt (same_new (o := .lst [.bl (PySem.W.dataLt dx dy), .bl (PySem.W.dataLt dy dx), .bl (PySem.W.dataLt dy dx)]) hl1)
        have el1 : upd H5 l1 (.lst [.bl (PySem.W.dataLt dx dy), .bl (PySem.W.dataLt dy dx), .bl (PySem.W.dataLt dy dx)]) l1 = some (.lst [.bl (PySem.W.dataLt dx dy), .bl (PySem.W.dataLt dy dx), .bl (PySem.W.dataLt dy dx)]) := upd_same
        generalize upd H5 l1 (.lst [.bl (PySem.W.dataLt dx dy), .bl (PySem.W.dataLt dy dx), .bl (PySem.W.dataLt dy dx)]) = H6 at *
        clear S5 hl1
        walk_at "rd"
        obtain ⟨dp6, np6, ep6⟩ := S6.p
        refine' meth_al T (k := 14) (j := 7) (Q := ?Q4) (E := E0) ep6 T.cl_PlainOrder (ord_p T).ha rfl ?h4 (by decide) (fun f cf => ?g4)
        case g4 => walk_at "rd"; exact cf
        refine al_p T S6.p gx gy S6.at_ axy ayx nx ny (by omega) (by omega) fun H7 p7 b7 m7 => ?_
        have S7 := S6.mvo lt m7 (T := [z.p]) (fun c o e hc => b7 _ _ e (fun w => hc (by simp [w]))) (by simp [Ors.r1]) (by simp [Ors.rb])
        have el1 := m7.old _ _ el1 (fun _ _ _ _ _ z => by cases z)
        clear S6 p7 b7 m7 ep6
        walk_at "rd"
        obtain ⟨dd7, nd7, _, ed7⟩ := S7.d
        refine' meth_al T (k := 14) (j := 8) (Q := ?Q5) (E := E0) ed7 T.cl_DownOrder (ord_d T).ha rfl ?h5 (by decide) (fun f cf => ?g5)
        case g5 => walk_at "rd"; exact cf
        refine al_d T S7.d S7.pd gx gy S7.at_ axy ayx nx ny (by omega) (by omega) fun H8 d8 p8 b8 m8 => ?_
        have S8 := S7.mvd lt m8 b8 d8
        have el1 := m8.old _ _ el1 (fun _ _ _ _ _ z => by cases z)
        clear S7 d8 p8 b8 m8 ed7
        have Sx := Hs.start1 el1 [] (.inl rfl)
        walk_at "rd"
        rename_i l2 H9 hl2 S9 l3 HA hl3 SA
        have el3 := SA.is (l3, .lst ([V.bl (PySem.W.dataLt dx dy), V.bl (PySem.W.dataLt dy dx), V.bl (PySem.W.dataLt dy dx)] ++ [V.bl (!PySem.W.dataLt dx dy && !PySem.W.dataLt dy dx), V.bl (!PySem.W.dataLt dx dy && !PySem.W.dataLt dy dx)])) (by simp)
        have S10 := S8.same lt SA.same
        clear S8 Sx S9 SA hl2 hl3 el1
        refine ⟨kl, rfl, ⟨_, SqL.of (hkl S10.at_)⟩, ?_⟩
        intro D hD
        have hD3 : D ≠ l3 := fun w => by rw [w] at hD; rw [hD] at el3; cases el3
        have hD0 : H D = none := S10.nn D hD
        have hDn : D ∉ N'.map (·.1) := fun hm => by
          have := hn D hm hD0
          rw [this, hkl S10.at_] at hD; cases hD
        refine lc_list (xs := [.ref z.k1, .ref z.k2, .ref z.k3]) (fun m H' => H' D = some (.lst (List.replicate m (.bl (PySem.W.dataLt dx dy)))) ∧ H' l3 = some (.lst ([V.bl (PySem.W.dataLt dx dy), V.bl (PySem.W.dataLt dy dx), V.bl (PySem.W.dataLt dy dx)] ++ [V.bl (!PySem.W.dataLt dx dy && !PySem.W.dataLt dy dx), V.bl (!PySem.W.dataLt dx dy && !PySem.W.dataLt dy dx)])) ∧ PS A N' H H' z (xs.length * i + j + (if m = 0 then 0 else 1)) (xs.length * i + j + 1) (2 * (xs.length * i + j) + 1 + 1))
          ⟨upd_same, by rw [upd_ne hD3.symm]; exact el3, by simpa using S10.same lt (same_new hD)⟩ (fun m H' _ ⟨_, _, S⟩ => SqL.of (hkl S.at_)) ?_ ?_
        · rintro m v H' hm ⟨eD, e3, S'⟩
          clear S10 el3
          have fin : ∀ {nk : Int} {H'' : Hp}, Mv H' H'' → PS A N' H H'' z nk (xs.length * i + j + 1) (2 * (xs.length * i + j) + 1 + 1) → nk = (xs.length * i + j + (if m + 1 = 0 then 0 else 1) : Int) → m < 3 →
              ∃ acc, H'' D = some (.lst acc) ∧ acc.length < sizeLine ∧ (upd H'' D (.lst (acc ++ [V.bl (PySem.W.dataLt dx dy)])) D = some (.lst (List.replicate (m + 1) (.bl (PySem.W.dataLt dx dy)))) ∧ upd H'' D (.lst (acc ++ [V.bl (PySem.W.dataLt dx dy)])) l3 = some (.lst ([V.bl (PySem.W.dataLt dx dy), V.bl (PySem.W.dataLt dy dx), V.bl (PySem.W.dataLt dy dx)] ++ [V.bl (!PySem.W.dataLt dx dy && !PySem.W.dataLt dy dx), V.bl (!PySem.W.dataLt dx dy && !PySem.W.dataLt dy dx)])) ∧ PS A N' H (upd H'' D (.lst (acc ++ [V.bl (PySem.W.dataLt dx dy)]))) z (xs.length * i + j + (if m + 1 = 0 then 0 else 1)) (xs.length * i + j + 1) (2 * (xs.length * i + j) + 1 + 1)) := by
            intro nk H'' mv S'' enk m3
            have eD'' := mv.old _ _ eD (fun _ _ _ _ _ z => by cases z)
            have e3'' := mv.old _ _ e3 (fun _ _ _ _ _ z => by cases z)
            refine ⟨_, eD'', Rs.sz' (by simp; omega), by rw [upd_same, ← List.replicate_succ'], by rw [upd_ne hD3.symm]; exact e3'', ?_⟩
            rw [← enk]
            exact S''.but eD'' (fun c o e hc => by rw [upd_ne hc]; exact e) hDn hD0
          rcases m with _ | _ | _ | m
          · cases hm
            walk_at "lc"
            refine' meth_go (Q := ?QA) (E := E0) (j := 7) (k := 14) ?hA (by decide) (fun f cf => ?gA)
            case gA => walk_at "rd"; exact cf
            obtain ⟨dk, ek⟩ := S'.k1
            refine ah_k T ek S'.f1 S'.i1 gx gy S'.at_ axy (by omega) fun HB eB bB mB => ?_
            exact fin mB (S'.mvk lt mB bB ⟨dk, eB⟩) (by simp) (by omega)
          · cases hm
            walk_at "lc"
            refine' meth_go (Q := ?QB) (E := E0) (j := 7) (k := 14) ?hB (by decide) (fun f cf => ?gB)
            case gB => walk_at "rd"; exact cf
            obtain ⟨dk, nk, ek⟩ := S'.k2
            refine ah_k T ek S'.f2 S'.i2 gx gy S'.at_ axy (by omega) fun HB eB bB mB => ?_
            exact fin mB (S'.mvo lt mB bB (by simp [Ors.r1]) (by simp [Ors.rb])) (by simp) (by omega)
          · cases hm
            walk_at "lc"
            refine' meth_go (Q := ?QC) (E := E0) (j := 7) (k := 14) ?hC (by decide) (fun f cf => ?gC)
            case gC => walk_at "rd"; exact cf
            obtain ⟨dk, nk, ek⟩ := S'.k3
            refine ah_k T ek S'.f3 S'.i3 gx gy S'.at_ axy (by omega) fun HB eB bB mB => ?_
            exact fin mB (S'.mvo lt mB bB (by simp [Ors.r1]) (by simp [Ors.rb])) (by simp) (by omega)
          · cases hm
        · rintro H' ⟨eD, e3, S'⟩
          clear S10 el3
          have Sx := Hs.start H' [] [(l3, .lst ([V.bl (PySem.W.dataLt dx dy), V.bl (PySem.W.dataLt dy dx), V.bl (PySem.W.dataLt dy dx)] ++ [V.bl (!PySem.W.dataLt dx dy && !PySem.W.dataLt dy dx), V.bl (!PySem.W.dataLt dx dy && !PySem.W.dataLt dy dx)])), (D, .lst [.bl (PySem.W.dataLt dx dy), .bl (PySem.W.dataLt dx dy), .bl (PySem.W.dataLt dx dy)])] (by simpa using hD3.symm) (fun q hq => by
            rcases List.mem_cons.mp hq with rfl | hq
            · exact e3
            rw [List.mem_singleton.mp hq]; exact eD) (fun b hb => nomatch hb)
          walk_at "rd"
          rename_i q1 HE hq1 SE
          clear eD e3 Sx
          generalize PySem.W.dataLt dx dy = a at *
          generalize PySem.W.dataLt dy dx = b at *
          cases a with
          | true =>
            walk_at "if0"
            obtain ⟨kp, hkp⟩ : ∃ kp, (PyData.list (([true, b, b, false, false, true, true, true] : List Bool).map .bool)).shown = kp := ⟨_, rfl⟩
            refine rd_reprB' (bs := [true, b, b, false, false, true, true, true]) SE List.mem_cons_self (by simp) hkp ?_
            walk_at "rd"
            rename_i q2 HF hq2 SF
            refine rd_reprB' (bs := [true, b, b, false, false, true, true, true]) SF List.mem_cons_self (by simp) hkp ?_
            clear hkp
            walk_at "rd"
            refine rd_decF (by simp) ?_
            walk_at "rd"
            refine ⟨_, _, _, _, _, _, rfl, ?_⟩
            have e1 : ((xs.length : Int) * i + ((j + 1 : Nat) : Int)) = xs.length * i + j + 1 := by omega
            have e2 : (2 * ((xs.length : Int) * i + j + 1)) = 2 * (xs.length * i + j) + 1 + 1 := by omega
            rw [e1, e2]
            simpa using S'.same lt SF.same
          | false =>
            walk_at "if1"
            obtain ⟨kp, hkp⟩ : ∃ kp, (PyData.list (([false, b, b, !b, !b, false, false, false] : List Bool).map .bool)).shown = kp := ⟨_, rfl⟩
            refine rd_reprB' (bs := [false, b, b, !b, !b, false, false, false]) SE List.mem_cons_self (by simp) hkp ?_
            walk_at "rd"
            rename_i q2 HF hq2 SF
            refine rd_reprB' (bs := [false, b, b, !b, !b, false, false, false]) SF List.mem_cons_self (by simp) hkp ?_
            clear hkp
            walk_at "rd"
            refine rd_decF (by simp) ?_
            walk_at "rd"
            refine ⟨_, _, _, _, _, _, rfl, ?_⟩
            have e1 : ((xs.length : Int) * i + ((j + 1 : Nat) : Int)) = xs.length * i + j + 1 := by omega
            have e2 : (2 * ((xs.length : Int) * i + j + 1)) = 2 * (xs.length * i + j) + 1 + 1 := by omega
            rw [e1, e2]
            simpa using S'.same lt SF.same
      · rintro σ H2 ⟨o7, o8, o9, o10, o11, o12, rfl, S2⟩
        exact ⟨_, _, _, _, _, _, _, rfl, by
          have e : ((xs.length : Int) * ((i + 1 : Nat) : Int)) = xs.length * i + xs.length := by rw [Int.natCast_add, Int.mul_add]; omega
          rw [e]; exact S2⟩
    · rintro σ H1 ⟨o6, o7, o8, o9, o10, o11, o12, rfl, S1⟩
      clear S0
      have Sx := Hs.start1 (ht S1.at_) [] (.inl rfl)
      walk_at "rd"
      obtain ⟨dk, ek⟩ := S1.k1
      obtain ⟨db, eb⟩ := S1.b
      obtain ⟨dd, nd, ld, ed⟩ := S1.d
      obtain ⟨dp1, np, ep1⟩ := S1.p
      refine ⟨z.k1, _, _, _, _, rfl, ek, T.cl_KeyOrder, (ord_k T).hm, rfl, ?_⟩
      walk_at "rd"
      refine calls_up (j := 1) (calls_fn T.c_Order_many_asked.F (ok_many T (ord_k T)) T.c_Order_many_asked.b ⟨z.k1, _, _, _, _, rfl, ek, ?_⟩) (by decide)
      walk_at "rd"
      refine ⟨z.b, _, _, _, _, rfl, eb, T.cl_ThenOrder, (ord_t T).hm, rfl, ?_⟩
      walk_at "rd"
      refine calls_up (j := 1) (calls_fn T.c_Order_many_asked.F (ok_many T (ord_t T)) T.c_Order_many_asked.b ⟨z.b, _, _, _, _, rfl, eb, ?_⟩) (by decide)
      walk_at "rd"
      refine ⟨z.d, _, _, _, _, rfl, ed, T.cl_DownOrder, (ord_d T).hm, rfl, ?_⟩
      walk_at "rd"
      refine calls_up (j := 1) (calls_fn T.c_Order_many_asked.F (ok_many T (ord_d T)) T.c_Order_many_asked.b ⟨z.d, _, _, _, _, rfl, ed, ?_⟩) (by decide)
      walk_at "rd"
      rename_i p1 HA hp1 SA p2 HB hp2 SB
      have dn : decide (nd ≥ 2 * (xs.length * xs.length : Int)) = true := decide_eq_true (by omega)
      rw [dn] at SA SB
      refine rd_ne3 SB (by walk_at "mem") (by walk_at "mem") ?_
      have S2 := S1.same lt SB.same
      have s2 : Same H1 HB := SB.same
      have nkb : z.k1 ≠ z.b := fun w => S1.nk1 (by rw [w]; simp)
      clear SA SB Sx hp1 hp2 S1
      have ek := s2 _ _ ek
      have eb := s2 _ _ eb
      have ed := s2 _ _ ed
      have ep1 := s2 _ _ ep1
      clear s2
      walk_at "if0"
      refine rd_mkP ?_
      walk_at "rd"
      refine ⟨S2.tb, fun f5 c5 HC eC nC tC _ ef5 ec5 => ?_⟩
      walk_at "rd"
      refine mk_o fun o5 do5 HD o50 eo5 s5 => ?_
      have oD : LamX.ExtN H HD := (S2.old.trans eC).trans (fun b o e _ => s5 b o e)
      have tD := tC.ext s5
      have ek := s5 _ _ (eC _ _ ek (fun _ z => by cases z))
      have eb := s5 _ _ (eC _ _ eb (fun _ z => by cases z))
      have ed := s5 _ _ (eC _ _ ed (fun _ z => by cases z))
      have ep1 := s5 _ _ (eC _ _ ep1 (fun _ z => by cases z))
      clear S2 eC nC tC ef5 ec5 s5
      walk_at "rd"
      refine ⟨Rs.sz (Nat.le_of_ble_eq_true rfl), fun hl hl0 => ?_⟩
      have sE := same_new (o := .lst [.ref z.p, .ref z.k1, .ref z.d, .ref z.b, .ref o5]) hl0
      have ehl : upd HD hl (.lst [.ref z.p, .ref z.k1, .ref z.d, .ref z.b, .ref o5]) hl = some (.lst [.ref z.p, .ref z.k1, .ref z.d, .ref z.b, .ref o5]) := upd_same
      generalize upd HD hl (.lst [.ref z.p, .ref z.k1, .ref z.d, .ref z.b, .ref o5]) = HE at *
      have ek := sE _ _ ek
      have eb := sE _ _ eb
      have ed := sE _ _ ed
      have ep1 := sE _ _ ep1
      have eo5 := sE _ _ eo5
      have oE : LamX.ExtN H HE := oD.trans (fun b o e _ => sE b o e)
      have tE := tD.ext sE
      clear sE oD tD hl0
      have hv : ∀ v ∈ [V.ref z.p, .ref z.k1, .ref z.d, .ref z.b, .ref o5], AnyO K A HE v := fun v hv => by
        simp only [List.mem_cons, List.not_mem_nil, or_false] at hv
        rcases hv with rfl | rfl | rfl | rfl | rfl
        · exact ⟨_, _, _, _, rfl, ep1, ord_p T⟩
        · exact ⟨_, _, _, _, rfl, ek, ord_k T⟩
        · exact ⟨_, _, _, _, rfl, ed, ord_d T⟩
        · exact ⟨_, _, _, _, rfl, eb, ord_t T⟩
        · exact ⟨_, _, _, _, rfl, eo5, ord_o T⟩
      walk_at "rd"
      refine ⟨hl, rfl, ⟨_, SqL.of ehl⟩, ?_⟩
      refine fw_list (xs := [V.ref z.p, .ref z.k1, .ref z.d, .ref z.b, .ref o5]) (fun i σ H' => ∃ (o11 : Option V), σ = [some (.ref t), some (.ref z.p), some (.ref z.k1), some (.ref kl), some (.ref z.d), some (.ref z.b), o6, o7, o8, o9, o10, o11, o12, some (.int (xs.length * xs.length)), some (.ref hl), none] ∧ H' = HE) ⟨_, rfl, rfl⟩ (fun i σ H' _ ⟨_, _, e⟩ => by rw [e]; exact SqL.of ehl) ?_ ?_
      · rintro i v σ H' hi ⟨o11, rfl, rfl⟩
        obtain ⟨a, C, dx, fs, rfl, ha, O⟩ := hv v (List.mem_of_getElem? hi)
        walk_at "rd"
        refine ⟨.ref a, .ref A.C_Order, .ref C, .ref A.C_Order, true, rfl, .own _, .base (.ins ha O.cl O.oha T.x_ohn T.x_oht O.ohm), O.kit, ?_⟩
        walk_at "rd"
        walk_at "if0"
        refine ⟨a, C, dx, fs, rfl, ha, O, ?_⟩
        walk_at "rd"
        walk_at "if0"
        refine ⟨rfl, rfl, a, C, dx, fs, rfl, ha, O, ?_⟩
        walk_at "rd"
        exact ⟨_, rfl, rfl⟩
      · rintro σ H' ⟨o11, rfl, rfl⟩
        have Sx := Hs.start H' [] [(z.p, .ins A.C_PlainOrder dp1 (flds .non np [])), (z.k1, .ins A.C_KeyOrder dk (flds .non (xs.length * xs.length) (kR z.f1 z.i1))), (z.d, .ins A.C_DownOrder dd (flds .non nd (dR z.pd))), (z.b, .ins A.C_ThenOrder db (flds .non (xs.length * xs.length) (tR z.d2 z.p)))] (by
            have h1 : z.p ≠ z.k1 := ne_of ep1 ek (fun z => absurd (congrArg fln z) (by simp [fln, flds, kR]))
            have h2 : z.p ≠ z.d := ne_of ep1 ed (fun z => absurd (congrArg fln z) (by simp [fln, flds, dR]))
            have h3 : z.p ≠ z.b := ne_of ep1 eb (fun z => absurd (congrArg fln z) (by simp [fln, flds, tR]))
            have h4 : z.k1 ≠ z.d := ne_of ek ed (fun z => absurd (congrArg fln z) (by simp [fln, flds, kR, dR]))
            have h5 : z.d ≠ z.b := ne_of ed eb (fun z => absurd (congrArg fln z) (by simp [fln, flds, dR, tR]))
            have h6 : z.k1 ≠ z.b := nkb
            simp [h1, h2, h3, h4, h5, h6]) (by
            intro q hq
            simp only [List.mem_cons, List.not_mem_nil, or_false] at hq
            rcases hq with rfl | rfl | rfl | rfl
            · exact ep1
            · exact ek
            · exact ed
            · exact eb) (fun b hb => nomatch hb)
        walk_at "rd"
        refine ⟨.ref z.p, _, [.ref A.C_KeyOrder, .ref A.C_DownOrder, .ref A.C_ThenOrder], .ref A.C_PlainOrder, [.ref A.C_KeyOrder, .ref A.C_DownOrder, .ref A.C_ThenOrder], false, rfl, Hs.get (by assumption) (by walk_at "mem"), (.cons (.own _) (.cons (.own _) (.cons (.own _) .nil))), .base (.ins (Hs.get (by assumption) (by walk_at "mem")) T.cl_PlainOrder T.x_oha_PlainOrder T.x_ohn T.x_oht T.x_ohm_PlainOrder), kitAny_noL T.x_kit_PlainOrder (fun u hu => by simp only [List.mem_cons, List.not_mem_nil, or_false] at hu; rcases hu with rfl | rfl | rfl <;> first | exact ⟨0, rfl, rfl⟩ | exact ⟨1, rfl, rfl⟩ | exact ⟨2, rfl, rfl⟩ | exact ⟨3, rfl, rfl⟩), ?_⟩
        walk_at "rd"
        refine ⟨.ref z.k1, _, [.ref A.C_PlainOrder, .ref A.C_DownOrder, .ref A.C_ThenOrder], .ref A.C_KeyOrder, [.ref A.C_PlainOrder, .ref A.C_DownOrder, .ref A.C_ThenOrder], false, rfl, Hs.get (by assumption) (by walk_at "mem"), (.cons (.own _) (.cons (.own _) (.cons (.own _) .nil))), .base (.ins (Hs.get (by assumption) (by walk_at "mem")) T.cl_KeyOrder T.x_oha_KeyOrder T.x_ohn T.x_oht T.x_ohm_KeyOrder), kitAny_noL T.x_kit_KeyOrder (fun u hu => by simp only [List.mem_cons, List.not_mem_nil, or_false] at hu; rcases hu with rfl | rfl | rfl <;> first | exact ⟨0, rfl, rfl⟩ | exact ⟨1, rfl, rfl⟩ | exact ⟨2, rfl, rfl⟩ | exact ⟨3, rfl, rfl⟩), ?_⟩
        walk_at "rd"
        refine ⟨.ref z.d, _, [.ref A.C_PlainOrder, .ref A.C_KeyOrder], .ref A.C_DownOrder, [.ref A.C_PlainOrder, .ref A.C_KeyOrder], false, rfl, Hs.get (by assumption) (by walk_at "mem"), (.cons (.own _) (.cons (.own _) .nil)), .base (.ins (Hs.get (by assumption) (by walk_at "mem")) T.cl_DownOrder T.x_oha_DownOrder T.x_ohn T.x_oht T.x_ohm_DownOrder), kitAny_noL T.x_kit_DownOrder (fun u hu => by simp only [List.mem_cons, List.not_mem_nil, or_false] at hu; rcases hu with rfl | rfl <;> first | exact ⟨0, rfl, rfl⟩ | exact ⟨1, rfl, rfl⟩ | exact ⟨2, rfl, rfl⟩ | exact ⟨3, rfl, rfl⟩), ?_⟩
        walk_at "rd"
        refine ⟨.ref z.b, _, [.ref A.C_PlainOrder, .ref A.C_KeyOrder, .ref A.C_DownOrder], .ref A.C_ThenOrder, [.ref A.C_PlainOrder, .ref A.C_KeyOrder, .ref A.C_DownOrder], false, rfl, Hs.get (by assumption) (by walk_at "mem"), (.cons (.own _) (.cons (.own _) (.cons (.own _) .nil))), .base (.ins (Hs.get (by assumption) (by walk_at "mem")) T.cl_ThenOrder T.x_oha_ThenOrder T.x_ohn T.x_oht T.x_ohm_ThenOrder), kitAny_noL T.x_kit_ThenOrder (fun u hu => by simp only [List.mem_cons, List.not_mem_nil, or_false] at hu; rcases hu with rfl | rfl | rfl <;> first | exact ⟨0, rfl, rfl⟩ | exact ⟨1, rfl, rfl⟩ | exact ⟨2, rfl, rfl⟩ | exact ⟨3, rfl, rfl⟩), ?_⟩
        walk_at "rd"
        rename_i q1 Hq1 hq1 Sq1 q2 Hq2 hq2 Sq2
        refine rd_eqBs (bs := [false, false, false, false]) Sq2 (List.mem_cons_of_mem _ List.mem_cons_self) List.mem_cons_self (by simp) ?_
        exact k _ (oE.trans (fun b o e _ => Sq2.same b o e)) (tE.ext Sq2.same)
def sp_plainA : Sp := fun vs H Q E => ∃ kd, sp_plain kd vs H Q E
theorem ok_plainA (T : Txt K mg w A) (TB : LamX.TabB base mg A.cc__law_plain_right 451) : FnG P w K mg base 17 A.f__law_plain_right A.d__law_plain_right ["_law_things"] sp_plainA :=
  ⟨fun vs H Q E ⟨kd, h⟩ => (ok_plain (P := P) (w := w) (base := base) T TB kd).many vs H Q E h, fun A o s H us a vs Q E cl r e0 hb rv ⟨kd, h⟩ => (ok_plain T TB kd).go A o s H us a vs Q E cl r e0 hb rv h⟩
end
end K05

namespace K05
open PySem PySem.Spec PyProof.Rows L2 Rs Xc Xd Xg Xh Xi Xj Xk NdefX Xf Xq Xr
def sp_law (K : PySem.W.Frag) : Sp := fun vs H Q _ => ∃ (a : Addr) (ns : List Int), vs = [.ref a] ∧ SqL K H a (ns.map V.int) ∧ ns.length ≤ 63 ∧ LamX.Tabs TT H ∧ ∀ H', Q (.bl true) H'
theorem dpAll_app {K : PySem.W.Frag} {H : Hp} : ∀ {vs ws : List V} {ds es : List PyData}, DpAll K H vs ds → DpAll K H ws es → DpAll K H (vs ++ ws) (ds ++ es)
  | [], _, [], _, .nil, h => h
  | _ :: _, _, _ :: _, _, .cons a b, h => .cons a (dpAll_app b h)
theorem dpAll_take {K : PySem.W.Frag} {H : Hp} : ∀ {vs : List V} {ds : List PyData} (n : Nat), DpAll K H vs ds → DpAll K H (vs.take n) (ds.take n)
  | _, _, 0, _ => by simp only [List.take_zero]; exact .nil
  | [], [], _ + 1, .nil => by simp only [List.take_nil]; exact .nil
  | _ :: _, _ :: _, n + 1, .cons a b => by simp only [List.take_succ_cons]; exact .cons a (dpAll_take n b)
theorem TGs.more {vs : List V} {ds : List PyData} {N : Led} (h : TGs vs ds N) (n : Nat) : TGs (vs ++ vs.take n) (ds ++ ds.take n) N := ⟨fun K H hN => dpAll_app (h.dp K H hN) (dpAll_take n (h.dp K H hN)), h.lt⟩
section
variable {P : Program} {w : World} {K : PySem.W.Frag} {mg : Str → Option Value} {base : Heap} {A : Ad} {H H0 H' : Hp} {MM : List Addr} {L L' F : Led} {Q : VK} {E : XK} {N : Led}
theorem use_thingA {a b : Addr} {l k m kd : Int} {ns : List Int} {F1 : HO → Led} {F2 : HO → HO → Led} (S : Hs H0 MM H L) (c1 : ∀ o', Chg a (stm b l k m) o' L (F1 o')) (c2 : ∀ o' o2, Chg b (.lst (ns.map V.int)) o2 (F1 o') (F2 o' o2)) (own : H0 a = none ∨ a ∈ MM) (own2 : H0 b = none ∨ b ∈ MM) (h3 : 0 ≤ k) (h4 : k < 20000) (h5 : 0 ≤ kd) (h6 : kd < 6)
    (h : ∀ (v : V) (d : PyData) (N : Led) (l' k' m' : Int) (ns' : List Int) (H' : Hp), TG v d N → Kd kd d → tam d = true → Rs.cnt d ≤ 30 → d.depth ≤ 2 → k ≤ k' → k' ≤ k + 20 → (∀ q ∈ N, H0 q.1 = none) → Hs H0 MM H' (N ++ F2 (stm b l' k' m') (.lst (ns'.map V.int))) → Q v H') : SepN R_thing [.ref a, .int kd] H Q E := by
  obtain ⟨nd, is, hh⟩ := two S c1 c2 own own2
  refine ⟨[a, b], _, _, ⟨a, b, l, k, m, kd, ns, rfl, rfl, rfl, h3, h4, h5, h6, rfl⟩, nd, is, by simp, fun v H' N L' ⟨d, l', k', m', ns', g1, g2, g3, g4, g5, b0, b1, e3⟩ S' _ hN => ?_⟩
  subst e3
  exact h v d N l' k' m' ns' H' g1 g2 g3 g4 g5 b0 b1 (hh S' hN).2 (hh S' hN).1
local macro_rules | `(tactic| walk_at "rd1") => `(tactic| ((with_reducible refine' use_takeA (by assumption) ?c1 ?c2 ?o1 ?o2 ?e1 ?e2 ?e3 ?e4 ?_); (case c1 => (intro o'; walk_at "chg")); (case c2 => (intro o' o2; walk_at "chg")); (case o1 => walk_at "own"); (case o2 => walk_at "own"); (case e1 => first | decide | omega); (case e2 => first | decide | omega); (case e3 => omega); (case e4 => omega); intro r l' m' ns' H S h0 h1))
local macro_rules | `(tactic| walk_at "rd1") => `(tactic| ((with_reducible refine' use_thingA (by assumption) ?c1 ?c2 ?o1 ?o2 ?e3 ?e4 ?e5 ?e6 ?_); (case c1 => (intro o'; walk_at "chg")); (case c2 => (intro o' o2; walk_at "chg")); (case o1 => walk_at "own"); (case o2 => walk_at "own"); (case e3 => omega); (case e4 => omega); (case e5 => omega); (case e6 => omega); intro v d N l' k' m' ns' H' g1 g2 g3 g4 g5 h0 h1 hN S))
theorem ok_law0 (T : Txt K mg w A) (TBd : LamX.TabB base mg A.cc__law_door 456) (TBs : LamX.TabB base mg A.cc__law_doors_right 463) (TBp : LamX.TabB base mg A.cc__law_plain_right 451) : FnG P w K mg base 18 A.f_law A.d_law ["_law_script"] (sp_law K) := by
  have G__law_take : FnOk P w K mg base CX0 2 A.f__law_take A.d__law_take ["_law_stream", "_law_many"] (SepN R_take) := ok_take T
  have G__law_thing_by : FnOk P w K mg base CX0 5 A.f__law_thing_by A.d__law_thing_by ["_law_stream", "_law_kind"] (SepN R_thing) := ok_thing T
  have G__law_doors_right : FnOk P w K mg base CX0 16 A.f__law_doors_right A.d__law_doors_right ["_law_stream"] sp_doors := ok_doors T TBd TBs
  have G__law_plain_right : FnG P w K mg base 17 A.f__law_plain_right A.d__law_plain_right ["_law_things"] sp_plainA := ok_plainA T TBp
  refine defG T.c_law.F sc_law (fun vs H Q E h => ?_) (fun cdv Ar outer s H vs Q E cl hr h => ?_)
  · obtain ⟨a, ns, rfl, _⟩ := h; rfl
  · obtain ⟨sa, ns, rfl, hs, hn, tb, k⟩ := h
    have hu := hu_of hr
    refine ⟨_, (pss_cons (ps_set (i := 1) sc_law.nd rfl (Or.inr rfl) (pe_lst (pa_cons (pe_slice sl_list (pe_op Xc.op_catL (pv 0) (pe_lst (pa_cons pe_int pa_nil))) po_none (po_some pe_int)) (pa_cons pe_int (pa_cons pe_int (pa_cons pe_int pa_nil))))))
      (pss_cons (ps_for PassesOwn.never rfl (pi_range1 rfl T.n_range (pa_cons (pe_op op_add pe_int (pe_callB (call_min2 rfl) (by rfl) T.n_min PyProof.Rows.boot_min (pa_cons pe_int (pa_cons (pe_callB call_len_seq (by rfl) T.n_len PySem.boot_len (pa_cons (pv 0) pa_nil)) pa_nil)))) pa_nil)) (pg_name (i := 2) sc_law.nd rfl (Or.inl rfl))
        (pss_cons (ps_set (i := 3) sc_law.nd rfl (Or.inr rfl) (pe_call G__law_take (hr.mono (by decide)) rfl T.c__law_take.m T.c__law_take.F.kp T.c__law_take.b .nil pass0 (pa_cons (pv 1) (pa_cons pe_int pa_nil))))
        (pss_cons (ps_setLc (i := 4) (own := [("_law_k", 6)]) (g := gName 6) (tt := tYes) rfl sc_law.nd rfl rfl (by rfl) (pi_range1 rfl T.n_range (pa_cons (pe_op op_add pe_int (pe_call G__law_take (hr.mono (by decide)) rfl T.c__law_take.m T.c__law_take.F.kp T.c__law_take.b .nil pass0 (pa_cons (pv 1) (pa_cons pe_int pa_nil)))) pa_nil)) (blkOk_by (N := ["_law_script", "_law_stream", "_law_turn", "_law_kind", "_law_things", "_law_kept", "_law_k"]) (sc := defScope s_law) (by decide +kernel)) (fun _ _ _ _ _ => (pg_name (i := 6) sc_law.nd rfl (Or.inl rfl))) (fun _ _ _ _ _ => pts_nil) (fun _ _ _ _ _ => (pe_call G__law_thing_by (hr.mono (by decide)) rfl T.c__law_thing_by.m T.c__law_thing_by.F.kp T.c__law_thing_by.b .nil pass0 (pa_cons (pv 1) (pa_cons (pv 3) pa_nil)))))
        (pss_cons (ps_set (i := 5) sc_law.nd rfl (Or.inl rfl) (pe_callB (call_repr cl hr) (by rfl) T.n_repr PyProof.Rows.boot_repr (pa_cons (pv 4) pa_nil)))
        (pss_one (ps_if (PW.pt (pw_or (pt_not (pt_val (pe_callG G__law_plain_right cl (hr.mono (by decide)) rfl T.c__law_plain_right.m T.c__law_plain_right.F.kp T.c__law_plain_right.b .nil (pa_cons (pe_op op_cat (pv 4) (pe_slice sl_list (pv 4) po_none (po_some pe_int))) pa_nil)))) (pw_or (pt_cmpR op_ne (pe_callB (call_repr cl hr) (by rfl) T.n_repr PyProof.Rows.boot_repr (pa_cons (pv 4) pa_nil)) (pv 5) (nomark _)) (pw_or1 (pt_not (pt_val (pe_call G__law_doors_right (hr.mono (by decide)) rfl T.c__law_doors_right.m T.c__law_doors_right.F.kp T.c__law_doors_right.b .nil pass0 (pa_cons (pv 1) pa_nil))))))))
          (pss_one (ps_ret pe_bl))
          pss_nil))))))
      (pss_one (ps_ret pe_bl)))), ?_⟩
    have S := Hs.start0 H
    walk_at "st"
    walk_at "rd"
    rename_i p1 H2 hp1 S1
    refine ⟨sa, p1, _, _, rfl, rfl, S1.sq hs (by simp), S1.lst (by walk_at "mem"), by rw [sizeLine_eq]; simp; omega, fun p2 hp2 => ?_⟩
    obtain ⟨hp20, S2⟩ := S1.newAt (o := .lst (ns.map V.int ++ [V.int 0])) hp2
    rw [show ns.map V.int ++ [V.int 0] = (ns ++ [0]).map V.int by simp] at S2 ⊢
    walk_at "rd"
    rename_i p3 H3 hp3 S3 p4 H4 hp4 S4
    clear S1 S2 S S3
    generalize cutI (ns ++ [0]) none (some 63) = ns3 at S4
    have tb4 := tb.ext S4.same
    refine ⟨sa, _, rfl, Or.inl (S4.sq hs (by simp)), ?_⟩
    walk_at "rd"
    rw [List.length_map]
    have i1 := S4.is (p4, HO.lst [.ref p3, .int 0, .int 0, .int 7]) (by walk_at "mem")
    have i2 := S4.is (p3, HO.lst (ns3.map V.int)) (by walk_at "mem")
    have hne : p4 ≠ p3 := fun z => by
      have := S4.nd
      simp [z] at this
    dsimp only at i1 i2
    refine fw_range (fun i σ H' => ∃ (o2 o3 o4 o5 o6 : Option V) (l kk m : Int) (ns' : List Int), σ = [some (.ref sa), some (.ref p4), o2, o3, o4, o5, o6] ∧ H' p4 = some (stm p3 l kk m) ∧ H' p3 = some (.lst (ns'.map V.int)) ∧ LamX.Tabs TT H' ∧ 0 ≤ kk ∧ kk ≤ 200 * i)
      ⟨_, _, _, _, _, 0, 0, 7, ns3, rfl, i1, i2, tb4, by omega, by omega⟩ ?_ ?_
    · clear S4 tb4 i1 i2 tb hs
      rintro i σ H5 hi ⟨o2, o3, o4, o5, o6, l, kk, m, ns', rfl, i1, i2, tb, hk0, hk1⟩
      have hi20 : i < 20 := by
        revert hi
        split <;> intro hi <;> omega
      clear hi
      have S := Hs.start H5 [p4, p3] [(p4, stm p3 l kk m), (p3, .lst (ns'.map V.int))] (by simpa using hne) (by
        intro q hq
        simp only [List.mem_cons, List.not_mem_nil, or_false] at hq
        rcases hq with rfl | rfl
        · exact i1
        · exact i2) (by
        intro b hb
        simp only [List.mem_cons, List.not_mem_nil, or_false] at hb
        rcases hb with rfl | rfl
        · rw [i1]; simp
        · rw [i2]; simp)
      walk_at "rd"
      rename_i kd l1 m1 ns1 H6 S6 kd0 kd6 r l2 m2 ns2 H7 S7 r0 r5
      clear S S6
      have hrn : (1 + r).toNat ≤ 5 := by omega
      refine Xg.lcv_range S7 (fun j acc L' => ∃ (ds : List PyData) (N : Led) (l' k' m' : Int) (ns' : List Int), TGs acc ds N ∧ acc.length = j ∧ ds.length = j ∧ (∀ d ∈ ds, Kd kd d ∧ d.depth ≤ 2) ∧ tams ds = true ∧ Rs.cnts ds ≤ 30 * j ∧ PyData.depthAll ds ≤ 2 ∧ (∀ q ∈ N, H5 q.1 = none) ∧ kk + 2 ≤ k' ∧ k' ≤ kk + 2 + 20 * j ∧ L' = N ++ stL p4 p3 l' k' m' ns')
        ⟨[], [], l2, kk + 1 + 1, m2, ns2, .nil, rfl, rfl, (fun d h => (nomatch h)), by simp [tams], by simp [Rs.cnts], by simp [PyData.depthAll], (fun q h => (nomatch h)), by omega, by omega, rfl⟩ ?_ ?_
      · rintro D j acc L' H8 hj ⟨ds, N, l', k', m', ns', tg, al, dl, hds, tm, cn1, dp1, nn, c2, c3, rfl⟩ hD S8
        clear S7
        have hj5 : j < 5 := by omega
        walk_at "lc"
        rename_i v d N1 l3 k3 m3 ns3 H9 g1 g2 g3 g4 g5 b0 b1 hN1 S9
        clear S8
        exact Xg.rd_lvPut (acc := acc) (L1 := (N1 ++ N) ++ stL p4 p3 l3 k3 m3 ns3) S9 (by walk_at "led") hD (Rs.sz' (by omega))
          ⟨ds ++ [d], N1 ++ N, l3, k3, m3, ns3, tg.snoc g1, by simp [al], by simp [dl], (fun e he => (List.mem_append.mp he).elim (hds e) (fun z => by rw [List.mem_singleton.mp z]; exact ⟨g2, g5⟩)), tams_snoc tm g3, by rw [cnts_snoc]; omega, depth_snoc dp1 g5, (fun q hq => (List.mem_append.mp hq).elim (hN1 q) (nn q)), by omega, by omega, rfl⟩
      · rintro D acc L' H8 ⟨ds, N, l', k', m', ns', tg, al, dl, hds, tm, cn1, dp1, nn, c2, c3, rfl⟩ hD S8
        clear S7
        have gD := tg.lst D
        have nat8 : NAt ((D, .lst acc) :: N) H8 := fun q hq => S8.is q (by
          rcases List.mem_cons.mp hq with rfl | hq
          · exact List.mem_cons_self
          · exact List.mem_cons_of_mem _ (List.mem_append_left _ hq))
        have tbOf : ∀ {HX : Hp} {L : Led}, Hs H5 [p4, p3] HX L → LamX.Tabs TT HX := fun {HX L} SX => by
          refine tabs_pers ⟨fun c r e => SX.old _ _ e ?_, fun c r e => SX.old _ _ e ?_⟩ (fun c ps e => SX.old _ _ e ?_) tb <;>
          · intro hm
            simp only [List.mem_cons, List.not_mem_nil, or_false] at hm
            rcases hm with rfl | rfl
            · rw [i1] at e; cases e
            · rw [i2] at e; cases e
        have tb8 := tbOf S8
        obtain ⟨kp, hkp⟩ : ∃ kp, (PyData.list ds).shown = kp := ⟨_, rfl⟩
        have rp : ∀ {Q : VK} {H' : Hp}, NAt ((D, .lst acc) :: N) H' → Q (.str kp) H' → rRepr K [.ref D] H' Q := fun hN q => ⟨.ref D, .list ds, rfl, gD.dp K _ hN, shw_tam (by simpa only [tam] using tm) (by simp only [Rs.cnt]; omega), by simp only [PyData.depth]; omega, by rw [hkp]; exact q⟩
        clear hkp
        walk_at "rd"
        refine rp nat8 ?_
        walk_at "rd"
        refine ⟨D, acc, rfl, S8.lst (by walk_at "mem"), fun q hq => ?_⟩
        rw [show cutV acc none (some 1) = acc.take 1 from Xd.cut_to acc 1]
        obtain ⟨_, S9⟩ := S8.new hq (.lst (acc.take 1))
        have s89 : Same H8 (upd H8 q (.lst (acc.take 1))) := same_new hq
        revert S9 s89
        generalize upd H8 q (.lst (acc.take 1)) = H9
        intro S9 s89
        refine Rs.rd_catL S9 (by walk_at "mem") (by walk_at "mem") (Rs.sz (by simp only [List.length_take]; omega)) fun q2 HA hq2 SA => ?_
        have natA : NAt ((D, .lst acc) :: N) HA := fun z hz => SA.is z (by
          rcases List.mem_cons.mp hz with rfl | hz
          · exact List.mem_cons_of_mem _ (List.mem_cons_of_mem _ List.mem_cons_self)
          · exact List.mem_cons_of_mem _ (List.mem_cons_of_mem _ (List.mem_cons_of_mem _ (List.mem_append_left _ hz))))
        have tbA := tbOf SA
        have e4 := SA.is (p4, stm p3 l' k' m') (List.mem_cons_of_mem _ (List.mem_cons_of_mem _ (List.mem_cons_of_mem _ (List.mem_append_right _ (by simp [stL])))))
        have e3 := SA.is (p3, .lst (ns'.map V.int)) (List.mem_cons_of_mem _ (List.mem_cons_of_mem _ (List.mem_cons_of_mem _ (List.mem_append_right _ (by simp [stL])))))
        have eq2 := SA.is (q2, .lst (acc ++ acc.take 1)) List.mem_cons_self
        dsimp only at e4 e3 eq2
        clear S8 S9 SA s89 hq hq2 nat8 tb8
        walk_at "rd"
        refine ⟨kd, q2, acc ++ acc.take 1, ds ++ ds.take 1, N, rfl, eq2, tg.more 1, (fun z hz => natA z (List.mem_cons_of_mem _ hz)), by simp [al, dl], (fun d hd => (List.mem_append.mp hd).elim (hds d) (fun z => hds d (List.mem_of_mem_take z))), by simp only [List.length_append, List.length_take]; omega, tbA, fun HB eB tB => ?_⟩
        have natB := natA.ext eB (fun z hz ps w => by
          rcases gD.lt z hz with ⟨_, e⟩ | ⟨_, e⟩ <;> rw [e] at w <;> cases w)
        have e4 := eB _ _ e4 (fun _ z => by cases z)
        have e3 := eB _ _ e3 (fun _ z => by cases z)
        clear natA tbA eq2 eB
        refine ⟨true, rfl, ?_⟩
        walk_at "if0"
        refine rp natB ?_
        walk_at "rd"
        refine rd_decF (by simp) ?_
        walk_at "rd"
        refine ⟨p4, p3, l', k', m', ns', rfl, e4, e3, hne, by omega, by omega, tB, fun HC l4 m4 ns4 h4 h3 old tC => ?_⟩
        refine ⟨true, rfl, ?_⟩
        walk_at "if0"
        exact ⟨_, _, _, _, _, l4, k' + 2, m4, ns4, rfl, h4, h3, tC, by omega, by omega⟩
    · rintro σ H5 ⟨_, _, _, _, _, _, _, _, _, rfl, _⟩
      walk_at "rd"
      exact k _
end
end K05

namespace K05
open PySem PySem.Spec PyProof.Rows L2 Rs Xc Xd Xg Xh Xi Xj Xk NdefX Xf Xq
theorem ok_law {P : Program} {w : World} {K : PySem.W.Frag} {mg : Str → Option Value} {base : Heap} {A : Ad} (T : Txt K mg w A) (TB : ∀ p ∈ [(A.cc__law_door, 456), (A.cc__law_doors_right, 463), (A.cc__law_plain_right, 451)], LamX.TabB base mg p.1 p.2) : FnG P w K mg base 18 A.f_law A.d_law ["_law_script"] (sp_law K) :=
  ok_law0 T (TB (A.cc__law_door, 456) (by simp)) (TB (A.cc__law_doors_right, 463) (by simp)) (TB (A.cc__law_plain_right, 451) (by simp))
theorem end_law (K : PySem.W.Frag) (H : Hp) (a : Addr) (ns : List Int) (hn : ns.length ≤ 63) (_ : ∀ z ∈ ns, Builtin.Int.intBits z ≤ 1048576) (hT : ∀ p ∈ [456, 463, 451], H p = some (.tbl #[])) (h : SqL K H a (ns.map V.int)) : sp_law K [.ref a] H (fun v _ => v = .bl true) E0 :=
  ⟨a, ns, rfl, h, hn, fun p hp => by
    simp only [TT, List.mem_cons, List.not_mem_nil, or_false] at hp
    rcases hp with rfl | rfl | rfl <;> exact LamX.TabS.nil (hT _ (by simp)), fun _ => rfl⟩
end K05

namespace K05
end K05
open PySem PySem.W PyProof.Rows
set_option maxRecDepth 100000 in
set_option maxHeartbeats 0 in
theorem PySem.Challenge.cw_runsort_k05_plain_ones_and_doors_holds : PySem.Challenge.rw_runsort_k05_plain_ones_and_doors.Holds := by
  w_on; o_law; k_head; (case hw => w_witness2)
  k_fill
  refine Xc.walkGT (ts := [456, 463, 451]) (n := 63) (k := 18) (st := K05.s_law) (x := "_law_script") (sp := K05.sp_law) rfl (by decide) rfl ⟨rfl, by decide, by decide⟩ (fun w h Y => PySem.W.km_in_of Y) (fun w h Y => PySem.W.km_tabs_of Y) rfl (fun _ _ _ _ _ _ _ => rfl) ?F K05.end_law
  case F =>
    intro w mg h KX G
    obtain ⟨A, T⟩ : ∃ A, K05.Txt _ mg w A := by
      refine' K05.all_mk (w := w) KX G ?a_SortError ?ini_SortError ?dic_SortError ?bex_SortError ?kpc_SortError ?xcl_SortError ?xga_SortError ?xgg_SortError ?xha_SortError ?xhn_SortError ?xht_SortError ?xhm_SortError ?rd_SortError ?rg_SortError ?a_BadAnswer ?ini_BadAnswer ?ovr_BadAnswer ?dic_BadAnswer ?sav_BadAnswer ?bex_BadAnswer ?tyc_BadAnswer ?kpc_BadAnswer ?xcl_BadAnswer ?xga_BadAnswer ?xgg_BadAnswer ?xha_BadAnswer ?xhn_BadAnswer ?xht_BadAnswer ?xhm_BadAnswer ?tk_BadAnswer_answer ?na_BadAnswer_answer ?a_BadAnswer___init__ ?y_BadAnswer___init__ ?l_BadAnswer___init__ ?e_BadAnswer___init__ ?k_BadAnswer___init__ ?v_BadAnswer ?a_BadKind ?ini_BadKind ?ovr_BadKind ?dic_BadKind ?sav_BadKind ?bex_BadKind ?tyc_BadKind ?kpc_BadKind ?xcl_BadKind ?xga_BadKind ?xgg_BadKind ?xha_BadKind ?xhn_BadKind ?xht_BadKind ?xhm_BadKind ?tk_BadKind_wanted ?na_BadKind_wanted ?a_BadKind___init__ ?y_BadKind___init__ ?l_BadKind___init__ ?e_BadKind___init__ ?k_BadKind___init__ ?v_BadKind ?a_BadPaper ?a_Flawed ?a_BadLine ?a_Busy ?a_Gone ?a_BadText ?a_BadNumber ?a_NoSuch ?a_TooMany ?a_Stopped ?a_Order ?pg_Order ?hd_Order ?po_Order ?sa_Order ?mk_Order ?kc_Order ?na_Order_own_rule ?na_Order_times_asked ?a_Order___init__ ?i_Order___init__ ?l_Order___init__ ?e_Order___init__ ?k_Order___init__ ?a_Order_counted ?i_Order_counted ?l_Order_counted ?e_Order_counted ?k_Order_counted ?a_Order_ahead ?i_Order_ahead ?l_Order_ahead ?e_Order_ahead ?k_Order_ahead ?a_Order_alike ?i_Order_alike ?l_Order_alike ?e_Order_alike ?k_Order_alike ?a_Order_many_asked ?i_Order_many_asked ?l_Order_many_asked ?e_Order_many_asked ?k_Order_many_asked ?rd_Order ?rg_Order ?vi_Order ?a_PlainOrder ?pg_PlainOrder ?hd_PlainOrder ?po_PlainOrder ?sa_PlainOrder ?mk_PlainOrder ?kc_PlainOrder ?na_PlainOrder_own_rule ?na_PlainOrder_times_asked ?a_PlainOrder___init__ ?i_PlainOrder___init__ ?l_PlainOrder___init__ ?e_PlainOrder___init__ ?k_PlainOrder___init__ ?a_PlainOrder_ahead ?i_PlainOrder_ahead ?l_PlainOrder_ahead ?e_PlainOrder_ahead ?k_PlainOrder_ahead ?a_PlainOrder_counted ?a_PlainOrder_alike ?a_PlainOrder_many_asked ?a_KeyOrder ?pg_KeyOrder ?hd_KeyOrder ?po_KeyOrder ?sa_KeyOrder ?mk_KeyOrder ?kc_KeyOrder ?na_KeyOrder_own_rule ?na_KeyOrder_times_asked ?na_KeyOrder_inner ?na_KeyOrder_own_key ?a_KeyOrder___init__ ?i_KeyOrder___init__ ?l_KeyOrder___init__ ?e_KeyOrder___init__ ?k_KeyOrder___init__ ?dl_KeyOrder ?do_KeyOrder ?dr_KeyOrder ?a_KeyOrder_ahead ?i_KeyOrder_ahead ?l_KeyOrder_ahead ?e_KeyOrder_ahead ?k_KeyOrder_ahead ?a_KeyOrder_counted ?a_KeyOrder_alike ?a_KeyOrder_many_asked ?a_DownOrder ?pg_DownOrder ?hd_DownOrder ?po_DownOrder ?sa_DownOrder ?mk_DownOrder ?kc_DownOrder ?na_DownOrder_own_rule ?na_DownOrder_times_asked ?na_DownOrder_inner ?a_DownOrder___init__ ?i_DownOrder___init__ ?l_DownOrder___init__ ?e_DownOrder___init__ ?k_DownOrder___init__ ?a_DownOrder_ahead ?i_DownOrder_ahead ?l_DownOrder_ahead ?e_DownOrder_ahead ?k_DownOrder_ahead ?a_DownOrder_counted ?a_DownOrder_alike ?a_DownOrder_many_asked ?a_ThenOrder ?pg_ThenOrder ?hd_ThenOrder ?po_ThenOrder ?sa_ThenOrder ?mk_ThenOrder ?kc_ThenOrder ?na_ThenOrder_own_rule ?na_ThenOrder_times_asked ?na_ThenOrder_inner ?na_ThenOrder_second_one ?a_ThenOrder___init__ ?i_ThenOrder___init__ ?l_ThenOrder___init__ ?e_ThenOrder___init__ ?k_ThenOrder___init__ ?a_ThenOrder_ahead ?i_ThenOrder_ahead ?l_ThenOrder_ahead ?e_ThenOrder_ahead ?k_ThenOrder_ahead ?a_ThenOrder_counted ?a_ThenOrder_alike ?a_ThenOrder_many_asked ?a_need_order ?l_need_order ?e_need_order ?k_need_order ?a__law_mixed ?l__law_mixed ?e__law_mixed ?k__law_mixed ?a__law_take ?l__law_take ?e__law_take ?k__law_take ?a__law_refusal ?l__law_refusal ?e__law_refusal ?k__law_refusal ?a__law_heard ?l__law_heard ?e__law_heard ?k__law_heard ?a__law_text_by ?l__law_text_by ?e__law_text_by ?k__law_text_by ?a__law_number_by ?l__law_number_by ?e__law_number_by ?k__law_number_by ?a__law_thing_by ?l__law_thing_by ?e__law_thing_by ?k__law_thing_by ?a__law_plain_right ?l__law_plain_right ?e__law_plain_right ?nt__law_plain_right ?ht__law_plain_right ?k__law_plain_right ?a__law_door ?l__law_door ?e__law_door ?nt__law_door ?ht__law_door ?k__law_door ?a__law_doors_right ?l__law_doors_right ?e__law_doors_right ?nt__law_doors_right ?ht__law_doors_right ?k__law_doors_right ?a_law ?l_law ?e_law ?k_law ?x_stat ?x_any_BadKind ?x_kit_BadKind ?x_i_Order ?x_kit_Order ?x_oha_Order ?x_ohm_Order ?x_i_PlainOrder ?x_kit_PlainOrder ?x_oha_PlainOrder ?x_ohm_PlainOrder ?x_i_KeyOrder ?x_kit_KeyOrder ?x_oha_KeyOrder ?x_ohm_KeyOrder ?x_i_DownOrder ?x_kit_DownOrder ?x_oha_DownOrder ?x_ohm_DownOrder ?x_i_ThenOrder ?x_kit_ThenOrder ?x_oha_ThenOrder ?x_ohm_ThenOrder ?x_io_int ?x_io_bool ?x_io_str ?x_io_non ?x_io_lst ?x_io_tup ?x_io_dct ?x_io_fun ?x_ohn ?x_oht ?z_len ?z_min ?z_range ?z_repr ?z_isinstance ?z_bool ?z_tuple ?z_TypeError ?z_IndexError ?z_OverflowError ?z_KeyError ?z_RuntimeError ?z_Exception
      (case a_SortError => k_is)
      (case ini_SortError => first | k_is | kx_is | kts_exm | kit_is | kernel_rfl)
      (case dic_SortError => first | k_is | kx_is | kts_exm | kit_is | kernel_rfl)
      (case bex_SortError => first | k_is | kx_is | kts_exm | kit_is | kernel_rfl)
      (case kpc_SortError => first | k_is | kx_is | kts_exm | kit_is | kernel_rfl)
      (case xcl_SortError => first | k_is | kx_is | kts_exm | kit_is | kernel_rfl)
      (case xga_SortError => first | k_is | kx_is | kts_exm | kit_is | kernel_rfl)
      (case xgg_SortError => first | k_is | kx_is | kts_exm | kit_is | kernel_rfl)
      (case xha_SortError => first | k_is | kx_is | kts_exm | kit_is | kernel_rfl)
      (case xhn_SortError => first | k_is | kx_is | kts_exm | kit_is | kernel_rfl)
      (case xht_SortError => first | k_is | kx_is | kts_exm | kit_is | kernel_rfl)
      (case xhm_SortError => first | k_is | kx_is | kts_exm | kit_is | kernel_rfl)
      (case rd_SortError => first | k_is | kx_is | kts_exm | kit_is | kernel_rfl)
      (case rg_SortError => first | k_is | kx_is | kts_exm | kit_is | kernel_rfl)
      (case a_BadAnswer => k_is)
      (case ini_BadAnswer => first | k_is | kx_is | kts_exm | kit_is | kernel_rfl)
      (case ovr_BadAnswer => first | k_is | kx_is | kts_exm | kit_is | kernel_rfl)
      (case dic_BadAnswer => first | k_is | kx_is | kts_exm | kit_is | kernel_rfl)
      (case sav_BadAnswer => first | k_is | kx_is | kts_exm | kit_is | kernel_rfl)
      (case bex_BadAnswer => first | k_is | kx_is | kts_exm | kit_is | kernel_rfl)
      (case tyc_BadAnswer => first | k_is | kx_is | kts_exm | kit_is | kernel_rfl)
      (case kpc_BadAnswer => first | k_is | kx_is | kts_exm | kit_is | kernel_rfl)
      (case xcl_BadAnswer => first | k_is | kx_is | kts_exm | kit_is | kernel_rfl)
      (case xga_BadAnswer => first | k_is | kx_is | kts_exm | kit_is | kernel_rfl)
      (case xgg_BadAnswer => first | k_is | kx_is | kts_exm | kit_is | kernel_rfl)
      (case xha_BadAnswer => first | k_is | kx_is | kts_exm | kit_is | kernel_rfl)
      (case xhn_BadAnswer => first | k_is | kx_is | kts_exm | kit_is | kernel_rfl)
      (case xht_BadAnswer => first | k_is | kx_is | kts_exm | kit_is | kernel_rfl)
      (case xhm_BadAnswer => first | k_is | kx_is | kts_exm | kit_is | kernel_rfl)
      (case tk_BadAnswer_answer => first | k_is | kx_is | kts_exm | kit_is | kernel_rfl)
      (case na_BadAnswer_answer => first | k_is | kx_is | kts_exm | kit_is | kernel_rfl)
      (case a_BadAnswer___init__ => k_is)
      (case y_BadAnswer___init__ => k_is)
      (case l_BadAnswer___init__ => k_is)
      (case e_BadAnswer___init__ => k_is)
      (case k_BadAnswer___init__ => k_is)
      (case v_BadAnswer => first | k_is | kx_is | kts_exm | kit_is | kernel_rfl)
      (case a_BadKind => k_is)
      (case ini_BadKind => first | k_is | kx_is | kts_exm | kit_is | kernel_rfl)
      (case ovr_BadKind => first | k_is | kx_is | kts_exm | kit_is | kernel_rfl)
      (case dic_BadKind => first | k_is | kx_is | kts_exm | kit_is | kernel_rfl)
      (case sav_BadKind => first | k_is | kx_is | kts_exm | kit_is | kernel_rfl)
      (case bex_BadKind => first | k_is | kx_is | kts_exm | kit_is | kernel_rfl)
      (case tyc_BadKind => first | k_is | kx_is | kts_exm | kit_is | kernel_rfl)
      (case kpc_BadKind => first | k_is | kx_is | kts_exm | kit_is | kernel_rfl)
      (case xcl_BadKind => first | k_is | kx_is | kts_exm | kit_is | kernel_rfl)
      (case xga_BadKind => first | k_is | kx_is | kts_exm | kit_is | kernel_rfl)
      (case xgg_BadKind => first | k_is | kx_is | kts_exm | kit_is | kernel_rfl)
      (case xha_BadKind => first | k_is | kx_is | kts_exm | kit_is | kernel_rfl)
      (case xhn_BadKind => first | k_is | kx_is | kts_exm | kit_is | kernel_rfl)
      (case xht_BadKind => first | k_is | kx_is | kts_exm | kit_is | kernel_rfl)
      (case xhm_BadKind => first | k_is | kx_is | kts_exm | kit_is | kernel_rfl)
      (case tk_BadKind_wanted => first | k_is | kx_is | kts_exm | kit_is | kernel_rfl)
      (case na_BadKind_wanted => first | k_is | kx_is | kts_exm | kit_is | kernel_rfl)
      (case a_BadKind___init__ => k_is)
      (case y_BadKind___init__ => k_is)
      (case l_BadKind___init__ => k_is)
      (case e_BadKind___init__ => k_is)
      (case k_BadKind___init__ => k_is)
      (case v_BadKind => first | k_is | kx_is | kts_exm | kit_is | kernel_rfl)
      (case a_BadPaper => k_is)
      (case a_Flawed => k_is)
      (case a_BadLine => k_is)
      (case a_Busy => k_is)
      (case a_Gone => k_is)
      (case a_BadText => k_is)
      (case a_BadNumber => k_is)
      (case a_NoSuch => k_is)
      (case a_TooMany => k_is)
      (case a_Stopped => k_is)
      (case a_Order => k_is)
      (case pg_Order => k_is)
      (case hd_Order => k_is)
      (case po_Order => k_is)
      (case sa_Order => k_is)
      (case mk_Order => k_is)
      (case kc_Order => k_is)
      (case na_Order_own_rule => k_is)
      (case na_Order_times_asked => k_is)
      (case a_Order___init__ => k_is)
      (case i_Order___init__ => k_is)
      (case l_Order___init__ => k_is)
      (case e_Order___init__ => k_is)
      (case k_Order___init__ => k_is)
      (case a_Order_counted => k_is)
      (case i_Order_counted => k_is)
      (case l_Order_counted => k_is)
      (case e_Order_counted => k_is)
      (case k_Order_counted => k_is)
      (case a_Order_ahead => k_is)
      (case i_Order_ahead => k_is)
      (case l_Order_ahead => k_is)
      (case e_Order_ahead => k_is)
      (case k_Order_ahead => k_is)
      (case a_Order_alike => k_is)
      (case i_Order_alike => k_is)
      (case l_Order_alike => k_is)
      (case e_Order_alike => k_is)
      (case k_Order_alike => k_is)
      (case a_Order_many_asked => k_is)
      (case i_Order_many_asked => k_is)
      (case l_Order_many_asked => k_is)
      (case e_Order_many_asked => k_is)
      (case k_Order_many_asked => k_is)
      (case rd_Order => first | k_is | kx_is | kts_exm | kit_is | kernel_rfl)
      (case rg_Order => first | k_is | kx_is | kts_exm | kit_is | kernel_rfl)
      (case vi_Order => first | k_is | kx_is | kts_exm | kit_is | kernel_rfl)
      (case a_PlainOrder => k_is)
      (case pg_PlainOrder => k_is)
      (case hd_PlainOrder => k_is)
      (case po_PlainOrder => k_is)
      (case sa_PlainOrder => k_is)
      (case mk_PlainOrder => k_is)
      (case kc_PlainOrder => k_is)
      (case na_PlainOrder_own_rule => k_is)
      (case na_PlainOrder_times_asked => k_is)
      (case a_PlainOrder___init__ => k_is)
      (case i_PlainOrder___init__ => k_is)
      (case l_PlainOrder___init__ => k_is)
      (case e_PlainOrder___init__ => k_is)
      (case k_PlainOrder___init__ => k_is)
      (case a_PlainOrder_ahead => k_is)
      (case i_PlainOrder_ahead => k_is)
      (case l_PlainOrder_ahead => k_is)
      (case e_PlainOrder_ahead => k_is)
      (case k_PlainOrder_ahead => k_is)
      (case a_PlainOrder_counted => k_is)
      (case a_PlainOrder_alike => k_is)
      (case a_PlainOrder_many_asked => k_is)
      (case a_KeyOrder => k_is)
      (case pg_KeyOrder => k_is)
      (case hd_KeyOrder => k_is)
      (case po_KeyOrder => k_is)
      (case sa_KeyOrder => k_is)
      (case mk_KeyOrder => k_is)
      (case kc_KeyOrder => k_is)
      (case na_KeyOrder_own_rule => k_is)
      (case na_KeyOrder_times_asked => k_is)
      (case na_KeyOrder_inner => k_is)
      (case na_KeyOrder_own_key => k_is)
      (case a_KeyOrder___init__ => k_is)
      (case i_KeyOrder___init__ => k_is)
      (case l_KeyOrder___init__ => k_is)
      (case e_KeyOrder___init__ => k_is)
      (case k_KeyOrder___init__ => k_is)
      (case dl_KeyOrder => k_is)
      (case do_KeyOrder => rfl)
      (case dr_KeyOrder => first | exact .cons ⟨_, rfl⟩ .nil | exact .cons rfl .nil)
      (case a_KeyOrder_ahead => k_is)
      (case i_KeyOrder_ahead => k_is)
      (case l_KeyOrder_ahead => k_is)
      (case e_KeyOrder_ahead => k_is)
      (case k_KeyOrder_ahead => k_is)
      (case a_KeyOrder_counted => k_is)
      (case a_KeyOrder_alike => k_is)
      (case a_KeyOrder_many_asked => k_is)
      (case a_DownOrder => k_is)
      (case pg_DownOrder => k_is)
      (case hd_DownOrder => k_is)
      (case po_DownOrder => k_is)
      (case sa_DownOrder => k_is)
      (case mk_DownOrder => k_is)
      (case kc_DownOrder => k_is)
      (case na_DownOrder_own_rule => k_is)
      (case na_DownOrder_times_asked => k_is)
      (case na_DownOrder_inner => k_is)
      (case a_DownOrder___init__ => k_is)
      (case i_DownOrder___init__ => k_is)
      (case l_DownOrder___init__ => k_is)
      (case e_DownOrder___init__ => k_is)
      (case k_DownOrder___init__ => k_is)
      (case a_DownOrder_ahead => k_is)
      (case i_DownOrder_ahead => k_is)
      (case l_DownOrder_ahead => k_is)
      (case e_DownOrder_ahead => k_is)
      (case k_DownOrder_ahead => k_is)
      (case a_DownOrder_counted => k_is)
      (case a_DownOrder_alike => k_is)
      (case a_DownOrder_many_asked => k_is)
      (case a_ThenOrder => k_is)
      (case pg_ThenOrder => k_is)
      (case hd_ThenOrder => k_is)
      (case po_ThenOrder => k_is)
      (case sa_ThenOrder => k_is)
      (case mk_ThenOrder => k_is)
      (case kc_ThenOrder => k_is)
      (case na_ThenOrder_own_rule => k_is)
      (case na_ThenOrder_times_asked => k_is)
      (case na_ThenOrder_inner => k_is)
      (case na_ThenOrder_second_one => k_is)
      (case a_ThenOrder___init__ => k_is)
      (case i_ThenOrder___init__ => k_is)
      (case l_ThenOrder___init__ => k_is)
      (case e_ThenOrder___init__ => k_is)
      (case k_ThenOrder___init__ => k_is)
      (case a_ThenOrder_ahead => k_is)
      (case i_ThenOrder_ahead => k_is)
      (case l_ThenOrder_ahead => k_is)
      (case e_ThenOrder_ahead => k_is)
      (case k_ThenOrder_ahead => k_is)
      (case a_ThenOrder_counted => k_is)
      (case a_ThenOrder_alike => k_is)
      (case a_ThenOrder_many_asked => k_is)
      (case a_need_order => k_is)
      (case l_need_order => k_is)
      (case e_need_order => k_is)
      (case k_need_order => k_is)
      (case a__law_mixed => k_is)
      (case l__law_mixed => k_is)
      (case e__law_mixed => k_is)
      (case k__law_mixed => k_is)
      (case a__law_take => k_is)
      (case l__law_take => k_is)
      (case e__law_take => k_is)
      (case k__law_take => k_is)
      (case a__law_refusal => k_is)
      (case l__law_refusal => k_is)
      (case e__law_refusal => k_is)
      (case k__law_refusal => k_is)
      (case a__law_heard => k_is)
      (case l__law_heard => k_is)
      (case e__law_heard => k_is)
      (case k__law_heard => k_is)
      (case a__law_text_by => k_is)
      (case l__law_text_by => k_is)
      (case e__law_text_by => k_is)
      (case k__law_text_by => k_is)
      (case a__law_number_by => k_is)
      (case l__law_number_by => k_is)
      (case e__law_number_by => k_is)
      (case k__law_number_by => k_is)
      (case a__law_thing_by => k_is)
      (case l__law_thing_by => k_is)
      (case e__law_thing_by => k_is)
      (case k__law_thing_by => k_is)
      (case a__law_plain_right => k_is)
      (case l__law_plain_right => k_is)
      (case e__law_plain_right => k_is)
      (case nt__law_plain_right => first | k_is | kernel_rfl)
      (case ht__law_plain_right => first | k_is | kernel_rfl)
      (case k__law_plain_right => k_is)
      (case a__law_door => k_is)
      (case l__law_door => k_is)
      (case e__law_door => k_is)
      (case nt__law_door => first | k_is | kernel_rfl)
      (case ht__law_door => first | k_is | kernel_rfl)
      (case k__law_door => k_is)
      (case a__law_doors_right => k_is)
      (case l__law_doors_right => k_is)
      (case e__law_doors_right => k_is)
      (case nt__law_doors_right => first | k_is | kernel_rfl)
      (case ht__law_doors_right => first | k_is | kernel_rfl)
      (case k__law_doors_right => k_is)
      (case a_law => k_is)
      (case l_law => k_is)
      (case e_law => k_is)
      (case k_law => k_is)
      (case x_stat => first | k_is | kx_is | kts_exm | kit_is | kernel_rfl)
      (case x_any_BadKind => first | k_is | kx_is | kts_exm | kit_is | kernel_rfl)
      (case x_kit_BadKind => first | k_is | kx_is | kts_exm | kit_is | kernel_rfl)
      (case x_i_Order => first | k_is | kx_is | kts_exm | kit_is | kernel_rfl)
      (case x_kit_Order => first | k_is | kx_is | kts_exm | kit_is | kernel_rfl)
      (case x_oha_Order => first | k_is | kx_is | kts_exm | kit_is | kernel_rfl)
      (case x_ohm_Order => first | k_is | kx_is | kts_exm | kit_is | kernel_rfl)
      (case x_i_PlainOrder => first | k_is | kx_is | kts_exm | kit_is | kernel_rfl)
      (case x_kit_PlainOrder => first | k_is | kx_is | kts_exm | kit_is | kernel_rfl)
      (case x_oha_PlainOrder => first | k_is | kx_is | kts_exm | kit_is | kernel_rfl)
      (case x_ohm_PlainOrder => first | k_is | kx_is | kts_exm | kit_is | kernel_rfl)
      (case x_i_KeyOrder => first | k_is | kx_is | kts_exm | kit_is | kernel_rfl)
      (case x_kit_KeyOrder => first | k_is | kx_is | kts_exm | kit_is | kernel_rfl)
      (case x_oha_KeyOrder => first | k_is | kx_is | kts_exm | kit_is | kernel_rfl)
      (case x_ohm_KeyOrder => first | k_is | kx_is | kts_exm | kit_is | kernel_rfl)
      (case x_i_DownOrder => first | k_is | kx_is | kts_exm | kit_is | kernel_rfl)
      (case x_kit_DownOrder => first | k_is | kx_is | kts_exm | kit_is | kernel_rfl)
      (case x_oha_DownOrder => first | k_is | kx_is | kts_exm | kit_is | kernel_rfl)
      (case x_ohm_DownOrder => first | k_is | kx_is | kts_exm | kit_is | kernel_rfl)
      (case x_i_ThenOrder => first | k_is | kx_is | kts_exm | kit_is | kernel_rfl)
      (case x_kit_ThenOrder => first | k_is | kx_is | kts_exm | kit_is | kernel_rfl)
      (case x_oha_ThenOrder => first | k_is | kx_is | kts_exm | kit_is | kernel_rfl)
      (case x_ohm_ThenOrder => first | k_is | kx_is | kts_exm | kit_is | kernel_rfl)
      (case x_io_int => first | k_is | kx_is | kts_exm | kit_is | kernel_rfl)
      (case x_io_bool => first | k_is | kx_is | kts_exm | kit_is | kernel_rfl)
      (case x_io_str => first | k_is | kx_is | kts_exm | kit_is | kernel_rfl)
      (case x_io_non => first | k_is | kx_is | kts_exm | kit_is | kernel_rfl)
      (case x_io_lst => first | k_is | kx_is | kts_exm | kit_is | kernel_rfl)
      (case x_io_tup => first | k_is | kx_is | kts_exm | kit_is | kernel_rfl)
      (case x_io_dct => first | k_is | kx_is | kts_exm | kit_is | kernel_rfl)
      (case x_io_fun => first | k_is | kx_is | kts_exm | kit_is | kernel_rfl)
      (case x_ohn => first | k_is | kx_is | kts_exm | kit_is | kernel_rfl)
      (case x_oht => first | k_is | kx_is | kts_exm | kit_is | kernel_rfl)
      (case z_len => k_is)
      (case z_min => k_is)
      (case z_range => k_is)
      (case z_repr => k_is)
      (case z_isinstance => k_is)
      (case z_bool => k_is)
      (case z_tuple => k_is)
      (case z_TypeError => k_is)
      (case z_IndexError => k_is)
      (case z_OverflowError => k_is)
      (case z_KeyError => k_is)
      (case z_RuntimeError => k_is)
      (case z_Exception => k_is)
    refine ⟨[(A.cc__law_door, 456), (A.cc__law_doors_right, 463), (A.cc__law_plain_right, 451)], rfl, ?_, ?_, _, _, T.c_law, fun base TB => K05.ok_law T TB⟩
    · intro p hp; simp only [List.mem_cons, List.not_mem_nil, or_false] at hp; rcases hp with rfl | rfl | rfl; exact T.nt__law_door; exact T.nt__law_doors_right; exact T.nt__law_plain_right
    · intro p hp; simp only [List.mem_cons, List.not_mem_nil, or_false] at hp; rcases hp with rfl | rfl | rfl; exact T.ht__law_door; exact T.ht__law_doors_right; exact T.ht__law_plain_right
