import PyProof.Rows.All
import Wide.All
import OpenK.AllK
import Wide.FinOn
import HandS.ForMost
import HandS.EndBits
import HandS.Defaults
import HandS.WideBits
import HandS.Style
import HandS.IsInst
import HandS.NoneIn
import HandS.More
import HandS.MakeKwOnly
import HandS.CallLocal
import HandS.SortKw
import HandS.TupMul
import HandS.TupAny
import KE.DataMinMax
import KE.KMinKey
import HandS.FStr
import HandS.SlotsOwn
import HandS.Codes
import HandS.Walk
import HandS.ExcInit
import KE.KExcInit
import HandS.ExcField
import HandS.ExcIs
import HandS.ExcOwn
import HandS.Lambda
import HandS.TryMany
import KE.KExcIs
import PyProof.Rows.RuleDivmod
import HandS.EndTab
import KE.KNestM
import HandS.WordsExc
import HandS.Conv
import HandS.SetFor
import PyProof.Rows.IntBool
import PyProof.StrReplace2
import HandS.DeepEq
import PyProof.Rows.SeqMore
import PyProof.Draws
import PyProof.EnumMake
import PyProof.TupleIter
import PyProof.ListStr
import HandS.ClsMeth
import HandS.ExcValue
import PyProof.StrBlock2
import PyProof.ReprNest
import KE.GoesEnumKw
import KE.GoesMore
import KE.GoesZip
import HandS.Nested
import PyProof.IsiBase
import PyProof.FactsAll.set
import PyProof.FactsAll.object
import KE.KUnpackStar
import HandS.Flow
import KE.KExcLine
import KE.RegKTryMore
import PySem.Challenge.RW_runsort_k30_merges_that_fit
set_option Elab.async false
set_option maxRecDepth 100000
set_option maxHeartbeats 4000000
namespace Rs
open PySem PySem.Spec PyProof.Rows L2

/-! ### a promise that is kept while no text of a container is under way -/
def Clr (A : Around) : Prop := A.guards = some []
theorem Clr.deep {A : Around} (c : Clr A) (e : Env) : Clr (A.deeper e) := c

structure FnG (P : Program) (w : World) (K : PySem.W.Frag) (mg : Str → Option Value) (base : Heap) (k : Nat) (f : Addr) (fd : FuncData) (ps : List Str) (sp : Sp) : Prop where
  many : ∀ vs H Q E, sp vs H Q E → vs.length = ps.length
  go : ∀ (A : Around) (o : List Env) (s : Shared) (H : Hp) (us : List Value) (a : Args) (vs : List V) (Q : VK) (E : XK), Clr A → Room k A → Env0 P w K mg base A o s H →
    BindsTo s fd a (ps.zip us) → Vals vs us → sp vs H Q E → codeAny (model P w) A (.call (.ref f) a) (CR CX0 o P w H s Q E) s
theorem FnG.up {P : Program} {w : World} {K : PySem.W.Frag} {mg : Str → Option Value} {base : Heap} {j k : Nat} {f : Addr} {fd : FuncData} {ps : List Str} {sp : Sp}
    (F : FnG P w K mg base j f fd ps sp) (h : j ≤ k) : FnG P w K mg base k f fd ps sp :=
  ⟨F.many, fun A o s H us a vs Q E c r => F.go A o s H us a vs Q E c (r.mono h)⟩
theorem FnG.of {P : Program} {w : World} {K : PySem.W.Frag} {mg : Str → Option Value} {base : Heap} {k : Nat} {f : Addr} {fd : FuncData} {ps : List Str} {sp : Sp}
    (F : FnOk P w K mg base CX0 k f fd ps sp) : FnG P w K mg base k f fd ps sp :=
  ⟨F.len, fun A o s H us a vs Q E _ r e b v h => F.run A o s H a us vs Q E r e b v h⟩

section
variable {P : Program} {w : World} {K : PySem.W.Frag} {mg : Str → Option Value} {base : Heap}
/-- a def by its body, as FnG -/
theorem defG {x qual : Str} {st : Stmt} {f : Addr} {fd : FuncData} {N ps : List Str} {k : Nat} {sp : Sp} (F : Fun K x qual st f fd) (S : FnScope N ps (defScope st))
    (many : ∀ vs H Q E, sp vs H Q E → vs.length = ps.length)
    (body : ∀ (cdv : Value) (A : Around) (o : List Env) (s : Shared) (H : Hp) (vs : List V) (Q : VK) (E : XK), Clr A →
      Room k (A.deeper (envOfC qual (defScope st) s.heap.objs.size f cdv)) → sp vs H Q E →
      ∃ t, PSs (cxOf CX0 P w K mg base N qual (defScope st) f cdv A o s H E).nox (defBody st) t ∧ t { nx := fun _ H' => Q .non H', rt := Q } (start N vs) H) :
    FnG P w K mg base (k + 1) f fd ps sp := by
  obtain ⟨oc, od, kV, doc, pm, an, cdv, ct, osl, rfl, lk, hcd⟩ := F.ex
  refine ⟨many, ?_⟩
  intro A o s H us a vs Q E c r e0 hb rv hsp
  obtain ⟨t, ht, hq⟩ := body cdv A o s H vs Q E c (r.deeper _) hsp
  have inK : ∀ b ob, K.lookup b = some ob → s.heap.get? b = some ob := fun b ob e => (e0.bs b ob (e0.mod.kin b ob e)).1
  have noL : s.heap.NoLimit := e0.mod.nolimit.keeps fun b ob e => (e0.bs b ob e).1
  refine codeAny_call_function r.depth (inK _ _ lk) rfl S.co S.gen rfl (PySem.W.codeRec_of inK hcd) (hb _ _ _ _ ?_)
  refine wpAny_newFunctionEnv_cells S.kind ?_ ?_
  · rintro ⟨n, v⟩ hy
    rcases S.par n (List.of_mem_zip hy).1 with q | q
    · exact Or.inl q
    · exact Or.inr ⟨q, PySem.W.cellsFrom_some _ _ _ (Or.inl q)⟩
  · intro env he s1 x1
    subst he
    refine ⟨noL.keeps x1.toInCall.keep, codeAny_func ?_⟩
    have J := inv_start (CX := CX0) (mg := mg) (E := E) (qual := qual) S r.hd e0 (many _ _ _ _ hsp) rv x1
    refine wpAny_mono (ht.nox.run [] s1 _ H _ J hq) ?_ ?_
    · intro fl s2 h2
      cases fl with
      | next => obtain ⟨_, H2, J2, q2⟩ := h2; exact ⟨V.non, H2, J2.os, J2.bare, J2.base, J2.hok, rfl, q2⟩
      | ret u => obtain ⟨v, _, H2, J2, r2, q2⟩ := h2; exact ⟨v, H2, J2.os, J2.bare, J2.base, J2.hok, r2, q2⟩
      | brk => obtain ⟨_, _, _, q2⟩ := h2; exact q2.elim
      | cont => obtain ⟨_, _, _, q2⟩ := h2; exact q2.elim
    · intro e s2 h2; exact h2
end

section
variable {X : Cx} {k : Nat} {f : Addr} {fd : FuncData} {ps : List Str} {sp : Sp} {dvs : List V} {ds : List Value} {x : Str} {p pos : Pos} {e : Expr} {es : List Expr} {t : TA}
theorem goG {pins : List (Addr × Obj)} {σ : L2.St} {H : Hp} {s : Shared} {Q : VK} {us : List Value} {vs : List V} (F : FnG X.prog X.w X.K X.mg X.base k f fd ps sp) (c : Clr X.A) (hr : Room k X.A)
    (hb : Binds X.K fd ps ds) (hd : Vals dvs ds) (I : Inv X pins σ H s) (r : Vals vs us) (h : sp (vs ++ dvs) H Q E0) : wpAny (model X.prog X.w) X.A (call (.ref f) us) (EP X pins σ Q) X.xe s := by
  have r2 := r.append hd
  have hl : (us ++ ds).length = ps.length := r2.length.symm.trans (F.many _ _ _ _ h)
  apply wpAny_call
  refine codeAny_mono (F.go X.A X.stack s H (us ++ ds) ⟨us, []⟩ (vs ++ dvs) Q E0 c hr I.env0 (hb s us I.kIn hl) r2 h) ?_
  intro q s2 h2
  match q, h2 with
  | .error _, h2 => exact h2.elim
  | .ok (.ret _), h2 => exact I.after h2
  | .ok .next, h2 => exact h2.elim
  | .ok .brk, h2 => exact h2.elim
  | .ok .cont, h2 => exact h2.elim
/-- f(e, ..) of such a def -/
theorem pe_callG (F : FnG X.prog X.w X.K X.mg X.base k f fd ps sp) (c : Clr X.A) (hr : Room k X.A) (hg : Gl X x) (hm : X.mg x = some (.ref f)) (hk : PySem.W.keepIn X.K (.ref f) = true)
    (hb : Binds X.K fd ps ds) (hd : Vals dvs ds) (ha : PA X (e :: es) t) (hdb : (x == ("__debug__" : Str)) = false := by decide)
    (he : starEach (e :: es) X.env = (false, eval e X.env) :: starEach es X.env := by rfl) (hpl : (backTo pos (starEach es X.env)).any (·.1) = false := by rfl) :
    PE X (.Call (.Name x p) (e :: es) [] pos) (tCall sp dvs E0 t) := by
  constructor
  intro pins s σ H Q I h
  apply wpAny_Call_Name_kw
  refine ld_glob I hg hm ?_ hdb
  refine PySem.W.callWith_K (h₀ := X.base) I.ok.mod.kin hk ?_ he hpl
  refine thn (ha.run pos pins s σ H _ I h) ?_
  rintro us s1 ⟨vs, H1, I1, r, q⟩
  exact ⟨I1.kIn, goG F c hr hb hd I1 r q⟩
theorem pe_callG0 (F : FnG X.prog X.w X.K X.mg X.base k f fd ps sp) (c : Clr X.A) (hr : Room k X.A) (hg : Gl X x) (hm : X.mg x = some (.ref f)) (hk : PySem.W.keepIn X.K (.ref f) = true)
    (hb : Binds X.K fd ps ds) (hd : Vals dvs ds) (hdb : (x == ("__debug__" : Str)) = false := by decide) : PE X (.Call (.Name x p) [] [] pos) (tCall sp dvs E0 tNil) := by
  constructor
  intro pins s σ H Q I h
  apply wpAny_Call_Name_kw
  refine ld_glob I hg hm ?_ hdb
  exact PySem.W.callWith_K0 I.kIn hk (goG (us := []) F c hr hb hd I .nil h)
end

/-! ### repr of data -/
/-- data that can be shown -/
structure Shw (d : PyData) : Prop where
  ok : d.showable = true
  sz : d.shown.length ≤ sizeLine
def rRepr (K : PySem.W.Frag) : List V → Hp → VK → Prop := fun xs H Q => ∃ x d, xs = [x] ∧ Dp K H x d ∧ Shw d ∧ d.depth ≤ 50 ∧ Q (.str d.shown) H
mutual
theorem dp_noDict {K : PySem.W.Frag} {H : Hp} : ∀ (d : PyData) (v : V), Dp K H v d → d.hasDict = false
  | .none, _, _ => by simp only [PyData.hasDict]
  | .bool _, _, _ => by simp only [PyData.hasDict]
  | .int _, _, _ => by simp only [PyData.hasDict]
  | .str _, _, _ => by simp only [PyData.hasDict]
  | .list ds, _, h => by
    cases h with
    | lst _ ha => simp only [PyData.hasDict]; exact dps_noDict ds _ ha
  | .tuple ds, _, h => by
    cases h with
    | tup _ ha => simp only [PyData.hasDict]; exact dps_noDict ds _ ha
  | .dict _, _, h => by cases h
theorem dps_noDict {K : PySem.W.Frag} {H : Hp} : ∀ (ds : List PyData) (vs : List V), DpAll K H vs ds → PyData.hasDictAll ds = false
  | [], _, _ => by simp only [PyData.hasDictAll]
  | d :: ds, _, h => by
    cases h with
    | cons h1 h2 => simp only [PyData.hasDictAll, dp_noDict d _ h1, dps_noDict ds _ h2, Bool.or_self]
end
section
variable {X : Cx}
theorem call_repr {k : Nat} (c : Clr X.A) (hr : Room k X.A) : CallR X (.builtin "repr") (rRepr X.K) := by
  intro pins s σ H xs us Q I r h
  obtain ⟨x, d, rfl, hd, hs, hdp, q⟩ := h
  cases r with
  | cons r1 r2 =>
    cases r2
    rename_i u
    have nd := dp_noDict d x hd
    obtain ⟨as, rd⟩ := Dp.reads I d x u hd r1
    have fin : ∀ h' t tk, (∀ b o, s.heap.get? b = some o → h'.get? b = some o) → EP X pins σ Q (.str d.shown t) { s with heap := h', toks := tk } :=
      fun h' t tk kp => ⟨.str d.shown, H, I.kept kp, ⟨t, rfl⟩, q⟩
    have un := hr.units
    have room : X.A.units + (d.depth + 1) < cLine := by omega
    cases x with
    | ref a =>
      cases (show u = Value.ref a from r1)
      exact repr_of_reads' (s := s) rd hs.ok (PyData.noDict_hsm nd) c room (fun _ _ e => e) fin hs.sz
    | non =>
      cases (show u = Value.none from r1)
      cases hd
      have e : PyData.shown .none = ("None" : Str) := by simp only [PyData.shown]
      rw [e] at q
      exact PySem.P.repr_of_none ⟨.str _, H, I.tok _, ⟨_, rfl⟩, q⟩
    | bl b =>
      cases (show u = Value.bool b from r1)
      cases hd
      have e : PyData.shown (.bool b) = ((if b then "True" else "False" : String) : Str) := by cases b <;> simp only [PyData.shown] <;> rfl
      rw [e] at q
      cases b <;> exact PySem.P.repr_of_bool ⟨.str _, H, I.tok _, ⟨_, rfl⟩, q⟩
    | int i =>
      obtain ⟨t, rfl⟩ := (show ∃ t, u = Value.int i t from r1)
      cases hd
      have e : PyData.shown (.int i) = ((toString i : String) : Str) := by simp only [PyData.shown]
      have z : i.natAbs.log2 < 1920 := by simpa [PyData.showable] using hs.ok
      rw [e] at q
      exact PySem.P.repr_of_int z ⟨.str _, H, I.tok _, ⟨_, rfl⟩, q⟩
    | str x =>
      obtain ⟨t, rfl⟩ := (show ∃ t, u = Value.str x t from r1)
      cases hd
      have e : PyData.shown (.str x) = reprText x := by simp only [PyData.shown]
      have z := hs.sz
      rw [e] at q z
      exact PySem.P.repr_of_str ⟨.str _, H, I.tok _, ⟨_, rfl⟩, q⟩ z
    | byt _ => cases hd
    | flt _ => cases hd
    | ty _ => cases hd
end

/-! ### slices with a step -/
/-- the places that a slice takes -/
def slIx (n : Nat) (lo hi st : Option Int) : List Nat := sliceRange (sliceBounds lo hi st n).1 (sliceBounds lo hi st n).2.1 (sliceBounds lo hi st n).2.2
def pickV (xs : List V) (lo hi st : Option Int) : List V := (slIx xs.length lo hi st).filterMap (xs[·]?)
theorem vals_pick {xs : List V} {us : List Value} (r : Vals xs us) : ∀ ix : List Nat, Vals (ix.filterMap (xs[·]?)) (ix.filterMap (us[·]?))
  | [] => .nil
  | i :: ix => by
    have ih := vals_pick r ix
    cases e : xs[i]? with
    | none =>
      have e' := r.none_of e
      rw [List.filterMap_cons_none e, List.filterMap_cons_none e']
      exact ih
    | some x =>
      obtain ⟨u, e', ru⟩ := r.get e
      rw [List.filterMap_cons_some e, List.filterMap_cons_some e']
      exact .cons ru ih
def tSl3 (K : PySem.W.Frag) (te : TE) (tl th ts : TO) : TE := fun σ H Q => te σ H fun x H1 => tl σ H1 fun l H2 => th σ H2 fun u H3 => ts σ H3 fun st H4 => ∃ a xs, x = .ref a ∧ SqL K H4 a xs ∧ st ≠ some 0 ∧
  ∀ p, H4 p = none → Q (.ref p) (upd H4 p (.lst (pickV xs l u st)))
section
variable {X : Cx}
theorem pe_slice3 {e : Expr} {te : TE} {lo hi st : Option Expr} {tl th ts : TO} {p2 pos : Pos} (he : PE X e te) (hl : PO X lo tl) (hh : PO X hi th) (hs : PO X st ts)
    (hsub : ∀ ov iv, subscripted (.Slice lo hi st p2) false ov iv = operate [ov, iv] (getItem ov iv) := by intro _ _; with_unfolding_all rfl) : PE X (.Subscript e (.Slice lo hi st p2) pos) (tSl3 X.K te tl th ts) := by
  constructor
  intro pins s σ H Q I h
  refine PyProof.Rows.Subscript_ (thn (he.run pins s σ H _ I h) ?_)
  rintro v s1 ⟨x, H1, I1, r1, q1⟩
  refine wpAny_Slice (thn (hl.run pins s1 σ H1 _ I1 q1) ?_)
  rintro vl s2 ⟨l, H2, I2, pl, q2⟩
  refine thn (hh.run pins s2 σ H2 _ I2 q2) ?_
  rintro vu s3 ⟨u, H3, I3, pu, q3⟩
  refine thn (hs.run pins s3 σ H3 _ I3 q3) ?_
  rintro vs s4 ⟨c, H4, I4, ps, a, xs, ex, hx, h0, q4⟩
  subst ex
  cases r1
  have I5 : Inv X pins σ H4 { s4 with heap := s4.heap.push { cls := .type "slice", data := .fields #[vl, vu, vs] } } := I4.kept (t' := s4.toks) fun b ob q => Heap.get?_push_of_some _ q
  obtain ⟨its, rv, ht, hz⟩ := I5.list hx
  have hlen : its.length = xs.length := rv.length.symm
  show wpAny (model X.prog X.w) X.A (subscriptTail e (.Slice lo hi st p2) (.ref a) (.ref s4.heap.objs.size)) (EP X pins σ Q) X.xe _
  refine tail_any (ops := [.ref a, .ref s4.heap.objs.size]) ht.isList.typeIs PySem.slot_list_getitem.lookup ?_ (hsub _ _)
  refine wpAny_getItem_list_slice ht.isList (Heap.IsSliceOf.new _ vl vu vs) pl pu ps h0 ?_ (by rw [List.size_toArray, hlen]; exact hz)
  have hp : PySem.slicePick its.toArray l u c = ((slIx xs.length l u c).filterMap (its[·]?)).toArray := by
    unfold PySem.slicePick slIx
    rw [List.size_toArray, hlen]
    simp only [List.getElem?_toArray]
  have hn := PySem.slicePick_size_le its.toArray l u c
  rw [hp, List.size_toArray, List.size_toArray, hlen] at hn
  rw [hp]
  refine ⟨.ref _, _, I5.laid (t' := s4.toks) (o := .lst (pickV xs l u c)) (fun b ob q => Heap.get?_push_of_some _ q) (Nat.le_refl _) ?_, rfl, q4 _ (I5.hok.fresh (Nat.le_refl _))⟩
  refine ⟨?_, _, 0, vals_pick rv _, Heap.get?_push_size _ rfl⟩
  have e := (vals_pick rv (slIx xs.length l u c)).length
  show (List.filterMap (fun i => xs[i]?) (slIx xs.length l u c)).length ≤ sizeLine
  rw [e]
  exact Nat.le_trans hn hz
end

/-! ### a call by keywords alone -/
section
variable {X : Cx} {CX : CXT} {k : Nat} {f : Addr} {fd : FuncData} {ps ks : List Str} {sp : Sp} {E : XK} {x : Str} {p pos : Pos} {kws : List Keyword} {tk : TA} {g : List Value → List Value → List Value} {gV : List V → List V → List V}
theorem pe_callK0 (F : FnOk X.prog X.w X.K X.mg X.base CX k f fd ps sp) (hr : Room k X.A) (hg : Gl X x) (hm : X.mg x = some (.ref f)) (hk : PySem.W.keepIn X.K (.ref f) = true) (hb : KBn X.K fd ps 0 ks g gV) (hx : Passes CX X E)
    (hkw : PK X kws tk) (hall : (backToKw pos (keywordEach kws X.env)).all (·.1.isSome) = true := by rfl) (hks : (backToKw pos (keywordEach kws X.env)).filterMap (·.1) = ks := by rfl)
    (hdb : (x == ("__debug__" : Str)) = false := by decide) : PE X (.Call (.Name x p) [] kws pos) (tCallN 0 ks.length sp gV E tNil tk) := by
  constructor
  intro pins s σ H Q I h
  apply wpAny_Call_Name_kw
  refine ld_glob I hg hm ?_ hdb
  have np : ((backTo pos (starEach [] X.env)).any (·.1) || (backToKw pos (keywordEach kws X.env)).any (·.1.isNone)) = false := by
    have z : ∀ l : List (Option Str × Sem Value), l.all (·.1.isSome) = true → l.any (·.1.isNone) = false := by
      intro l hl
      induction l with
      | nil => rfl
      | cons q l ih =>
        simp only [List.all_cons, Bool.and_eq_true] at hl
        simp only [List.any_cons, ih hl.2, Bool.or_false]
        cases e : q.1 with
        | none => rw [e] at hl; exact absurd hl.1 (by decide)
        | some _ => rfl
    rw [z _ hall]; rfl
  refine PySem.W.callWith_KW0 (h₀ := X.base) I.ok.mod.kin hk hall ?_ np
  refine thn (hkw.run pos pins s σ H _ I h) ?_
  rintro ws s1 ⟨zs, H1, I1, rz, _, l2, q⟩
  refine ⟨I1.kIn, ?_⟩
  rw [hks]
  exact run_fnN (us := []) F hr hb hx I1 .nil rz rfl l2 q
end

/-! ### the law's own call -/
/-- the heap that knows of nothing but the script (at a, where it stands apart) -/
def scriptH (own : Bool) (a : Addr) (o : Obj) (ns : List Int) : Hp := fun b => if own = true ∧ b = a then some (.frz o (.lst (ns.map V.int))) else none
theorem scriptH_only (own : Bool) (a : Addr) (o : Obj) (ns : List Int) : Only (scriptH own a o ns) := fun b => by
  unfold scriptH
  split
  · exact Or.inr ⟨_, _, rfl⟩
  · exact Or.inl rfl
theorem scriptH_some {own : Bool} {a b : Addr} {o : Obj} {ns : List Int} {u : HO} (h : scriptH own a o ns b = some u) : own = true ∧ b = a ∧ u = .frz o (.lst (ns.map V.int)) := by
  unfold scriptH at h
  split at h
  · rename_i z; exact ⟨z.1, z.2, (Option.some.inj h).symm⟩
  · cases h
theorem lawG {P : Program} {w : World} {K : PySem.W.Frag} {mg mb : Str → Option Value} {k : Nat} {fa a : Addr} {fd : FuncData} {x : Str} {sp : Sp} {s : Shared} {vs : List Value} {ns : List Int}
    (KX : K.In s.heap) (hm : s.heap.Ns mainGlobals mg) (hb : s.heap.Ns builtinsNs mb) (hbb : ∀ x : Str, x ≠ "__name__" → mb x = bootBuiltins x) (hlim : s.heap.NoLimit) (hg : s.gens = #[])
    (ha : s.heap.get? a = some { cls := .type "list", data := .seq vs.toArray }) (hi : IntsAre vs ns) (hl : ns.length ≤ sizeLine) (hr : Room k callerA)
    (F : ∀ base : Heap, K.In base → base.Ns mainGlobals mg → FnG P w K mg base k fa fd [x] sp) (hbind : ∀ (s : Shared) (u : Value), BindsTo s fd ⟨[u], []⟩ [(x, u)])
    (hsp : ∀ H : Hp, Only H → SqL K H a (ns.map V.int) → sp [.ref a] H (fun v _ => v = .bl true) E0) :
    codeAny (model P w) callerA (.call (.ref fa) ⟨[.ref a], []⟩) (fun r s' => r = .ok (.ret (.bool true)) ∧ OldK s.heap s'.heap ∧ s'.os = s.os ∧ AllBare s'.gens) s := by
  have rv := vals_ints hi
  have lv := hi.length
  -- own: the script is no object of the written part
  have key : ∀ own : Bool, (own = true → K.lookup a = none) → (own = false → ∃ o, K.lookup a = some o) →
      codeAny (model P w) callerA (.call (.ref fa) ⟨[.ref a], []⟩) (fun r s' => r = .ok (.ret (.bool true)) ∧ OldK s.heap s'.heap ∧ s'.os = s.os ∧ AllBare s'.gens) s := by
    intro own h1 h2
    have hO := scriptH_only own a { cls := .type "list", data := .seq vs.toArray } ns
    have hS := fun {b : Addr} {u : HO} => scriptH_some (own := own) (a := a) (b := b) (o := { cls := .type "list", data := .seq vs.toArray }) (ns := ns) (u := u)
    generalize eH : scriptH own a { cls := .type "list", data := .seq vs.toArray } ns = H at hO hS
    have frs0 : ∀ {b : Addr} {o : Obj} {es : Array DictEntry} {n : Nat}, s.heap.get? b = some o → o.data = .dict es n → H b = none := by
      intro b o es n e d
      cases q : H b with
      | none => rfl
      | some u =>
        obtain ⟨_, rfl, _⟩ := hS q
        rw [ha] at e
        cases e
        have d' : Data.seq vs.toArray _ = Data.dict es n := d
        cases d'
    have ns0 : ∀ {b : Addr} {m : Str → Option Value}, s.heap.Ns b m → (hidT s.heap H).Ns b m := by
      rintro b m ⟨o, es, n, e, d, r⟩
      exact ⟨o, es, n, hidT_get e (frs0 e d), d, r⟩
    have K0 : K.In (hidT s.heap H) := by
      intro b o e
      refine hidT_get (KX b o e) ?_
      cases q : H b with
      | none => rfl
      | some u =>
        obtain ⟨z, rfl, _⟩ := hS q
        rw [h1 z] at e
        cases e
    have hok : HOk P w H s.heap := by
      intro b u q
      obtain ⟨_, rfl, rfl⟩ := hS q
      exact ⟨ha, by rw [List.length_map]; exact hl, vs, _, rv, ha⟩
    have M0 : Mod K mg (hidT s.heap H) := by
      refine ⟨K0, ns0 hm, ⟨mb, ns0 hb, hbb⟩, ?_⟩
      obtain ⟨mc, q1, q2⟩ := hlim
      exact ⟨mc, ns0 q1, q2⟩
    have env : Env0 P w K mg (hidT s.heap H) callerA [] s H := by
      refine ⟨rfl, M0, fun b o e => of_hidT e, Nat.le_of_eq (hidT_size _ _), trivial, ?_, hok, .of_eq hg⟩
      intro b hb'
      cases hb'
    have sq : SqL K H a (ns.map V.int) := by
      cases own with
      | true => exact Or.inl (Or.inr ⟨_, by rw [← eH]; exact if_pos ⟨rfl, rfl⟩⟩)
      | false =>
        obtain ⟨o, e⟩ := h2 rfl
        have e' := KX a o e
        rw [ha] at e'
        cases e'
        exact Or.inr ⟨_, vs.toArray, _, e, rfl, rfl, rfl, by rw [List.size_toArray, lv]; exact hl, by simpa using rv⟩
    refine codeAny_mono ((F _ K0 (ns0 hm)).go callerA [] s H [.ref a] ⟨[.ref a], []⟩ [.ref a] _ E0 rfl hr env (hbind s (.ref a)) (.cons rfl .nil) (hsp H hO sq)) ?_
    intro r s' h
    match r, h with
    | .error _, h => exact h.elim
    | .ok .next, h => exact h.elim
    | .ok .brk, h => exact h.elim
    | .ok .cont, h => exact h.elim
    | .ok (.ret u), h =>
      obtain ⟨v, H', os, bare, un, hok', r', q⟩ := h
      cases (show v = .bl true from q)
      cases (show u = Value.bool true from r')
      refine ⟨rfl, OldK.of_keep ?_, os, bare⟩
      intro b o e
      cases q : H b with
      | none => exact un.keep b o e q (fun z => nomatch z) (fun z => nomatch z)
      | some u =>
        obtain ⟨_, rfl, rfl⟩ := hS q
        rw [ha] at e
        cases e
        obtain ⟨e2, _⟩ := hok' b _ (un.frzs b _ _ q)
        exact e2
  cases hk : K.lookup a with
  | some o => exact key false (fun z => Bool.noConfusion z) (fun _ => ⟨o, hk⟩)
  | none => exact key true (fun _ => hk) (fun z => Bool.noConfusion z)
theorem walkG {l : PySem.W.OpenLaw} {n k : Nat} {q : Program} {loose : List Str} {XP : (Str → Option Value) → Heap → Prop} {YP : World → Heap → Prop} {d : DefRec} {K : Params → PySem.W.Frag} {sp : PySem.W.Frag → Sp} {x : Str}
    (hn : l.most = some n) (hn2 : n ≤ sizeLine) (hdf : d.params.defaults = []) (hr : Room k callerA) (hY : ∀ (w : World) (h : Heap), YP w h → (K w.params).In h)
    (F : ∀ (w : World) (mg : Str → Option Value) (fa : Addr) (h : Heap), (K w.params).In h → h.Ns mainGlobals mg → mg d.name = some (.ref fa) →
      ∃ fd : FuncData, (∀ (s : Shared) (u : Value), BindsTo s fd ⟨[u], []⟩ [(x, u)]) ∧
        ∀ base : Heap, (K w.params).In base → base.Ns mainGlobals mg → FnG l.prog w (K w.params) mg base k fa fd [x] (sp (K w.params)))
    (hsp : ∀ (K : PySem.W.Frag) (H : Hp) (a : Addr) (ns : List Int), ns.length ≤ n → (∀ z ∈ ns, Builtin.Int.intBits z ≤ 1048576) → SqL K H a (ns.map V.int) → sp K [.ref a] H (fun v _ => v = .bl true) E0) :
    PySem.W.WalkO q loose XP YP l.row.toRowW d [] (fun f vs => PySem.call f vs) := by
  apply Att.attach_callB hn hdf
  intro w s0 s1 mg mb fa o pm cd doc a vs ns G Y ho hd hcd hmg hobj hints hlen hbits hg
  have KX := hY w _ Y
  obtain ⟨fd, hb, hF⟩ := F w mg fa _ KX G.T.g hmg
  exact lawG KX G.T.g G.T.b G.T.builtins G.T.nolimit hg hobj hints (Nat.le_trans hlen hn2) hr hF hb fun H _ hS => hsp _ H a ns hlen hbits hS
end Rs

namespace Rs
open PySem PySem.Spec PyProof.Rows L2

/-! ### what is known of the heap -/
abbrev Led := List (Addr × HO)
/-- H0: the heap at the entry; M: the objects of it that may have changed; L: what stands now -/
structure Hs (H0 : Hp) (M : List Addr) (H : Hp) (L : Led) : Prop where
  nd : (L.map (·.1)).Nodup
  is : ∀ q ∈ L, H q.1 = some q.2
  old : ∀ b o, H0 b = some o → b ∉ M → H b = some o
  mu : ∀ b ∈ M, H b ≠ none
/-- one entry exchanged -/
inductive Chg (a : Addr) (o o' : HO) : Led → Led → Prop where
  | here {L : Led} : Chg a o o' ((a, o) :: L) ((a, o') :: L)
  | there {q : Addr × HO} {L L' : Led} : Chg a o o' L L' → Chg a o o' (q :: L) (q :: L')
theorem Chg.keys {a : Addr} {o o' : HO} {L L' : Led} (c : Chg a o o' L L') : L'.map (·.1) = L.map (·.1) := by
  induction c with
  | here => rfl
  | there _ ih => simp only [List.map_cons, ih]
theorem Chg.mem {a : Addr} {o o' : HO} {L L' : Led} (c : Chg a o o' L L') : (a, o) ∈ L := by
  induction c with
  | here => exact List.mem_cons_self
  | there _ ih => exact List.mem_cons_of_mem _ ih
theorem Chg.of {a : Addr} {o o' : HO} {L L' : Led} (c : Chg a o o' L L') (nd : (L.map (·.1)).Nodup) : ∀ q ∈ L', q = (a, o') ∨ (q ∈ L ∧ q.1 ≠ a) := by
  induction c with
  | @here L =>
    intro q hq
    rcases List.mem_cons.mp hq with e | hq
    · exact Or.inl e
    · refine Or.inr ⟨List.mem_cons_of_mem _ hq, ?_⟩
      intro e
      simp only [List.map_cons, List.nodup_cons] at nd
      exact nd.1 (e ▸ List.mem_map_of_mem hq)
  | @there p L L' c ih =>
    intro q hq
    simp only [List.map_cons, List.nodup_cons] at nd
    rcases List.mem_cons.mp hq with e | hq
    · subst e
      refine Or.inr ⟨List.mem_cons_self, ?_⟩
      intro e
      exact nd.1 (e ▸ List.mem_map_of_mem (f := (·.1)) c.mem)
    · rcases ih nd.2 q hq with e | ⟨h1, h2⟩
      · exact Or.inl e
      · exact Or.inr ⟨List.mem_cons_of_mem _ h1, h2⟩
section
variable {H0 H H' : Hp} {M : List Addr} {L L' : Led} {a : Addr} {o o' : HO}
theorem Hs.new (S : Hs H0 M H L) (hp : H a = none) (o : HO) : H0 a = none ∧ Hs H0 M (upd H a o) ((a, o) :: L) := by
  have n0 : H0 a = none := by
    cases e : H0 a with
    | none => rfl
    | some u =>
      by_cases hm : a ∈ M
      · exact absurd hp (S.mu a hm)
      · have := S.old a u e hm
        rw [hp] at this
        cases this
  have ne : ∀ q ∈ L, q.1 ≠ a := fun q hq e => by
    have := S.is q hq
    rw [e, hp] at this
    cases this
  refine ⟨n0, ?_, ?_, ?_, ?_⟩
  · simp only [List.map_cons, List.nodup_cons]
    refine ⟨fun hm => ?_, S.nd⟩
    obtain ⟨q, hq, e⟩ := List.mem_map.mp hm
    exact ne q hq e
  · intro q hq
    rcases List.mem_cons.mp hq with e | hq
    · subst e; exact upd_same
    · rw [upd_ne (ne q hq)]; exact S.is q hq
  · intro b u e hm
    have hb : b ≠ a := fun z => by rw [z, n0] at e; cases e
    rw [upd_ne hb]
    exact S.old b u e hm
  · intro b hb
    unfold upd
    split
    · simp
    · exact S.mu b hb
theorem Hs.put (S : Hs H0 M H L) (c : Chg a o o' L L') (hm : H0 a = none ∨ a ∈ M) : Hs H0 M (upd H a o') L' := by
  refine ⟨by rw [c.keys]; exact S.nd, ?_, ?_, ?_⟩
  · intro q hq
    rcases c.of S.nd q hq with e | ⟨h1, h2⟩
    · subst e; exact upd_same
    · rw [upd_ne h2]; exact S.is q h1
  · intro b u e hb
    have ne : b ≠ a := fun z => by
      subst z
      rcases hm with z | z
      · rw [z] at e; cases e
      · exact hb z
    rw [upd_ne ne]
    exact S.old b u e hb
  · intro b hb
    unfold upd
    split
    · simp
    · exact S.mu b hb
/-- behind a call that changed at most the objects of C (each fresh or in M), and left L' -/
theorem Hs.call (S : Hs H0 M H L) {C : List Addr} (k : ∀ b u, H b = some u → b ∉ C → H' b = some u) (hC : ∀ b ∈ C, (H0 b = none ∨ b ∈ M) ∧ H' b ≠ none) (nd : (L'.map (·.1)).Nodup)
    (is : ∀ q ∈ L', H' q.1 = some q.2) : Hs H0 M H' L' := by
  refine ⟨nd, is, ?_, ?_⟩
  · intro b u e hb
    refine k b u (S.old b u e hb) fun hc => ?_
    rcases (hC b hc).1 with z | z
    · rw [z] at e; cases e
    · exact hb z
  · intro b hb
    by_cases hc : b ∈ C
    · exact (hC b hc).2
    · intro z
      cases e : H b with
      | none => exact S.mu b hb e
      | some u =>
        rw [k b u e hc] at z
        cases z
/-- nothing was changed -/
theorem Hs.more (S : Hs H0 M H L) (k : Same H H') : Hs H0 M H' L :=
  S.call (C := []) (fun b u e _ => k b u e) (fun b hb => nomatch hb) S.nd fun q hq => k _ _ (S.is q hq)
/-- nothing was changed, one object is new -/
theorem Hs.more1 (S : Hs H0 M H L) (k : Same H H') (hp : H a = none) (h' : H' a = some o) : H0 a = none ∧ Hs H0 M H' ((a, o) :: L) := by
  obtain ⟨n0, S'⟩ := S.new hp o
  refine ⟨n0, (S.more k).call (C := []) (fun b u e _ => e) (fun b hb => nomatch hb) S'.nd ?_⟩
  intro q hq
  rcases List.mem_cons.mp hq with e | hq
  · subst e; exact h'
  · exact k _ _ (S.is q hq)
/-- one object was changed, to o' -/
theorem Hs.one (S : Hs H0 M H L) (c : Chg a o o' L L') (hm : H0 a = none ∨ a ∈ M) (k : ∀ b u, H b = some u → b ≠ a → H' b = some u) (h' : H' a = some o') : Hs H0 M H' L' := by
  have S' := S.put c hm
  refine S.call (C := [a]) (fun b u e hb => k b u e fun z => hb (by simp [z])) ?_ S'.nd ?_
  · intro b hb
    have e : b = a := by simpa using hb
    subst e
    exact ⟨hm, by rw [h']; simp⟩
  · intro q hq
    rcases c.of S.nd q hq with e | ⟨h1, h2⟩
    · subst e; exact h'
    · exact k _ _ (S.is q h1) h2
/-- one object was changed, one is new -/
theorem Hs.one1 {p : Addr} {u : HO} (S : Hs H0 M H L) (c : Chg a o o' L L') (hm : H0 a = none ∨ a ∈ M) (k : ∀ b u, H b = some u → b ≠ a → H' b = some u) (h' : H' a = some o') (hp : H p = none) (hp' : H' p = some u) : H0 p = none ∧ Hs H0 M H' ((p, u) :: L') := by
  have S' := S.one c hm k h'
  have S2 := S.new hp u
  refine ⟨S2.1, ?_, ?_, S'.old, S'.mu⟩
  · simp only [List.map_cons, List.nodup_cons]
    refine ⟨fun hq => ?_, S'.nd⟩
    rw [c.keys] at hq
    obtain ⟨q, hq, e⟩ := List.mem_map.mp hq
    have := S.is q hq
    rw [e, hp] at this
    cases this
  · intro q hq
    rcases List.mem_cons.mp hq with e | hq
    · subst e; exact hp'
    · exact S'.is q hq
theorem Hs.sub (S : Hs H0 M H L) (h : L'.Sublist L) : Hs H0 M H L' := ⟨S.nd.sublist (h.map _), fun q hq => S.is q (h.subset hq), S.old, S.mu⟩
theorem Hs.start (H : Hp) (M : List Addr) (L : Led) (nd : (L.map (·.1)).Nodup) (is : ∀ q ∈ L, H q.1 = some q.2) (hM : ∀ b ∈ M, H b ≠ none) : Hs H M H L := ⟨nd, is, fun b u e _ => e, hM⟩
theorem Hs.start0 (H : Hp) : Hs H [] H [] := ⟨List.nodup_nil, fun q hq => (nomatch hq), fun b u e _ => e, fun b hb => nomatch hb⟩
theorem Hs.start1 {H : Hp} {a : Addr} {o : HO} (h : H a = some o) (M : List Addr) (hM : M = [] ∨ M = [a]) : Hs H M H [(a, o)] := by
  refine ⟨by simp, fun q hq => ?_, fun b u e _ => e, fun b hb => ?_⟩
  · have e : q = (a, o) := by simpa using hq
    subst e; exact h
  · rcases hM with rfl | rfl
    · cases hb
    · have e : b = a := by simpa using hb
      subst e; rw [h]; simp
theorem Hs.get (S : Hs H0 M H L) (m : (a, o) ∈ L) : H a = some o := S.is _ m
theorem Hs.old1 {d b : Addr} {u : HO} (S : Hs H0 [d] H L) (e : H0 b = some u) (hb : b ≠ d) : H b = some u := S.old b u e (by simpa using hb)
theorem Hs.same (S : Hs H0 [] H L) : Same H0 H := fun b o e => S.old b o e (fun z => nomatch z)
theorem Hs.lst {K : PySem.W.Frag} {xs : List V} (S : Hs H0 M H L) (m : (a, HO.lst xs) ∈ L) : SqL K H a xs := SqL.of (S.is _ m)
theorem Hs.tup {K : PySem.W.Frag} {xs : List V} (S : Hs H0 M H L) (m : (a, HO.tup xs) ∈ L) : SqT K H a xs := SqT.of (S.is _ m)
/-- the script, or what else stands in the written part, at a list -/
theorem Hs.sq {K : PySem.W.Frag} {xs : List V} (S : Hs H0 M H L) (h : SqL K H0 a xs) (hm : a ∉ M) : SqL K H a xs := by
  rcases h with (h | ⟨u, h⟩) | h
  · exact Or.inl (Or.inl (S.old _ _ h hm))
  · exact Or.inl (Or.inr ⟨u, S.old _ _ h hm⟩)
  · exact Or.inr h
end

/-! ### readings, step by step -/
/-- the slots at the entry -/
def stV : List Str → List V → L2.St
  | [], _ => []
  | _ :: N, vs => vs.head? :: stV N vs.tail
theorem start_eq : ∀ (N : List Str) (vs : List V), vs.length ≤ N.length → L2.start N vs = stV N vs
  | [], [], _ => by simp [L2.start, stV]
  | [], v :: vs, h => by simp at h
  | n :: N, [], _ => by
    have ih := start_eq N [] (Nat.zero_le _)
    simp only [stV, List.tail_nil, ← ih]
    simp [L2.start, List.replicate_succ]
  | n :: N, v :: vs, h => by
    have ih := start_eq N vs (by simpa using h)
    simp only [stV, List.tail_cons, ← ih]
    simp [L2.start]
section
variable {σ : L2.St} {H H0 : Hp} {M : List Addr} {L L' : Led} {Q : VK} {v x y : V} {nx : L2.St → Hp → Prop} {rt : VK} {bk ct : L2.St → Hp → Prop} {t u : TS} {te ta tb tc : TE} {g : TG} {tt tu : TT} {r r' : R2} {A B : Prop}
theorem rd_start {t : TS} {D : Ends} {N : List Str} {vs : List V} (h : t D (stV N vs) H) (hl : vs.length ≤ N.length := by exact Nat.le_of_ble_eq_true rfl) : t D (L2.start N vs) H := by rw [start_eq N vs hl]; exact h
theorem rd_seq (h : t ⟨fun σ H => u ⟨nx, rt, bk, ct⟩ σ H, rt, bk, ct⟩ σ H) : tSeq t u ⟨nx, rt, bk, ct⟩ σ H := h
theorem rd_asg (h : te σ H fun x H1 => g x σ H1 nx) : tAsg te g ⟨nx, rt, bk, ct⟩ σ H := h
theorem rd_name {i : Nat} {σ' : L2.St} {N : L2.St → Hp → Prop} (e : σ.set i (some v) = σ') (h : N σ' H) : gName i v σ H N := by subst e; exact h
theorem rd_ret (h : te σ H rt) : tRet te ⟨nx, rt, bk, ct⟩ σ H := h
theorem rd_retN (h : rt .non H) : tRetN ⟨nx, rt, bk, ct⟩ σ H := h
theorem rd_drop (h : te σ H fun _ H1 => nx σ H1) : tDrop te ⟨nx, rt, bk, ct⟩ σ H := h
theorem rd_next (h : nx σ H) : tNext ⟨nx, rt, bk, ct⟩ σ H := h
theorem rd_ifS (h : tt σ H fun b H1 => if b = true then t ⟨nx, rt, bk, ct⟩ σ H1 else u ⟨nx, rt, bk, ct⟩ σ H1) : tIfS tt t u ⟨nx, rt, bk, ct⟩ σ H := h
theorem rd_par {i j : Nat} {ta : TA} (h : ta σ H fun vs H1 => ∃ v w, vs = [v, w] ∧ nx ((σ.set i (some v)).set j (some w)) H1) : tPar i j ta ⟨nx, rt, bk, ct⟩ σ H := h
theorem rd_par3 {i j l : Nat} {ta : TA} (h : ta σ H fun vs H1 => ∃ u v w, vs = [u, v, w] ∧ nx (((σ.set i (some u)).set j (some v)).set l (some w)) H1) : tPar3 i j l ta ⟨nx, rt, bk, ct⟩ σ H := h
theorem rd_two {R : V → V → Prop} (h : R x y) : ∃ v w, [x, y] = [v, w] ∧ R v w := ⟨_, _, rfl, h⟩
theorem rd_three {z : V} {R : V → V → V → Prop} (h : R x y z) : ∃ u v w, [x, y, z] = [u, v, w] ∧ R u v w := ⟨_, _, _, rfl, h⟩
theorem rd_var {i : Nat} (e : σ[i]? = some (some v)) (h : Q v H) : tVar i σ H Q := ⟨v, e, h⟩
theorem rd_c (h : Q v H) : tC v σ H Q := h
theorem rd_op (h : ta σ H fun x H1 => tb σ H1 fun y H2 => r x y H2 Q) : tOp r ta tb σ H Q := h
theorem rd_un {r : V → Hp → VK → Prop} (h : ta σ H fun x H1 => r x H1 Q) : tUn r ta σ H Q := h
theorem rd_I0 {f : Int → Int → V} {i j : Int} (h : Q (f i j) H) : rI0 f (.int i) (.int j) H Q := ⟨i, j, rfl, rfl, h⟩
theorem rd_I {C : Int → Int → Prop} {f : Int → Int → V} {i j : Int} (hc : C i j) (h : Q (f i j) H) : rI C f (.int i) (.int j) H Q := ⟨i, j, rfl, rfl, hc, h⟩
theorem rd_U {f : Int → V} {i : Int} (h : Q (f i) H) : rU f (.int i) H Q := ⟨i, rfl, h⟩
theorem rd_eqI {i j : Int} (h : Q (.bl (decide (i = j))) H) : rEq (.int i) (.int j) H Q := by
  refine ⟨rfl, ?_⟩
  have e : decide (V.int i = V.int j) = decide (i = j) := by simp
  rw [e]; exact h
theorem rd_neI {i j : Int} (h : Q (.bl (decide (¬ i = j))) H) : rNe (.int i) (.int j) H Q := by
  refine ⟨rfl, ?_⟩
  have e : (!decide (V.int i = V.int j)) = decide (¬ i = j) := by simp
  rw [e]; exact h
theorem rd_eqS {i j : Str} (h : Q (.bl (decide (i = j))) H) : rEq (.str i) (.str j) H Q := by
  refine ⟨rfl, ?_⟩
  have e : decide (V.str i = V.str j) = decide (i = j) := by simp
  rw [e]; exact h
theorem rd_neS {i j : Str} (h : Q (.bl (decide (¬ i = j))) H) : rNe (.str i) (.str j) H Q := by
  refine ⟨rfl, ?_⟩
  have e : (!decide (V.str i = V.str j)) = decide (¬ i = j) := by simp
  rw [e]; exact h
theorem rd_eqB {i j : Bool} (h : Q (.bl (decide (i = j))) H) : rEq (.bl i) (.bl j) H Q := by
  refine ⟨rfl, ?_⟩
  have e : decide (V.bl i = V.bl j) = decide (i = j) := by simp
  rw [e]; exact h
theorem rd_test {Q : Bool → Hp → Prop} (h : te σ H fun x H' => ∃ k, x = .bl k ∧ Q k H') : tTest te σ H Q := h
theorem rd_tB {Q : Bool → Hp → Prop} (h : te σ H fun x H' => ∃ k, x = .bl k ∧ Q k H') : tB te σ H Q := h
theorem rd_bl {b : Bool} {R : Bool → Prop} (h : R b) : ∃ k, V.bl b = .bl k ∧ R k := ⟨b, rfl, h⟩
theorem rd_and {Q : Bool → Hp → Prop} (h : tt σ H fun c H1 => if c = true then tu σ H1 Q else Q false H1) : tAnd tt tu σ H Q := h
theorem rd_or {Q : Bool → Hp → Prop} (h : tt σ H fun c H1 => if c = true then Q true H1 else tu σ H1 Q) : tOr tt tu σ H Q := h
theorem rd_not {Q : Bool → Hp → Prop} (h : tt σ H fun c H1 => Q (!c) H1) : tNot tt σ H Q := h
theorem rd_andV (h : ta σ H fun x H1 => ∃ c, x = .bl c ∧ if c = true then tb σ H1 Q else Q (.bl false) H1) : tAndV ta tb σ H Q := h
theorem rd_orV (h : ta σ H fun x H1 => ∃ c, x = .bl c ∧ if c = true then Q (.bl true) H1 else tb σ H1 Q) : tOrV ta tb σ H Q := h
theorem rd_notV (h : ta σ H fun x H1 => ∃ c, x = .bl c ∧ Q (.bl (!c)) H1) : tNotV ta σ H Q := h
theorem rd_if (h : tt σ H fun c H1 => if c = true then ta σ H1 Q else tb σ H1 Q) : tIf tt ta tb σ H Q := h
theorem rd_cons {tr : TA} {Q : List V → Hp → Prop} (h : te σ H fun x H1 => tr σ H1 fun xs H2 => Q (x :: xs) H2) : tCons te tr σ H Q := h
theorem rd_nil {Q : List V → Hp → Prop} (h : Q [] H) : tNil σ H Q := h
/-- what is wanted of a new object -/
def nw (Q : VK) (H : Hp) (o : HO) : Prop := ∀ p, H p = none → Q (.ref p) (upd H p o)
def nwL (Q : VK) (H : Hp) (xs : List V) : Prop := xs.length ≤ sizeLine ∧ nw Q H (.lst xs)
def nwT (Q : VK) (H : Hp) (xs : List V) : Prop := xs.length ≤ sizeLine ∧ nw Q H (.tup xs)
theorem rd_tup {ta : TA} (h : ta σ H fun xs H1 => nwT Q H1 xs) : tTup ta σ H Q := h
theorem rd_lst {ta : TA} (h : ta σ H fun xs H1 => nwL Q H1 xs) : tLst ta σ H Q := h
theorem rd_cb {r : List V → Hp → VK → Prop} {ta : TA} (h : ta σ H fun vs H1 => r vs H1 Q) : tCB r ta σ H Q := h
theorem rd_call {sp : Sp} {dvs : List V} {E : XK} {ta : TA} (h : ta σ H fun vs H1 => sp (vs ++ dvs) H1 Q E) : tCall sp dvs E ta σ H Q := h
theorem rd_call0 {sp : Sp} {E : XK} {ta : TA} (h : ta σ H fun vs H1 => sp vs H1 Q E) : tCall sp [] E ta σ H Q := by
  have e : (fun (vs : List V) H1 => sp (vs ++ []) H1 Q E) = fun vs H1 => sp vs H1 Q E := by funext vs H1; rw [List.append_nil]
  show ta σ H (fun vs H1 => sp (vs ++ []) H1 Q E)
  rw [e]; exact h
theorem rd_callN {n m : Nat} {sp : Sp} {gV : List V → List V → List V} {E : XK} {ta tk : TA} (h : ta σ H fun vs H1 => tk σ H1 fun zs H2 => vs.length = n ∧ zs.length = m ∧ sp (gV vs zs) H2 Q E) : tCallN n m sp gV E ta tk σ H Q := h
theorem rd_chain (h : ta σ H fun x H1 => tb σ H1 fun y H2 => r x y H2 fun z H3 => ∃ k, z = .bl k ∧ (if k = true then tc σ H3 fun w H4 => r' y w H4 Q else Q (.bl false) H3)) : tChain r r' ta tb tc σ H Q := h
theorem rd_bits (h : te σ H fun x H1 => ∃ i, x = .int i ∧ Q (.int (Builtin.Int.intBits i : Nat)) H1) : tBits te σ H Q := h
theorem rd_int1 {i : Int} {R : Int → Prop} (h : R i) : ∃ j, V.int i = .int j ∧ R j := ⟨i, rfl, h⟩
theorem rd_int2 {i j : Int} {R : Int → Int → Prop} (h : R i j) : ∃ i' j', [V.int i, V.int j] = [.int i', .int j'] ∧ R i' j' := ⟨i, j, rfl, h⟩
theorem rd_dget {td ty : TE} (h : td σ H fun x H1 => ty σ H1 fun y H2 => ∃ a v, x = .ref a ∧ DGet H2 a y (some v) ∧ Q v H2) : tDGet td ty σ H Q := h
theorem rd_dput {td ty tv : TE} (h : tv σ H fun v H1 => td σ H1 fun x H2 => ty σ H2 fun y H3 => ∃ a H4, x = .ref a ∧ DPut H3 a y v H4 ∧ nx σ H4) : sDPut td ty tv ⟨nx, rt, bk, ct⟩ σ H := h
theorem rd_slice3 {K : PySem.W.Frag} {tl th ts : TO} (h : te σ H fun x H1 => tl σ H1 fun l H2 => th σ H2 fun u H3 => ts σ H3 fun st H4 => ∃ a xs, x = .ref a ∧ SqL K H4 a xs ∧ st ≠ some 0 ∧ nw Q H4 (.lst (pickV xs l u st))) : tSl3 K te tl th ts σ H Q := h
theorem rd_sl {r : V → Option Int → Option Int → Hp → VK → Prop} {tl th : TO} (h : te σ H fun x H1 => tl σ H1 fun l H2 => th σ H2 fun u H3 => r x l u H3 Q) : tSl r te tl th σ H Q := h
theorem rd_noPart {Q : Option Int → Hp → Prop} (h : Q none H) : tNoPart σ H Q := h
theorem rd_part {Q : Option Int → Hp → Prop} (h : te σ H fun x H1 => ∃ i, x = .int i ∧ Q (some i) H1) : tPart te σ H Q := h
theorem sz {n : Nat} (h : n ≤ 1000000) : n ≤ sizeLine := Nat.le_trans h (by decide)
theorem sz' {n : Nat} (h : n ≤ 1000000) : n < sizeLine := Nat.lt_of_le_of_lt h (by decide)
theorem rd_mod {i j : Int} (hj : 0 < j) (h : ∀ r, r = i % j → 0 ≤ r → r < j → Q (.int r) H) : rI (fun _ j => 0 < j) (fun i j => .int (i % j)) (.int i) (.int j) H Q :=
  ⟨i, j, rfl, rfl, hj, h _ rfl (Int.emod_nonneg _ (by omega)) (Int.emod_lt_of_pos _ hj)⟩
theorem rd_div {i j : Int} (hj : 0 < j) (hb : j < 2 ^ 64) (h : Q (.int (i / j)) H) : rI CDivW (fun i j => .int (i / j)) (.int i) (.int j) H Q :=
  ⟨i, j, rfl, rfl, wide_div (b := 64) hj (by omega) (by decide) (by decide), h⟩
theorem rd_mulL {i j : Int} (h0 : -(2 ^ 64) < i) (h1 : i < 2 ^ 64) (h : Q (.int (i * j)) H) : rI CMul (fun i j => .int (i * j)) (.int i) (.int j) H Q := ⟨i, j, rfl, rfl, .inl ⟨h0, h1⟩, h⟩
theorem rd_mulR {i j : Int} (h0 : -(2 ^ 64) < j) (h1 : j < 2 ^ 64) (h : Q (.int (i * j)) H) : rI CMul (fun i j => .int (i * j)) (.int i) (.int j) H Q := ⟨i, j, rfl, rfl, .inr ⟨h0, h1⟩, h⟩
theorem rd_pow {f : Int → Int → V} {i j : Int} (h0 : 0 ≤ j) (h1 : j ≤ 1000000) (h2 : i.natAbs < 2 ^ 64) (h : Q (f i j) H) : rI CPow f (.int i) (.int j) H Q := ⟨i, j, rfl, rfl, ⟨h0, h1, h2⟩, h⟩
/-! tests -/
theorem rd_dec {p : Prop} [Decidable p] (h1 : p → A) (h2 : ¬ p → B) : if decide p = true then A else B := by
  by_cases h : p
  · rw [if_pos (decide_eq_true h)]; exact h1 h
  · rw [if_neg (by simp [h])]; exact h2 h
theorem rd_decT {p : Prop} [Decidable p] (h : p) (h1 : A) : if decide p = true then A else B := by rw [if_pos (decide_eq_true h)]; exact h1
theorem rd_decF {p : Prop} [Decidable p] (h : ¬ p) (h1 : B) : if decide p = true then A else B := by rw [if_neg (by simp [h])]; exact h1
theorem rd_ite {b : Bool} (h1 : b = true → A) (h2 : b = false → B) : if b = true then A else B := by
  cases b with
  | true => rw [if_pos rfl]; exact h1 rfl
  | false => rw [if_neg Bool.false_ne_true]; exact h2 rfl
theorem rd_iteT (h : A) : if true = true then A else B := by rw [if_pos rfl]; exact h
theorem rd_iteF (h : B) : if false = true then A else B := by rw [if_neg Bool.false_ne_true]; exact h
theorem rd_ndec {p : Prop} [Decidable p] (h1 : ¬ p → A) (h2 : p → B) : if (!decide p) = true then A else B := by
  by_cases h : p
  · rw [if_neg (by simp [h])]; exact h2 h
  · rw [if_pos (by simp [h])]; exact h1 h
theorem rd_ndecT {p : Prop} [Decidable p] (h : p) (h2 : B) : if (!decide p) = true then A else B := by rw [if_neg (by simp [h])]; exact h2
theorem rd_ndecF {p : Prop} [Decidable p] (h : ¬ p) (h1 : A) : if (!decide p) = true then A else B := by rw [if_pos (by simp [h])]; exact h1
theorem rd_nT (h : B) : if (!true) = true then A else B := by rw [if_neg (by decide)]; exact h
theorem rd_nF (h : A) : if (!false) = true then A else B := by rw [if_pos (by decide)]; exact h
/-! with the ledger -/
theorem rd_newL {xs : List V} (S : Hs H0 M H L) (hz : xs.length ≤ sizeLine) (h : ∀ p H', H0 p = none → Hs H0 M H' ((p, .lst xs) :: L) → Q (.ref p) H') : nwL Q H xs :=
  ⟨hz, fun p hp => h p _ (S.new hp (.lst xs)).1 (S.new hp (.lst xs)).2⟩
theorem rd_newT {xs : List V} (S : Hs H0 M H L) (hz : xs.length ≤ sizeLine) (h : ∀ p H', H0 p = none → Hs H0 M H' ((p, .tup xs) :: L) → Q (.ref p) H') : nwT Q H xs :=
  ⟨hz, fun p hp => h p _ (S.new hp (.tup xs)).1 (S.new hp (.tup xs)).2⟩
theorem rd_newO {o : HO} (S : Hs H0 M H L) (h : ∀ p H', H0 p = none → Hs H0 M H' ((p, o) :: L) → Q (.ref p) H') : nw Q H o :=
  fun p hp => h p _ (S.new hp o).1 (S.new hp o).2
theorem rd_ixL {K : PySem.W.Frag} {a : Addr} {xs : List V} {i : Int} (S : Hs H0 M H L) (m : (a, HO.lst xs) ∈ L) (e : atI xs i = some v) (h : Q v H) : rIxL K (.ref a) (.int i) H Q := ⟨a, xs, i, v, rfl, rfl, S.lst m, e, h⟩
theorem atI_any {α : Type} {xs : List α} {i : Int} (h0 : 0 ≤ i) (h1 : i < xs.length) : ∃ v, v ∈ xs ∧ xs[i.toNat]? = some v ∧ atI xs i = some v := by
  have hl : i.toNat < xs.length := by omega
  have e : xs[i.toNat]? = some xs[i.toNat] := by simp [hl]
  refine ⟨xs[i.toNat], List.getElem_mem hl, e, ?_⟩
  have z : ((i.toNat : Nat) : Int) = i := by omega
  have q := atI_nat e
  rw [z] at q
  exact q
theorem rd_ixAny {K : PySem.W.Frag} {a : Addr} {xs : List V} {i : Int} (S : Hs H0 M H L) (m : (a, HO.lst xs) ∈ L) (h0 : 0 ≤ i) (h1 : i < xs.length) (h : ∀ v, v ∈ xs → xs[i.toNat]? = some v → Q v H) : rIxL K (.ref a) (.int i) H Q := by
  obtain ⟨v, hv, e, he⟩ := atI_any h0 h1
  exact ⟨a, xs, i, v, rfl, rfl, S.lst m, he, h v hv e⟩
theorem rd_ixT {K : PySem.W.Frag} {a : Addr} {xs : List V} {i : Int} (S : Hs H0 M H L) (m : (a, HO.tup xs) ∈ L) (e : atI xs i = some v) (h : Q v H) : rIxT K (.ref a) (.int i) H Q := ⟨a, xs, i, v, rfl, rfl, S.tup m, e, h⟩
theorem rd_len {K : PySem.W.Frag} {a : Addr} {xs : List V} (S : Hs H0 M H L) {R : List V → Prop} (m : (a, HO.lst xs) ∈ L) (h : R xs) : ∃ p ys, [V.ref a] = [.ref p] ∧ (SqL K H p ys ∨ SqT K H p ys) ∧ R ys := ⟨a, xs, rfl, Or.inl (S.lst m), h⟩
theorem rd_lenT {K : PySem.W.Frag} {a : Addr} {xs : List V} (S : Hs H0 M H L) {R : List V → Prop} (m : (a, HO.tup xs) ∈ L) (h : R xs) : ∃ p ys, [V.ref a] = [.ref p] ∧ (SqL K H p ys ∨ SqT K H p ys) ∧ R ys := ⟨a, xs, rfl, Or.inr (S.tup m), h⟩
theorem rd_getS {a : Addr} {kvs : List (Key × V)} {k : Str} (S : Hs H0 M H L) (m : (a, HO.dK kvs) ∈ L) (e : valV kvs (.inr k) = some v) {R : V → Prop} (h : R v) : ∃ a' v', V.ref a = .ref a' ∧ DGet H a' (.str k) (some v') ∧ R v' :=
  ⟨a, v, rfl, by rw [← e]; exact DGet.k (k := Sum.inr k) (S.is _ m), h⟩
theorem rd_putS {a : Addr} {kvs kvs' : List (Key × V)} {k : Str} {R : Hp → Prop} (S : Hs H0 M H L) (c : Chg a (.dK kvs) (.dK kvs') L L') (hm : H0 a = none ∨ a ∈ M) (hl : kvs.length < sizeLine) (e : putK kvs (.inr k) v = kvs')
    (h : ∀ H', Hs H0 M H' L' → R H') : ∃ a' H4, V.ref a = .ref a' ∧ DPut H a' (.str k) v H4 ∧ R H4 := by
  subst e
  exact ⟨a, _, rfl, DPut.k (k := Sum.inr k) (S.is _ c.mem) hl, h _ (S.put c hm)⟩
theorem gt_ref {K : PySem.W.Frag} {a : Addr} {xs : List V} {n : Nat} {ts : TGs} {N : L2.St → Hp → Prop} (S : Hs H0 M H L) (m : (a, HO.tup xs) ∈ L) (hn : xs.length = n) (h : ts xs σ H N) : gTup K n ts (.ref a) σ H N := ⟨a, xs, rfl, S.tup m, hn, h⟩
theorem gt_cons {ts : TGs} {w : V} {vs : List V} {N : L2.St → Hp → Prop} (h : g w σ H fun σ' H' => ts vs σ' H' N) : gCons g ts (w :: vs) σ H N := ⟨w, vs, rfl, h⟩
theorem gt_nil {N : L2.St → Hp → Prop} (h : N σ H) : gNil [] σ H N := ⟨rfl, h⟩
end
/-! ### a def as it is called by its name -/
structure Cal (K : PySem.W.Frag) (mg : Str → Option Value) (x : Str) (st : Stmt) (ps : List Str) (f : Addr) (fd : FuncData) : Prop where
  F : Fun K x x st f fd
  b : Binds K fd ps []
  m : mg x = some (.ref f)
end Rs

namespace Rs
open PySem PySem.Spec PyProof.Rows L2

/-! ### kinds of values -/
inductive Kn where
  | int | bool | str | none | list | tup | dict
  deriving DecidableEq
def Kn.nm : Kn → String
  | .int => "int" | .bool => "bool" | .str => "str" | .none => "NoneType" | .list => "list" | .tup => "tuple" | .dict => "dict"
inductive Kin (K : PySem.W.Frag) (H : Hp) : V → Kn → Prop where
  | int (i : Int) : Kin K H (.int i) .int
  | bl (b : Bool) : Kin K H (.bl b) .bool
  | str (x : Str) : Kin K H (.str x) .str
  | non : Kin K H .non .none
  | ref {a : Addr} {k : Kn} (h : TyX K H (.ref a) (.type k.nm)) (n : k = .list ∨ k = .tup ∨ k = .dict) : Kin K H (.ref a) k
section
variable {K : PySem.W.Frag} {H H0 : Hp} {M : List Addr} {L : Led} {x : V} {k : Kn} {Q : VK} {a : Addr}
theorem Kin.ty (h : Kin K H x k) : TyX K H x (.type k.nm) := by
  cases h with
  | int i => exact .base (.int i)
  | bl b => exact .base (.bl b)
  | str x => exact .base (.str x)
  | non => exact .base .non
  | ref h n => exact h
theorem Kin.lst {xs : List V} (h : H a = some (.lst xs)) : Kin K H (.ref a) .list := .ref (.base (.lst h)) (.inl rfl)
theorem Kin.tup {xs : List V} (h : H a = some (.tup xs)) : Kin K H (.ref a) .tup := .ref (.base (.tup h)) (.inr (.inl rfl))
theorem Kin.dK {kvs : List (Key × V)} (h : H a = some (.dK kvs)) : Kin K H (.ref a) .dict := .ref (.base (.dK h)) (.inr (.inr rfl))
theorem kit_int (k : Kn) : kitB k.nm "int" = some (k == .int || k == .bool) := by cases k <;> decide +kernel
theorem kit_bool (k : Kn) : kitB k.nm "bool" = some (k == .bool) := by cases k <;> decide +kernel
theorem kit_list (k : Kn) : kitB k.nm "list" = some (k == .list) := by cases k <;> decide +kernel
theorem kit_tuple (k : Kn) : kitB k.nm "tuple" = some (k == .tup) := by cases k <;> decide +kernel
theorem kit_str (k : Kn) : kitB k.nm "str" = some (k == .str) := by cases k <;> decide +kernel
theorem rd_isi {T : String} {b : Bool} (h : Kin K H x k) (e : kitB k.nm T = some b) (q : Q (.bl b) H) : rIsi K [x, .ty T] H Q := ⟨x, .ty T, .type k.nm, .type T, b, rfl, .ty T, h.ty, kit_ty e, q⟩
end
/-- a def with keyword-only defaults, as it is called by its name -/
structure CalK (K : PySem.W.Frag) (mg : Str → Option Value) (x : Str) (st : Stmt) (f : Addr) (fd : FuncData) : Prop where
  F : Fun K x x st f fd
  m : mg x = some (.ref f)
/-- whether a thing is a whole number from l to m -/
def isWh (x : V) (l m : Int) : Bool := match x with
  | .int t => decide (l ≤ t) && decide (t ≤ m)
  | _ => false
theorem isWh_int (t l m : Int) : isWh (.int t) l m = (decide (l ≤ t) && decide (t ≤ m)) := rfl

/-! ### more readings -/
section
variable {X : Cx}
/-- a module's constant -/
theorem pe_gl {x : Str} {v : V} {pos : Pos} (hg : Gl X x) (h : ∃ u, X.mg x = some u ∧ RelV v u) (hd : (x == ("__debug__" : Str)) = false := by decide) : PE X (.Name x pos) (tC v) := by
  obtain ⟨u, h1, h2⟩ := h
  exact pe_glob hg h1 h2 hd
end
/-- the keys of written pairs -/
def toK : List (V × V) → List (Key × V)
  | [] => []
  | (.int i, v) :: r => (.inl i, v) :: toK r
  | (.str x, v) :: r => (.inr x, v) :: toK r
  | _ :: r => toK r
def dspEnd (Q : VK) (p : Addr) (ps : List (V × V)) (H : Hp) : Prop := H p = some (.dK []) ∧ ∃ kvs : List (Key × V), ps = kvs.map (fun kv => (kV kv.1, kv.2)) ∧ kvs.length ≤ 15 ∧ Q (.ref p) (upd H p (.dK (mergeK [] kvs)))
def forW (J : It) (g : TG) (tb : TS) (D : Ends) (σ : L2.St) (H : Hp) : Prop := ∃ W : Nat → Nat → L2.St → Hp → Prop, (∃ m, W 0 m σ H) ∧ ∀ i m σ H, W i m σ H →
  (J.stop i H ∧ D.nx σ H) ∨ (J.go i H ∧ ∃ N : L2.St → Hp → Prop, (∀ σ' H', N σ' H' → ∃ m', m' < m ∧ W (i + 1) m' σ' H') ∧ ∀ x H', J.yld i H x H' → g x σ H' fun σ2 H2 => tb { D with nx := N, ct := N, bk := D.nx } σ2 H2)
def wl (W : Nat → L2.St → Hp → Prop) (m : Nat) (tw : TS) (nx : L2.St → Hp → Prop) (rt : VK) (σ : L2.St) (H : Hp) : Prop := ∃ N : L2.St → Hp → Prop, (∀ σ' H', N σ' H' → ∃ m', m' < m ∧ W m' σ' H') ∧ tw ⟨N, rt, nx, N⟩ σ H
def rng1 (R : It → Hp → Prop) (vs : List V) (H : Hp) : Prop := ∃ j : Int, vs = [.int j] ∧ -(2 ^ 62) ≤ j ∧ j < 2 ^ 62 ∧ R (Itr 0 j.toNat) H
def rng2 (R : It → Hp → Prop) (vs : List V) (H : Hp) : Prop := ∃ i j : Int, vs = [.int i, .int j] ∧ (-(2 ^ 62) ≤ i ∧ i < 2 ^ 62 ∧ -(2 ^ 62) ≤ j ∧ j < 2 ^ 62) ∧ R (Itr i (j - i).toNat) H
def lstI (K : PySem.W.Frag) (R : It → Hp → Prop) (x : V) (H : Hp) : Prop := ∃ a, x = .ref a ∧ (∃ xs, SqL K H a xs) ∧ R (Itl K a) H
def tupI (K : PySem.W.Frag) (R : It → Hp → Prop) (x : V) (H : Hp) : Prop := ∃ a, x = .ref a ∧ (∃ xs, SqT K H a xs) ∧ R (Itt K a) H
section
variable {σ : L2.St} {H H0 : Hp} {M : List Addr} {L L' : Led} {Q : VK} {v x y : V} {nx : L2.St → Hp → Prop} {rt : VK} {bk ct : L2.St → Hp → Prop} {t u : TS} {te ta tb tc : TE} {g : TG} {tt tu : TT} {tw : TS} {wi : TI}
theorem rd_disp {trs : List (TE × TE)} (S : Hs H0 M H L) (h : ∀ p H', H0 p = none → Hs H0 M H' ((p, .dK []) :: L) → tPairs trs σ H' fun ps H2 => dspEnd Q p ps H2) : tDisp trs σ H Q :=
  fun p hp => h p _ (S.new hp (.dK [])).1 (S.new hp (.dK [])).2
theorem rd_dspEnd {p : Addr} {ps : List (V × V)} {kvs : List (Key × V)} (S : Hs H0 M H L) (c : Chg p (.dK []) (.dK kvs) L L') (hm : H0 p = none ∨ p ∈ M) (e : ps = (toK ps).map fun kv => (kV kv.1, kv.2)) (hl : (toK ps).length ≤ 15)
    (ek : mergeK [] (toK ps) = kvs) (h : ∀ H', Hs H0 M H' L' → Q (.ref p) H') : dspEnd Q p ps H := by
  subst ek
  exact ⟨S.is _ c.mem, toK ps, e, hl, h _ (S.put c hm)⟩
theorem rd_prs {r : List (TE × TE)} {R : List (V × V) → Hp → Prop} (h : ta σ H fun k H1 => tb σ H1 fun v H2 => tPairs r σ H2 fun ps H3 => R ((k, v) :: ps) H3) : tPairs ((ta, tb) :: r) σ H R := h
theorem rd_prs0 {R : List (V × V) → Hp → Prop} (h : R [] H) : tPairs [] σ H R := h
theorem rd_for (h : wi σ H fun J H1 => forW J g tw ⟨nx, rt, bk, ct⟩ σ H1) : tFor wi g tw ⟨nx, rt, bk, ct⟩ σ H := h
theorem rd_rng1 {ta : TA} {R : It → Hp → Prop} (h : ta σ H fun vs H1 => rng1 R vs H1) : iRng1 ta σ H R := h
theorem rd_rng2 {ta : TA} {R : It → Hp → Prop} (h : ta σ H fun vs H1 => rng2 R vs H1) : iRng2 ta σ H R := h
theorem rd_rng1v {R : It → Hp → Prop} {j : Int} (h1 : -(2 ^ 62) ≤ j) (h2 : j < 2 ^ 62) (h : R (Itr 0 j.toNat) H) : rng1 R [.int j] H := ⟨j, rfl, h1, h2, h⟩
theorem rd_rng2v {R : It → Hp → Prop} {i j : Int} (h1 : -(2 ^ 62) ≤ i) (h2 : i < 2 ^ 62) (h3 : -(2 ^ 62) ≤ j) (h4 : j < 2 ^ 62) (h : R (Itr i (j - i).toNat) H) : rng2 R [.int i, .int j] H := ⟨i, j, rfl, ⟨h1, h2, h3, h4⟩, h⟩
theorem rd_iList {K : PySem.W.Frag} {R : It → Hp → Prop} (h : te σ H fun x H1 => lstI K R x H1) : iList K te σ H R := h
theorem rd_iTup {K : PySem.W.Frag} {R : It → Hp → Prop} (h : te σ H fun x H1 => tupI K R x H1) : iTup K te σ H R := h
theorem rd_lstI {K : PySem.W.Frag} {R : It → Hp → Prop} {a : Addr} {xs : List V} (S : Hs H0 M H L) (m : (a, HO.lst xs) ∈ L) (h : R (Itl K a) H) : lstI K R (.ref a) H := ⟨a, rfl, ⟨xs, S.lst m⟩, h⟩
theorem rd_tupI {K : PySem.W.Frag} {R : It → Hp → Prop} {a : Addr} {xs : List V} (S : Hs H0 M H L) (m : (a, HO.tup xs) ∈ L) (h : R (Itt K a) H) : tupI K R (.ref a) H := ⟨a, rfl, ⟨xs, S.tup m⟩, h⟩
/-- over lo, lo + 1, .. -/
theorem fw_range {lo : Int} {n : Nat} (Pv : Nat → L2.St → Hp → Prop) (h0 : Pv 0 σ H) (hs : ∀ i σ H, i < n → Pv i σ H → g (.int (lo + i)) σ H fun σ2 H2 => tw ⟨Pv (i + 1), rt, nx, Pv (i + 1)⟩ σ2 H2) (hd : ∀ σ H, Pv n σ H → nx σ H) :
    forW (Itr lo n) g tw ⟨nx, rt, bk, ct⟩ σ H := for_range Pv h0 hs hd
/-- over a list that stays as it is -/
theorem fw_list {K : PySem.W.Frag} {a : Addr} {xs : List V} (Pv : Nat → L2.St → Hp → Prop) (h0 : Pv 0 σ H) (hl : ∀ i σ H, i ≤ xs.length → Pv i σ H → SqL K H a xs)
    (hs : ∀ i x σ H, xs[i]? = some x → Pv i σ H → g x σ H fun σ2 H2 => tw ⟨Pv (i + 1), rt, nx, Pv (i + 1)⟩ σ2 H2) (hd : ∀ σ H, Pv xs.length σ H → nx σ H) : forW (Itl K a) g tw ⟨nx, rt, bk, ct⟩ σ H := for_list Pv h0 hl hs hd
theorem fw_tup {K : PySem.W.Frag} {a : Addr} {xs : List V} (Pv : Nat → L2.St → Hp → Prop) (h0 : Pv 0 σ H) (hl : ∀ i σ H, i ≤ xs.length → Pv i σ H → SqT K H a xs)
    (hs : ∀ i x σ H, xs[i]? = some x → Pv i σ H → g x σ H fun σ2 H2 => tw ⟨Pv (i + 1), rt, nx, Pv (i + 1)⟩ σ2 H2) (hd : ∀ σ H, Pv xs.length σ H → nx σ H) : forW (Itt K a) g tw ⟨nx, rt, bk, ct⟩ σ H := for_tup Pv h0 hl hs hd
/-- while: W a word with a number that falls -/
theorem rd_while (W : Nat → L2.St → Hp → Prop) (m0 : Nat) (h0 : W m0 σ H) (hs : ∀ m σ H, W m σ H → tt σ H fun b H1 => if b = true then wl W m tw nx rt σ H1 else nx σ H1) : tWhile tt tw ⟨nx, rt, bk, ct⟩ σ H := ⟨W, ⟨m0, h0⟩, hs⟩
theorem rd_wl {W : Nat → L2.St → Hp → Prop} {m : Nat} (h : tw ⟨fun σ' H' => ∃ m', m' < m ∧ W m' σ' H', rt, nx, fun σ' H' => ∃ m', m' < m ∧ W m' σ' H'⟩ σ H) : wl W m tw nx rt σ H := ⟨_, fun _ _ h => h, h⟩
end
end Rs

namespace Rs
open PySem PySem.Spec PyProof.Rows L2

/-! ### plain data: how far it reaches -/
mutual
/-- whole numbers below 10 ^ 12, short texts of small signs, no dicts -/
def tame : PyData → Bool
  | .none | .bool _ => true
  | .int i => decide (i.natAbs < 10 ^ 12)
  | .str x => PyData.strOk x && decide (x.cps.size ≤ 40) && x.cps.toList.all fun c => decide (c < 16 ^ 8)
  | .list xs | .tuple xs => tames xs
  | .dict _ => false
def tames : List PyData → Bool
  | [] => true
  | x :: xs => tame x && tames xs
end
mutual
/-- how many there are in all -/
def cnt : PyData → Nat
  | .list xs | .tuple xs => 1 + cnts xs
  | _ => 1
def cnts : List PyData → Nat
  | [] => 0
  | x :: xs => cnt x + cnts xs
end
mutual
theorem tame_show : ∀ d : PyData, tame d = true → d.showable = true ∧ d.canLay0 = true ∧ d.intsShort 13 = true ∧ d.weight + 1 ≤ 46 * cnt d
  | .none, _ => by simp [PyData.showable, PyData.canLay0, PyData.intsShort, PyData.weight, cnt]
  | .bool _, _ => by simp [PyData.showable, PyData.canLay0, PyData.intsShort, PyData.weight, cnt]
  | .int i, h => by
    have h1 : i.natAbs < 10 ^ 12 := by simpa [tame] using h
    have h2 : i.natAbs.log2 < 40 := by
      by_cases z : i.natAbs = 0
      · rw [z]; decide
      · exact (Nat.log2_lt z).mpr (by omega)
    have h3 := PyData.shown_int_le h1
    refine ⟨by simp [PyData.showable]; omega, by simp [PyData.canLay0], by simp [PyData.intsShort]; omega, ?_⟩
    simp only [PyData.weight, cnt]
    split <;> omega
  | .str x, h => by
    simp only [tame, Bool.and_eq_true, decide_eq_true_eq] at h
    refine ⟨by simp [PyData.showable], by simpa [PyData.canLay0] using h.1.1, by simp [PyData.intsShort], ?_⟩
    simp only [PyData.weight, cnt]
    omega
  | .list xs, h => by
    obtain ⟨h1, h2, h3, h4⟩ := tames_show xs (by simpa [tame] using h)
    refine ⟨by simpa [PyData.showable] using h1, by simpa [PyData.canLay0] using h2, by simpa [PyData.intsShort] using h3, ?_⟩
    simp only [PyData.weight, cnt]
    omega
  | .tuple xs, h => by
    obtain ⟨h1, h2, h3, h4⟩ := tames_show xs (by simpa [tame] using h)
    refine ⟨by simpa [PyData.showable] using h1, by simpa [PyData.canLay0] using h2, by simpa [PyData.intsShort] using h3, ?_⟩
    simp only [PyData.weight, cnt]
    omega
  | .dict _, h => by simp [tame] at h
theorem tames_show : ∀ xs : List PyData, tames xs = true → PyData.showableAll xs = true ∧ PyData.canLayAll0 xs = true ∧ PyData.intsShortAll 13 xs = true ∧ PyData.weightAll xs ≤ 46 * cnts xs
  | [], _ => by simp [PyData.showableAll, PyData.canLayAll0, PyData.intsShortAll, PyData.weightAll, cnts]
  | x :: xs, h => by
    have h' : tame x = true ∧ tames xs = true := by simpa [tames] using h
    obtain ⟨a1, a2, a3, a4⟩ := tame_show x h'.1
    obtain ⟨b1, b2, b3, b4⟩ := tames_show xs h'.2
    simp only [PyData.showableAll, PyData.canLayAll0, PyData.intsShortAll, PyData.weightAll, cnts, a1, a2, a3, b1, b2, b3, Bool.and_self, true_and]
    omega
end
theorem shw_of {d : PyData} (h : tame d = true) (hc : cnt d ≤ 20000) : Shw d := by
  obtain ⟨h1, h2, h3, h4⟩ := tame_show d h
  exact ⟨h1, PyData.shown_fits (B := 13) (by decide) (by decide) (PyData.leavesShort_of_canLay0 13 d h2 h3) (by omega)⟩
theorem shaped_of {d : PyData} (h : tame d = true) (hd : d.depth ≤ 64) : SeqAt.shaped d = true := by
  obtain ⟨_, h2, _, _⟩ := tame_show d h
  unfold SeqAt.shaped
  rw [h2, Bool.true_and]
  exact decide_eq_true hd
/-! ### lists of whole numbers -/
def dI (ns : List Int) : PyData := .list (ns.map .int)
section
variable {K : PySem.W.Frag} {H H0 : Hp} {M : List Addr} {L L' : Led} {Q : VK} {a b : Addr}
theorem dps_ints : ∀ ns : List Int, DpAll K H (ns.map V.int) (ns.map .int)
  | [] => .nil
  | n :: ns => .cons (.int n) (dps_ints ns)
theorem dp_ints {ns : List Int} (h : SqL K H a (ns.map V.int)) : Dp K H (.ref a) (dI ns) := .lst h (dps_ints ns)
theorem depth_ints : ∀ ns : List Int, PyData.depthAll (ns.map .int) = 0
  | [] => by simp [PyData.depthAll]
  | n :: ns => by simp [PyData.depthAll, PyData.depth, depth_ints ns]
theorem depth_dI (ns : List Int) : (dI ns).depth = 1 := by simp [dI, PyData.depth, depth_ints]
theorem canLay_ints : ∀ ns : List Int, PyData.canLayAll0 (ns.map .int) = true
  | [] => by simp [PyData.canLayAll0]
  | n :: ns => by simp [PyData.canLayAll0, PyData.canLay0, canLay_ints ns]
theorem shaped_dI (ns : List Int) : SeqAt.shaped (dI ns) = true := by
  unfold SeqAt.shaped
  rw [depth_dI]
  simp [dI, PyData.canLay0, canLay_ints]
theorem eqv_ints : ∀ ns ms : List Int, PyData.eqvAll (ns.map .int) (ms.map .int) = decide (ns = ms)
  | [], [] => by simp [PyData.eqvAll]
  | [], m :: ms => by simp [PyData.eqvAll]
  | n :: ns, [] => by simp [PyData.eqvAll]
  | n :: ns, m :: ms => by
    simp only [List.map_cons, PyData.eqvAll, PyData.eqv, eqv_ints ns ms, List.cons.injEq, Bool.decide_and]
    rfl
theorem eqv_dI (ns ms : List Int) : PyData.eqv (dI ns) (dI ms) = decide (ns = ms) := by
  simp only [dI, PyData.eqv, eqv_ints]
theorem tames_ints : ∀ ns : List Int, (∀ n ∈ ns, n.natAbs < 10 ^ 12) → tames (ns.map .int) = true
  | [], _ => by simp [tames]
  | n :: ns, h => by
    simp only [List.map_cons, tames, tame, Bool.and_eq_true, decide_eq_true_eq]
    exact ⟨h n List.mem_cons_self, tames_ints ns fun m hm => h m (List.mem_cons_of_mem _ hm)⟩
theorem cnts_ints : ∀ ns : List Int, cnts (ns.map .int) = ns.length
  | [] => by simp [cnts]
  | n :: ns => by simp only [List.map_cons, cnts, cnt, cnts_ints ns, List.length_cons]; omega
theorem shw_dI {ns : List Int} (h : ∀ n ∈ ns, n.natAbs < 10 ^ 12) (hl : ns.length ≤ 10000) : Shw (dI ns) :=
  shw_of (by simp [dI, tame, tames_ints ns h]) (by simp only [dI, cnt, cnts_ints]; omega)
/-- == and != of two lists of whole numbers -/
theorem rd_eqIs {xs ys : List V} {ns ms : List Int} (S : Hs H0 M H L) (m1 : (a, HO.lst xs) ∈ L) (m2 : (b, HO.lst ys) ∈ L) (e1 : xs = ns.map V.int) (e2 : ys = ms.map V.int) (h : Q (.bl (decide (ns = ms))) H) : rEqD K (.ref a) (.ref b) H Q := by
  subst e1 e2
  exact ⟨_, _, dp_ints (S.lst m1), dp_ints (S.lst m2), shaped_dI ns, shaped_dI ms, by rw [eqv_dI]; exact h⟩
theorem rd_neIs {xs ys : List V} {ns ms : List Int} (S : Hs H0 M H L) (m1 : (a, HO.lst xs) ∈ L) (m2 : (b, HO.lst ys) ∈ L) (e1 : xs = ns.map V.int) (e2 : ys = ms.map V.int) (h : Q (.bl (decide (¬ ns = ms))) H) : rNeD K (.ref a) (.ref b) H Q := by
  subst e1 e2
  refine ⟨_, _, dp_ints (S.lst m1), dp_ints (S.lst m2), shaped_dI ns, shaped_dI ms, ?_⟩
  rw [eqv_dI]
  have e : (!decide (ns = ms)) = decide (¬ ns = ms) := by simp
  rw [e]; exact h
theorem rd_reprI {xs : List V} {ns : List Int} (S : Hs H0 M H L) (m : (a, HO.lst xs) ∈ L) (e : xs = ns.map V.int) (hb : ∀ n ∈ ns, n.natAbs < 10 ^ 12) (hl : ns.length ≤ 10000) (h : Q (.str (dI ns).shown) H) : rRepr K [.ref a] H Q := by
  subst e
  exact ⟨.ref a, dI ns, rfl, dp_ints (S.lst m), shw_dI hb hl, by rw [depth_dI]; decide, h⟩
theorem pick_ints (ns : List Int) (lo hi st : Option Int) : ∃ ks : List Int, pickV (ns.map V.int) lo hi st = ks.map V.int ∧ (∀ k ∈ ks, k ∈ ns) := by
  have e : ∀ ix : List Nat, ix.filterMap ((ns.map V.int)[·]?) = (ix.filterMap (ns[·]?)).map V.int := fun ix => by
    induction ix with
    | nil => rfl
    | cons i ix ih =>
      cases h : ns[i]? with
      | none => rw [List.filterMap_cons_none (by rw [List.getElem?_map, h]; rfl), List.filterMap_cons_none h, ih]
      | some z => rw [List.filterMap_cons_some (by rw [List.getElem?_map, h]; rfl), List.filterMap_cons_some h, ih]; rfl
  refine ⟨(slIx (ns.map V.int).length lo hi st).filterMap (ns[·]?), e _, fun k hk => ?_⟩
  obtain ⟨i, _, hi⟩ := List.mem_filterMap.mp hk
  exact List.mem_of_getElem? hi
end
/-- how keywords are put in the parameters' order -/
theorem kb_of {K : PySem.W.Frag} {x qual : Str} {st : Stmt} {f : Addr} {fd : FuncData} {ps ks : List Str} {n : Nat} (F : Fun K x qual st f fd) (ix : List Nat)
    (h : ∀ (kV doc pm : Value) (an : Option Addr) (cdv ct : Value) (us ws : List Value), us.length = n → ws.length = ks.length →
      bindArgs (PySem.W.fnOf x qual (defArgs st) (defBody st) (defScope st) .none kV doc pm an cdv ct) ⟨us, ks.zip ws⟩ = pure (ps.zip (us ++ ix.filterMap (ws[·]?)))) :
    KBn K fd ps n ks (fun us ws => us ++ ix.filterMap (ws[·]?)) (fun us ws => us ++ ix.filterMap (ws[·]?)) := by
  obtain ⟨oc, od, kV, doc, pm, an, cdv, ct, osl, rfl, lk, hcd⟩ := F.ex
  exact ⟨fun s us ws _ h1 h2 => .of_eq (h kV doc pm an cdv ct us ws h1 h2), fun r1 r2 => r1.append (vals_pick r2 ix)⟩
end Rs

namespace Rs
open PySem PySem.Spec PyProof.Rows L2
section
variable {K : PySem.W.Frag} {mg : Str → Option Value} {h : Heap}
theorem ex_calK {x : Str} {st : Stmt} {f : Addr} {oc : Value} {od an : Option Addr} {osl : Array (Option Value)} {kV doc pm cdv ct : Value} (X : K.In h) (G : h.Ns mainGlobals mg) (a : PySem.W.nsIn K mainGlobals x = some (some (.ref f)))
    (l : K.lookup f = some ⟨oc, od, .func (PySem.W.fnOf x x (defArgs st) (defBody st) (defScope st) .none kV doc pm an cdv ct), osl⟩) (c : PySem.W.codeIn K cdv x = true) (k : PySem.W.keepIn K (.ref f) = true) : ∃ f fd, CalK K mg x st f fd :=
  ⟨_, _, fun_mk l c k, PySem.W.mg_of X G a⟩
theorem ex_cal {x : Str} {st : Stmt} {ps : List Str} {f : Addr} {oc : Value} {od an : Option Addr} {osl : Array (Option Value)} {kV doc pm cdv ct : Value} (X : K.In h) (G : h.Ns mainGlobals mg) (a : PySem.W.nsIn K mainGlobals x = some (some (.ref f)))
    (l : K.lookup f = some ⟨oc, od, .func (PySem.W.fnOf x x (defArgs st) (defBody st) (defScope st) .none kV doc pm an cdv ct), osl⟩) (c : PySem.W.codeIn K cdv x = true) (k : PySem.W.keepIn K (.ref f) = true)
    (b : ∀ (kV doc pm : Value) (an : Option Addr) (cdv ct : Value) (us : List Value), us.length = ps.length → bindArgs (PySem.W.fnOf x x (defArgs st) (defBody st) (defScope st) .none kV doc pm an cdv ct) ⟨us, []⟩ = pure (ps.zip us)) : ∃ f fd, Cal K mg x st ps f fd :=
  ⟨_, _, fun_mk l c k, (fun_mk l c k).binds b, PySem.W.mg_of X G a⟩
theorem ex_gl {x : Str} {v : V} {u : Value} (X : K.In h) (G : h.Ns mainGlobals mg) (a : PySem.W.nsIn K mainGlobals x = some (some u)) (r : RelV v u) : ∃ u, mg x = some u ∧ RelV v u := ⟨u, PySem.W.mg_of X G a, r⟩
end
/-- the end, the law's def by its facts -/
theorem walkE {l : PySem.W.OpenLaw} {n k : Nat} {q : Program} {loose : List Str} {XP : (Str → Option Value) → Heap → Prop} {YP : World → Heap → Prop} {d : DefRec} {K : Params → PySem.W.Frag} {sp : PySem.W.Frag → Sp} {st : Stmt} {x : Str}
    (hn : l.most = some n) (hn2 : n ≤ sizeLine) (hdf : d.params.defaults = []) (hr : Room k callerA) (hY : ∀ (w : World) (h : Heap), YP w h → (K w.params).In h) (hx : d.name = "law")
    (hb : ∀ (kV doc pm : Value) (an : Option Addr) (cdv ct u : Value), bindArgs (PySem.W.fnOf "law" "law" (defArgs st) (defBody st) (defScope st) .none kV doc pm an cdv ct) ⟨[u], []⟩ = pure [(x, u)])
    (F : ∀ (w : World) (mg : Str → Option Value) (h : Heap), (K w.params).In h → h.Ns mainGlobals mg →
      ∃ (fa : Addr) (fd : FuncData), Cal (K w.params) mg "law" st [x] fa fd ∧ ∀ base : Heap, FnG l.prog w (K w.params) mg base k fa fd [x] (sp (K w.params)))
    (hsp : ∀ (K : PySem.W.Frag) (H : Hp) (a : Addr) (ns : List Int), ns.length ≤ n → (∀ z ∈ ns, Builtin.Int.intBits z ≤ 1048576) → SqL K H a (ns.map V.int) → sp K [.ref a] H (fun v _ => v = .bl true) E0) :
    PySem.W.WalkO q loose XP YP l.row.toRowW d [] (fun f vs => PySem.call f vs) := by
  refine walkG (x := x) hn hn2 hdf hr hY (fun w mg fa h KX G hmg => ?_) hsp
  obtain ⟨f, fd, C, ok⟩ := F w mg h KX G
  rw [hx] at hmg
  have e := C.m.symm.trans hmg
  cases e
  obtain ⟨oc, od, kV, doc, pm, an, cdv, ct, osl, rfl, lk, hcd⟩ := C.F.ex
  exact ⟨_, fun s u => .of_eq (hb kV doc pm an cdv ct u), fun base _ _ => ok base⟩
end Rs

namespace Rs
open PySem PySem.Spec PyProof.Rows L2

/-- xs[i:j] = another list -/
def gSlc (to : TE) (tl th : L2.St → Hp → (Option Int → Hp → Prop) → Prop) : TG := fun v σ H Q => to σ H fun o H1 => tl σ H1 fun l H2 => th σ H2 fun u H3 => ∃ (a b : Addr) (xs ys : List V) (i j : Int), o = .ref a ∧ v = .ref b ∧ l = some i ∧ u = some j ∧
  H3 a = some (.lst xs) ∧ H3 b = some (.lst ys) ∧ a ≠ b ∧ 0 ≤ i ∧ i ≤ j ∧ j ≤ xs.length ∧ xs.length + ys.length ≤ sizeLine ∧ Q σ (upd H3 a (.lst (xs.take i.toNat ++ ys ++ xs.drop j.toNat)))
theorem pg_slc {X : Cx} {o : Expr} {lo hi : Option Expr} {p2 pos : Pos} {to : TE} {tl th : L2.St → Hp → (Option Int → Hp → Prop) → Prop} (ho : PE X o to) (hl : PO X lo tl) (hh : PO X hi th)
    (ha : ∀ v, assign (.Subscript o (.Slice lo hi none p2) pos) X.env v = (do
      let ov ← holding [v] (eval o X.env)
      let iv ← holding [v, ov] (eval (.Slice lo hi none p2) X.env)
      standAt pos
      holding [v, ov, iv] (setItem ov iv v)
      release [iv, v, ov] []) := by intro _; rfl) : PG X (.Subscript o (.Slice lo hi none p2) pos) (gSlc to tl th) := by
  refine ⟨fun pins s σ H v u Q I r h => ?_⟩
  rw [ha]
  refine wpAny_bind (wpAny_holding (thn (ho.run pins s σ H _ I h) fun ov s1 ⟨x, H1, I1, r1, q1⟩ => ?_))
  refine wpAny_bind (wpAny_holding ?_)
  refine wpAny_Slice (thn (hl.run pins s1 σ H1 _ I1 q1) fun vl s2 ⟨l, H2, I2, pl, q2⟩ => thn (hh.run pins s2 σ H2 _ I2 q2) fun vu s3 ⟨w, H3, I3, pu, q3⟩ => ?_)
  rw [evalPart_none]
  refine wpAny_pure ?_
  have I4 : Inv X pins σ H3 { s3 with heap := s3.heap.push { cls := .type "slice", data := .fields #[vl, vu, .none] } } := I3.kept (t' := s3.toks) fun b ob q => Heap.get?_push_of_some _ q
  obtain ⟨a, b, xs, ys, i, j, rfl, rfl, rfl, rfl, hA, hB, hne, h0, h1, h2, h3, q⟩ := q3
  cases r1
  cases r
  cases pl
  cases pu
  refine wpAny_bind (wpAny_standAt (wpAny_bind (wpAny_holding ?_)))
  refine set_slice I4 hA hB hne (Heap.IsSliceOf.new ..) ⟨_, rfl⟩ ⟨_, rfl⟩ h0 h1 h2 h3 fun s5 I5 => ?_
  exact wpAny_release ⟨σ, _, I5, q⟩

/-! ### classes -/
/-- a method as it stands behind the top -/
structure CalM (K : PySem.W.Frag) (x qual : Str) (st : Stmt) (ps : List Str) (f : Addr) (fd : FuncData) : Prop where
  F : Fun K x qual st f fd
  b : Binds K fd ps []
section
variable {K : PySem.W.Frag} {mg : Str → Option Value} {h : Heap}
theorem ex_calM {C : Addr} {x qual : Str} {st : Stmt} {ps : List Str} {f : Addr} {oc : Value} {od an : Option Addr} {osl : Array (Option Value)} {kV doc pm cdv ct : Value} (a : PySem.W.findIn K (.ref C) x = some (some (.ref f))) (i : PySem.W.isFn K (.ref f) = true)
    (l : K.lookup f = some ⟨oc, od, .func (PySem.W.fnOf x qual (defArgs st) (defBody st) (defScope st) .none kV doc pm an cdv ct), osl⟩) (c : PySem.W.codeIn K cdv qual = true) (k : PySem.W.keepIn K (.ref f) = true)
    (b : ∀ (kV doc pm : Value) (an : Option Addr) (cdv ct : Value) (us : List Value), us.length = ps.length → bindArgs (PySem.W.fnOf x qual (defArgs st) (defBody st) (defScope st) .none kV doc pm an cdv ct) ⟨us, []⟩ = pure (ps.zip us)) :
    ∃ f fd, Meth K C x f ∧ CalM K x qual st ps f fd := ⟨_, _, ⟨a, i, k⟩, fun_mk l c k, (fun_mk l c k).binds b⟩
/-- an __init__ with keyword-only defaults -/
structure CalI (K : PySem.W.Frag) (C : Addr) (qual : Str) (st : Stmt) (kws : List (Str × V)) (f : Addr) (fd : FuncData) : Prop where
  M : Mk K C f
  F : FunD K "__init__" qual (defArgs st) (defBody st) (defScope st) [] kws f fd
theorem ex_calI {C D : Addr} {qual : Str} {st : Stmt} {kws : List (Str × V)} {f : Addr} {oc : Value} {od an : Option Addr} {osl : Array (Option Value)} {doc pm cdv ct : Value} (m : PySem.W.makesIn K C = true) (kc : PySem.W.keepIn K (.ref C) = true)
    (a : PySem.W.findIn K (.ref C) "__init__" = some (some (.ref f))) (i : PySem.W.isFn K (.ref f) = true)
    (l : K.lookup f = some ⟨oc, od, .func (PySem.W.fnOf "__init__" qual (defArgs st) (defBody st) (defScope st) .none (.ref D) doc pm an cdv ct), osl⟩) (c : PySem.W.codeIn K cdv qual = true) (k : PySem.W.keepIn K (.ref f) = true)
    (d : ∀ q ∈ kws, ∃ u, PySem.W.nsIn K D q.1 = some (some u) ∧ RelV q.2 u) : ∃ f fd, CalI K C qual st kws f fd :=
  ⟨_, _, ⟨m, a, i, kc⟩, ⟨⟨oc, od, .none, .ref D, doc, pm, an, cdv, ct, osl, rfl, l, c, Or.inl ⟨rfl, rfl⟩, Or.inr ⟨D, rfl, d⟩⟩, k⟩⟩
end
end Rs

namespace Rs
open PySem PySem.Spec PyProof.Rows L2

/-- the part of a list of whole numbers -/
def cutI (ns : List Int) (lo hi : Option Int) : List Int := (ns.drop (HT.sIx ns.length 0 lo)).take (HT.sIx ns.length ns.length hi - HT.sIx ns.length 0 lo)
theorem cutV_map (ns : List Int) (lo hi : Option Int) : cutV (ns.map V.int) lo hi = (cutI ns lo hi).map V.int := by
  unfold cutV cutI
  rw [List.map_take, List.map_drop, List.length_map]
theorem cutI_le (ns : List Int) (lo hi : Option Int) : (cutI ns lo hi).length ≤ ns.length := by
  unfold cutI
  rw [List.length_take, List.length_drop]
  omega
section
variable {σ : L2.St} {H H0 : Hp} {M : List Addr} {L L' : Led} {Q : VK} {v x y : V} {nx : L2.St → Hp → Prop} {rt : VK} {bk ct : L2.St → Hp → Prop} {t u : TS} {te ta tb tc : TE} {g : TG} {tt tu : TT} {tw : TS} {wi : TI} {K : PySem.W.Frag} {a p : Addr}
/-! attributes -/
theorem rd_fld {f : Str} (h : ta σ H fun x H1 => ∃ a C dx fs v, x = .ref a ∧ H1 a = some (.ins C dx fs) ∧ Cls K C ∧ NoAttr K C f ∧ fs.lookup f = some v ∧ Q v H1) : tFld K ta f σ H Q := h
theorem rd_fldV {f : Str} {C dx : Addr} {fs : List (Str × V)} {R : V → Prop} (S : Hs H0 M H L) (m : (a, HO.ins C dx fs) ∈ L) (c : Cls K C) (n : NoAttr K C f) (e : fs.lookup f = some v) (h : R v) :
    ∃ a' C dx fs v', V.ref a = .ref a' ∧ H a' = some (.ins C dx fs) ∧ Cls K C ∧ NoAttr K C f ∧ fs.lookup f = some v' ∧ R v' := ⟨a, C, dx, fs, v, rfl, S.is _ m, c, n, e, h⟩
theorem rd_sfld {f : Str} {tv : TE} (h : tv σ H fun y H1 => ta σ H1 fun x H2 => ∃ a C dx fs, x = .ref a ∧ H2 a = some (.ins C dx fs) ∧ Cls K C ∧ NoAttr K C f ∧ fs.length < 1000 ∧ nx σ (upd H2 a (.ins C dx (putF f y fs)))) : sFld K ta tv f ⟨nx, rt, bk, ct⟩ σ H := h
theorem rd_sfldV {f : Str} {C dx : Addr} {fs fs' : List (Str × V)} {R : Hp → Prop} (S : Hs H0 M H L) (ch : Chg a (.ins C dx fs) (.ins C dx fs') L L') (hm : H0 a = none ∨ a ∈ M) (c : Cls K C) (n : NoAttr K C f) (hl : fs.length < 1000) (e : putF f y fs = fs') (h : ∀ H', Hs H0 M H' L' → R H') :
    ∃ a' C dx fs, V.ref a = .ref a' ∧ H a' = some (.ins C dx fs) ∧ Cls K C ∧ NoAttr K C f ∧ fs.length < 1000 ∧ R (upd H a' (.ins C dx (putF f y fs))) := by
  subst e
  exact ⟨a, C, dx, fs, rfl, S.is _ ch.mem, c, n, hl, h _ (S.put ch hm)⟩
theorem rd_meth {C : Addr} {m : Str} {sp : Sp} {E : XK} {t : TA} (h : ta σ H fun x H1 => ∃ a dx fs, x = .ref a ∧ H1 a = some (.ins C dx fs) ∧ fs.lookup m = none ∧ t σ H1 fun vs H2 => sp (x :: vs) H2 Q E) : tMeth C m sp [] E ta t σ H Q := by
  have e : ∀ x, (fun (vs : List V) H2 => sp (x :: (vs ++ [])) H2 Q E) = fun vs H2 => sp (x :: vs) H2 Q E := fun x => by funext vs H2; rw [List.append_nil]
  show ta σ H fun x H1 => ∃ a dx fs, x = .ref a ∧ H1 a = some (.ins C dx fs) ∧ fs.lookup m = none ∧ t σ H1 fun vs H2 => sp (x :: (vs ++ [])) H2 Q E
  simp only [List.append_nil]
  exact h
theorem rd_methV {C dx : Addr} {m : Str} {fs : List (Str × V)} {R : Prop} (S : Hs H0 M H L) (hm : (a, HO.ins C dx fs) ∈ L) (e : fs.lookup m = none) (h : R) : ∃ a' dx fs, V.ref a = .ref a' ∧ H a' = some (.ins C dx fs) ∧ fs.lookup m = none ∧ R :=
  ⟨a, dx, fs, rfl, S.is _ hm, e, h⟩
theorem rd_mkK {C : Addr} {n m : Nat} {sp : Sp} {gV : List V → List V → List V} {E : XK} {t tk : TA} (h : t σ H fun vs H1 => tk σ H1 fun zs H2 => vs.length = n ∧ zs.length = m ∧ ∀ x dx, H2 x = none → H2 dx = none → dx ≠ x →
    sp (gV (.ref x :: vs) zs) (upd (upd H2 dx (.own x)) x (.ins C dx [])) (fun v H3 => v = .non ∧ Q (.ref x) H3) E) : tMakeK C n m sp gV E t tk σ H Q := h
theorem rd_mkV {C : Addr} {R : Addr → Hp → Prop} (S : Hs H0 M H L) (h : ∀ x dx H', H0 x = none → Hs H0 M H' ((x, .ins C dx []) :: L) → R x H') : ∀ x dx, H x = none → H dx = none → dx ≠ x → R x (upd (upd H dx (.own x)) x (.ins C dx [])) := by
  intro x dx hx hd ne
  obtain ⟨_, S1⟩ := S.new hd (.own x)
  have hx' : upd H dx (HO.own x) x = none := by rw [upd_ne (Ne.symm ne)]; exact hx
  obtain ⟨n0, S2⟩ := S1.new hx' (.ins C dx [])
  exact h x dx _ n0 (S2.sub (List.Sublist.cons_cons _ (List.Sublist.cons _ (List.Sublist.refl _))))
theorem rd_callL {i : Nat} {f : Addr} {sp : Sp} {E : XK} {t : TA} (e : σ[i]? = some (some (.ref f))) (h : t σ H fun vs H1 => sp vs H1 Q E) : tCallL i f sp [] E t σ H Q := by
  refine ⟨e, ?_⟩
  simp only [List.append_nil]
  exact h
/-! methods of lists -/
theorem rd_bm {T : String} {r : V → List V → Hp → VK → Prop} {t : TA} (h : ta σ H fun x H1 => tyV K T x H1 ∧ t σ H1 fun xs H2 => r x xs H2 Q) : tBM K T r ta t σ H Q := h
theorem rd_bm0 {T : String} {r : V → List V → Hp → VK → Prop} (h : ta σ H fun x H1 => tyV K T x H1 ∧ r x [] H1 Q) : tBM0 K T r ta σ H Q := h
theorem rd_tyL {xs : List V} {R : Prop} (S : Hs H0 M H L) (m : (a, HO.lst xs) ∈ L) (h : R) : tyV K "list" (.ref a) H ∧ R := ⟨Or.inl ⟨rfl, xs, S.lst m⟩, h⟩
theorem rd_app {xs : List V} (S : Hs H0 M H L) (c : Chg a (.lst xs) (.lst (xs ++ [y])) L L') (hm : H0 a = none ∨ a ∈ M) (hl : xs.length < sizeLine) (h : ∀ H', Hs H0 M H' L' → Q .non H') : rAppend (.ref a) [y] H Q :=
  ⟨a, xs, y, rfl, rfl, S.is _ c.mem, hl, h _ (S.put c hm)⟩
/-! calls over lists -/
theorem rd_sumI {xs : List V} {ns : List Int} (S : Hs H0 M H L) (m : (a, HO.lst xs) ∈ L) (e : xs = ns.map V.int) (h : Q (.int ns.sum) H) : rSum K [.ref a] H Q := ⟨a, ns, rfl, by subst e; exact S.lst m, h⟩
theorem rd_slL {xs : List V} {ns : List Int} {lo hi : Option Int} (S : Hs H0 M H L) (m : (a, HO.lst xs) ∈ L) (e : xs = ns.map V.int) (h : ∀ p H', H0 p = none → Hs H0 M H' ((p, .lst ((cutI ns lo hi).map V.int)) :: L) → Q (.ref p) H') : rSlL K (.ref a) lo hi H Q := by
  subst e
  refine ⟨a, _, rfl, S.lst m, ?_⟩
  rw [cutV_map]
  exact rd_newO S h
theorem rd_catL {xs ys : List V} {b : Addr} (S : Hs H0 M H L) (m : (a, HO.lst xs) ∈ L) (m2 : (b, HO.lst ys) ∈ L) (hz : xs.length + ys.length ≤ sizeLine) (h : ∀ p H', H0 p = none → Hs H0 M H' ((p, .lst (xs ++ ys)) :: L) → Q (.ref p) H') : rCat (.ref a) (.ref b) H Q :=
  ⟨a, b, xs, ys, rfl, rfl, S.is _ m, S.is _ m2, hz, rd_newO S h⟩
theorem rd_repL {xs : List V} {k : Int} (S : Hs H0 M H L) (m : (a, HO.lst xs) ∈ L) (h1 : 0 ≤ k) (h2 : k < 2 ^ 63) (hz : xs.length * k.toNat ≤ sizeLine) (h : ∀ p H', H0 p = none → Hs H0 M H' ((p, .lst (List.replicate k.toNat xs).flatten) :: L) → Q (.ref p) H') : rRep (.ref a) (.int k) H Q :=
  ⟨a, k, xs, rfl, rfl, S.is _ m, by omega, h2, hz, rd_newO S h⟩
def revR (K : PySem.W.Frag) (Q : VK) (x : V) (H1 : Hp) : Prop := ∃ a xs, x = .ref a ∧ SqL K H1 a xs ∧ ∀ p, H1 p = none → Q (.ref p) (upd H1 p (.lst xs.reverse))
theorem rd_revL (h : te σ H fun x H1 => revR K Q x H1) : tRevL K te σ H Q := h
theorem rd_revV {xs : List V} (S : Hs H0 M H L) (m : (a, HO.lst xs) ∈ L) (h : ∀ p H', H0 p = none → Hs H0 M H' ((p, .lst xs.reverse) :: L) → Q (.ref p) H') : revR K Q (.ref a) H := ⟨a, xs, rfl, S.lst m, rd_newO S h⟩
theorem rd_isN (h : Q (.bl (decide (x = .non))) H) : (fun x y H Q => y = V.non ∧ Q (.bl (decide (x = .non))) H : R2) x .non H Q := ⟨rfl, h⟩
theorem rd_notN (h : Q (.bl (!decide (x = .non))) H) : (fun x y H Q => y = V.non ∧ Q (.bl (!decide (x = .non))) H : R2) x .non H Q := ⟨rfl, h⟩
/-! targets -/
theorem gt_unl {xs : List V} {n : Nat} {ts : TGs} {N : L2.St → Hp → Prop} (S : Hs H0 M H L) (m : (a, HO.lst xs) ∈ L) (hn : xs.length = n) (h : ts xs σ H N) : gUnl K n ts (.ref a) σ H N := ⟨a, xs, rfl, S.lst m, hn, h⟩
theorem gt_sub {to ti : TE} {ts : TSet} {N : L2.St → Hp → Prop} (h : to σ H fun o H1 => ti σ H1 fun i H2 => ts o i v H2 fun H3 => N σ H3) : gSub to ti ts v σ H N := h
theorem gt_setL {xs : List V} {k : Int} {j : Nat} {N : Hp → Prop} (S : Hs H0 M H L) (c : Chg a (.lst xs) (.lst (xs.set j v)) L L') (hm : H0 a = none ∨ a ∈ M) (e : ixN xs.length k = some j) (h : ∀ H', Hs H0 M H' L' → N H') : rSetL (.ref a) (.int k) v H N :=
  ⟨a, xs, k, j, rfl, rfl, S.is _ c.mem, e, h _ (S.put c hm)⟩
theorem gt_slc {to : TE} {tl th : L2.St → Hp → (Option Int → Hp → Prop) → Prop} {N : L2.St → Hp → Prop} (h : to σ H fun o H1 => tl σ H1 fun l H2 => th σ H2 fun u H3 => ∃ (a b : Addr) (xs ys : List V) (i j : Int), o = .ref a ∧ v = .ref b ∧ l = some i ∧ u = some j ∧
    H3 a = some (.lst xs) ∧ H3 b = some (.lst ys) ∧ a ≠ b ∧ 0 ≤ i ∧ i ≤ j ∧ j ≤ xs.length ∧ xs.length + ys.length ≤ sizeLine ∧ N σ (upd H3 a (.lst (xs.take i.toNat ++ ys ++ xs.drop j.toNat)))) : gSlc to tl th v σ H N := h
theorem gt_slcV {b : Addr} {xs ys zs : List V} {i j : Int} {N : Hp → Prop} (S : Hs H0 M H L) (c : Chg a (.lst xs) (.lst zs) L L') (m : (b, HO.lst ys) ∈ L) (hne : a ≠ b) (hm : H0 a = none ∨ a ∈ M) (h0 : 0 ≤ i) (h1 : i ≤ j) (h2 : j ≤ xs.length) (hz : xs.length + ys.length ≤ sizeLine)
    (e : xs.take i.toNat ++ ys ++ xs.drop j.toNat = zs) (h : ∀ H', Hs H0 M H' L' → N H') : ∃ (a' b' : Addr) (xs ys : List V) (i' j' : Int), V.ref a = .ref a' ∧ V.ref b = .ref b' ∧ some i = some i' ∧ some j = some j' ∧
    H a' = some (.lst xs) ∧ H b' = some (.lst ys) ∧ a' ≠ b' ∧ 0 ≤ i' ∧ i' ≤ j' ∧ j' ≤ xs.length ∧ xs.length + ys.length ≤ sizeLine ∧ N (upd H a' (.lst (xs.take i'.toNat ++ ys ++ xs.drop j'.toNat))) := by
  subst e
  exact ⟨a, b, xs, ys, i, j, rfl, rfl, rfl, rfl, S.is _ c.mem, S.is _ m, hne, h0, h1, h2, hz, h _ (S.put c hm)⟩
/-! a comprehension over a range, all its steps without new objects left behind but the list itself -/
def lcW (J : It) (g : TG) (tt : TT) (te : TE) (vs : List Nat) (σ : L2.St) (H1 : Hp) (Q : VK) : Prop := ∀ D, H1 D = none → ∃ W : Nat → Nat → Hp → Prop, (∃ m, W 0 m (upd H1 D (.lst []))) ∧ ∀ i m H, W i m H →
  (J.stop i H ∧ Q (.ref D) H) ∨ (J.go i H ∧ ∃ Nx : Hp → Prop, (∀ H', Nx H' → ∃ m', m' < m ∧ W (i + 1) m' H') ∧ ∀ x H', J.yld i H x H' → g x (wipe σ vs) H' fun σ2 H2 => wipe σ2 vs = wipe σ vs ∧ tt σ2 H2 fun b H3 =>
    if b = true then te σ2 H3 fun y H4 => ∃ acc, H4 D = some (.lst acc) ∧ acc.length < sizeLine ∧ Nx (upd H4 D (.lst (acc ++ [y]))) else Nx H3)
theorem rd_lc {vs : List Nat} (h : wi σ H fun J H1 => lcW J g tt te vs σ H1 Q) : tLc wi g tt te vs σ H Q := h
def lcSkip (H0 : Hp) (M : List Addr) (L : Led) (R1 : List V → Prop) (D : Addr) (H : Hp) : Prop := H0 D = none ∧ ∃ acc, R1 acc ∧ Hs H0 M H ((D, .lst acc) :: L)
def lcPut (H0 : Hp) (M : List Addr) (L : Led) (R1 : List V → Prop) (D : Addr) (y : V) (H : Hp) : Prop := ∃ acc, H D = some (.lst acc) ∧ acc.length < sizeLine ∧ lcSkip H0 M L R1 D (upd H D (.lst (acc ++ [y])))
theorem rd_lcPut {D : Addr} {acc : List V} {L2 L3 : Led} {R1 : List V → Prop} (S : Hs H0 M H L2) (c : Chg D (.lst acc) (.lst (acc ++ [y])) L2 L3) (n : H0 D = none) (hl : acc.length < sizeLine) (sub : ((D, HO.lst (acc ++ [y])) :: L).Sublist L3) (r : R1 (acc ++ [y])) : lcPut H0 M L R1 D y H :=
  ⟨acc, S.is _ c.mem, hl, n, _, r, (S.put c (Or.inl n)).sub sub⟩
theorem rd_lcSkip {D : Addr} {acc : List V} {L2 : Led} {R1 : List V → Prop} (S : Hs H0 M H L2) (n : H0 D = none) (sub : ((D, HO.lst acc) :: L).Sublist L2) (r : R1 acc) : lcSkip H0 M L R1 D H := ⟨n, _, r, S.sub sub⟩
theorem lcw_range {lo : Int} {n : Nat} {vs : List Nat} (S : Hs H0 M H L) (R : Nat → List V → Prop) (r0 : R 0 [])
    (hs : ∀ D i acc H', i < n → R i acc → H0 D = none → Hs H0 M H' ((D, .lst acc) :: L) → g (.int (lo + i)) (wipe σ vs) H' fun σ2 H2 => wipe σ2 vs = wipe σ vs ∧ tt σ2 H2 fun b H3 => if b = true then te σ2 H3 fun y H4 => lcPut H0 M L (R (i + 1)) D y H4 else lcSkip H0 M L (R (i + 1)) D H3)
    (hd : ∀ D acc H', R n acc → H0 D = none → Hs H0 M H' ((D, .lst acc) :: L) → Q (.ref D) H') : lcW (Itr lo n) g tt te vs σ H Q := by
  intro D hD
  have S1 := S.new hD (.lst [])
  refine lc_range (fun i H' => lcSkip H0 M L (R i) D H') ⟨S1.1, [], r0, S1.2⟩ ?_ ?_
  · rintro i H' hi ⟨n0, acc, r, S'⟩
    exact hs D i acc H' hi r n0 S'
  · rintro H' ⟨n0, acc, r, S'⟩
    exact hd D acc H' r n0 S'
theorem lcw_list {a : Addr} {xs : List V} {vs : List Nat} (S : Hs H0 M H L) (R : Nat → List V → Prop) (r0 : R 0 []) (hl : ∀ H' acc D, Hs H0 M H' ((D, .lst acc) :: L) → SqL K H' a xs)
    (hs : ∀ D i x acc H', xs[i]? = some x → R i acc → H0 D = none → Hs H0 M H' ((D, .lst acc) :: L) → g x (wipe σ vs) H' fun σ2 H2 => wipe σ2 vs = wipe σ vs ∧ tt σ2 H2 fun b H3 => if b = true then te σ2 H3 fun y H4 => lcPut H0 M L (R (i + 1)) D y H4 else lcSkip H0 M L (R (i + 1)) D H3)
    (hd : ∀ D acc H', R xs.length acc → H0 D = none → Hs H0 M H' ((D, .lst acc) :: L) → Q (.ref D) H') : lcW (Itl K a) g tt te vs σ H Q := by
  intro D hD
  have S1 := S.new hD (.lst [])
  refine lc_list (xs := xs) (fun i H' => lcSkip H0 M L (R i) D H') ⟨S1.1, [], r0, S1.2⟩ (fun i H' _ ⟨_, acc, _, S'⟩ => hl H' acc D S') ?_ ?_
  · rintro i x H' hi ⟨n0, acc, r, S'⟩
    exact hs D i x acc H' hi r n0 S'
  · rintro H' ⟨n0, acc, r, S'⟩
    exact hd D acc H' r n0 S'
theorem lcw_tup {a : Addr} {xs : List V} {vs : List Nat} (S : Hs H0 M H L) (R : Nat → List V → Prop) (r0 : R 0 []) (hl : ∀ H' acc D, Hs H0 M H' ((D, .lst acc) :: L) → SqT K H' a xs)
    (hs : ∀ D i x acc H', xs[i]? = some x → R i acc → H0 D = none → Hs H0 M H' ((D, .lst acc) :: L) → g x (wipe σ vs) H' fun σ2 H2 => wipe σ2 vs = wipe σ vs ∧ tt σ2 H2 fun b H3 => if b = true then te σ2 H3 fun y H4 => lcPut H0 M L (R (i + 1)) D y H4 else lcSkip H0 M L (R (i + 1)) D H3)
    (hd : ∀ D acc H', R xs.length acc → H0 D = none → Hs H0 M H' ((D, .lst acc) :: L) → Q (.ref D) H') : lcW (Itt K a) g tt te vs σ H Q := by
  intro D hD
  have S1 := S.new hD (.lst [])
  refine lc_tup (xs := xs) (fun i H' => lcSkip H0 M L (R i) D H') ⟨S1.1, [], r0, S1.2⟩ (fun i H' _ ⟨_, acc, _, S'⟩ => hl H' acc D S') ?_ ?_
  · rintro i x H' hi ⟨n0, acc, r, S'⟩
    exact hs D i x acc H' hi r n0 S'
  · rintro H' ⟨n0, acc, r, S'⟩
    exact hd D acc H' r n0 S'
end
end Rs
namespace Rs
open PySem PySem.Spec PyProof.Rows L2
/-- an expression that the proof never comes to -/
def tNevE : TE := fun _ _ _ => False
theorem pe_nev {X : Cx} {e : Expr} : PE X e tNevE := ⟨fun _ _ _ _ _ _ h => h.elim⟩
end Rs
namespace Rs
open PySem PySem.Spec PyProof.Rows L2
theorem ex_u {K : PySem.W.Frag} {D : Addr} {x : Str} {v : V} {u : Value} (a : PySem.W.nsIn K D x = some (some u)) (r : RelV v u) : ∃ u, PySem.W.nsIn K D x = some (some u) ∧ RelV v u := ⟨u, a, r⟩
end Rs

namespace Rs
open PySem PySem.Spec PyProof.Rows L2
section
variable {H0 H H' : Hp} {M : List Addr} {L L' N : Led} {a p : Addr} {o o' : HO} {K : PySem.W.Frag}
theorem Hs.perm (S : Hs H0 M H L) (h : L'.Perm L) : Hs H0 M H L' := ⟨(h.map (·.1)).nodup_iff.mpr S.nd, fun q hq => S.is q (h.mem_iff.mp hq), S.old, S.mu⟩
/-- the objects of N are new, each another -/
structure NewL (H H' : Hp) (N : Led) : Prop where
  nd : (N.map (·.1)).Nodup
  nw : ∀ q ∈ N, H q.1 = none
  is : ∀ q ∈ N, H' q.1 = some q.2
/-- one object was changed, those of N are new -/
theorem Hs.oneN (S : Hs H0 M H L) (c : Chg a o o' L L') (hm : H0 a = none ∨ a ∈ M) (k : ∀ b u, H b = some u → b ≠ a → H' b = some u) (h' : H' a = some o') (n : NewL H H' N) : (∀ q ∈ N, H0 q.1 = none) ∧ Hs H0 M H' (N ++ L') := by
  have S' := S.one c hm k h'
  refine ⟨fun q hq => (S.new (n.nw q hq) q.2).1, ?_, ?_, S'.old, S'.mu⟩
  · rw [List.map_append, List.nodup_append]
    refine ⟨n.nd, S'.nd, ?_⟩
    intro x hx y hy e
    subst e
    obtain ⟨q, hq, rfl⟩ := List.mem_map.mp hx
    rw [c.keys] at hy
    obtain ⟨r, hr, e⟩ := List.mem_map.mp hy
    have := S.is r hr
    rw [e, n.nw q hq] at this
    cases this
  · intro q hq
    rcases List.mem_append.mp hq with h | h
    · exact n.is q h
    · exact S'.is q h
/-- nothing was changed, those of N are new -/
theorem Hs.moreN (S : Hs H0 M H L) (k : Same H H') (n : NewL H H' N) : (∀ q ∈ N, H0 q.1 = none) ∧ Hs H0 M H' (N ++ L) := by
  have S' := S.more k
  refine ⟨fun q hq => (S.new (n.nw q hq) q.2).1, ?_, ?_, S'.old, S'.mu⟩
  · rw [List.map_append, List.nodup_append]
    refine ⟨n.nd, S'.nd, ?_⟩
    intro x hx y hy e
    subst e
    obtain ⟨q, hq, rfl⟩ := List.mem_map.mp hx
    obtain ⟨r, hr, e⟩ := List.mem_map.mp hy
    have := S.is r hr
    rw [e, n.nw q hq] at this
    cases this
  · intro q hq
    rcases List.mem_append.mp hq with h | h
    · exact n.is q h
    · exact S'.is q h
/-- what a ledger tells of new ones -/
theorem Hs.news (S : Hs H0 M H L) (h : N.Sublist L) (n : ∀ q ∈ N, H0 q.1 = none) : NewL H0 H N := ⟨S.nd.sublist (h.map _), n, fun q hq => S.is q (h.subset hq)⟩
/-- plain data that a ledger holds: refs of tuples of whole numbers -/
def TupL (rs : List V) (T : Led) : Prop := (∀ r ∈ rs, ∃ q ∈ T, r = .ref q.1) ∧ ∀ q ∈ T, ∃ ns : List Int, q.2 = .tup (ns.map V.int)
theorem TupL.nil : TupL [] [] := ⟨fun r h => (nomatch h), fun q h => (nomatch h)⟩
theorem TupL.app {rs rs2 : List V} {T T2 : Led} (h : TupL rs T) (h2 : TupL rs2 T2) : TupL (rs ++ rs2) (T2 ++ T) := by
  refine ⟨fun r hr => ?_, fun q hq => ?_⟩
  · rcases List.mem_append.mp hr with z | z
    · obtain ⟨q, hq, e⟩ := h.1 r z; exact ⟨q, List.mem_append_right _ hq, e⟩
    · obtain ⟨q, hq, e⟩ := h2.1 r z; exact ⟨q, List.mem_append_left _ hq, e⟩
  · rcases List.mem_append.mp hq with z | z
    · exact h2.2 q z
    · exact h.2 q z
theorem TupL.snoc {rs : List V} {T : Led} (h : TupL rs T) (q : Addr) (ns : List Int) : TupL (rs ++ [.ref q]) ((q, .tup (ns.map V.int)) :: T) :=
  h.app (T2 := [(q, .tup (ns.map V.int))]) ⟨fun r hr => ⟨_, List.mem_cons_self, by simpa using hr⟩, fun z hz => ⟨ns, by simp at hz; rw [hz]⟩⟩
theorem dpT {rs : List V} {T : Led} (h : TupL rs T) (is : ∀ q ∈ T, H q.1 = some q.2) : ∃ nss : List (List Int), nss.length = rs.length ∧ DpAll K H rs (nss.map fun ns => .tuple (ns.map .int)) := by
  induction rs with
  | nil => exact ⟨[], rfl, .nil⟩
  | cons r rs ih =>
    obtain ⟨nss, e, d⟩ := ih ⟨fun x hx => h.1 x (List.mem_cons_of_mem _ hx), h.2⟩
    obtain ⟨q, hq, rfl⟩ := h.1 r List.mem_cons_self
    obtain ⟨ns, e2⟩ := h.2 q hq
    have hi := is q hq
    rw [e2] at hi
    exact ⟨ns :: nss, by simp [e], .cons (.tup (SqT.of hi) (dps_ints ns)) d⟩
theorem lay_T : ∀ nss : List (List Int), PyData.canLayAll0 (nss.map fun ns => .tuple (ns.map .int)) = true ∧ PyData.depthAll (nss.map fun ns => .tuple (ns.map .int)) ≤ 1
  | [] => by simp [PyData.canLayAll0, PyData.depthAll]
  | ns :: nss => by
    obtain ⟨a, b⟩ := lay_T nss
    simp only [List.map_cons, PyData.canLayAll0, PyData.canLay0, canLay_ints, a, Bool.and_self, PyData.depthAll, PyData.depth, depth_ints, true_and]
    omega
/-- a list of such tuples: data -/
theorem dpLT {rs : List V} {T : Led} (h : TupL rs T) (S : Hs H0 M H L) (m : (a, HO.lst rs) ∈ L) (sub : ∀ q ∈ T, q ∈ L) : ∃ nss : List (List Int), nss.length = rs.length ∧ Dp K H (.ref a) (.list (nss.map fun ns => .tuple (ns.map .int))) ∧ SeqAt.shaped (.list (nss.map fun ns => .tuple (ns.map .int))) = true := by
  obtain ⟨nss, e, d⟩ := dpT (K := K) (H := H) h fun q hq => S.is q (sub q hq)
  obtain ⟨y, z⟩ := lay_T nss
  refine ⟨nss, e, .lst (S.lst m) d, ?_⟩
  unfold SeqAt.shaped
  have e1 : PyData.canLay0 (.list (nss.map fun ns => .tuple (ns.map .int))) = true := by simp only [PyData.canLay0, y]
  rw [e1, Bool.true_and]
  refine decide_eq_true ?_
  simp only [PyData.depth]
  omega
theorem eqv_nil (xs : List PyData) : PyData.eqv (.list xs) (.list []) = decide (xs.length = 0) := by
  cases xs <;> simp [PyData.eqv, PyData.eqvAll]
/-- == [] and != [] of a list of such tuples -/
theorem rd_eqT0 {Q : VK} {rs : List V} {T : Led} {b : Addr} (h : TupL rs T) (S : Hs H0 M H L) (m : (a, HO.lst rs) ∈ L) (m2 : (b, HO.lst []) ∈ L) (sub : ∀ q ∈ T, q ∈ L) (k : Q (.bl (decide (rs.length = 0))) H) : rEqD K (.ref a) (.ref b) H Q := by
  obtain ⟨nss, e, d, sh⟩ := dpLT (K := K) h S m sub
  refine ⟨_, .list [], d, .lst (S.lst m2) .nil, sh, by decide, ?_⟩
  rw [eqv_nil, List.length_map, e]
  exact k
theorem rd_neT0 {Q : VK} {rs : List V} {T : Led} {b : Addr} (h : TupL rs T) (S : Hs H0 M H L) (m : (a, HO.lst rs) ∈ L) (m2 : (b, HO.lst []) ∈ L) (sub : ∀ q ∈ T, q ∈ L) (k : Q (.bl (!decide (rs.length = 0))) H) : rNeD K (.ref a) (.ref b) H Q := by
  obtain ⟨nss, e, d, sh⟩ := dpLT (K := K) h S m sub
  refine ⟨_, .list [], d, .lst (S.lst m2) .nil, sh, by decide, ?_⟩
  rw [eqv_nil, List.length_map, e]
  exact k
end
end Rs
namespace Rs
open PySem PySem.Spec PyProof.Rows L2
theorem rd_nn {R : Prop} (h : R) : V.non = V.non ∧ R := ⟨rfl, h⟩
end Rs
namespace Rs
open PySem PySem.Spec PyProof.Rows L2
section
variable {σ : L2.St} {H : Hp} {nx : L2.St → Hp → Prop} {rt : VK} {bk ct : L2.St → Hp → Prop} {te : TE}
theorem rd_aug {i : Nat} {v : V} {rd : V → V → Hp → VK → Prop} (e : σ[i]? = some (some v)) (h : te σ H fun y H1 => rd v y H1 fun z H2 => nx (σ.set i (some z)) H2) : tAug i te rd ⟨nx, rt, bk, ct⟩ σ H := ⟨v, e, h⟩
theorem rd_ipI {f : Int → Int → Int} {Q : VK} {i j : Int} (h : Q (.int (f i j)) H) : ipI f (.int i) (.int j) H Q := ⟨i, j, rfl, rfl, h⟩
end
end Rs
namespace Rs
open PySem PySem.Spec PyProof.Rows L2
theorem Hs.made {C x dx : Addr} {H0 H : Hp} {M : List Addr} {L : Led} (S : Hs H0 M H L) (hx : H x = none) (hd : H dx = none) (ne : dx ≠ x) : H0 x = none ∧ Hs H0 M (upd (upd H dx (.own x)) x (.ins C dx [])) ((x, .ins C dx []) :: L) := by
  obtain ⟨_, S1⟩ := S.new hd (.own x)
  have hx' : upd H dx (HO.own x) x = none := by rw [upd_ne (Ne.symm ne)]; exact hx
  obtain ⟨n0, S2⟩ := S1.new hx' (.ins C dx [])
  exact ⟨n0, S2.sub (List.Sublist.cons_cons _ (List.Sublist.cons _ (List.Sublist.refl _)))⟩
end Rs

namespace Rs
open PySem PySem.Spec PyProof.Rows L2

/-! ### sum and max over tuples, with a start, with a default -/
section
variable {prog : Program} {w : World} {A : Around} {s : Shared} {R : Result → Shared → Prop} {E : Value → Shared → Prop}
/-- a walk with one more in front, that is over -/
theorem walk_more {I : Addr} {fp wr : List Addr} {n : Nat} {P : Nat → Value → Prop} {St : Nat → Heap → Prop} (W : Walks prog w A I fp wr n P St) :
    Walks prog w A I fp wr (n + 1) (fun i v => 0 < i ∧ P (i - 1) v) (fun i h => 0 < i ∧ St (i - 1) h) where
  sub := W.sub
  frame := fun i h h' st k => ⟨st.1, W.frame _ h h' st.2 k⟩
  item := fun i s Q E hi st hq => by
    obtain ⟨j, rfl⟩ : ∃ j, i = j + 1 := ⟨i - 1, by have := st.1; omega⟩
    refine W.item j s Q E (by omega) st.2 fun v h' tk p st' k => hq v h' tk ⟨Nat.succ_pos _, p⟩ ⟨Nat.succ_pos _, st'⟩ k
  done := fun s Q E st hq => W.done s Q E st.2 hq
  self := fun i s Q E st hq => W.self _ s Q E st.2 hq
theorem sumK_args (a v : Value) : argsOk "sum" ⟨[a], [(Str.ofString "start", v)]⟩ := by unfold argsOk; kernel_rfl
theorem maxD_args (a v : Value) : argsOk "max" ⟨[a], [(Str.ofString "default", v)]⟩ := by unfold argsOk; kernel_rfl
def shiftV (k : Int) (val : Nat → Int) : Nat → Int
  | 0 => k
  | i + 1 => val i
theorem preSum_shift (k : Int) (val : Nat → Int) : ∀ n, preSum (shiftV k val) (n + 1) = k + preSum val n
  | 0 => by simp [preSum, shiftV]
  | n + 1 => by
    rw [preSum, preSum_shift k val n, preSum]
    simp [shiftV]
    omega
/-- sum(x, start=k) -/
theorem sum_from {x : Value} {k : Int} {tok : Tok} {Q : Value → Shared → Prop}
    (h : wpAny (model prog w) A.in1 (pyIter x) (fun it s₂ => ∃ I fp wr n P St val, it = .ref I ∧ Walks prog w A.in1 I fp wr n P St ∧ St 0 s₂.heap ∧ (∀ b ∈ fp, b < s₂.heap.objs.size) ∧ (∀ i v, P i v → ∃ t, v = .int (val i) t) ∧
      ∀ h' tk t', (∀ b o, b ∉ wr → s₂.heap.get? b = some o → h'.get? b = some o) → Q (.int (k + preSum val n) t') { s₂ with heap := h', toks := tk }) E s) :
    wpAny (model prog w) A (call (.builtin "sum") [x] [(Str.ofString "start", .int k tok)]) Q E s := by
  refine PyProof.Rows.kmk_tree F.kind_sum F.plain_sum F.entry_sum (sumK_args _ _) ?_
  unfold Builtin.«sum»
  simp only [List.length_cons, List.length_nil]
  rw [if_neg (by decide)]
  refine wpAny_bind (wpAny_of_eq (a := [some (.int k tok)]) rfl ?_)
  refine wpAny_bind (wpAny_mono h (fun it s₂ q => ?_) fun _ _ e => e)
  obtain ⟨I, fp, wr, n, P, St, val, rfl, W, st, hfp, hval, hQ⟩ := q
  have hv' : ∀ i v, (0 < i ∧ P (i - 1) v) → ∃ t, v = .int (shiftV k val i) t := fun i v z => by
    obtain ⟨j, rfl⟩ : ∃ j, i = j + 1 := ⟨i - 1, by omega⟩
    exact hval j v z.2
  have hS : s₂.heap.objs.size ∉ fp := fun m => Nat.lt_irrefl _ (hfp _ m)
  show wpAny _ A.in1 (if (_ : Bool) = true then _ else _) _ _ _
  split
  · refine wpAny_bind (wpAny_rule (wpAny_bind (wpAny_mkInt (wpAny_bind (wpAny_pure ?_)))))
    simp only [List.forIn_cons, List.forIn_nil]
    refine wpAny_bind (wpAny_bind (wpAny_bind (wpAny_isInstance (T := "int") (b := false) (typeIs_int _ _ _) PySem.sub_int_str ?_)))
    refine wpAny_pure (wpAny_bind (wpAny_bind (wpAny_isInstance (T := "int") (b := false) (typeIs_int _ _ _) PySem.sub_int_bytes ?_)))
    refine wpAny_pure (wpAny_bind (wpAny_bind (wpAny_isInstance (T := "int") (b := false) (typeIs_int _ _ _) PySem.sub_int_bytearray ?_)))
    refine wpAny_pure (wpAny_pure ?_)
    refine wpAny_bind (wpAny_newObj_type (wpAny_pure ⟨plainId_quiet F.plain_sum_loop _, codeAny_sum_loopG (walk_more W) (shiftV k val) hv' s₂.heap.objs.size hS n 1 _ _ 0 0 (Or.inl rfl) rfl (by omega)
      ⟨Nat.one_pos, W.frame _ _ _ st fun b _ o e => Heap.get?_push_of_some _ e⟩ (by rw [show preSum (shiftV k val) 1 = k by simp [preSum, shiftV]]; exact Heap.get?_push_size _ rfl) fun h' tk t' kp => ?_⟩))
    rw [preSum_shift]
    exact hQ h' tk t' fun b o hb e => kp b o hb (Nat.ne_of_lt (Heap.lt_size e)) (Heap.get?_push_of_some _ e)
  · refine wpAny_bind (wpAny_pure ?_)
    simp only [List.forIn_cons, List.forIn_nil]
    refine wpAny_bind (wpAny_bind (wpAny_bind (wpAny_isInstance (T := "int") (b := false) (typeIs_int _ _ _) PySem.sub_int_str ?_)))
    refine wpAny_pure (wpAny_bind (wpAny_bind (wpAny_isInstance (T := "int") (b := false) (typeIs_int _ _ _) PySem.sub_int_bytes ?_)))
    refine wpAny_pure (wpAny_bind (wpAny_bind (wpAny_isInstance (T := "int") (b := false) (typeIs_int _ _ _) PySem.sub_int_bytearray ?_)))
    refine wpAny_pure (wpAny_pure ?_)
    refine wpAny_bind (wpAny_newObj_type (wpAny_pure ⟨plainId_quiet F.plain_sum_loop _, codeAny_sum_loopG (walk_more W) (shiftV k val) hv' s₂.heap.objs.size hS n 1 _ _ 0 2 (Or.inr rfl) rfl (by omega)
      ⟨Nat.one_pos, W.frame _ _ _ st fun b _ o e => Heap.get?_push_of_some _ e⟩ (by rw [show preSum (shiftV k val) 1 = k by simp [preSum, shiftV]]; exact Heap.get?_push_size _ rfl) fun h' tk t' kp => ?_⟩))
    rw [preSum_shift]
    exact hQ h' tk t' fun b o hb e => kp b o hb (Nat.ne_of_lt (Heap.lt_size e)) (Heap.get?_push_of_some _ e)
/-- max(x, default=d): the loop -/
theorem max_loopD {I : Addr} {fp wr : List Addr} {n : Nat} {P : Nat → Value → Prop} {St : Nat → Heap → Prop} (W : Walks prog w A.in1 I fp wr n P St) (val : Nat → Int) (hval : ∀ i v, P i v → ∃ t, v = .int (val i) t) (T : Addr) (hT : T ∉ fp) (d : Value) :
    ∀ (k i : Nat) (s : Shared) (c : Nat) (best : Option (Int × Tok)), n - i = k → i ≤ n → St i s.heap →
      s.heap.get? T = some { cls := .type "list", dict := none, data := .seq (match best with | none => #[] | some b => #[.int b.1 b.2, .int b.1 b.2]) c, slots := #[] } →
      (∀ v h' tk, (best = none → i = n → v = d) → (best ≠ none ∨ i < n → ∃ m t, v = .int m t ∧ ((∃ b, best = some b ∧ m = b.1) ∨ ∃ j, i ≤ j ∧ j < n ∧ m = val j) ∧ (∀ b, best = some b → b.1 ≤ m) ∧ ∀ j, i ≤ j → j < n → val j ≤ m) →
        (∀ b o, b ∉ wr → b ≠ T → s.heap.get? b = some o → h'.get? b = some o) → R (.ok (.ret v)) { s with heap := h', toks := tk }) →
      codeAny (model prog w) A (.builtin "max.loop" ⟨[.ref I, .none, .ref T], [(Str.ofString "default", d)]⟩) R s := by
  have hTw : T ∉ wr := fun z => hT (W.sub _ z)
  have hname : (toString "max" ++ toString ".loop" : String) = "max.loop" := by decide
  intro k
  induction k with
  | zero =>
    intro i s c best hk hi hst hS hR
    have hin : i = n := by omega
    subst hin
    refine codeAny_builtin F.entry_max_loop ?_
    rw [Around.under_plainId F.plain_max_loop _]
    show wpAny _ A.in1 (seqItems? (.ref T) >>= _) _ _ s
    refine wpAny_bind (wpAny_seqItems hS rfl ?_)
    show wpAny _ A.in1 (tryCatch (pyNext (.ref I)) _ >>= _) _ _ s
    refine wpAny_bind (wpAny_tryCatch (W.done s _ _ hst fun h' tk kp => ?_))
    have hS' := kp T _ hTw hS
    cases best with
    | none =>
      show wpAny _ A.in1 (rule _ >>= _) _ _ _
      refine wpAny_bind (wpAny_rule (wpAny_pure ?_))
      exact hR d h' tk (fun _ _ => rfl) (fun z => by rcases z with z | z; exact absurd rfl z; omega) fun b o hb _ e => kp b o hb e
    | some b =>
      show wpAny _ A.in1 (updateSeq T (fun _ => #[]) >>= _) _ _ _
      refine wpAny_bind ?_
      refine wpAny_updateSeq hS' rfl (wpAny_bind (wpAny_letGo (wpAny_pure ?_)))
      refine hR (.int b.1 b.2) _ tk (fun z => nomatch z) (fun _ => ⟨b.1, b.2, rfl, Or.inl ⟨b, rfl, rfl⟩, fun b' e => by cases e; exact Int.le_refl _, fun j h1 h2 => by omega⟩) fun b o hb hbT e => (Heap.get?_update_other _ _ (Ne.symm hbT)).trans (kp b o hb e)
  | succ k ih =>
    intro i s c best hk hi hst hS hR
    have hlt : i < n := by omega
    refine codeAny_builtin F.entry_max_loop ?_
    rw [Around.under_plainId F.plain_max_loop _]
    show wpAny _ A.in1 (seqItems? (.ref T) >>= _) _ _ s
    refine wpAny_bind (wpAny_seqItems hS rfl ?_)
    show wpAny _ A.in1 (tryCatch (pyNext (.ref I)) _ >>= _) _ _ s
    refine wpAny_bind (wpAny_tryCatch (W.item i s _ _ hlt hst fun v h' tk hP hst' kp => ?_))
    have hS' := kp T _ hTw hS
    obtain ⟨t, rfl⟩ := hval i v hP
    have next : ∀ (b : Int × Tok) (h2 : Heap) (tk2 c2 : Nat), (b.1 = val i ∨ ∃ b0, best = some b0 ∧ b.1 = b0.1) → val i ≤ b.1 → (∀ b0, best = some b0 → b0.1 ≤ b.1) → St (i + 1) h2 →
        h2.get? T = some { cls := .type "list", dict := none, data := .seq #[.int b.1 b.2, .int b.1 b.2] c2, slots := #[] } → (∀ y o, y ∉ wr → y ≠ T → s.heap.get? y = some o → h2.get? y = some o) →
        codeAny (model prog w) A (.builtin "max.loop" ⟨[.ref I, .none, .ref T], [(Str.ofString "default", d)]⟩) R { s with heap := h2, toks := tk2 } := by
      intro b h2 tk2 c2 e1 e2 e3 st2 g2 kp2
      refine ih (i + 1) { s with heap := h2, toks := tk2 } c2 (some b) (by clear e1 e2 e3; omega) hlt st2 g2 fun v h3 tk3 _ z kp3 => ?_
      obtain ⟨m, t3, rfl, z1, z2, z3⟩ := z (Or.inl (by simp))
      have zb := z2 b rfl
      refine hR _ h3 tk3 (fun _ q => by omega) (fun _ => ⟨m, t3, rfl, ?_, fun b0 q => Int.le_trans (e3 b0 q) zb, fun j h1 h2 => ?_⟩) fun y o hy hyT e => kp3 y o hy hyT (kp2 y o hy hyT e)
      · rcases z1 with ⟨b', q1, rfl⟩ | ⟨j, q1, q2, rfl⟩
        · cases q1
          rcases e1 with e1 | ⟨b0, q2, e1⟩
          · exact Or.inr ⟨i, Nat.le_refl _, hlt, e1⟩
          · exact Or.inl ⟨b0, q2, e1⟩
        · exact Or.inr ⟨j, by omega, q2, rfl⟩
      · by_cases q : j = i
        · subst q; omega
        · exact z3 j (by omega) h2
    cases best with
    | none =>
      show wpAny _ A.in1 (updateSeq T (fun _ => #[.int (val i) t, .int (val i) t]) >>= _) _ _ _
      refine wpAny_bind ?_
      refine wpAny_updateSeq hS' rfl ?_
      rw [hname]
      refine wpAny_pure ⟨plainId_quiet F.plain_max_loop _, next (val i, t) _ _ _ (Or.inl rfl) (Int.le_refl _) (fun b0 q => nomatch q) (W.frame _ _ _ hst' fun b hb o e => ?_) (Heap.get?_update_self _ hS' rfl) fun b o hb hbT e => ?_⟩
      · exact (Heap.get?_update_other _ _ (fun z : T = b => hT (z ▸ hb))).trans e
      · exact (Heap.get?_update_other _ _ (Ne.symm hbT)).trans (kp b o hb e)
    | some b =>
      have cmp := CmpOf.ints_gt (prog := prog) (w := w) (A := A.in1) (P := fun (z : Nat) v => ∃ t, v = Value.int (if z = 0 then val i else b.1) t) (fun z => if z = 0 then val i else b.1) (fun _ _ z => z)
      show wpAny _ A.in1 (tryCatch (holding [Value.int (val i) t, Value.int (val i) t] (richCompare .Gt (.int (val i) t) (.int b.1 b.2) >>= _)) _ >>= _) _ _ _
      refine wpAny_bind (wpAny_tryCatch (wpAny_holding (wpAny_bind (cmp 0 1 _ _ _ _ _ ⟨t, rfl⟩ ⟨b.2, rfl⟩ ?_))))
      refine wpAny_bind (wpAny_holding (wpAny_truthy_bool ?_))
      refine wpAny_bind (wpAny_letGo (wpAny_pure ?_))
      simp only [if_true, Nat.one_ne_zero, if_false]
      by_cases q : val i > b.1
      · rw [decide_eq_true q]
        simp only [if_true]
        refine wpAny_bind ?_
        refine wpAny_updateSeq hS' rfl (wpAny_bind (wpAny_letGo ?_))
        rw [hname]
        refine wpAny_pure ⟨plainId_quiet F.plain_max_loop _, next (val i, t) _ _ _ (Or.inl rfl) (Int.le_refl _) (fun b0 z => by cases z; exact Int.le_of_lt q) (W.frame _ _ _ hst' fun y hb o e => ?_) (Heap.get?_update_self _ hS' rfl) fun y o hb hbT e => ?_⟩
        · exact (Heap.get?_update_other _ _ (fun z : T = y => hT (z ▸ hb))).trans e
        · exact (Heap.get?_update_other _ _ (Ne.symm hbT)).trans (kp y o hb e)
      · rw [decide_eq_false q]
        simp only [Bool.false_eq_true, if_false]
        refine wpAny_bind (wpAny_letGo ?_)
        rw [hname]
        exact wpAny_pure ⟨plainId_quiet F.plain_max_loop _, next b _ _ c (Or.inr ⟨b, rfl, rfl⟩) (by omega) (fun b0 z => by cases z; exact Int.le_refl _) hst' hS' fun y o hb _ e => kp y o hb e⟩
/-- max(x, default=d) -/
theorem max_dflt {x d : Value} {Q : Value → Shared → Prop}
    (h : wpAny (model prog w) A.in1 (pyIter x) (fun it s₂ => ∃ I fp wr n P St, ∃ val : Nat → Int, it = .ref I ∧ Walks prog w A.in1 I fp wr n P St ∧ St 0 s₂.heap ∧ (∀ b ∈ fp, b < s₂.heap.objs.size) ∧ (∀ i v, P i v → ∃ t, v = .int (val i) t) ∧
      ∀ v h' tk, (n = 0 → v = d) → (0 < n → ∃ m t, v = .int m t ∧ (∃ j, j < n ∧ m = val j) ∧ ∀ j, j < n → val j ≤ m) → (∀ b o, b ∉ wr → s₂.heap.get? b = some o → h'.get? b = some o) → Q v { s₂ with heap := h', toks := tk }) E s) :
    wpAny (model prog w) A (call (.builtin "max") [x] [(Str.ofString "default", d)]) Q E s := by
  have hname : (toString "max" ++ toString ".loop" : String) = "max.loop" := by decide
  refine PyProof.Rows.kmk_tree F.kind_max F.plain_max F.entry_max (maxD_args _ _) ?_
  show wpAny _ A.in1 (Builtin.Builtins.bindParams "max" ["key", "default"] 0 ⟨[], [(Str.ofString "default", d)]⟩ >>= _) _ _ s
  refine wpAny_bind (wpAny_of_eq (a := [none, some d]) rfl ?_)
  refine wpAny_bind (wpAny_pure ?_)
  refine wpAny_bind (wpAny_mono h (fun it s₂ q => ?_) fun _ _ e => e)
  obtain ⟨I, fp, wr, n, P, St, val, rfl, W, st, hfp, hval, hQ⟩ := q
  refine wpAny_bind (wpAny_newObj_type ?_)
  have hT : s₂.heap.objs.size ∉ fp := fun m => Nat.lt_irrefl _ (hfp _ m)
  rw [hname]
  refine wpAny_pure ⟨plainId_quiet F.plain_max_loop _, max_loopD W val hval s₂.heap.objs.size hT d n 0 _ 0 none (by omega) (Nat.zero_le _) (W.frame _ _ _ st fun b _ o e => Heap.get?_push_of_some _ e) (Heap.get?_push_size _ rfl) fun v h' tk z1 z2 kp => ?_⟩
  refine hQ v h' tk (fun z => z1 rfl z.symm) (fun z => ?_) fun b o hb e => kp b o hb (Nat.ne_of_lt (Heap.lt_size e)) (Heap.get?_push_of_some _ e)
  obtain ⟨m, t, e, y1, _, y3⟩ := z2 (Or.inr z)
  refine ⟨m, t, e, ?_, fun j hj => y3 j (Nat.zero_le _) hj⟩
  rcases y1 with ⟨b, q, _⟩ | ⟨j, _, q, r⟩
  · cases q
  · exact ⟨j, q, r⟩
end
end Rs
namespace Rs
open PySem PySem.Spec PyProof.Rows L2
theorem preSum_take (ns : List Int) : ∀ n, n ≤ ns.length → preSum (fun i => ns.getD i 0) n = (ns.take n).sum
  | 0, _ => by simp [preSum]
  | n + 1, h => by
    rw [preSum, preSum_take ns n (by omega), List.take_succ, List.getElem?_eq_getElem (by omega), List.sum_append]
    simp [List.getD_eq_getElem?_getD, List.getElem?_eq_getElem (show n < ns.length by omega)]
theorem preSum_all (ns : List Int) : preSum (fun i => ns.getD i 0) ns.length = ns.sum := by rw [preSum_take ns _ (Nat.le_refl _), List.take_length]
theorem vals_at {ns : List Int} {us : List Value} (r : Vals (ns.map V.int) us) (i : Nat) (v : Value) (h : us.toArray[i]? = some v) : ∃ t, v = .int (ns.getD i 0) t := by
  rw [List.getElem?_toArray] at h
  obtain ⟨hl, e⟩ := List.getElem?_eq_some_iff.mp h
  have hl2 : i < ns.length := by rw [← r.length, List.length_map] at hl; exact hl
  have e1 : (ns.map V.int)[i]? = some (.int (ns.getD i 0)) := by rw [List.getElem?_map, List.getD_eq_getElem?_getD, List.getElem?_eq_getElem hl2]; rfl
  obtain ⟨u, e2, ru⟩ := r.get e1
  rw [h] at e2
  cases e2
  exact ru
section
variable {prog : Program} {w : World} {A : Around} {s : Shared} {E : Value → Shared → Prop}
/-- iter(l) of a list, of a tuple: a walk over its items -/
theorem walk_list {l : Addr} {its : Array Value} {Q : Value → Shared → Prop} (hh : A.handled = none) (hl : s.heap.IsList l its)
    (h : ∀ s₂ : Shared, s₂ = { s with heap := s.heap.push { cls := .type "list_iterator", data := .fields #[.ref l, .int 0 0] } } → ∀ (St : Nat → Heap → Prop), Walks prog w A s.heap.objs.size [s.heap.objs.size, l] [s.heap.objs.size] its.size (fun i v => its[i]? = some v) St → St 0 s₂.heap →
      (∀ b ∈ [s.heap.objs.size, l], b < s₂.heap.objs.size) → Q (.ref s.heap.objs.size) s₂) : wpAny (model prog w) A (pyIter (.ref l)) Q E s := by
  have hlt : l < s.heap.objs.size := by obtain ⟨_, e, _⟩ := hl; exact Heap.lt_size e
  refine wpAny_pyIter_list hl (h _ rfl _ (Walks.list (A := A) hh _ l (Nat.ne_of_lt hlt) its) ⟨⟨_, Heap.get?_push_size _ rfl, rfl, rfl⟩, hl.push _⟩ ?_)
  intro b hb
  show b < (s.heap.push _).objs.size
  rw [Heap.size_push]
  simp only [List.mem_cons, List.not_mem_nil, or_false] at hb
  rcases hb with rfl | rfl
  · exact Nat.lt_succ_self _
  · exact Nat.lt_succ_of_lt hlt
theorem walk_tup {l : Addr} {its : Array Value} {Q : Value → Shared → Prop} (hh : A.handled = none) (hl : s.heap.IsTuple l its)
    (h : ∀ s₂ : Shared, s₂ = { s with heap := s.heap.push { cls := .type "tuple_iterator", data := .fields #[.ref l, .int 0 0] } } → ∀ (St : Nat → Heap → Prop), Walks prog w A s.heap.objs.size [s.heap.objs.size, l] [s.heap.objs.size] its.size (fun i v => its[i]? = some v) St → St 0 s₂.heap →
      (∀ b ∈ [s.heap.objs.size, l], b < s₂.heap.objs.size) → Q (.ref s.heap.objs.size) s₂) : wpAny (model prog w) A (pyIter (.ref l)) Q E s := by
  have hlt : l < s.heap.objs.size := by obtain ⟨_, e, _⟩ := hl; exact Heap.lt_size e
  refine wpAny_pyIter_tuple hl (h _ rfl _ (Walks.tuple (A := A) hh _ l (Nat.ne_of_lt hlt) its) ⟨⟨_, Heap.get?_push_size _ rfl, rfl, rfl⟩, hl.push _⟩ ?_)
  intro b hb
  show b < (s.heap.push _).objs.size
  rw [Heap.size_push]
  simp only [List.mem_cons, List.not_mem_nil, or_false] at hb
  rcases hb with rfl | rfl
  · exact Nat.lt_succ_self _
  · exact Nat.lt_succ_of_lt hlt
end
section
variable {X : Cx}
/-- what stood, stands -/
theorem it_old {s : Shared} {o : Obj} {h' : Heap} (k : ∀ b u, b ∉ [s.heap.objs.size] → (s.heap.push o).get? b = some u → h'.get? b = some u) : ∀ b u, s.heap.get? b = some u → h'.get? b = some u := fun b u e =>
  k b u (fun z => absurd (Heap.lt_size e) ((List.mem_singleton.mp z) ▸ Nat.lt_irrefl _)) (Heap.get?_push_of_some _ e)
def rSumT (K : PySem.W.Frag) : List V → Hp → VK → Prop := fun vs H Q => ∃ (a : Addr) (ns : List Int), vs = [V.ref a] ∧ SqT K H a (ns.map V.int) ∧ Q (.int ns.sum) H
theorem cr_sumT (hc : X.calm = true) : CallR X (.builtin "sum") (rSumT X.K) := by
  intro pins s σ H vs us Q I r h
  obtain ⟨a, ns, rfl, hs, q⟩ := h
  obtain ⟨its, rv, ht, hz⟩ := I.tuple hs
  rw [Vals.ref1 r]
  obtain ⟨o, e1, e2, n, e3⟩ := id ht
  refine call_sum_walkG (walk_tup (A := X.A.in1) (I.ok.hd hc) ⟨o, e1, e2, n, e3⟩ fun s₂ es St W st hfp => ?_)
  subst es
  refine ⟨_, _, _, _, _, _, fun i => ns.getD i 0, rfl, W, st, hfp, vals_at rv, fun h' tk t' hk => ⟨.int _, H, I.kept (it_old hk), ⟨_, rfl⟩, ?_⟩⟩
  rw [List.size_toArray, ← rv.length, List.length_map, preSum_all]
  exact q
def rSumK (K : PySem.W.Frag) : List V → List V → Hp → VK → Prop := fun vs zs H Q => ∃ (a : Addr) (ns : List Int) (k : Int), vs = [V.ref a] ∧ zs = [V.int k] ∧ SqL K H a (ns.map V.int) ∧ Q (.int (k + ns.sum)) H
theorem cr_sumK (hc : X.calm = true) : CallRK X (.builtin "sum") [Str.ofString "start"] (rSumK X.K) := by
  intro pins s σ H vs zs us ws Q I r rz h
  obtain ⟨a, ns, k, rfl, rfl, hs, q⟩ := h
  obtain ⟨its, rv, ht, hz⟩ := I.list hs
  rw [Vals.ref1 r]
  obtain ⟨u, rfl, t, rfl⟩ := vals1 rz
  refine sum_from (walk_list (A := X.A.in1) (I.ok.hd hc) ht.isList fun s₂ es St W st hfp => ?_)
  subst es
  refine ⟨_, _, _, _, _, _, fun i => ns.getD i 0, rfl, W, st, hfp, vals_at rv, fun h' tk t' hk => ⟨.int _, H, I.kept (it_old hk), ⟨_, rfl⟩, ?_⟩⟩
  rw [List.size_toArray, ← rv.length, List.length_map, preSum_all]
  exact q
def maxD (d : Int) : List Int → Int
  | [] => d
  | x :: xs => xs.foldl max x
theorem fold_max : ∀ (xs : List Int) (x : Int), (xs.foldl max x = x ∨ xs.foldl max x ∈ xs) ∧ x ≤ xs.foldl max x ∧ ∀ y ∈ xs, y ≤ xs.foldl max x
  | [], x => ⟨Or.inl rfl, Int.le_refl _, fun y h => (nomatch h)⟩
  | z :: xs, x => by
    obtain ⟨h1, h2, h3⟩ := fold_max xs (max x z)
    simp only [List.foldl_cons]
    have a1 : x ≤ max x z := by omega
    have a2 : z ≤ max x z := by omega
    refine ⟨?_, by omega, fun y hy => ?_⟩
    · rcases h1 with h1 | h1
      · rw [h1]
        by_cases c : x ≤ z
        · right; rw [show max x z = z by omega]; exact List.mem_cons_self
        · left; omega
      · exact Or.inr (List.mem_cons_of_mem _ h1)
    · rcases List.mem_cons.mp hy with rfl | hy
      · omega
      · exact h3 y hy
theorem maxD_is {d m : Int} {ns : List Int} (h0 : ns ≠ []) (h1 : m ∈ ns) (h2 : ∀ y ∈ ns, y ≤ m) : maxD d ns = m := by
  cases ns with
  | nil => exact absurd rfl h0
  | cons x xs =>
    obtain ⟨a, b, c⟩ := fold_max xs x
    show xs.foldl max x = m
    have z1 : xs.foldl max x ≤ m := by
      rcases a with a | a
      · rw [a]; exact h2 x List.mem_cons_self
      · exact h2 _ (List.mem_cons_of_mem _ a)
    have z2 : m ≤ xs.foldl max x := by
      rcases List.mem_cons.mp h1 with rfl | h
      · exact b
      · exact c m h
    omega
def rMaxDT (K : PySem.W.Frag) : List V → List V → Hp → VK → Prop := fun vs zs H Q => ∃ (a : Addr) (ns : List Int) (d : Int), vs = [V.ref a] ∧ zs = [V.int d] ∧ SqT K H a (ns.map V.int) ∧ Q (.int (maxD d ns)) H
theorem cr_maxDT (hc : X.calm = true) : CallRK X (.builtin "max") [Str.ofString "default"] (rMaxDT X.K) := by
  intro pins s σ H vs zs us ws Q I r rz h
  obtain ⟨a, ns, d, rfl, rfl, hs, q⟩ := h
  obtain ⟨its, rv, ht, hz⟩ := I.tuple hs
  rw [Vals.ref1 r]
  obtain ⟨u, rfl, t, rfl⟩ := vals1 rz
  obtain ⟨o, e1, e2, n, e3⟩ := id ht
  refine max_dflt (walk_tup (A := X.A.in1) (I.ok.hd hc) ⟨o, e1, e2, n, e3⟩ fun s₂ es St W st hfp => ?_)
  subst es
  have hl : its.toArray.size = ns.length := by rw [List.size_toArray, ← rv.length, List.length_map]
  refine ⟨_, _, _, _, _, _, fun i => ns.getD i 0, rfl, W, st, hfp, vals_at rv, fun v h' tk z1 z2 hk => ?_⟩
  rw [hl] at z1 z2
  by_cases h0 : ns = []
  · subst h0
    rw [z1 rfl]
    exact ⟨.int d, H, I.kept (it_old hk), ⟨t, rfl⟩, q⟩
  · have hp : 0 < ns.length := List.length_pos_iff.mpr h0
    obtain ⟨m, t2, rfl, ⟨j, hj, rfl⟩, hm⟩ := z2 hp
    refine ⟨.int _, H, I.kept (it_old hk), ⟨t2, rfl⟩, ?_⟩
    have em : maxD d ns = ns.getD j 0 := by
      refine maxD_is h0 ?_ fun y hy => ?_
      · rw [List.getD_eq_getElem?_getD, List.getElem?_eq_getElem hj]
        exact List.getElem_mem hj
      · obtain ⟨i, hi, rfl⟩ := List.mem_iff_getElem.mp hy
        have z : ns.getD i 0 ≤ ns.getD j 0 := hm i hi
        rw [List.getD_eq_getElem?_getD, List.getElem?_eq_getElem hi] at z
        exact z
    show Q (.int (ns.getD j 0)) H
    rw [← em]
    exact q
end
end Rs
namespace Rs
open PySem PySem.Spec PyProof.Rows L2
/-! ### a tuple's slice with a step -/
def ixT (n : Nat) (lo hi : Option Int) (st : Int) : List Nat := (List.range (Builtin.Slice.slicePlaces (Builtin.Slice.sliceAdjust lo hi st n).1 (Builtin.Slice.sliceAdjust lo hi st n).2 st)).map fun (k : Nat) => ((Builtin.Slice.sliceAdjust lo hi st n).1 + (k : Int) * st).toNat
def pickT (xs : List V) (lo hi : Option Int) (st : Int) : List V := (ixT xs.length lo hi st).filterMap (xs[·]?)
def pickI (ns : List Int) (lo hi : Option Int) (st : Int) : List Int := (ixT ns.length lo hi st).filterMap (ns[·]?)
theorem pickT_map (ns : List Int) (lo hi : Option Int) (st : Int) : pickT (ns.map V.int) lo hi st = (pickI ns lo hi st).map V.int := by
  unfold pickT pickI
  rw [List.length_map]
  generalize ixT ns.length lo hi st = ix
  induction ix with
  | nil => rfl
  | cons i ix ih =>
    cases h : ns[i]? with
    | none => rw [List.filterMap_cons_none (by rw [List.getElem?_map, h]; rfl), List.filterMap_cons_none h, ih]
    | some z => rw [List.filterMap_cons_some (by rw [List.getElem?_map, h]; rfl), List.filterMap_cons_some h, ih]; rfl
section
variable {prog : Program} {w : World} {A : Around} {s : Shared} {E : Value → Shared → Prop}
theorem part_ {v : Value} {o : Option Int} {Q : Option Int → Shared → Prop} (p : IsPart v o) (h : Q o s) : wpAny (model prog w) A (Builtin.Slice.slicePartIndex v) Q E s := HT.slicePart_ p h
theorem stepped {sl : Addr} {vl vu vs : Value} {lo hi : Option Int} {st : Int} {n : Nat} {Q : Int × Int × Nat → Shared → Prop} (hs : s.heap.IsSliceOf sl vl vu vs) (pl : IsPart vl lo) (pu : IsPart vu hi) (ps : IsPart vs (some st)) (h0 : st ≠ 0)
    (h : Q ((Builtin.Slice.sliceAdjust lo hi st n).1, st, Builtin.Slice.slicePlaces (Builtin.Slice.sliceAdjust lo hi st n).1 (Builtin.Slice.sliceAdjust lo hi st n).2 st) s) : wpAny (model prog w) A (Builtin.Slice.sliceApplied (.ref sl) (pure (n : Int))) Q E s := by
  obtain ⟨os, hos, hcs, hds⟩ := id hs
  unfold Builtin.Slice.sliceApplied Builtin.Slice.sliceFields
  refine wpAny_bind (wpAny_bind (wpAny_field hos hds (x := vl) rfl (wpAny_bind (wpAny_field hos hds (x := vu) rfl (wpAny_bind (wpAny_field hos hds (x := vs) rfl (wpAny_pure ?_)))))))
  refine wpAny_bind (part_ ps ?_)
  show wpAny _ _ (if (st == 0) = true then _ else _) _ _ s
  rw [if_neg (by simpa using h0)]
  exact wpAny_bind (part_ pl (wpAny_bind (part_ pu (wpAny_bind (wpAny_pure (wpAny_pure h))))))
theorem getItem_step {t sl : Addr} {items : Array Value} {vl vu vs : Value} {lo hi : Option Int} {st : Int} {Q : Value → Shared → Prop} (ht : IsTup s.heap t items) (hs : s.heap.IsSliceOf sl vl vu vs) (pl : IsPart vl lo) (pu : IsPart vu hi) (ps : IsPart vs (some st))
    (h0 : st ≠ 0) (h1 : st ≠ 1) (hz : ((ixT items.size lo hi st).filterMap (items[·]?)).length ≤ sizeLine)
    (h : Q (.ref s.heap.objs.size) { s with heap := s.heap.push { cls := .type "tuple", data := .seq ((ixT items.size lo hi st).filterMap (items[·]?)).toArray } }) : wpAny (model prog w) A (getItem (.ref t) (.ref sl)) Q E s := by
  obtain ⟨os, hos, hcs, hds⟩ := id hs
  have hT : s.TypeIs (.ref sl) "slice" := ⟨os, hos, hcs⟩
  have hk : sizeOk (.seq ((ixT items.size lo hi st).filterMap (items[·]?)).toArray) := by
    show ((ixT items.size lo hi st).filterMap (items[·]?)).toArray.size ≤ sizeLine
    rw [List.size_toArray]
    exact hz
  have ep : ((List.range (Builtin.Slice.slicePlaces (Builtin.Slice.sliceAdjust lo hi st items.size).1 (Builtin.Slice.sliceAdjust lo hi st items.size).2 st)).filterMap fun (k : Nat) => items[((Builtin.Slice.sliceAdjust lo hi st items.size).1 + (k : Int) * st).toNat]?) = (ixT items.size lo hi st).filterMap (items[·]?) := by
    unfold ixT
    rw [List.filterMap_map]
    rfl
  unfold getItem
  try with_reducible refine wpAny_holding ?_
  first | refine wpAny_bind (wpAny_pure ?_) | skip
  refine wpAny_bind (wpAny_sequenceKey ht.typeIs (by decide) ?_)
  refine wpAny_bind (wpAny_callSpecial?_slot (name := Str.ofString "__getitem__") ht.typeIs PyProof.Rows.slot_tuple_getitem (wpAny_call_entry PyProof.Rows.slot_tuple_getitem ht.typeIs entry_tuple_getitem ?_ (args_tuple_getitem _ _)))
  show wpAny _ _ (Builtin.Tuple.tupleItemsOf (.ref t) >>= _) _ _ s
  refine wpAny_bind (tupleItemsOf_ ht ?_)
  refine wpAny_bind (wpAny_typeOf hT ?_)
  rw [if_pos (by decide)]
  refine wpAny_bind (stepped hs pl pu ps h0 ?_)
  show wpAny _ _ (if (_ && st == 1 && _) = true then _ else _) _ _ s
  rw [if_neg (by
    have e : (st == 1) = false := by simpa using h1
    simp [e])]
  rw [ep]
  first
    | exact wpAny_bind (m := Builtin.Tuple.tupleExact _) (wpAny_newObj_type (wpAny_pure ⟨_, rfl, wpAny_pure h⟩) hk)
    | exact wpAny_bind (m := Builtin.Tuple.tupleExact _) (wpAny_newObj_type (wpAny_bind (wpAny_pure (wpAny_pure ⟨_, rfl, wpAny_pure h⟩))) hk)
    | exact wpAny_bind (wpAny_bind (m := Builtin.Tuple.tupleExact _) (wpAny_newObj_type (wpAny_pure (wpAny_pure ⟨_, rfl, wpAny_pure h⟩)) hk))
    | exact wpAny_bind (wpAny_bind (m := Builtin.Tuple.tupleExact _) (wpAny_newObj_type (wpAny_pure ⟨_, rfl, wpAny_pure h⟩) hk))
end
def tSlT3 (K : PySem.W.Frag) (te : TE) (tl th ts : TO) : TE := fun σ H Q => te σ H fun x H1 => tl σ H1 fun l H2 => th σ H2 fun u H3 => ts σ H3 fun st H4 => ∃ a xs k, x = .ref a ∧ SqT K H4 a xs ∧ st = some k ∧ k ≠ 0 ∧ k ≠ 1 ∧ (pickT xs l u k).length ≤ sizeLine ∧
  ∀ p, H4 p = none → Q (.ref p) (upd H4 p (.tup (pickT xs l u k)))
theorem pe_slT3 {X : Cx} {e : Expr} {te : TE} {lo hi st : Option Expr} {tl th ts : TO} {p2 pos : Pos} (he : PE X e te) (hl : PO X lo tl) (hh : PO X hi th) (hs : PO X st ts)
    (hsub : ∀ ov iv, subscripted (.Slice lo hi st p2) false ov iv = operate [ov, iv] (getItem ov iv) := by intro _ _; with_unfolding_all rfl) : PE X (.Subscript e (.Slice lo hi st p2) pos) (tSlT3 X.K te tl th ts) := by
  constructor
  intro pins s σ H Q I h
  refine PyProof.Rows.Subscript_ (thn (he.run pins s σ H _ I h) ?_)
  rintro v s1 ⟨x, H1, I1, r1, q1⟩
  refine wpAny_Slice (thn (hl.run pins s1 σ H1 _ I1 q1) ?_)
  rintro vl s2 ⟨l, H2, I2, pl, q2⟩
  refine thn (hh.run pins s2 σ H2 _ I2 q2) ?_
  rintro vu s3 ⟨u, H3, I3, pu, q3⟩
  refine thn (hs.run pins s3 σ H3 _ I3 q3) ?_
  rintro vs s4 ⟨c, H4, I4, ps, a, xs, k, ex, hx, ek, h0, h1, hz, q4⟩
  subst ex ek
  cases r1
  have I5 : Inv X pins σ H4 { s4 with heap := s4.heap.push { cls := .type "slice", data := .fields #[vl, vu, vs] } } := I4.kept (t' := s4.toks) fun b ob q => Heap.get?_push_of_some _ q
  obtain ⟨its, rv, ht, hz2⟩ := I5.tuple hx
  have hlen : its.length = xs.length := rv.length.symm
  have ei : ∀ ix : List Nat, ix.filterMap (its.toArray[·]?) = ix.filterMap (its[·]?) := fun ix => by simp only [List.getElem?_toArray]
  have vp := vals_pick rv (ixT xs.length l u k)
  show wpAny (model X.prog X.w) X.A (subscriptTail e (.Slice lo hi st p2) (.ref a) (.ref s4.heap.objs.size)) (EP X pins σ Q) X.xe _
  refine tail_any (ops := [.ref a, .ref s4.heap.objs.size]) ht.typeIs PyProof.Rows.slot_tuple_getitem.lookup ?_ (hsub _ _)
  refine getItem_step ht (Heap.IsSliceOf.new _ vl vu vs) pl pu ps h0 h1 ?_ ?_
  · rw [ei, List.size_toArray, hlen, ← vp.length]
    exact hz
  · rw [ei, show its.toArray.size = xs.length by rw [List.size_toArray, hlen]]
    refine ⟨.ref _, _, I5.laid (t' := s4.toks) (o := .tup (pickT xs l u k)) (fun b ob q => Heap.get?_push_of_some _ q) (Nat.le_refl _) ?_, rfl, q4 _ (I5.hok.fresh (Nat.le_refl _))⟩
    exact ⟨hz, _, vp, IsTup.new _ _⟩
end Rs

namespace Rs
open PySem PySem.Spec PyProof.Rows L2
/-- a def with keyword-only defaults -/
structure CalD (K : PySem.W.Frag) (mg : Str → Option Value) (x : Str) (st : Stmt) (kws : List (Str × V)) (f : Addr) (fd : FuncData) : Prop where
  F : FunD K x x (defArgs st) (defBody st) (defScope st) [] kws f fd
  m : mg x = some (.ref f)
def slR3 (K : PySem.W.Frag) (Q : VK) (x : V) (l u st : Option Int) (H : Hp) : Prop := ∃ a xs k, x = .ref a ∧ SqT K H a xs ∧ st = some k ∧ k ≠ 0 ∧ k ≠ 1 ∧ (pickT xs l u k).length ≤ sizeLine ∧ ∀ p, H p = none → Q (.ref p) (upd H p (.tup (pickT xs l u k)))
section
variable {σ : L2.St} {H H0 : Hp} {M : List Addr} {L L' : Led} {Q : VK} {v x y : V} {nx : L2.St → Hp → Prop} {rt : VK} {bk ct : L2.St → Hp → Prop} {t u : TS} {te ta tb tc : TE} {K : PySem.W.Frag} {a p : Addr}
theorem rd_sumT {xs : List V} {ns : List Int} (S : Hs H0 M H L) (m : (a, HO.tup xs) ∈ L) (e : xs = ns.map V.int) (h : Q (.int ns.sum) H) : rSumT K [.ref a] H Q := ⟨a, ns, rfl, by subst e; exact S.tup m, h⟩
theorem rd_cbk {r : List V → List V → Hp → VK → Prop} {t tk : TA} (h : t σ H fun vs H1 => tk σ H1 fun zs H2 => r vs zs H2 Q) : tCKw r t tk σ H Q := h
theorem rd_sumK {xs : List V} {ns : List Int} {k : Int} (S : Hs H0 M H L) (m : (a, HO.lst xs) ∈ L) (e : xs = ns.map V.int) (h : Q (.int (k + ns.sum)) H) : rSumK K [.ref a] [.int k] H Q := ⟨a, ns, k, rfl, rfl, by subst e; exact S.lst m, h⟩
theorem rd_maxDT {xs : List V} {ns : List Int} {k : Int} (S : Hs H0 M H L) (m : (a, HO.tup xs) ∈ L) (e : xs = ns.map V.int) (h : Q (.int (maxD k ns)) H) : rMaxDT K [.ref a] [.int k] H Q := ⟨a, ns, k, rfl, rfl, by subst e; exact S.tup m, h⟩
theorem rd_slT3 {tl th ts : TO} (h : te σ H fun x H1 => tl σ H1 fun l H2 => th σ H2 fun u H3 => ts σ H3 fun st H4 => slR3 K Q x l u st H4) : tSlT3 K te tl th ts σ H Q := h
theorem rd_slR3 {xs : List V} {ns : List Int} {l u : Option Int} {k : Int} (S : Hs H0 M H L) (m : (a, HO.tup xs) ∈ L) (e : xs = ns.map V.int) (h0 : k ≠ 0) (h1 : k ≠ 1) (hz : (pickI ns l u k).length ≤ sizeLine)
    (h : ∀ p H', H0 p = none → Hs H0 M H' ((p, .tup ((pickI ns l u k).map V.int)) :: L) → Q (.ref p) H') : slR3 K Q (.ref a) l u (some k) H := by
  subst e
  refine ⟨a, _, k, rfl, S.tup m, rfl, h0, h1, ?_, ?_⟩
  · rw [pickT_map, List.length_map]; exact hz
  · rw [pickT_map]; exact rd_newO S h
theorem rd_slTp {xs ys : List V} {lo hi : Option Int} (S : Hs H0 M H L) (m : (a, HO.tup xs) ∈ L) (w : ¬ (HT.sIx xs.length 0 lo = 0 ∧ HT.sIx xs.length xs.length hi = xs.length)) (e : cutV xs lo hi = ys) (h : ∀ p H', H0 p = none → Hs H0 M H' ((p, .tup ys) :: L) → Q (.ref p) H') : rSlT K (.ref a) lo hi H Q := by
  subst e
  exact ⟨a, xs, rfl, S.tup m, w, rd_newO S h⟩
theorem rd_repT {xs : List V} {k : Int} (S : Hs H0 M H L) (m : (a, HO.tup xs) ∈ L) (h0 : xs ≠ []) (h1 : 2 ≤ k) (h2 : k ≤ 1000) (h3 : xs.length ≤ 1000) (h : ∀ p H', H0 p = none → Hs H0 M H' ((p, .tup (List.replicate k.toNat xs).flatten) :: L) → Q (.ref p) H') : rRepT K (.ref a) (.int k) H Q :=
  ⟨a, k, xs, rfl, rfl, S.tup m, h0, h1, h2, h3, rd_newO S h⟩
theorem rd_catT {xs ys : List V} {b : Addr} (S : Hs H0 M H L) (m : (a, HO.tup xs) ∈ L) (m2 : (b, HO.tup ys) ∈ L) (h0 : xs ≠ []) (h1 : ys ≠ []) (hz : xs.length + ys.length ≤ sizeLine) (h : ∀ p H', H0 p = none → Hs H0 M H' ((p, .tup (xs ++ ys)) :: L) → Q (.ref p) H') : rCatT K (.ref a) (.ref b) H Q :=
  ⟨a, b, xs, ys, rfl, rfl, S.tup m, S.tup m2, h0, hz, fun z => absurd z h1, fun _ => rd_newO S h⟩
theorem rd_all {xs : List V} {bs : List Bool} (S : Hs H0 M H L) (m : (a, HO.lst xs) ∈ L) (e : xs = bs.map V.bl) (h : Q (.bl (bs.all id)) H) : rAll K [.ref a] H Q := ⟨a, bs, rfl, by subst e; exact S.lst m, h⟩
theorem rd_int1b {b : Bool} {R : Int → Prop} (h : R (if b then 1 else 0)) : (∃ i, [V.bl b] = [V.int i] ∧ R i) ∨ ∃ k, [V.bl b] = [.bl k] ∧ R (if k then 1 else 0) := Or.inr ⟨b, rfl, h⟩
end
theorem rd_yes {σ : L2.St} {H : Hp} {Q : Bool → Hp → Prop} (h : Q true H) : tYes σ H Q := h
theorem pick_le (ns : List Int) (lo : Option Int) (h : lo = none ∨ lo = some 1) : (pickI ns lo none 2).length ≤ ns.length := by
  unfold pickI
  refine Nat.le_trans (List.length_filterMap_le _ _) ?_
  unfold ixT
  rw [List.length_map, List.length_range]
  rcases h with rfl | rfl
  · simp [Builtin.Slice.sliceAdjust, Builtin.Slice.slicePlaces]
    split <;> omega
  · simp [Builtin.Slice.sliceAdjust, Builtin.Slice.slicePlaces]
    split <;> omega
theorem pick_mem {ns : List Int} {lo hi : Option Int} {k z : Int} (h : z ∈ pickI ns lo hi k) : z ∈ ns := by
  obtain ⟨i, _, hi⟩ := List.mem_filterMap.mp h
  exact List.mem_of_getElem? hi
end Rs

namespace Rs
open PySem PySem.Spec PyProof.Rows L2
section
variable {X : Cx} {CX : CXT} {k n : Nat} {f C : Addr} {fd : FuncData} {ps ks : List Str} {sp : Sp} {E : XK} {m : Str} {p pos apos : Pos} {o : Expr} {kws : List Keyword} {ta : TE} {tk : TA} {g : List Value → List Value → List Value} {gV : List V → List V → List V}
/-- o.m(k = v, ..) -/
def tMethK (C : Addr) (m : Str) (n : Nat) (sp : Sp) (gV : List V → List V → List V) (E : XK) (ta : TE) (tk : TA) : TE := fun σ H Q => ta σ H fun x H1 => ∃ a dx fs, x = .ref a ∧ H1 a = some (.ins C dx fs) ∧ fs.lookup m = none ∧ tk σ H1 fun zs H2 => zs.length = n ∧ sp (gV [x] zs) H2 Q E
theorem pe_methK {pl : Sem Bool} (he : PE X o ta) (c : Cls X.K C) (hm : Meth X.K C m f) (F : FnOk X.prog X.w X.K X.mg X.base CX k f fd ps sp) (hr : Room k X.A) (hb : KBn X.K fd ps 1 ks g gV) (hx : Passes CX X E) (hkw : PK X kws tk)
    (hall : (backToKw pos (keywordEach kws X.env)).all (·.1.isSome) = true := by rfl) (hks : (backToKw pos (keywordEach kws X.env)).filterMap (·.1) = ks := by rfl)
    (ht : eval (.Call (.Attribute o m apos) [] kws pos) X.env = (do
      let ov ← eval o X.env
      standAt apos.atName
      let (f, first) ← holding [ov] (getMethod ov m pl)
      callWith pos f first (backTo pos (starEach [] X.env)) (backToKw pos (keywordEach kws X.env))) := by rfl) :
    PE X (.Call (.Attribute o m apos) [] kws pos) (tMethK C m ks.length sp gV E ta tk) := by
  constructor
  intro pins s σ H Q I h
  refine PySem.W.methodCall_KW (pl := pl) (thn (he.run pins s σ H _ I h) ?_) ht
  rintro u s1 ⟨x, H1, I1, rx, a, dx, fs, ex, ea, l, q⟩
  subst ex
  obtain rfl : u = Value.ref a := rx
  refine getmeth_ok I1 ea c hm l ?_
  have np : ((backTo pos (starEach [] X.env)).any (·.1) || (backToKw pos (keywordEach kws X.env)).any (·.1.isNone)) = false := by
    have z : ∀ l : List (Option Str × Sem Value), l.all (·.1.isSome) = true → l.any (·.1.isNone) = false := by
      intro l hl
      induction l with
      | nil => rfl
      | cons q l ih =>
        simp only [List.all_cons, Bool.and_eq_true] at hl
        simp only [List.any_cons, ih hl.2, Bool.or_false]
        cases e : q.1 with
        | none => rw [e] at hl; exact absurd hl.1 (by decide)
        | some _ => rfl
    rw [z _ hall]; rfl
  refine PySem.W.callWith_KW0 (first := [.ref a]) (h₀ := X.base) I1.ok.mod.kin hm.kp hall ?_ np
  refine thn (hkw.run pos pins s1 σ H1 _ I1 q) ?_
  rintro ws s2 ⟨zs, H2, I2, rz, l2, q2⟩
  refine ⟨I2.kIn, ?_⟩
  rw [hks]
  exact run_fnN (us := [.ref a]) (vs := [.ref a]) F hr hb hx I2 (.cons rfl .nil) rz rfl l2 q2
/-- a def called by a builtin -/
theorem run_in {A : Around} {pins : List (Addr × Obj)} {σ : L2.St} {H : Hp} {s : Shared} {Q : VK} {a : Addr} (F : FnOk X.prog X.w X.K X.mg X.base CX k f fd ["self"] sp) (hr : Room k A) (e0 : Env0 X.prog X.w X.K X.mg X.base A X.stack s H) (hb : Binds X.K fd ["self"] []) (hx : Passes CX X E)
    (I : Inv X pins σ H s) (h : sp [.ref a] H Q E) : wpAny (model X.prog X.w) A (call (.ref f) [.ref a]) (EP X pins σ Q) X.xe s := by
  refine wpAny_call (codeAny_mono (F.run A X.stack s H ⟨[.ref a], []⟩ [.ref a] [.ref a] Q E hr e0 (hb s [.ref a] I.kIn rfl) (.cons rfl .nil) h) fun r s' hq => ?_)
  cases r with
  | error e => exact hx pins σ H s e s' I hq
  | ok fl =>
    cases fl with
    | ret u => exact I.after hq
    | next => exact False.elim hq
    | brk => exact False.elim hq
    | cont => exact False.elim hq
def rLenO (C : Addr) (sp : Sp) (E : XK) : List V → Hp → VK → Prop := fun xs H Q => ∃ a dx fs, xs = [V.ref a] ∧ H a = some (.ins C dx fs) ∧ sp [.ref a] H (fun z H' => ∃ n : Int, z = .int n ∧ 0 ≤ n ∧ n < 2 ^ 63 ∧ Q (.int n) H') E
theorem call_lenO (hs : PySem.W.findIn X.K (.ref C) "__len__" = some (some (.ref f))) (hf : PySem.W.isFn X.K (.ref f) = true) (F : FnOk X.prog X.w X.K X.mg X.base CX k f fd ["self"] sp) (hr : Room (k + 1) X.A) (hb : Binds X.K fd ["self"] []) (hx : Passes CX X E) : CallR X (.builtin "len") (rLenO C sp E) := by
  intro pins s σ H xs us Q I r h
  obtain ⟨a, dx, fs, rfl, ha, q⟩ := h
  rw [Vals.ref1 r]
  obtain ⟨mA, O, _, _, _, _⟩ := ins_get I.hok ha
  obtain ⟨od, J, _⟩ := O.look
  obtain ⟨m, fr⟩ := I.fr
  refine PySem.W.len_K fr I.ok.mod.kin J hs hf (wpAny_mono (run_in F hr.in1 I.env0.in1 hb hx I q) (fun w s' z => ?_) fun _ _ x => x)
  obtain ⟨z', H', I', rz, n, e, h0, h1, qz⟩ := z
  subst e
  obtain ⟨t, rfl⟩ := rz
  exact ⟨⟨h0, h1⟩, .int n, H', I'.tok _, ⟨_, rfl⟩, qz⟩
def rReprO (C : Addr) (sp : Sp) (E : XK) : List V → Hp → VK → Prop := fun xs H Q => ∃ a dx fs, xs = [V.ref a] ∧ H a = some (.ins C dx fs) ∧ sp [.ref a] H (fun z H' => ∃ x : Str, z = .str x ∧ Q (.str x) H') E
theorem call_reprO (hs : PySem.W.findIn X.K (.ref C) "__repr__" = some (some (.ref f))) (hf : PySem.W.isFn X.K (.ref f) = true) (F : FnOk X.prog X.w X.K X.mg X.base CX k f fd ["self"] sp) (hr : Room (k + 1) X.A) (hb : Binds X.K fd ["self"] []) (hx : Passes CX X E) : CallR X (.builtin "repr") (rReprO C sp E) := by
  intro pins s σ H xs us Q I r h
  obtain ⟨a, dx, fs, rfl, ha, q⟩ := h
  rw [Vals.ref1 r]
  obtain ⟨mA, O, _, _, _, _⟩ := ins_get I.hok ha
  obtain ⟨od, J, _⟩ := O.look
  obtain ⟨m, fr⟩ := I.fr
  have hu : X.A.in1.units < cLine := Nat.lt_of_le_of_lt (Nat.le_add_right _ _) hr.in1.units
  refine PySem.W.repr_K hu fr I.ok.mod.kin J hs hf (wpAny_mono (run_in F hr.in1 I.env0.in1 hb hx I q) (fun w s' z => ?_) fun _ _ x => x)
  obtain ⟨z', H', I', rz, x, e, qz⟩ := z
  subst e
  obtain ⟨t, rfl⟩ := rz
  exact ⟨.str x, H', I', ⟨_, rfl⟩, qz⟩
end
end Rs

namespace Rs
open PySem PySem.Spec PyProof.Rows L2
section
variable {H0 H H' : Hp} {M : List Addr} {L L1 L2 L' N : Led} {a p : Addr} {o o' u u' : HO} {K : PySem.W.Frag} {Q : VK}
/-- two objects were changed, those of N are new -/
theorem Hs.twoN (S : Hs H0 M H L) (c1 : Chg a o o' L L1) (c2 : Chg p u u' L1 L2) (ha : H0 a = none ∨ a ∈ M) (hp : H0 p = none ∨ p ∈ M) (ne : a ≠ p) (k : ∀ b w, H b = some w → b ≠ a → b ≠ p → H' b = some w) (e1 : H' a = some o') (e2 : H' p = some u') (n : NewL H H' N) :
    (∀ q ∈ N, H0 q.1 = none) ∧ Hs H0 M H' (N ++ L2) := by
  have S1 := S.put c1 ha
  have S2 := S1.put c2 hp
  have h1 : H a = some o := S.is _ c1.mem
  have h2 : H p ≠ none := by
    have := S1.is _ c2.mem
    rw [upd_ne (Ne.symm ne)] at this
    rw [this]; simp
  refine S2.moreN (fun b w e => ?_) ⟨n.nd, fun q hq => ?_, n.is⟩
  · by_cases hb : b = p
    · subst hb; rw [upd_same] at e; cases e; exact e2
    · rw [upd_ne hb] at e
      by_cases hb2 : b = a
      · subst hb2; rw [upd_same] at e; cases e; exact e1
      · rw [upd_ne hb2] at e
        exact k b w e hb2 hb
  · have z := n.nw q hq
    rw [upd_ne (fun y => h2 (by rw [← y]; exact z)), upd_ne (fun y => by rw [y, h1] at z; cases z)]
    exact z
theorem rd_popAt {xs xs' : List V} {i : Nat} {y : V} (S : Hs H0 M H L) (c : Chg a (.lst xs) (.lst xs') L L') (hm : H0 a = none ∨ a ∈ M) (hk : xs[i]? = some y) (hz : i < 2 ^ 40) (e : xs.eraseIdx i = xs') (h : ∀ H', Hs H0 M H' L' → Q y H') : rPopAt (.ref a) [.int i] H Q := by
  subst e
  have hl : i < xs.length := (List.getElem?_eq_some_iff.mp hk).1
  refine ⟨a, xs, i, i, y, rfl, rfl, S.is _ c.mem, by omega, by omega, ?_, hk, h _ (S.put c hm)⟩
  unfold seqIndex?
  simp
  omega
theorem rd_pop {xs xs' : List V} {y : V} (S : Hs H0 M H L) (c : Chg a (.lst xs) (.lst xs') L L') (hm : H0 a = none ∨ a ∈ M) (e : xs = xs' ++ [y]) (h : ∀ H', Hs H0 M H' L' → Q y H') : rPop (.ref a) [] H Q := by
  subst e
  refine ⟨a, _, y, rfl, rfl, S.is _ c.mem, by simp, ?_⟩
  have e2 : (xs' ++ [y]).dropLast = xs' := by simp
  rw [e2]
  exact h _ (S.put c hm)
theorem rd_clear {xs : List V} (S : Hs H0 M H L) (c : Chg a (.lst xs) (.lst []) L L') (hm : H0 a = none ∨ a ∈ M) (h : ∀ H', Hs H0 M H' L' → Q .non H') : rClear (.ref a) [] H Q := ⟨a, xs, rfl, rfl, S.is _ c.mem, h _ (S.put c hm)⟩
/-- a list of refs of tuples of whole numbers, just these -/
structure TL (rs : List V) (T : Led) (ts : List (List Int)) : Prop where
  rs : rs = T.map fun q => .ref q.1
  ts : T.map (·.2) = ts.map fun t => HO.tup (t.map V.int)
theorem TL.nil : TL [] [] [] := ⟨rfl, rfl⟩
theorem TL.snoc {rs : List V} {T : Led} {ts : List (List Int)} (h : TL rs T ts) (q : Addr) (t : List Int) : TL (rs ++ [V.ref q]) (T ++ [(q, .tup (t.map V.int))]) (ts ++ [t]) := ⟨by simp [h.rs], by simp [h.ts]⟩
theorem TL.len {rs : List V} {T : Led} {ts : List (List Int)} (h : TL rs T ts) : rs.length = ts.length := by
  have := congrArg List.length h.ts
  rw [h.rs]
  simpa using this
def dT (ts : List (List Int)) : PyData := .list (ts.map fun t => .tuple (t.map .int))
theorem dpTL : ∀ {T : Led} {ts : List (List Int)}, T.map (·.2) = (ts.map fun t => HO.tup (t.map V.int)) → (∀ q ∈ T, H q.1 = some q.2) → DpAll K H (T.map fun q => .ref q.1) (ts.map fun t => .tuple (t.map .int))
  | [], [], _, _ => .nil
  | [], t :: ts, h, _ => by simp at h
  | q :: T, [], h, _ => by simp at h
  | q :: T, t :: ts, h, is => by
    simp only [List.map_cons, List.cons.injEq] at h
    have hi := is q List.mem_cons_self
    rw [h.1] at hi
    exact .cons (.tup (SqT.of hi) (dps_ints t)) (dpTL h.2 fun z hz => is z (List.mem_cons_of_mem _ hz))
theorem dp_TL {rs : List V} {T : Led} {ts : List (List Int)} (h : TL rs T ts) (S : Hs H0 M H L) (m : (a, HO.lst rs) ∈ L) (sub : ∀ q ∈ T, q ∈ L) : Dp K H (.ref a) (dT ts) := by
  refine .lst (S.lst m) ?_
  rw [h.rs]
  exact dpTL h.ts fun q hq => S.is q (sub q hq)
theorem tame_T : ∀ {ts : List (List Int)}, (∀ t ∈ ts, ∀ n ∈ t, n.natAbs < 10 ^ 12) → tames (ts.map fun t => .tuple (t.map .int)) = true
  | [], _ => by simp [tames]
  | t :: ts, h => by
    have h1 := tames_ints t (h t List.mem_cons_self)
    have h2 := tame_T (ts := ts) fun z hz => h z (List.mem_cons_of_mem _ hz)
    simp only [List.map_cons, tames, tame, h1, h2, Bool.and_self]
theorem cnt_T : ∀ {ts : List (List Int)}, (∀ t ∈ ts, t.length ≤ 10) → cnts (ts.map fun t => .tuple (t.map .int)) ≤ 11 * ts.length
  | [], _ => by simp [cnts]
  | t :: ts, h => by
    have h1 := h t List.mem_cons_self
    have h2 := cnt_T (ts := ts) fun z hz => h z (List.mem_cons_of_mem _ hz)
    simp only [List.map_cons, cnts, cnt, cnts_ints, List.length_cons]
    omega
theorem shw_T {ts : List (List Int)} (h : ∀ t ∈ ts, t.length ≤ 10 ∧ ∀ n ∈ t, n.natAbs < 10 ^ 12) (hl : ts.length ≤ 1000) : Shw (dT ts) := by
  refine shw_of ?_ ?_
  · simp [dT, tame, tame_T fun t ht => (h t ht).2]
  · have := cnt_T fun t ht => (h t ht).1
    simp only [dT, cnt]
    omega
theorem depth_T (ts : List (List Int)) : (dT ts).depth ≤ 2 := by
  obtain ⟨_, b⟩ := lay_T ts
  simp only [dT, PyData.depth]
  omega
theorem rd_reprT {rs : List V} {T : Led} {ts : List (List Int)} (h : TL rs T ts) (S : Hs H0 M H L) (m : (a, HO.lst rs) ∈ L) (sub : ∀ q ∈ T, q ∈ L) (hb : ∀ t ∈ ts, t.length ≤ 10 ∧ ∀ n ∈ t, n.natAbs < 10 ^ 12) (hl : ts.length ≤ 1000) (k : Q (.str (dT ts).shown) H) : rRepr K [.ref a] H Q :=
  ⟨.ref a, dT ts, rfl, dp_TL h S m sub, shw_T hb hl, Nat.le_trans (depth_T ts) (by decide), k⟩
end
end Rs

namespace Rs
open PySem PySem.Spec PyProof.Rows L2
section
variable {H : Hp} {σ : L2.St} {ts : List TE} {te : TE} {acc : Str} {J : Str → Hp → Prop}
theorem len_app (x y : Str) : (x ++ y).length = x.length + y.length := by
  rw [TL.len_tl, TL.len_tl, TL.len_tl, TL.tl_append, List.length_append]
theorem len_num {n : Int} (h0 : 0 ≤ n) (h : n < 10 ^ 12) : (((toString n : String)) : Str).length ≤ 12 := by
  obtain ⟨k, rfl⟩ : ∃ k : Nat, n = k := ⟨n.toNat, by omega⟩
  have e := TL.tl_num k
  show (Str.ofString (toString (k : Int))).length ≤ 12
  rw [TL.len_tl, e]
  exact TL.numL_len (by decide) (by omega)
theorem rd_jsS {y : Str} (hz : acc.length ≤ 1000) (hy : y.length ≤ 1000) (h : tJs ts (acc ++ y) σ H J) : tJs (tC (.str y) :: ts) acc σ H J := ⟨y, rfl, by rw [len_app]; exact sz (by omega), h⟩
def kF (ts : List TE) (acc : Str) (σ : L2.St) (J : Str → Hp → Prop) : VK := fun x H1 => (∃ y : Str, x = .str y ∧ y.length ≤ sizeLine ∧ ∃ z : Str, V.str y = .str z ∧ (acc ++ z).length ≤ sizeLine ∧ tJs ts (acc ++ z) σ H1 J) ∨
  ∃ i : Int, x = .int i ∧ i.natAbs.log2 < 1920 ∧ ∃ z : Str, V.str (toString i) = .str z ∧ (acc ++ z).length ≤ sizeLine ∧ tJs ts (acc ++ z) σ H1 J
theorem rd_jsF (h : te σ H (kF ts acc σ J)) : tJs (tFmt te :: ts) acc σ H J := h
theorem rd_kFI {n : Int} (h0 : 0 ≤ n) (h1 : n < 10 ^ 12) (hz : acc.length ≤ 1000) (h : tJs ts (acc ++ toString n) σ H J) : kF ts acc σ J (.int n) H := by
  refine Or.inr ⟨n, rfl, ?_, toString n, rfl, ?_, h⟩
  · by_cases e : n.natAbs = 0
    · rw [e]; decide
    · exact (Nat.log2_lt e).2 (Nat.lt_of_lt_of_le (show n.natAbs < 2 ^ 40 by omega) (Nat.pow_le_pow_right (by omega) (by omega)))
  · have := len_num h0 h1
    rw [len_app]
    exact sz (by omega)
theorem rd_jsN (h : J acc H) : tJs [] acc σ H J := h
end
end Rs

namespace Rs
open PySem PySem.Spec PyProof.Rows L2
section
variable {X : Cx}
theorem ix_tupK {K : PySem.W.Frag} (h : X.K = K) : IxR X (rIxT K) := by subst h; exact ix_tup
end
end Rs

namespace Rs
open PySem PySem.Spec PyProof.Rows L2
/-! ### promises by ledgers -/
section
variable {H0 H H' : Hp} {M C : List Addr} {L L' LL F : Led}
/-- what is known behind a call: C the objects that may have changed, L what was known of, L' what is known now -/
theorem Hs.frame (S : Hs H0 M H (L ++ F)) (S' : Hs H C H' L') (hC : ∀ c ∈ C, c ∈ L.map (·.1) ∧ (H0 c = none ∨ c ∈ M)) (hk : ∀ q ∈ L', q.1 ∈ L.map (·.1) ∨ H q.1 = none) : Hs H0 M H' (L' ++ F) := by
  have nd := S.nd
  rw [List.map_append, List.nodup_append] at nd
  obtain ⟨_, nF, dis⟩ := nd
  refine ⟨?_, ?_, ?_, ?_⟩
  · rw [List.map_append, List.nodup_append]
    refine ⟨S'.nd, nF, ?_⟩
    intro x hx y hy e
    subst e
    obtain ⟨q, hq, rfl⟩ := List.mem_map.mp hx
    rcases hk q hq with h | h
    · exact dis _ h _ hy rfl
    · obtain ⟨r, hr, e⟩ := List.mem_map.mp hy
      have := S.is r (List.mem_append_right _ hr)
      rw [e, h] at this
      cases this
  · intro q hq
    rcases List.mem_append.mp hq with h | h
    · exact S'.is q h
    · refine S'.old _ _ (S.is q (List.mem_append_right _ h)) fun hc => ?_
      exact dis _ (hC _ hc).1 _ (List.mem_map_of_mem (f := (·.1)) h) rfl
  · intro b o e hb
    refine S'.old _ _ (S.old b o e hb) fun hc => ?_
    rcases (hC _ hc).2 with z | z
    · rw [z] at e; cases e
    · exact hb z
  · intro b hb
    by_cases hc : b ∈ C
    · exact S'.mu b hc
    · cases e : H b with
      | none => exact absurd e (S.mu b hb)
      | some u => rw [S'.old b u e hc]; simp
theorem Hs.none0 (S : Hs H0 M H L) {a : Addr} (h : H a = none) : H0 a = none := (S.new h (.lst [])).1
end
end Rs
namespace Rs
open PySem PySem.Spec PyProof.Rows L2
abbrev SepR := List V → List Addr → Led → (V → Led → Prop) → Prop
/-- R: the arguments, the objects that may change, what is known ahead, what is promised -/
def Sep (R : SepR) : Sp := fun vs H Q _ => ∃ C L post, R vs C L post ∧ (L.map (·.1)).Nodup ∧ (∀ q ∈ L, H q.1 = some q.2) ∧ (∀ c ∈ C, c ∈ L.map (·.1)) ∧
  ∀ v H' L', post v L' → Hs H C H' L' → (∀ q ∈ L', q.1 ∈ L.map (·.1) ∨ H q.1 = none) → Q v H'
theorem Sep.led {H : Hp} {C : List Addr} {L : Led} (nd : (L.map (·.1)).Nodup) (is : ∀ q ∈ L, H q.1 = some q.2) (hC : ∀ c ∈ C, c ∈ L.map (·.1)) : Hs H C H L := by
  refine Hs.start H C L nd is fun b hb => ?_
  obtain ⟨q, hq, e⟩ := List.mem_map.mp (hC b hb)
  rw [← e, is q hq]; simp
/-- one entry taken out -/
inductive Pick (q : Addr × HO) : Led → Led → Prop where
  | here {L : Led} : Pick q (q :: L) L
  | there {r : Addr × HO} {L L' : Led} : Pick q L L' → Pick q (r :: L) (r :: L')
  | app {N L L' : Led} : Pick q L L' → Pick q (N ++ L) (N ++ L')
theorem Pick.perm {q : Addr × HO} {L L' : Led} (h : Pick q L L') : L.Perm (q :: L') := by
  induction h with
  | here => exact .refl _
  | there _ ih => exact (List.Perm.cons _ ih).trans (.swap _ _ _)
  | app _ ih => exact (List.Perm.append_left _ ih).trans List.perm_middle
/-- several taken out -/
inductive Sel : Led → Led → Led → Prop where
  | nil {L : Led} : Sel [] L L
  | cons {q : Addr × HO} {K L L' F : Led} : Pick q L L' → Sel K L' F → Sel (q :: K) L F
theorem Sel.perm {K L F : Led} (h : Sel K L F) : L.Perm (K ++ F) := by
  induction h with
  | nil => exact .refl _
  | cons p _ ih => exact p.perm.trans (.cons _ ih)
section
variable {H0 H H' : Hp} {M C : List Addr} {L L' LL F : Led} {R : SepR} {vs : List V} {post : V → Led → Prop} {Q : VK} {E : XK}
theorem sep_use (S : Hs H0 M H LL) (r : R vs C L post) (pm : LL.Perm (L ++ F)) (hC : ∀ c ∈ C, c ∈ L.map (·.1) ∧ (H0 c = none ∨ c ∈ M))
    (h : ∀ v H' L', post v L' → (∀ q ∈ L', q.1 ∈ L.map (·.1) ∨ H0 q.1 = none) → Hs H0 M H' (L' ++ F) → Q v H') : Sep R vs H Q E := by
  have S1 := S.perm pm.symm
  refine ⟨C, L, post, r, ?_, fun q hq => S1.is q (List.mem_append_left _ hq), fun c hc => (hC c hc).1, fun v H' L' p S' hk => ?_⟩
  · have := S1.nd
    rw [List.map_append, List.nodup_append] at this
    exact this.1
  · refine h v H' L' p (fun q hq => ?_) (S1.frame S' hC hk)
    rcases hk q hq with z | z
    · exact Or.inl z
    · exact Or.inr (S.none0 z)
/-- what is said of own objects, told of those of a ledger -/
theorem own_of {K : Led} (h : ∀ q ∈ L', q.1 ∈ L.map (·.1) ∨ H0 q.1 = none) (hL : ∀ q ∈ L, H0 q.1 = none ∨ q.1 ∈ M) : ∀ q ∈ L', H0 q.1 = none ∨ q.1 ∈ M := fun q hq => by
  rcases h q hq with z | z
  · obtain ⟨r, hr, e⟩ := List.mem_map.mp z
    rw [← e]; exact hL r hr
  · exact Or.inl z
end
end Rs
namespace Rs
open PySem PySem.Spec PyProof.Rows L2
/-! ### ledgers put in another order, by counting -/
open Classical in
noncomputable def one (a b : Addr × HO) : Nat := if b = a then 1 else 0
noncomputable def cn (a : Addr × HO) : Led → Nat
  | [] => 0
  | b :: L => one a b + cn a L
theorem cn_nil (a : Addr × HO) : cn a [] = 0 := rfl
theorem cn_cons (a b : Addr × HO) (L : Led) : cn a (b :: L) = one a b + cn a L := rfl
theorem cn_app (a : Addr × HO) : ∀ L L' : Led, cn a (L ++ L') = cn a L + cn a L'
  | [], L' => by simp [cn]
  | b :: L, L' => by rw [List.cons_append, cn_cons, cn_cons, cn_app a L L']; omega
theorem one_self (a : Addr × HO) : one a a = 1 := by simp [one]
theorem one_ne {a b : Addr × HO} (h : b ≠ a) : one a b = 0 := by simp [one, h]
theorem cn_pos {a : Addr × HO} : ∀ {L : Led}, 0 < cn a L ↔ a ∈ L
  | [] => by simp [cn]
  | b :: L => by
    rw [cn_cons]
    by_cases h : b = a
    · subst h; rw [one_self]; simp; omega
    · rw [one_ne h]
      have := cn_pos (a := a) (L := L)
      simp [Ne.symm h, this]
theorem cn_le {L : Led} (h : (L.map (·.1)).Nodup) (a : Addr × HO) : cn a L ≤ 1 := by
  induction L with
  | nil => simp [cn]
  | cons b L ih =>
    rw [List.map_cons, List.nodup_cons] at h
    rw [cn_cons]
    by_cases e : b = a
    · subst e
      rw [one_self]
      have : cn b L = 0 := by
        by_cases z : 0 < cn b L
        · exact absurd (List.mem_map_of_mem (f := (·.1)) (cn_pos.mp z)) h.1
        · omega
      omega
    · rw [one_ne e]; have := ih h.2; omega
theorem nodup_re {L L' : Led} (h : (L.map (·.1)).Nodup) (c : ∀ a, cn a L' ≤ cn a L) : (L'.map (·.1)).Nodup := by
  have sub : ∀ q ∈ L', q ∈ L := fun q hq => cn_pos.mp (Nat.lt_of_lt_of_le (cn_pos.mpr hq) (c q))
  have c1 : ∀ a, cn a L' ≤ 1 := fun a => Nat.le_trans (c a) (cn_le h a)
  have inj : ∀ {L : Led}, (L.map (·.1)).Nodup → ∀ q ∈ L, ∀ r ∈ L, q.1 = r.1 → q = r := by
    intro L
    induction L with
    | nil => intro _ q hq; cases hq
    | cons b L ih =>
      intro h q hq r hr e
      rw [List.map_cons, List.nodup_cons] at h
      rcases List.mem_cons.mp hq with rfl | hq'
      · rcases List.mem_cons.mp hr with rfl | hr'
        · rfl
        · exact absurd (by rw [e]; exact List.mem_map_of_mem (f := (·.1)) hr') h.1
      · rcases List.mem_cons.mp hr with rfl | hr'
        · exact absurd (by rw [← e]; exact List.mem_map_of_mem (f := (·.1)) hq') h.1
        · exact ih h.2 q hq' r hr' e
  clear c
  induction L' with
  | nil => simp
  | cons b L' ih =>
    rw [List.map_cons, List.nodup_cons]
    refine ⟨fun hm => ?_, ih (fun q hq => sub q (List.mem_cons_of_mem _ hq)) fun a => ?_⟩
    · obtain ⟨r, hr, e⟩ := List.mem_map.mp hm
      have := inj h _ (sub r (List.mem_cons_of_mem _ hr)) _ (sub b List.mem_cons_self) e
      subst this
      have z := c1 r
      rw [cn_cons, one_self] at z
      have := cn_pos.mpr hr
      omega
    · have := c1 a; rw [cn_cons] at this; omega
theorem Hs.re {H0 H : Hp} {M : List Addr} {L L' : Led} (S : Hs H0 M H L) (c : ∀ a, cn a L' ≤ cn a L) : Hs H0 M H L' :=
  ⟨nodup_re S.nd c, fun q hq => S.is q (cn_pos.mp (Nat.lt_of_lt_of_le (cn_pos.mpr hq) (c q))), S.old, S.mu⟩
section
variable {H0 H H' : Hp} {M C : List Addr} {L L' LL F : Led} {R : SepR} {vs : List V} {post : V → Led → Prop} {Q : VK} {E : XK}
theorem sep_use' (S : Hs H0 M H LL) (r : R vs C L post) (pm : ∀ a, cn a (L ++ F) ≤ cn a LL) (hC : ∀ c ∈ C, c ∈ L.map (·.1) ∧ (H0 c = none ∨ c ∈ M))
    (h : ∀ v H' L', post v L' → (∀ q ∈ L', q.1 ∈ L.map (·.1) ∨ H0 q.1 = none) → Hs H0 M H' (L' ++ F) → Q v H') : Sep R vs H Q E :=
  sep_use (S.re pm) r (.refl _) hC h
end
end Rs
namespace Rs
open PySem PySem.Spec PyProof.Rows L2
theorem Chg.app {a : Addr} {o o' : HO} {L L' : Led} (h : Chg a o o' L L') : ∀ N : Led, Chg a o o' (N ++ L) (N ++ L')
  | [] => h
  | _ :: N => .there (h.app N)
theorem Chg.appR {a : Addr} {o o' : HO} {L L' N : Led} (h : Chg a o o' L L') : Chg a o o' (N ++ L) (N ++ L') := h.app N
theorem Chg.appL {a : Addr} {o o' : HO} {L L' N : Led} (h : Chg a o o' L L') : Chg a o o' (L ++ N) (L' ++ N) := by
  induction h with
  | here => exact .here
  | there _ ih => exact .there ih
end Rs

namespace Rs
open PySem PySem.Spec PyProof.Rows L2
section
variable {σ : L2.St} {H H0 : Hp} {M : List Addr} {L L' : Led} {Q : VK} {v x y : V} {nx : L2.St → Hp → Prop} {rt : VK} {bk ct : L2.St → Hp → Prop} {ta : TA} {g : TG} {tw : TS} {K : PySem.W.Frag}
def enI (K : PySem.W.Frag) (R : It → Hp → Prop) (vs : List V) (H : Hp) : Prop := ∃ a xs, vs = [V.ref a] ∧ SqL K H a xs ∧ R (Ite K a) H
theorem rd_enum {R : It → Hp → Prop} (h : ta σ H fun vs H1 => enI K R vs H1) : iEnum K ta σ H R := h
theorem rd_enI {R : It → Hp → Prop} {a : Addr} {xs : List V} (S : Hs H0 M H L) (m : (a, HO.lst xs) ∈ L) (h : R (Ite K a) H) : enI K R [.ref a] H := ⟨a, xs, rfl, S.lst m, h⟩
/-- over enumerate of a list that stays as it is -/
theorem fw_enum {a : Addr} {xs : List V} (Pv : Nat → L2.St → Hp → Prop) (h0 : Pv 0 σ H) (hl : ∀ i σ H, i ≤ xs.length → Pv i σ H → SqL K H a xs)
    (hs : ∀ i x σ H T, xs[i]? = some x → Pv i σ H → H T = none → g (.ref T) σ (upd H T (.tup [.int (i : Nat), x])) fun σ2 H2 => tw ⟨Pv (i + 1), rt, nx, Pv (i + 1)⟩ σ2 H2) (hd : ∀ σ H, Pv xs.length σ H → nx σ H) : forW (Ite K a) g tw ⟨nx, rt, bk, ct⟩ σ H := by
  refine for_it walk_enum Pv h0 hl ?_ hd
  rintro i x σ H H' hi hp ⟨T, y, z, rfl, hT, rfl, e1, e2⟩
  cases e1
  exact hs i z σ H T e2 hp hT
/-- an own new object, as the rules hand it -/
theorem Hs.newAt (S : Hs H0 M H L) {p : Addr} {o : HO} (hp : H p = none) : H0 p = none ∧ Hs H0 M (upd H p o) ((p, o) :: L) := S.new hp o
theorem rd_methK {C : Addr} {m : Str} {n : Nat} {sp : Sp} {gV : List V → List V → List V} {E : XK} {te : TE} {tk : TA} (h : te σ H fun x H1 => ∃ a dx fs, x = .ref a ∧ H1 a = some (.ins C dx fs) ∧ fs.lookup m = none ∧ tk σ H1 fun zs H2 => zs.length = n ∧ sp (gV [x] zs) H2 Q E) : tMethK C m n sp gV E te tk σ H Q := h
end
end Rs

namespace Rs
open PySem PySem.Spec PyProof.Rows L2
abbrev SepM := List V → List Addr → Led → (V → Led → Led → Prop) → Prop
/-- a promise by ledgers; the new objects told apart -/
def SepN (R : SepM) : Sp := fun vs H Q _ => ∃ C L post, R vs C L post ∧ (L.map (·.1)).Nodup ∧ (∀ q ∈ L, H q.1 = some q.2) ∧ (∀ c ∈ C, c ∈ L.map (·.1)) ∧
  ∀ v H' N L', post v N L' → Hs H C H' (N ++ L') → (∀ q ∈ L', q.1 ∈ L.map (·.1)) → (∀ q ∈ N, H q.1 = none) → Q v H'
section
variable {H0 H H' : Hp} {M C : List Addr} {L L' LL F : Led} {R : SepM} {vs : List V} {post : V → Led → Led → Prop} {Q : VK} {E : XK}
theorem sepn_use (S : Hs H0 M H LL) (r : R vs C L post) (pm : ∀ a, cn a (L ++ F) ≤ cn a LL) (hC : ∀ c ∈ C, c ∈ L.map (·.1) ∧ (H0 c = none ∨ c ∈ M))
    (h : ∀ v H' N L', post v N L' → (∀ q ∈ N, H0 q.1 = none) → Hs H0 M H' (N ++ (L' ++ F)) → Q v H') : SepN R vs H Q E := by
  have S1 := S.re pm
  refine ⟨C, L, post, r, ?_, fun q hq => S1.is q (List.mem_append_left _ hq), fun c hc => (hC c hc).1, fun v H' N L' p S' h1 h2 => ?_⟩
  · have := S1.nd
    rw [List.map_append, List.nodup_append] at this
    exact this.1
  · refine h v H' N L' p (fun q hq => S.none0 (h2 q hq)) ?_
    rw [← List.append_assoc]
    refine S1.frame S' hC fun q hq => ?_
    rcases List.mem_append.mp hq with z | z
    · exact Or.inr (h2 q z)
    · exact Or.inl (h1 q z)
end
end Rs

namespace Rs
open PySem PySem.Spec PyProof.Rows L2
section
variable {H H0 : Hp} {M : List Addr} {L L' : Led} {Q : VK} {a : Addr}
theorem rd_rev {xs : List V} (S : Hs H0 M H L) (c : Chg a (.lst xs) (.lst xs.reverse) L L') (hm : H0 a = none ∨ a ∈ M) (h : ∀ H', Hs H0 M H' L' → Q .non H') : rReverse (.ref a) [] H Q := ⟨a, xs, rfl, rfl, S.is _ c.mem, h _ (S.put c hm)⟩
end
end Rs
namespace Rs
open PySem PySem.Spec PyProof.Rows L2
theorem at_nat {ns : List Int} {i : Nat} (h : i < ns.length) : atI (ns.map V.int) (i : Int) = some (.int (ns.getD i 0)) := by
  have e : ixN (ns.map V.int).length (i : Int) = some i := by
    unfold ixN
    rw [if_pos (by omega)]
    simp [h]
  unfold atI
  rw [e]
  show (ns.map V.int)[i]? = _
  rw [List.getElem?_map, List.getD_eq_getElem?_getD, List.getElem?_eq_getElem h]
  rfl
end Rs

/-! Xe1: own exceptions over a built-in base whose __new__ may be another's (KeyError: LookupError's) -/
namespace Xc
open PySem
/-- what is told of the base B; NB is the one whose __new__ is taken -/
structure XB (B NB newId initId : String) (bm : List Value) : Prop where
  nf : ExcNewFacts NB newId
  quiet : newId.startsWith "lifetime." = false
  nsplit : splitId newId = some (NB, "__new__")
  nkind : builtinKind newId = some .builtinFn
  nrow : Manifest.signature? newId = some ⟨.any, NB, NB, .cls, [⟨"args", .varPos, false⟩, ⟨"kwargs", .varKw, false⟩]⟩
  canon : Manifest.canonical newId = Manifest.canonical "BaseException.__new__"
  hasN : bm.contains (.type NB) = true
  has : bm.contains (.type B) = true
  noA : bm.contains (.type "AttributeError") = false
  noN : bm.contains (.type "NameError") = false
  starN : (NB != "*") = true
  star : (B != "*") = true
  ini : Slot B "__init__" initId
  ientry : entryFor table initId = some Builtin.«BaseException.__init__»
  isplit : splitId initId = some (B, "__init__")
  ikind : builtinKind initId = some .slot
  irow : Manifest.signature? initId = some ⟨.positional, "*", B, .self, [⟨"args", .varPos, false⟩]⟩
theorem XB.of {B newId initId : String} {bm : List Value} (F : ExcBaseFacts B newId initId bm) : XB B B newId initId bm :=
  ⟨F.toExcNewFacts, F.quiet, F.newSplit, F.newKind, F.newRow, F.canon, F.hasB, F.hasB, F.noAttr, F.noName, F.noStar, F.noStar, F.init, F.initEntry, F.initSplit, F.initKind, F.initRow⟩
/-- a class over it, with its own ones between -/
def ClX (h : Heap) (C : Addr) (bmB : List Value) (newId : String) : Prop := ∃ nm N qn bs bm hdct sn sub ab col dd k0 k1 k2 k3 k5, h.get? C = some (excClassObj nm qn C N bs bm hdct sn sub ab col dd k0 k1 k2 k3 k5 newId) ∧ ∀ T : String, bm.contains (.type T) = bmB.contains (.type T)
section
variable {M : Model} {A : Around} {E : Value → Shared → Prop} {h : Heap} {g : Array GenState} {d : Drawn} {t : Nat} {os : OsState} {C : Addr} {bmB : List Value} {B NB newId initId : String}
theorem xb_checkN (F : XB B NB newId initId bmB) (hx : ClX h C bmB newId) {xs : List Value} {Q : Unit → Shared → Prop} (k : Q () ⟨h, g, d, t, os⟩) : wpAny M A (checkBuiltinCall newId ⟨.ref C :: xs, []⟩) Q E ⟨h, g, d, t, os⟩ := by
  obtain ⟨nm, N, qn, bs, bm, hdct, sn, sub, ab, col, dd, k0, k1, k2, k3, k5, hC, hT⟩ := hx
  have c1 : (Value.ref C :: bm).contains (.type NB) = true := by
    rw [List.contains_cons, hT NB, F.hasN]
    exact Bool.or_true _
  have c2 := F.starN
  simp only [checkBuiltinCall, F.nkind, F.nsplit, F.nrow]
  repeat (first
    | refine wpAny_loadPart_at hC ?_
    | (refine wpAny_isSubtype_exc hC ?_; rw [c1])
    | refine wpAny_staticBase_exc hC ?_
    | refine wpAny_madeBy_exc hC ?_
    | simp only [bne_self_eq_false, Bool.false_eq_true, if_false]
    | wp_step)
  exact k
theorem xb_checkI (F : XB B NB newId initId bmB) (hx : ClX h C bmB newId) {e : Addr} {oe : Obj} {xs : List Value} {Q : Unit → Shared → Prop} (he : h.get? e = some oe) (hc : oe.cls = .ref C) (k : Q () ⟨h, g, d, t, os⟩) :
    wpAny M A (checkBuiltinCall initId ⟨.ref e :: xs, []⟩) Q E ⟨h, g, d, t, os⟩ := by
  obtain ⟨nm, N, qn, bs, bm, hdct, sn, sub, ab, col, dd, k0, k1, k2, k3, k5, hC, hT⟩ := hx
  have c1 : (Value.ref C :: bm).contains (.type B) = true := by
    rw [List.contains_cons, hT B, F.has]
    exact Bool.or_true _
  have c2 := F.star
  simp only [checkBuiltinCall, F.ikind, F.isplit, F.irow]
  repeat (first
    | (with_reducible refine wpAny_loadPart_at he ?_; rw [hc])
    | with_reducible refine wpAny_loadPart_at hC ?_
    | (with_reducible refine wpAny_isSubtype_exc hC ?_; rw [c1])
    | wp_step)
  refine wpAny_onRaise ?_
  have z : ∀ (a b : String) (n : Nat), Bind.check ⟨.positional, "*", B, .self, [⟨"args", .varPos, false⟩]⟩ a b n (List.map (fun x => x.fst) ({ pos := Value.ref e :: xs } : Args).kw) = pure () := fun a b n => check_star_args _ _ _ _ _ _
  rw [z]
  exact wpAny_pure k
end
section
variable {prog : Program} {w : World} {A : Around} {E : Value → Shared → Prop} {R : Result → Shared → Prop} {h : Heap} {g : Array GenState} {d : Drawn} {t : Nat} {os : OsState} {C : Addr} {bmB : List Value} {B NB newId initId : String}
theorem xb_new (F : XB B NB newId initId bmB) (hx : ClX h C bmB newId) {xs : List Value} (hl : xs.length ≤ sizeLine)
    (k : R (.ok (.ret (.ref (h.objs.size + 1)))) ⟨(h.push (W.kdv_tup xs)).push (PySem.HandSPX.excO C h.objs.size), g, d, t, os⟩) :
    codeAny (model prog w) A (.builtin newId ⟨.ref C :: xs, []⟩) R ⟨h, g, d, t, os⟩ := by
  obtain ⟨nm, N, qn, bs, bm, hdct, sn, sub, ab, col, dd, k0, k1, k2, k3, k5, hC, hT⟩ := hx
  have e1 := F.nf.ends
  have c1 : (Value.ref C :: bm).contains (.type NB) = true := by
    rw [List.contains_cons, hT NB, F.hasN]
    exact Bool.or_true _
  have c2 : (Value.ref C :: bm).contains (.type "AttributeError") = false := by
    rw [List.contains_cons, hT _, F.noA]
    rfl
  have c3 : (Value.ref C :: bm).contains (.type "NameError") = false := by
    rw [List.contains_cons, hT _, F.noN]
    rfl
  have hrest := hl
  refine codeAny_builtinAt F.nf.entry ?_
  unfold Builtin.«BaseException.__new__»
  refine wpAt_bind ?_
  show wpAt _ _ _ (stack >>= _) _ _ _
  refine wpAt_bind (wpAt_stack fun p z => wpAt_of_wpAny ?_)
  wp_walk
  refine wpAt_of_wpAny ?_
  rw [F.nf.owner]
  repeat (first
    | with_reducible refine wpAny_madeHere_exc F.canon hC ?_
    | with_reducible refine wpAny_loadPart_at hC ?_
    | (with_reducible refine wpAny_isSubtype_exc hC ?_; first | rw [c1] | rw [c2] | rw [c3])
    | wp_step)
  show R _ _
  rw [Heap.size_push]
  exact k
theorem xb_tcall (F : XB B NB newId initId bmB) (hx : ClX h C bmB newId) {xs : List Value} {fI : Addr} {Q : Fin → Shared → Prop}
    (li : W.Looks (model prog w) h (typeLookup (.ref C) "__init__") (some (.ref fI))) (lb : ∀ z, W.Looks (model prog w) h (bindSpecial (.ref fI) z) (.ref fI, [z])) (hl : xs.length ≤ sizeLine)
    (k : codeAny (model prog w) A (.call (.ref fI) ⟨.ref (h.objs.size + 1) :: xs, []⟩)
      (fun r s' => match r with | .ok (.ret v) => v = .none ∧ Q (.done (.ret (.ref (h.objs.size + 1)))) s' | .ok _ => False | .error e => E e s')
      ⟨(h.push (W.kdv_tup xs)).push (PySem.HandSPX.excO C h.objs.size), g, d, t, os⟩) :
    wpAny (model prog w) A (Builtin.«type.__call__» ⟨.ref C :: xs, []⟩) Q E ⟨h, g, d, t, os⟩ := by
  have hx0 := hx
  obtain ⟨nm, N, qn, bs, bm, hdct, sn, sub, ab, col, dd, k0, k1, k2, k3, k5, hC, hT⟩ := hx
  repeat (first
    | with_reducible refine wpAny_loadPart_at hC ?_
    | with_reducible refine wpAny_madeBy_exc hC ?_
    | wp_step)
  refine codeAny_call_builtin_code (Code.quiet_builtin _ F.quiet) (xb_checkN F hx0 ?_)
  refine xb_new F hx0 hl ?_
  show wpAny _ _ _ _ _ _
  have kp : ∀ b o, h.get? b = some o → ((h.push (W.kdv_tup xs)).push (PySem.HandSPX.excO C h.objs.size)).get? b = some o := fun b o z => Heap.get?_push_of_some _ (Heap.get?_push_of_some _ z)
  have hC2 := kp _ _ hC
  have hg : ((h.push (W.kdv_tup xs)).push (PySem.HandSPX.excO C h.objs.size)).get? (h.objs.size + 1) = some (PySem.HandSPX.excO C h.objs.size) := by heap_get
  have c1 : (Value.ref C :: bm).contains (.ref C) = true := by simp
  have i1 := li.keeps kp
  have b1 := (lb (.ref (h.objs.size + 1))).keeps kp
  unfold isInstance
  repeat (first
    | with_reducible refine wpAny_loadPart_at hg ?_
    | (with_reducible refine wpAny_isSubtype_exc hC2 ?_; rw [c1])
    | wp_step)
  show wpAny _ _ (typeLookup (.ref C) _) _ _ _
  refine i1.at ?_
  refine wpAny_holding (wpAny_bind (b1.at ?_))
  refine wpAny_bind (wpAny_call (codeAny_mono k fun r s' z => ?_))
  cases r with
  | error e => exact z
  | ok fl =>
    cases fl with
    | ret v =>
      obtain ⟨rfl, z⟩ := z
      first
        | exact wpAny_pure (wpAny_pure z)
        | (wp_walk; exact z)
    | next => exact z.elim
    | brk => exact z.elim
    | cont => exact z.elim
theorem xb_call (F : XB B NB newId initId bmB) (hx : ClX h C bmB newId) {xs : List Value} {fI : Addr}
    (li : W.Looks (model prog w) h (typeLookup (.ref C) "__init__") (some (.ref fI))) (lb : ∀ z, W.Looks (model prog w) h (bindSpecial (.ref fI) z) (.ref fI, [z])) (hl : xs.length ≤ sizeLine)
    (k : codeAny (model prog w) (A.under (.builtin "type.__call__" ⟨.ref C :: xs, []⟩)) (.call (.ref fI) ⟨.ref (h.objs.size + 1) :: xs, []⟩) (W.InitBack (h.objs.size + 1) R)
      ⟨(h.push (W.kdv_tup xs)).push (PySem.HandSPX.excO C h.objs.size), g, d, t, os⟩) :
    codeAny (model prog w) A (.call (.ref C) ⟨xs, []⟩) R ⟨h, g, d, t, os⟩ := by
  have hx0 := hx
  obtain ⟨nm, N, qn, bs, bm, hdct, sn, sub, ab, col, dd, k0, k1, k2, k3, k5, hC, hT⟩ := hx
  have f1 := tc_lookup
  have f2 := tc_bind (.ref C)
  have ty : (⟨h, g, d, t, os⟩ : Shared).TypeIs (.ref C) "type" := ⟨_, hC, rfl⟩
  refine codeAny_of_tree ?_
  show wpAny _ _ (callAny (.ref C) _) _ _ _
  repeat (any_goals (first
    | assumption
    | with_reducible refine wpAny_loadPart_at hC ?_
    | wp_step))
  refine ⟨rfl, ?_⟩
  refine codeAny_call_builtin_at (Code.quiet_builtin _ (by decide +kernel)) entry_typeCall (wpAny_check_type_call_sub hC (xb_tcall F hx0 li lb hl ?_))
  refine codeAny_mono k fun r s' z => ?_
  cases r with
  | error e => exact z
  | ok fl => cases fl <;> exact z
/-- B.__init__(e, ..): the arguments are kept anew -/
theorem xb_init (F : XB B NB newId initId bmB) (hx : ClX h C bmB newId) {e t0 : Addr} {xs : List Value} (he : h.get? e = some (PySem.HandSPX.excO C t0)) (hl : xs.length ≤ sizeLine)
    (k : ∀ h' t1, (∀ b o, b ≠ e → h.get? b = some o → h'.get? b = some o) → h'.get? e = some (PySem.HandSPX.excO C t1) → R (.ok (.ret .none)) ⟨h', g, d, t, os⟩) :
    codeAny (model prog w) A (.call (.builtin initId) ⟨.ref e :: xs, []⟩) R ⟨h, g, d, t, os⟩ := by
  have hrest := hl
  refine codeAny_call_builtin F.ini.plain F.ientry (xb_checkI F hx he rfl ?_)
  wp_walk
  refine k _ h.objs.size (fun b o nb z => ?_) ?_
  · rw [Heap.get?_update_other _ _ (Ne.symm nb)]
    exact Heap.get?_push_of_some _ z
  · rw [Heap.get?_update_self _ (Heap.get?_push_of_some _ he) rfl]
    rfl
end
/-! KeyError -/
theorem xb_KeyError : XB "KeyError" "LookupError" "LookupError.__new__" "KeyError.__init__" [.type "KeyError", .type "LookupError", .type "Exception", .type "BaseException", .type "object"] where
  nf := PySem.F.excBase_LookupError.toExcNewFacts
  quiet := PySem.F.excBase_LookupError.quiet
  nsplit := PySem.F.excBase_LookupError.newSplit
  nkind := PySem.F.excBase_LookupError.newKind
  nrow := PySem.F.excBase_LookupError.newRow
  canon := PySem.F.excBase_LookupError.canon
  hasN := by decide +kernel
  has := by decide +kernel
  noA := by decide +kernel
  noN := by decide +kernel
  starN := by decide +kernel
  star := by decide +kernel
  ini := .of (owner := "KeyError") (n := "__init__") (by rw [typeLookup_type, builtinLookup_eq_fast]; kernel_rfl) (by decide +kernel) (by decide +kernel) (by decide +kernel) (by first | exact .inl (by decide +kernel) | exact .inr (by decide +kernel)) (by rw [isSubtype_type]; kernel_rfl)
  ientry := entryFor_alias (id' := "BaseException.__init__") (by rw [fastTable_eq_tree]; kernel_rfl) (by first | rfl | decide +kernel) (by decide +kernel) (by rw [fastTable_eq_tree]; kernel_rfl)
  isplit := by kernel_rfl
  ikind := by kernel_rfl
  irow := by kernel_rfl
theorem store_KeyError : StoreFacts "KeyError" [.type "KeyError", .type "LookupError", .type "Exception", .type "BaseException", .type "object"] "object.__setattr__" "object" :=
  ⟨by kernel_rfl,
    .of (owner := "object") (n := "__setattr__") (by rw [typeLookup_type, builtinLookup_eq_fast]; kernel_rfl) (by decide +kernel) (by decide +kernel) (by decide +kernel) (by first | exact .inl (by decide +kernel) | exact .inr (by decide +kernel)) (by rw [isSubtype_type]; kernel_rfl),
    PySem.F.store_Exception.entry, by decide +kernel, by decide +kernel, by decide +kernel, PySem.F.store_Exception.args, fun z => by kernel_rfl⟩
end Xc

/-! Xc1: own exceptions over any built-in base, with an own __init__ -/
namespace Xc
open PySem PySem.Spec PyProof.Rows L2
/-- C: an own class over the built-in B (others of one's own between) -/
structure Own (K : PySem.W.Frag) (C : Addr) (B newId initId : String) (bmB : List Value) : Prop where
  fb : ∃ NB, XB B NB newId initId bmB
  st : StoreFacts B bmB "object.__setattr__" "object"
  ini : PySem.W.excInitIn K C bmB newId = true
  ovr : PySem.W.excOver K C bmB = true
  dic : PySem.W.hasDictIn K C = true
  sav : PySem.W.findIn K (.ref C) "__setattr__" = some (some (.builtin "object.__setattr__"))
  bex : PySem.W.subIn K (.ref C) (.type "BaseException") = some true
  tyc : PySem.W.typeIn K (.ref C) = some (.type "type")
  kpc : PySem.W.keepIn K (.ref C) = true
section
variable {X : Cx} {pins : List (Addr × Obj)} {σ : L2.St} {H : Hp} {s : Shared} {a C dx : Addr} {f : Str} {y : V} {u : Value} {fs : List (Str × V)} {Q : Unit → Shared → Prop} {E : Value → Shared → Prop} {A : Around} {B newId initId : String} {bmB : List Value}
theorem put0 (T : Own X.K C B newId initId bmB) (I : Inv X pins σ H s) (e : H a = some (exo a C none)) (hno : PySem.W.takerIn X.K C f = some none) (ry : RelV y u)
    (k : ∀ d1 s1, H d1 = none → d1 ≠ a → Inv X pins σ (upd (upd H d1 (exd d1 [(f, y)])) a (exo a C (some d1))) s1 → Q () s1) : wpAny (model X.prog X.w) A (setAttr (.ref a) f u) Q E s := by
  obtain ⟨tA, hA⟩ := exo_at I.hok e
  obtain ⟨hp, gn, dr, tk0, osS⟩ := s
  have J : PySem.W.InstAt hp a { cls := .ref C, dict := none, data := .fields #[.ref tA, .none, .none, .none, .bool false, .none] } C none := ⟨hA, rfl, rfl, trivial⟩
  refine PySem.W.set_plain I.kIn J T.sav (PySem.W.osa_openX T.st I.kIn J T.ovr hno fun _ => ?_)
  obtain ⟨cd, hcd, hdc⟩ := PySem.W.any_some T.dic
  refine wpAny_bind (wpAny_pure (wpAny_bind (PySem.W.instanceDict_exc hA (PySem.W.looks_clsIn I.kIn hcd) hdc ?_)))
  have lt : a < hp.objs.size := Heap.lt_size hA
  show wpAny _ _ (Builtin.ObjectAttr.storeInDict hp.objs.size _ f u) _ _ _
  refine PySem.HandSPX.store_in_new ⟨_, #[], _, (Heap.get?_update_ne _ _ _ _ (Nat.ne_of_gt lt)).trans (Heap.get?_push_at rfl rfl), rfl, fun e he => absurd he (by simp), fun _ => rfl⟩ fun h2 tk2 hn sb => ?_
  have new : H hp.objs.size = none := I.hok.fresh (Nat.le_refl _)
  have neA : hp.objs.size ≠ a := Nat.ne_of_gt lt
  have oldK : ∀ b o, b ≠ a → hp.get? b = some o → h2.get? b = some o := fun b o hb q =>
    (sb.2 b (Nat.ne_of_lt (Heap.lt_size q))).trans ((Heap.get?_update_ne _ _ _ _ hb).trans (Heap.get?_push_of_some _ q))
  have atA : h2.get? a = some { cls := .ref C, dict := some hp.objs.size, data := .fields #[.ref tA, .none, .none, .none, .bool false, .none] } :=
    (sb.2 a (Ne.symm neA)).trans (Heap.get?_update_self _ (Heap.get?_push_of_some _ hA) rfl)
  have nn : ∀ {b : Addr}, H b = none → b ≠ a := fun {b} n z => by
    rw [z, e] at n; cases n
  have nD : ∀ {b : Addr} {o : Obj}, hp.get? b = some o → b ≠ hp.objs.size := fun {b o} q => Nat.ne_of_lt (Heap.lt_size q)
  refine k hp.objs.size ⟨h2, gn, dr, tk2, osS⟩ new neA (I.un (t' := tk2) ⟨fun b o q n _ _ => oldK b o (nn n) q, fun b o q n _ _ => ⟨o.slots, oldK b o (nn n) q⟩, fun b o q n _ => by
      rw [upd_ne (nn n), upd_ne (nD q)]; exact n, fun b o q _ => ?_, fun b xs q => by rw [upd_ne (at_ne e q exo_tup), upd_ne (ne_of_none q new)]; exact q,
      fun b o v q => by rw [upd_ne (at_ne e q exo_frz), upd_ne (ne_of_none q new)]; exact q, fun b ps q => ⟨#[], by rw [upd_ne (at_ne e q exo_tbl), upd_ne (ne_of_none q new), q]; simp⟩⟩ fun b o q => ?_)
  · by_cases hb : b = a
    · exact ⟨_, by rw [hb]; exact atA⟩
    · exact ⟨o, oldK b o hb q⟩
  · by_cases hb : b = a
    · subst hb; rw [upd_same] at q; cases q; exact exo_ok atA
    · rw [upd_ne hb] at q
      by_cases hd : b = hp.objs.size
      · subst hd; rw [upd_same] at q; cases q
        exact exd_ok hn (relO_put (fs := []) ry fun g => True.intro)
      · rw [upd_ne hd] at q
        refine (I.hok b o q).stay (fun c v hc z => oldK c v ?_ z) (fun c hc => by rw [upd_ne (at_ne e hc exo_own), upd_ne (ne_of_none hc new)]; exact hc)
          (fun c xs hc => by rw [upd_ne (at_ne e hc exo_tup), upd_ne (ne_of_none hc new)]; exact hc)
        rcases hc with hc | hc
        · rw [hc]; exact hb
        · exact at_ne e hc exo_own
theorem put1 (T : Own X.K C B newId initId bmB) (I : Inv X pins σ H s) (e : H a = some (exo a C (some dx))) (ed : H dx = some (exd dx fs)) (hl : fs.length ≤ 900) (hno : PySem.W.takerIn X.K C f = some none) (ry : RelV y u)
    (k : ∀ s1, Inv X pins σ (upd H dx (exd dx ((f, y) :: fs))) s1 → Q () s1) : wpAny (model X.prog X.w) A (setAttr (.ref a) f u) Q E s := by
  obtain ⟨tA, hA⟩ := exo_at I.hok e
  obtain ⟨mA, hns, rel⟩ := exd_at I.hok ed
  have wi := within_of rel
  obtain ⟨hp, gn, dr, tk0, osS⟩ := s
  obtain ⟨oD, _, _, hoD, _, _⟩ := hns.count wi
  have J : PySem.W.InstAt hp a { cls := .ref C, dict := some dx, data := .fields #[.ref tA, .none, .none, .none, .bool false, .none] } C (some oD) := ⟨hA, rfl, rfl, hoD⟩
  refine PySem.W.set_plain I.kIn J T.sav (PySem.W.osa_openX T.st I.kIn J T.ovr hno fun _ => ?_)
  obtain ⟨cd, hcd, hdc⟩ := PySem.W.any_some T.dic
  refine wpAny_bind (wpAny_pure (wpAny_bind (wpAny_bind (wpAny_loadPart hA (wpAny_bind ((PySem.W.looks_clsIn I.kIn hcd).at ?_))))))
  rw [hdc]
  refine wpAny_pure (a := some dx) ?_
  refine PySem.OEX.store_in_old hns wi (by rw [List.length_map]; omega) fun h2 tk2 hn sb => ?_
  obtain ⟨oN, _, _, eN, _⟩ := id hn
  exact k _ (I.write (t' := tk2) (x := dx) (e := dx) (o := exd dx ((f, y) :: fs)) (by rw [ed]; exact True.intro) (.inl rfl) (fun b o hb q => (sb.2 b hb).trans q) ⟨oN, eN⟩ (exd_ok hn (relO_put ry rel)))
/-- B.__init__(self, ..): the args are laid anew, nothing of them is told -/
theorem binit {us : List Value} {Q : Value → Shared → Prop} (T : Own X.K C B newId initId bmB) (I : Inv X pins σ H s) (e : H a = some (exo a C none)) (hl : us.length ≤ sizeLine) (k : ∀ s1, Inv X pins σ H s1 → Q .none s1) :
    wpAny (model X.prog X.w) A (call (.builtin initId) (.ref a :: us)) Q E s := by
  obtain ⟨tA, hA⟩ := exo_at I.hok e
  have hC := PySem.W.excInit_of I.kIn T.ini
  obtain ⟨NB, fb⟩ := T.fb
  obtain ⟨hp, gn, dr, tk0, osS⟩ := s
  refine wpAny_call (xb_init fb hC hA hl fun h2 t2 kp hx => ?_)
  have J := I.write (t' := tk0) (x := a) (e := a) (o := exo a C none) (by rw [e]; exact True.intro) (.inl rfl) kp ⟨_, hx⟩ (exo_ok hx)
  have same : upd H a (exo a C none) = H := by
    funext b
    by_cases hb : b = a
    · subst hb; rw [upd_same, e]
    · rw [upd_ne hb]
  exact k _ (same ▸ J)
end
/-! ### the rules -/
/-- B.__init__(self, ..) -/
def tBI (K : PySem.W.Frag) (B newId initId : String) (bmB : List Value) (ta : TA) : TE := fun σ H Q => ta σ H fun vs H1 => ∃ (a C : Addr) (ws : List V), vs = .ref a :: ws ∧ ws.length ≤ 1000 ∧ Own K C B newId initId bmB ∧ H1 a = some (exo a C none) ∧ Q .non H1
/-- self.f = e -/
def tPut (K : PySem.W.Frag) (B newId initId : String) (bmB : List Value) (f : Str) (to te : TE) : TS := fun D σ H => te σ H fun y H1 => to σ H1 fun x H2 => ∃ a C : Addr, x = .ref a ∧ Own K C B newId initId bmB ∧ PySem.W.takerIn K C f = some none ∧
  ((H2 a = some (exo a C none) ∧ ∀ dx, H2 dx = none → dx ≠ a → D.nx σ (upd (upd H2 dx (exd dx [(f, y)])) a (exo a C (some dx)))) ∨
    ∃ (dx : Addr) (fs : List (Str × V)), H2 a = some (exo a C (some dx)) ∧ H2 dx = some (exd dx fs) ∧ fs.length ≤ 900 ∧ D.nx σ (upd H2 dx (exd dx ((f, y) :: fs))))
section
variable {X : Cx} {o e : Expr} {es : List Expr} {to te : TE} {ta : TA} {f : Str} {p p' p1 p2 pos : Pos} {B newId initId : String} {bmB : List Value}
theorem pe_binit {n : Str} {pl : Sem Bool} {C : Addr} (_o : Own X.K C B newId initId bmB) (hg : Gl X n) (hm : X.mg n = none) (hv : bootBuiltins n = some (.type B)) (hty : typeOf (.type B) = pure (.type "type")) (hst : Manifest.isStub B = false) (hin : PySem.W.handedIn (.builtin initId) = true)
    (vV : PySem.W.findCls X.K (.type B) (.type "type") "__init__" = some (.val (.builtin initId))) (ha : PA X (e :: es) ta)
    (hc : eval (.Call (.Attribute (.Name n p1) "__init__" p2) (e :: es) [] pos) X.env = (do
      let ov ← eval (.Name n p1) X.env
      standAt p2.atName
      let (fn, fst) ← holding [ov] (getMethod ov "__init__" pl)
      callWith pos fn fst (backTo pos (starEach (e :: es) X.env)) (backToKw pos (keywordEach [] X.env))) := by rfl)
    (hn1 : n ≠ "__name__" := by decide) (hn2 : (n == ("__debug__" : Str)) = false := by decide) (he : starEach (e :: es) X.env = (false, eval e X.env) :: starEach es X.env := by rfl) (hp : (backTo pos (starEach es X.env)).any (·.1) = false := by rfl) :
    PE X (.Call (.Attribute (.Name n p1) "__init__" p2) (e :: es) [] pos) (tBI X.K B newId initId bmB ta) := by
  refine ⟨fun pins s σ H Q I k => PySem.W.methodCall_KW (ld_blt I hg hm hv ?_ hn1 hn2) hc⟩
  obtain ⟨m, fr⟩ := I.fr
  refine PySem.W.method_type fr I.ok.mod.kin hty hst vV hin ?_
  show wpAny _ _ (callWith pos (Value.builtin initId) [] (backTo pos (starEach (e :: es) X.env)) []) _ _ _
  refine PyProof.Rows.callWith_method1 (thn (ha.run pos pins _ σ H _ (I.tok _) k) fun us s1 ⟨vs, H1, I1, rv, a, C, ws, ev, hl, T, ea, q⟩ => ?_) he hp
  subst ev
  cases rv with
  | @cons _ u1 _ ur rA rW =>
    obtain rfl : u1 = Value.ref a := rA
    exact binit T I1 ea (by rw [← Paired.length rW, sizeLine_eq]; omega) fun s2 J => ⟨.non, H1, J, rfl, q⟩
theorem ps_put {C : Addr} (_o : Own X.K C B newId initId bmB) (ho : PE X o to) (he : PE X e te) (hs : swapsWith e (some (.Attribute o f p')) pos.line X.env = pure false := by rfl) : PS X (.Assign [.Attribute o f p'] e pos) (tPut X.K B newId initId bmB f to te) := by
  refine ⟨fun pins s σ H D I k => plainObj_wpAny_Assign_Attribute (thn (he.run pins s σ H _ I k) fun v s1 ⟨y, H1, I1, ry, k1⟩ => thn (ho.run pins s1 σ H1 _ I1 k1) fun u s2 ⟨x, H2, I2, rx, a, C, ex, T, hno, q⟩ => ?_) hs⟩
  subst ex
  obtain rfl : u = Value.ref a := rx
  rcases q with ⟨ea, q⟩ | ⟨dx, fs, ea, ed, hl, q⟩
  · exact put0 T I2 ea hno ry fun dx s3 n1 n2 J => ⟨σ, _, J, q dx n1 n2⟩
  · exact put1 T I2 ea ed hl hno ry fun s3 J => ⟨σ, _, J, q⟩
/-- C(e, ..) with C's own __init__ -/
theorem pmk_own {CX : CXT} {x : Str} {C fI : Addr} {k : Nat} {fd : FuncData} {ps : List Str} {sp : Sp} {ds : List Value} {dvs : List V} (T : Own X.K C B newId initId bmB) (iC : PySem.W.findIn X.K (.ref C) "__init__" = some (some (.ref fI))) (tI : PySem.W.typeIn X.K (.ref fI) = some (.type "function"))
    (F1 : FnOk X.prog X.w X.K X.mg X.base CX k fI fd ps sp) (hr : Room (k + 1) X.A) (hb : Binds X.K fd ps ds) (hd : Vals dvs ds) (hx : Passes CX X (fun _ _ _ => False)) (hg : Gl X x) (hm : X.mg x = some (.ref C)) (ha : PA X (e :: es) ta)
    (hdb : (x == ("__debug__" : Str)) = false := by decide) (he : starEach (e :: es) X.env = (false, eval e X.env) :: starEach es X.env := by rfl) (hp : (backTo pos (starEach es X.env)).any (·.1) = false := by rfl) :
    PMk X (.Call (.Name x p) (e :: es) [] pos) (tMkO C sp dvs ta) := by
  intro pins s σ H Q I hh
  refine wpAny_Call_Name_kw (ld_glob I hg hm ?_ hdb)
  refine PySem.W.callWith_K (h₀ := X.base) I.ok.mod.kin T.kpc (thn (ha.run pos pins s σ H _ I hh) fun us s1 ⟨vs, H1, I1, rv, hz, k1⟩ => ⟨I1.kIn, ?_⟩) he hp
  show wpAny _ _ (call (.ref C) us) _ _ _
  have hC := PySem.W.excInit_of I1.kIn T.ini
  obtain ⟨NB, fb⟩ := T.fb
  obtain ⟨hp1, gn, dr, tk, osS⟩ := s1
  have up1 : hp1.objs.size ≤ hp1.objs.size + 1 := Nat.le_succ _
  have new : H1 (hp1.objs.size + 1) = none := I1.hok.fresh up1
  have body := k1 (hp1.objs.size + 1) new
  have kept : ∀ b o, hp1.get? b = some o → ((hp1.push (PySem.W.kdv_tup us)).push (PySem.HandSPX.excO C hp1.objs.size)).get? b = some o := fun b o q => Heap.get?_push_of_some _ (Heap.get?_push_of_some _ q)
  have there : ((hp1.push (PySem.W.kdv_tup us)).push (PySem.HandSPX.excO C hp1.objs.size)).get? (hp1.objs.size + 1) = some (PySem.HandSPX.excO C hp1.objs.size) := by heap_get
  have I2 : Inv X pins σ (upd H1 (hp1.objs.size + 1) (exo (hp1.objs.size + 1) C none)) ⟨(hp1.push (PySem.W.kdv_tup us)).push (PySem.HandSPX.excO C hp1.objs.size), gn, dr, tk, osS⟩ :=
    I1.laid (t' := tk) (a := hp1.objs.size + 1) (o := exo (hp1.objs.size + 1) C none) (h' := (hp1.push (PySem.W.kdv_tup us)).push (PySem.HandSPX.excO C hp1.objs.size)) kept up1 (exo_ok there)
  have rels : Vals (V.ref (hp1.objs.size + 1) :: (vs ++ dvs)) (Value.ref (hp1.objs.size + 1) :: (us ++ ds)) := .cons rfl (rv.append hd)
  have len1 : (Value.ref (hp1.objs.size + 1) :: us ++ ds).length = ps.length := (F1.len _ _ _ _ body).symm.trans rels.length |>.symm
  have lus : us.length ≤ sizeLine := by rw [← Paired.length rv, sizeLine_eq]; omega
  refine wpAny_call (xb_call fb hC (PySem.W.looks_findIn I1.kIn iC) (fun self => PySem.W.bind_fn I1.kIn self tI) lus
    (codeAny_mono (F1.run _ X.stack _ _ ⟨Value.ref (hp1.objs.size + 1) :: us, []⟩ (Value.ref (hp1.objs.size + 1) :: (us ++ ds)) _ _ (fun _ _ _ => False) (hr.make C us []) (I2.env0.make C us []) (hb _ (Value.ref (hp1.objs.size + 1) :: us) I2.kIn len1) rels body) fun r s2 z => ?_))
  cases r with
  | error er => exact hx pins σ _ _ er s2 I2 z
  | ok fl =>
    cases fl with
    | ret u =>
      obtain ⟨v, H2, o2, b2, u2, hok2, rv2, ev, d, fs, ea, ed, hd1, q2⟩ := z
      subst ev
      obtain ⟨h2, g2, d2, t2, os2⟩ := s2
      exact ⟨rv2, mk_end (raises_own T.bex T.tyc) I1 up1 kept u2 hok2 o2 b2 ea ed hd1 q2⟩
    | next => exact False.elim z
    | brk => exact False.elim z
    | cont => exact False.elim z
end
end Xc

/-! Xc2: except (A, B, ..) as e: the exception is kept as a value -/
namespace Xc
open PySem PySem.Spec PySem.Calls PyProof.Rows L2 PySem.W
section
variable {M : Model} {A : Around} {E : Value → Shared → Prop} {s : Shared} {β : Type}
theorem loop_all {f : Value → β → Sem (ForInStep β)} {r : β} : ∀ {cs : List Value} {Q : β → Shared → Prop}, (∀ c ∈ cs, ∀ Q : ForInStep β → Shared → Prop, Q (.yield r) s → wpAny M A (f c r) Q E s) → Q r s → wpAny M A (forIn cs r f) Q E s
  | [], Q, _, k => by rw [List.forIn_nil]; exact wpAny_pure k
  | c :: cs, Q, h, k => by
    rw [List.forIn_cons]
    refine wpAny_bind (h c List.mem_cons_self _ ?_)
    exact loop_all (fun c hc => h c (List.mem_cons_of_mem _ hc)) k
theorem loop_any {f : Value → β → Sem (ForInStep β)} {r d : β} {K : Frag} {cls : Value} : ∀ {cs : List Value} {b : Bool} {Q : β → Shared → Prop}, exmAny K cls cs = some b →
    (∀ c b, exmOne K cls c = some b → ∀ Q : ForInStep β → Shared → Prop, Q (if b = true then .done d else .yield r) s → wpAny M A (f c r) Q E s) → Q (if b = true then d else r) s → wpAny M A (forIn cs r f) Q E s
  | [], b, Q, e, _, k => by
    obtain rfl : false = b := Option.some.inj e
    rw [List.forIn_nil]; exact wpAny_pure k
  | c :: cs, b, Q, e, h, k => by
    obtain ⟨b1, d1, e1, e2, rfl⟩ := exmAny_cons e
    rw [List.forIn_cons]
    refine wpAny_bind (h c b1 e1 _ ?_)
    cases b1 with
    | true => exact wpAny_pure k
    | false =>
      rw [Bool.false_or] at k
      exact loop_any e2 h k
end
section
variable {M : Model} {K : Frag}
theorem exm_of_any {cls : Value} : ∀ {cs : List Value} {b : Bool}, exmAny K cls cs = some b → ∀ c ∈ cs, ∃ b, exmOne K cls c = some b
  | [], _, _, c, hc => nomatch hc
  | x :: cs, b, e, c, hc => by
    obtain ⟨b1, d1, e1, e2, _⟩ := exmAny_cons e
    rcases List.mem_cons.mp hc with rfl | hc
    · exact ⟨_, e1⟩
    · exact exm_of_any e2 c hc
theorem exm_tupN {cs : List Value} {cls : Value} {tp e : Addr} {b : Bool} {h : Heap} (X : K.In h) (LT : Looks M h (typeOf (.ref e)) cls) (hp : h.get? tp = some { cls := .type "tuple", data := .seq cs.toArray }) (hx : exmAny K cls cs = some b) :
    Looks M h (excMatches (.ref e) (.ref tp)) b := by
  intro A Q E s k q
  obtain ⟨hh, g, d, tk, os⟩ := s
  have isT : Looks M h (isInstance (.ref tp) (.type "tuple")) true := ((Looks.ld hp).andThen .now).andThen (Looks.of_pure isSubtype_tuple_tuple)
  have hp2 := k _ _ hp
  have LT2 := LT.keeps k
  have X2 := X.keeps k
  unfold excMatches
  refine wpAny_bind ((isT.keeps k).at ?_)
  dsimp only
  rw [if_pos rfl]
  first
    | refine wpAny_bind (wpAny_seqItems hp2 rfl ?_)
    | refine wpAny_bind (wpAny_bind (wpAny_seqItems hp2 rfl (wpAny_pure ?_)))
  dsimp only [Option.getD_some, Option.getD]
  refine wpAny_bind (wpAny_pure ?_)
  refine wpAny_bind (loop_all (fun c hc Q' q' => ?_) ?_)
  · obtain ⟨b1, e1⟩ := exm_of_any hx c hc
    obtain ⟨l1, _⟩ := exm_cls (M := M) X2 e1
    refine wpAny_bind (l1.at ?_)
    simp only [Bool.not_true, Bool.false_eq_true, if_false]
    exact wpAny_pure q'
  · refine wpAny_bind (LT2.at ?_)
    refine wpAny_bind (loop_any (d := (some true, ())) hx (fun c b1 e1 Q' q' => ?_) ?_)
    · obtain ⟨_, l2⟩ := exm_cls (M := M) X2 e1
      refine wpAny_bind (l2.at ?_)
      cases b1 with
      | true =>
        rw [if_pos rfl] at q' ⊢
        exact wpAny_pure q'
      | false =>
        rw [if_neg Bool.false_ne_true] at q' ⊢
        exact wpAny_pure q'
    · cases b with
      | true => exact wpAny_pure q
      | false => exact wpAny_pure q
end
end Xc
namespace Xc
open PySem PySem.Spec PySem.Calls PyProof.Rows L2
/-- the names of a clause and their classes -/
inductive Nms (X : Cx) : List Expr → List Value → Prop
  | nil : Nms X [] []
  | cons {x : Str} {c : Value} {np : Pos} {es : List Expr} {cs : List Value} : Names X x c → Nms X es cs → Nms X (.Name x np :: es) (c :: cs)
theorem Nms.len {X : Cx} {es : List Expr} {cs : List Value} (h : Nms X es cs) : cs.length = es.length := by
  induction h with
  | nil => rfl
  | cons _ _ ih => simp [ih]
theorem nms_eval {X : Cx} {pins : List (Addr × Obj)} {σ : L2.St} {H : Hp} {s : Shared} {pos : Pos} {E : Value → Shared → Prop} (I : Inv X pins σ H s) {es : List Expr} {cs : List Value} (h : Nms X es cs) :
    ∀ {Q : List Value → Shared → Prop}, Q cs s → wpAny (model X.prog X.w) X.A (spliced (backTo pos (starEach es X.env))) Q E s := by
  induction h with
  | nil => intro Q k; exact wpAny_items_nil k
  | @cons x c np es cs hx _ ih =>
    intro Q k
    refine wpAny_items_cons ?_
    obtain ⟨hg, hdbg, hm | ⟨hm, hv, hnn⟩⟩ := hx
    · exact ld_glob I hg hm (ih k) hdbg
    · exact ld_blt I hg hm hv (ih k) hnn hdbg
/-- a caught exception, held -/
def Exv (a : Addr) (cls : Value) (d : Option Addr) : HO := .ext fun h => ∃ (oe : Obj) (vs : Array Value), h.get? a = some oe ∧ Zc cls d oe ∧ oe.data = .fields vs
theorem exv_ok {P : Program} {w : World} {H : Hp} {h : Heap} {a : Addr} {cls : Value} {d : Option Addr} {oe : Obj} {vs : Array Value} (e : h.get? a = some oe) (z : Zc cls d oe) (hd : oe.data = .fields vs) : ObjOk P w H h a (Exv a cls d) :=
  ⟨⟨oe, vs, e, z, hd⟩, ⟨oe, e⟩, fun _ _ ⟨o, v, q, r⟩ k => ⟨o, v, k o q, r⟩⟩
theorem exv_at {P : Program} {w : World} {H : Hp} {h : Heap} {a : Addr} {cls : Value} {d : Option Addr} (ok : HOk P w H h) (e : H a = some (Exv a cls d)) : ∃ oe vs, h.get? a = some oe ∧ Zc cls d oe ∧ oe.data = .fields vs := by
  have x : ObjOk P w H h a (.ext fun h => ∃ (oe : Obj) (vs : Array Value), h.get? a = some oe ∧ Zc cls d oe ∧ oe.data = .fields vs) := ok a _ e
  exact x.1
section
variable {X : Cx} {pins : List (Addr × Obj)} {σ : L2.St} {H : Hp} {s : Shared}
theorem track {a : Addr} {o : HO} (I : Inv X pins σ H s) (na : H a = none) (n0 : ∀ u, X.s_0.heap.get? a = some u → X.H_0 a = none → a ∈ X.ex) (nL : a ≠ X.env.locals) (nC : ∀ x c, X.env.cells.lookup x = some c → c ≠ a) (nP : ∀ p ∈ X.pn ++ pins, p.1 ≠ a)
    (ok : ObjOk X.prog X.w (upd H a o) s.heap a o) : Inv X pins σ (upd H a o) s := by
  have ne : ∀ {b : Addr} {u : HO}, H b = some u → b ≠ a := fun {b u} e z => by rw [z, na] at e; cases e
  refine ⟨I.ok, I.os, I.bare, ⟨I.base.keep, I.base.slot, fun b u e n hx => ?_, I.base.there, fun b xs e => ?_, fun b u v e => ?_, fun b ps e => ?_⟩, I.loc, I.cell, ?_, fun x c e => ?_, fun p hp => ?_, fun b u e => ?_, I.len⟩
  · by_cases hb : b = a
    · subst hb; exact absurd (n0 u e n) hx
    · rw [upd_ne hb]; exact I.base.free b u e n hx
  · have q := I.base.tups b xs e
    rw [upd_ne (ne q)]; exact q
  · have q := I.base.frzs b u v e
    rw [upd_ne (ne q)]; exact q
  · obtain ⟨more, q⟩ := I.base.tbls b ps e
    exact ⟨more, by rw [upd_ne (ne q)]; exact q⟩
  · rw [upd_ne (Ne.symm nL)]; exact I.free
  · rw [upd_ne (nC x c e)]; exact I.freeC x c e
  · obtain ⟨q1, q2, q3, q4, q5⟩ := I.pin p hp
    exact ⟨q1, by rw [upd_ne (nP p hp)]; exact q2, q3, q4, q5⟩
  · by_cases hb : b = a
    · subst hb; rw [upd_same] at e; cases e; exact ok
    · rw [upd_ne hb] at e
      exact (I.hok b u e).stay (fun c v _ q => q) (fun c q => by rw [upd_ne (ne q)]; exact q) fun c xs q => by rw [upd_ne (ne q)]; exact q
end
theorem fly_keeps {B h h' : Heap} {l : List Env} {a : Addr} {Z : Obj → Prop} (fl : HandSPX.FlyingZ B l a Z h) (k : ∀ b o, h.get? b = some o → h'.get? b = some o) : HandSPX.FlyingZ B l a Z h' := by
  obtain ⟨f1, f2, f3, oe, vs, T, oT, ts, he, hz, hd, h1, hn, ht, hT, hdT, h3⟩ := fl
  exact ⟨fun b o q => k b o (f1 b o q), f2, f3.of_keeps fun b o q _ => ⟨o, k b o q, rfl⟩, oe, vs, T, oT, ts, k _ _ he, hz, hd, h1, hn, ht, k _ _ hT, hdT, h3⟩
/-- what 'except (A, B, ..) as n' wishes; slot i is n's -/
def wKeep (K : PySem.W.Frag) (cs : List Value) (i : Nat) (ts : Addr → Value → Option Addr → TS) (Wout : WX) (D : Ends) : WX := fun cls d σ H =>
  ∃ b, PySem.W.exmAny K cls cs = some b ∧ (b = true → ∀ a, H a = none → ts a cls d { nx := fun σ' H' => D.nx (σ'.set i none) (upd H' a (Exv a cls d)), rt := fun v H' => D.rt v (upd H' a (Exv a cls d)), bk := fun σ' H' => D.bk (σ'.set i none) (upd H' a (Exv a cls d)), ct := fun σ' H' => D.ct (σ'.set i none) (upd H' a (Exv a cls d)) } (σ.set i (some (.ref a))) H) ∧
    (b = false → Wout cls d σ H)
section
variable {X : Cx} {n : Str} {cs : List Value} {i kt : Nat} {body suite : List Stmt} {b₀ : Stmt} {es : List Expr} {tpos pos pos' : Pos} {tb : WX → TS} {ts : Addr → Value → Option Addr → TS} {Wout : WX}
theorem ps_try_keep (hs : X.stack = X.env :: X.outer) (hf : X.env.frame = some X.env.locals) (hN : X.N.Nodup) (hi : X.N[i]? = some n) (hln : X.env.kindOf n = some .local) (hc : Nms X es cs) (hz : cs.length ≤ 100) (tk : Takes X Wout)
    (hb : ∀ (W : WX) (pn : List (Addr × Obj)) (xe : Value → Shared → Prop), Takes (X.tr pn xe) W → PassesOwn (model X.prog X.w) X.A X.env xe → PSs (X.tr pn xe) body (tb W))
    (hsu : ∀ (a : Addr) (oe : Obj) (cls : Value) (d : Option Addr) (pn : List (Addr × Obj)), Zc cls d oe → (∃ vs, oe.data = .fields vs) → PSs (X.suite a ((a, oe) :: pn)) (b₀ :: suite) (ts a cls d)) :
    PS X (.Try body [.ExceptHandler (some (.Tuple es kt tpos)) (some n) (b₀ :: suite) pos'] [] [] pos) (fun D σ H => tb (wKeep X.K cs i ts Wout D) D σ H) := by
  refine ⟨fun pins s σ H D I kk => ?_⟩
  have okX := I.ok
  have frm : X.A.frames = some (X.env :: X.outer) := by rw [okX.frames, hs]
  have lcl : Loc X.env.scope n := .inl hln
  refine wpAny_Try_except (wpAny_mono ((hb (wKeep X.K cs i ts Wout D) (X.pn ++ pins) (fun e s1 => wpAny (model X.prog X.w) X.A (noteFrame e X.env) (fun _ s2 => wpAny (model X.prog X.w) X.A (setFlight e none) (fun _ s3 =>
    wpAny (model X.prog X.w) X.A (handleBy e X.env [.ExceptHandler (some (.Tuple es kt tpos)) (some n) (b₀ :: suite) pos']) (SP X pins D) X.xe s3) X.xe s2) X.xe s1) (fun u s1 xx => ?_) PassesOwn.looking).run [] s σ H D (I.toTry _) kk) (fun fl s1 z => ?_) (fun _ _ z => z))
  · obtain ⟨a, B, sI, pins1, σ1, H1, cls, d, rfl, J0, nb, up, sky, na, osE, agE, b, hb1, yes, no⟩ := xx
    have J : Inv X pins σ1 H1 sI := J0.ofTry okX
    have sky1 : Sky B (X.env :: X.outer) a (Zc cls d) X.env.locals s1.heap := by rw [← hs]; exact sky
    show wpAny (model X.prog X.w) X.A (noteFrame (.ref a) X.env) _ _ _
    refine Sky.land Zc.steady frm hf sky1 fun h3 fl3 up3 => ?_
    have J3 : Inv X pins σ1 H1 { s1 with heap := h3 } := J.landed nb fl3.1 (up.trans up3) osE agE
    obtain ⟨oe3, vs3, he3, hz3, hd3⟩ := fl3.there
    have nfr : a ∉ frs (X.env :: X.outer) := fun hm => by
      obtain ⟨_, o1, q1, nf1⟩ := fl3.2.2.1.mem hm
      rw [he3] at q1; cases q1
      exact nf1 _ hd3
    have nL : a ≠ X.env.locals := fun z => nfr (List.mem_filterMap.mpr ⟨X.env, List.mem_cons_self, by rw [hf, z]⟩)
    have nF : a ∉ X.fs := fun hm => by
      obtain ⟨e1, he1, q1⟩ := List.mem_filterMap.mp hm
      exact nfr (List.mem_filterMap.mpr ⟨e1, List.mem_cons_of_mem _ he1, q1⟩)
    have nst : a ∉ frs X.stack := by rw [hs]; exact nfr
    have bn : B.get? a = none := fl3.2.1
    have n0 : ∀ u, X.s_0.heap.get? a = some u → X.H_0 a = none → a ∈ X.ex := fun u e1 e2 => Classical.byContradiction fun hx => by
      have q1 := nb a u (J.base.keep a u e1 e2 nF hx) nst
      rw [bn] at q1; cases q1
    have nP : ∀ p ∈ X.pn ++ pins, p.1 ≠ a := fun p hp z => by
      obtain ⟨q1, q2, q3, q4, q5⟩ := J.pin p hp
      have q6 : p.1 ∉ frs X.stack := by rw [z]; exact nst
      have q7 := nb p.1 p.2 q1 q6
      rw [z, bn] at q7; cases q7
    have S3 := J3.suite he3 hd3 na nL nF
    refine wpAny_handleBy_cons (codeAny_handlers_test ?_) (by intro q; cases q)
    refine wpAny_Tuple (nms_eval (X := X.suite a ((a, oe3) :: (X.pn ++ pins))) S3 (by
      have g : ∀ {es cs}, Nms X es cs → Nms (X.suite a ((a, oe3) :: (X.pn ++ pins))) es cs := fun h => by
        induction h with
        | nil => exact .nil
        | cons hx _ ih => exact .cons hx ih
      exact g hc) ⟨by rw [sizeLine_eq]; omega, ?_⟩)
    have kp : ∀ b o, h3.get? b = some o → (h3.push { cls := .type "tuple", data := .seq cs.toArray }).get? b = some o := fun _ _ q => Heap.get?_push_of_some _ q
    have LT : PySem.W.Looks (model X.prog X.w) (h3.push { cls := .type "tuple", data := .seq cs.toArray }) (typeOf (.ref a)) cls := fun A Q E s k q => wpAny_typeOf_ref (k _ _ (kp _ _ he3)) (by rw [hz3.1]; exact q)
    refine (exm_tupN (M := model X.prog X.w) (J3.kIn.keeps kp) LT (Heap.get?_push_size h3 rfl) hb1).here ?_
    have fl4 := fly_keeps fl3 kp
    have up4 : sI.heap.UpToSlots (h3.push { cls := .type "tuple", data := .seq cs.toArray }) := (up.trans up3).trans (Heap.UpToSlots.of_keeps kp)
    cases b with
    | true =>
      refine codeAny_handlers_suite_as (HandSPX.lands_againZ fl4 fun h5 fl5 up5 => ?_)
      have J5 : Inv X pins σ1 H1 { s1 with heap := h5 } := J.landed nb fl5.1 (up4.trans up5) osE agE
      obtain ⟨oe5, vs5, he5, hz5, hd5⟩ := fl5.there
      have S5 := J5.suite he5 hd5 na nL nF
      refine store_ok (X := X.suite a ((a, oe5) :: (X.pn ++ pins))) (v := .ref a) S5 hN hi lcl rfl (fun s6 S6 => ?_) (.inr hln)
      refine wpAny_mono ((hsu a oe5 cls d (X.pn ++ pins) hz5 ⟨_, hd5⟩).run [] s6 _ H1 _ S6 (yes rfl a na)) (fun fl s7 z => ?_) (fun _ _ z => False.elim z)
      have fin : ∀ {σ7 : L2.St} {H7 : Hp} {Q : Shared → Prop}, Inv (X.suite a ((a, oe5) :: (X.pn ++ pins))) [] σ7 H7 s7 → (∀ s8, Inv X pins (σ7.set i none) (upd H7 a (Exv a cls d)) s8 → Q s8) →
          wpAny (model X.prog X.w) X.A (do bindName X.env n .none; unbindBehindTheSuite X.env n pos') (fun _ s8 => Q s8) X.xe s7 := fun {σ7 H7 Q} S7 hq => by
        obtain ⟨p1, p2, p3, p4, p5⟩ := S7.pin (a, oe5) (List.mem_append_left _ List.mem_cons_self)
        have J7 := S7.unsuite okX
        refine gone_ok (track J7 p2 n0 nL (fun x c e z => ?_) nP (exv_ok p1 hz5 hd5)) hN hi hln hq
        obtain ⟨v, oc, q1, q2⟩ := J7.cell x c e
        rw [z, p1] at q1; cases q1
        rw [hd5] at q2; cases q2
      cases fl with
      | next =>
        obtain ⟨σ7, H7, S7, q7⟩ := z
        exact fin S7 fun s8 J8 => ⟨_, _, J8, q7⟩
      | brk =>
        obtain ⟨σ7, H7, S7, q7⟩ := z
        exact fin S7 fun s8 J8 => ⟨_, _, J8, q7⟩
      | cont =>
        obtain ⟨σ7, H7, S7, q7⟩ := z
        exact fin S7 fun s8 J8 => ⟨_, _, J8, q7⟩
      | ret u =>
        obtain ⟨v7, σ7, H7, S7, r7, q7⟩ := z
        exact fin S7 fun s8 J8 => ⟨_, _, _, J8, r7, q7⟩
    | false =>
      show wpAny _ X.A (handleBy (.ref a) X.env []) _ _ _
      refine wpAny_handleBy_nil ?_
      obtain ⟨k1, k2, k3, oe, vs, T, oT, ts1, he, hz, hd, h1, hr⟩ := id fl4
      unfold PySem.passOn
      refine wpAny_bind (wpAny_field he hd h1 ?_)
      rw [if_neg (show ¬ ((Value.ref T == Value.none) = true) from by simp)]
      have last : wpAny (model X.prog X.w) X.A (setFlight (.ref a) X.env.frame) (fun _ s5 => wpAny (model X.prog X.w) X.A (throw (.ref a) : Sem Flow) (SP X pins D) X.xe s5) X.xe { s1 with heap := h3.push { cls := .type "tuple", data := .seq cs.toArray } } := by
        rw [hf]
        refine HandSPX.setFlight_upZ fl4 fun h5 hh5 up5 => wpAny_throw (tk _ _ ⟨a, B, sI, pins, σ1, H1, cls, d, rfl, J, nb, up4.trans up5, .inr (.inr (by rw [hs]; exact hh5)), na, osE, agE, no rfl⟩)
      first
        | exact wpAny_bind (wpAny_pure (wpAny_bind last))
        | exact wpAny_bind last
  · cases fl with
    | next =>
      obtain ⟨σ1, H1, J1, q⟩ := z
      exact wpAny_execs_nil ⟨σ1, H1, J1.ofTry okX, q⟩
    | brk =>
      obtain ⟨σ1, H1, J1, q⟩ := z
      exact ⟨σ1, H1, J1.ofTry okX, q⟩
    | cont =>
      obtain ⟨σ1, H1, J1, q⟩ := z
      exact ⟨σ1, H1, J1.ofTry okX, q⟩
    | ret u =>
      obtain ⟨v, σ1, H1, J1, r, q⟩ := z
      exact ⟨v, σ1, H1, J1.ofTry okX, r, q⟩
end
end Xc

/-! Xc3: held exceptions looked at; divmod -/
namespace Xc
open PySem PySem.Spec PySem.Calls PyProof.Rows L2 Rs
/-- what a class says when its instances are looked at -/
structure Lk (K : PySem.W.Frag) (C : Addr) : Prop where
  cl : (PySem.W.clsIn K C).isSome = true
  ga : PySem.W.findIn K (.ref C) "__getattribute__" = some (some (.builtin "BaseException.__getattribute__"))
  gg : PySem.W.findIn K (.ref C) "__getattr__" = some none
  bx : PySem.W.subIn K (.ref C) (.type "BaseException") = some true
  hd : PySem.W.hasDictIn K C = true
  ha : PySem.W.findIn K (.ref C) "__class__" = some (some (.builtin "object.__class__"))
  hn : PySem.W.specialIn K (.builtin "object.__class__") "__get__" = some (some (.builtin "getset_descriptor.__get__"))
  ht : PySem.W.takesIn K (.builtin "object.__class__") = some true
  hm : PySem.W.mroIn K C (.type "object") = some true
/-- held at a: an exception of the class at C, its fields fs in the dict at dx -/
structure Held (H : Hp) (a C dx : Addr) (fs : List (Str × V)) : Prop where
  ex : H a = some (Exv a (.ref C) (some dx))
  dk : H dx = some (.xd fs)
section
variable {X : Cx} {pins : List (Addr × Obj)} {σ : L2.St} {H : Hp} {s : Shared} {a C dx : Addr} {fs : List (Str × V)}
theorem held_inst (I : Inv X pins σ H s) (h : Held H a C dx fs) : ∃ (oe od : Obj) (mA : Str → Option Value), PySem.W.InstAt s.heap a oe C (some od) ∧ (∀ f, RelO (fs.lookup f) (mA f)) ∧ ∀ n : Str, PySem.W.lookIn n od = some (mA n) := by
  obtain ⟨oe, vs, h1, h2, h3⟩ := exv_at I.hok h.ex
  have hx : ObjOk X.prog X.w H s.heap dx (.xd fs) := I.hok dx _ h.dk
  obtain ⟨mA, hns, hr⟩ := hx
  obtain ⟨od, ho, hl⟩ := lookIn_ns hns
  exact ⟨oe, od, mA, ⟨h1, h2.1, by unfold PySem.W.notCls; rw [h3] <;> rfl, by rw [h2.2]; exact ho⟩, hr, hl⟩
/-- isinstance(e, c) of a held one -/
def rIsX (K : PySem.W.Frag) : List V → Hp → VK → Prop := fun xs H Q => ∃ (a C dx : Addr) (fs : List (Str × V)) (c : V) (u : Value) (b : Bool), xs = [.ref a, c] ∧ ClsV c u ∧ Lk K C ∧ Held H a C dx fs ∧ PySem.W.kitOne K (.ref C) u = some b ∧ Q (.bl b) H
theorem call_isX : CallR X (.builtin "isinstance") (rIsX X.K) := by
  intro pins s σ H xs us Q I r h
  obtain ⟨a, C, dx, fs, c, u, b, rfl, k, l, hh, e, q⟩ := h
  obtain ⟨u1, u2, rfl, r1, r2⟩ := vals2 r
  have e2 := k.eq r2
  subst e2
  cases (show u1 = Value.ref a from r1)
  obtain ⟨oe, od, mA, J, _, _⟩ := held_inst I hh
  exact PySem.W.kia_one (PySem.W.kitx_exc l.cl l.ga l.gg l.bx l.ha l.hn l.ht l.hm) I.kIn J e (fun z => nomatch z) fun tk => ⟨.bl b, H, I.tok tk, rfl, q⟩
/-- e.f of a held one -/
def tXv (K : PySem.W.Frag) (f : Str) (te : TE) : TE := fun σ H Q => te σ H fun x H1 => ∃ (a C dx : Addr) (fs : List (Str × V)) (v : V), x = .ref a ∧ Lk K C ∧ PySem.W.findIn K (.ref C) f = some none ∧ Held H1 a C dx fs ∧ fs.lookup f = some v ∧ Q v H1
theorem pe_xv {e : Expr} {te : TE} {pos : Pos} {n : Str} (he : PE X e te) (hb : attributeBase e n X.env (eval e X.env) = eval e X.env := by rfl) : PE X (.Attribute e n pos) (tXv X.K n te) := by
  refine ⟨fun pins s σ H Q I h => attr_of hb (thn (he.run pins s σ H _ I h) fun u s1 hh => ?_)⟩
  obtain ⟨x, H1, I1, rx, a, C, dx, fs, v, ex, l, hno, hd, lk, q⟩ := hh
  subst ex
  obtain rfl : u = Value.ref a := rx
  obtain ⟨oe, od, mA, J, hr, hl⟩ := held_inst I1 hd
  obtain ⟨u2, hu, ru⟩ := RelO.some_of (v := v) (o := mA n) (by rw [← lk]; exact hr n)
  exact HandSPX.exc_get I1.kIn J l.ga l.gg l.bx (PySem.W.findObj_own l.hd hno rfl (by rw [hl, hu])) (handed_of ru) ⟨v, H1, I1.tok _, ru, q⟩
/-- divmod of whole numbers -/
def rDm : List V → Hp → VK → Prop := fun xs H Q => ∃ (a b : Int), xs = [.int a, .int b] ∧ 0 < b ∧ b < 2 ^ 30 ∧ -(2 ^ 30) < a ∧ a < 2 ^ 30 ∧ ∀ p, H p = none → Q (.ref p) (upd H p (.tup [.int (a / b), .int (a % b)]))
theorem call_dm : CallR X (.builtin "divmod") rDm := by
  intro pins s σ H xs us Q I r h
  obtain ⟨a, b, rfl, h1, h2, h3, h4, q⟩ := h
  obtain ⟨u1, u2, rfl, r1, r2⟩ := vals2 r
  obtain ⟨t1, rfl⟩ := (show ∃ t, u1 = Value.int a t from r1)
  obtain ⟨t2, rfl⟩ := (show ∃ t, u2 = Value.int b t from r2)
  have hf : H s.heap.objs.size = none := I.hok.fresh (Nat.le_refl _)
  refine PyProof.Rows.divmod_int (by omega) ?_ (Or.inl (PyProof.noPylong_small (by omega)))
  have e1 : a.fdiv b = a / b := Int.fdiv_eq_ediv_of_nonneg _ (by omega)
  have e2 : a.fmod b = a % b := Int.fmod_eq_emod_of_nonneg _ (by omega)
  rw [e1, e2]
  refine ⟨.ref s.heap.objs.size, upd H s.heap.objs.size (.tup [.int (a / b), .int (a % b)]), I.laid (t' := s.toks + 1 + 1) (fun b o e => Heap.get?_push_of_some _ e) (Nat.le_refl _) ?_, rfl, q _ hf⟩
  exact ⟨by rw [sizeLine_eq]; simp, _, .cons ⟨_, rfl⟩ (.cons ⟨_, rfl⟩ .nil), ⟨_, Heap.get?_push_size _ rfl, rfl, _, rfl⟩⟩
end
end Xc
namespace Xc
open PySem PySem.Spec PySem.Calls PyProof.Rows L2 Rs
theorem ip_or {X : Cx} : PIp X .BitOr (ipI fun i j => Builtin.bitOr i j) := by
  intro pins s σ H x y v u Q I r1 r2 h
  obtain ⟨i, j, rfl, rfl, q⟩ := h
  obtain ⟨t, rfl⟩ := r1
  obtain ⟨t2, rfl⟩ := r2
  exact ior_int ⟨.int (Builtin.bitOr i j), H, I.tok _, ⟨_, rfl⟩, q⟩
end Xc

/-! Xc4: the end with tables of code objects, for promises kept while no text is under way -/
namespace Xc
open PySem PySem.Spec PySem.Calls PyProof.Rows L2 Rs LamX
/-- what is known at the law's call: the script, the tables -/
def headH (own : Bool) (a : Addr) (o : Obj) (ns : List Int) (ts : List Addr) : Hp := fun b => if own = true ∧ b = a then some (.frz o (.lst (ns.map V.int))) else if b ∈ ts then some (.tbl #[]) else none
theorem headH_some {own : Bool} {a b : Addr} {o : Obj} {ns : List Int} {ts : List Addr} {u : HO} (h : headH own a o ns ts b = some u) : (own = true ∧ b = a ∧ u = .frz o (.lst (ns.map V.int))) ∨ (b ∈ ts ∧ u = .tbl #[]) := by
  unfold headH at h
  split at h
  · rename_i z; exact .inl ⟨z.1, z.2, (Option.some.inj h).symm⟩
  · split at h
    · rename_i z; exact .inr ⟨z, (Option.some.inj h).symm⟩
    · cases h
theorem lawGT {P : Program} {w : World} {K : PySem.W.Frag} {mg mb : Str → Option Value} {k : Nat} {fa a : Addr} {fd : FuncData} {x : Str} {sp : Sp} {s : Shared} {vs : List Value} {ns : List Int} {cs : List (Addr × Addr)}
    (KX : K.In s.heap) (hm : s.heap.Ns mainGlobals mg) (hb : s.heap.Ns builtinsNs mb) (hbb : ∀ x : Str, x ≠ "__name__" → mb x = bootBuiltins x) (hlim : s.heap.NoLimit) (hg : s.gens = #[])
    (hT : ∀ p ∈ cs, s.heap.get? p.2 = some (PySem.W.tabObj #[])) (nT : ∀ p ∈ cs, K.lookup p.2 = none) (C : ∀ p ∈ cs, PySem.W.CodeHd s.heap p.1 p.2)
    (hbm : ∃ (bm : Addr) (ob : Obj), mg "__builtins__" = some (.ref bm) ∧ bm ≠ builtinsNs ∧ s.heap.get? bm = some ob ∧ ob.cls = .type "module" ∧ ob.dict = some builtinsNs ∧ ob.data = .plain)
    (ha : s.heap.get? a = some { cls := .type "list", data := .seq vs.toArray }) (hi : IntsAre vs ns) (hl : ns.length ≤ sizeLine) (hr : Room k callerA)
    (F : ∀ base : Heap, K.In base → base.Ns mainGlobals mg → (∀ p ∈ cs, TabB base mg p.1 p.2) → FnG P w K mg base k fa fd [x] sp) (hbind : ∀ (s : Shared) (u : Value), BindsTo s fd ⟨[u], []⟩ [(x, u)])
    (hsp : ∀ H : Hp, (∀ p ∈ cs, H p.2 = some (.tbl #[])) → SqL K H a (ns.map V.int) → sp [.ref a] H (fun v _ => v = .bl true) E0) :
    codeAny (model P w) callerA (.call (.ref fa) ⟨[.ref a], []⟩) (fun r s' => r = .ok (.ret (.bool true)) ∧ OldK s.heap s'.heap ∧ s'.os = s.os ∧ AllBare s'.gens) s := by
  have rv := vals_ints hi
  have lv := hi.length
  have tabOf : ∀ b : Addr, b ∈ cs.map (·.2) → s.heap.get? b = some (PySem.W.tabObj #[]) := fun b hb => by
    obtain ⟨p, hp, rfl⟩ := List.mem_map.mp hb
    exact hT p hp
  have aNot : a ∉ cs.map (·.2) := fun z => by
    have q := tabOf a z
    rw [ha] at q
    have d : Data.seq vs.toArray _ = Data.fields #[] := congrArg Obj.data (Option.some.inj q)
    cases d
  have key : ∀ own : Bool, (own = true → K.lookup a = none) → (own = false → ∃ o, K.lookup a = some o) →
      codeAny (model P w) callerA (.call (.ref fa) ⟨[.ref a], []⟩) (fun r s' => r = .ok (.ret (.bool true)) ∧ OldK s.heap s'.heap ∧ s'.os = s.os ∧ AllBare s'.gens) s := by
    intro own h1 h2
    have hS := fun {b : Addr} {u : HO} => headH_some (own := own) (a := a) (b := b) (o := { cls := .type "list", data := .seq vs.toArray }) (ns := ns) (ts := cs.map (·.2)) (u := u)
    have hTb : ∀ p ∈ cs, headH own a { cls := .type "list", data := .seq vs.toArray } ns (cs.map (·.2)) p.2 = some (.tbl #[]) := fun p hp => by
      have mp : p.2 ∈ cs.map (·.2) := List.mem_map_of_mem (f := (·.2)) hp
      unfold headH
      rw [if_neg (fun z => aNot (by rw [← z.2]; exact mp)), if_pos mp]
    generalize eH : headH own a { cls := .type "list", data := .seq vs.toArray } ns (cs.map (·.2)) = H at hS hTb
    -- an object that is neither a row nor a table is not tracked
    have noH : ∀ {b : Addr} {o : Obj}, s.heap.get? b = some o → (∀ xs n, o.data ≠ .seq xs n) → o.data ≠ .fields #[] → H b = none := fun {b o} e d1 d2 => by
      cases q : H b with
      | none => rfl
      | some u =>
        rcases hS q with ⟨_, rfl, _⟩ | ⟨hb2, _⟩
        · rw [ha] at e; cases e; exact absurd rfl (d1 _ _)
        · rw [tabOf b hb2] at e; cases e; exact absurd rfl d2
    have noD : ∀ {b : Addr} {o : Obj} {es : Array DictEntry} {n : Nat}, s.heap.get? b = some o → o.data = .dict es n → H b = none := fun {b o es n} e d =>
      noH e (fun xs n z => by rw [d] at z; cases z) (fun z => by rw [d] at z; cases z)
    have ns0 : ∀ {b : Addr} {m : Str → Option Value}, s.heap.Ns b m → (hidT s.heap H).Ns b m := fun {b m} ⟨o, es, n, e, d, r⟩ => ⟨o, es, n, hidT_get e (noD e d), d, r⟩
    have K0 : K.In (hidT s.heap H) := fun b o e => by
      refine hidT_get (KX b o e) ?_
      cases q : H b with
      | none => rfl
      | some u =>
        rcases hS q with ⟨z, rfl, _⟩ | ⟨hb2, _⟩
        · rw [h1 z] at e; cases e
        · obtain ⟨p, hp, rfl⟩ := List.mem_map.mp hb2
          rw [nT p hp] at e; cases e
    have hok : HOk P w H s.heap := fun b u q => by
      rcases hS q with ⟨_, rfl, rfl⟩ | ⟨hb2, rfl⟩
      · exact ⟨ha, by rw [List.length_map]; exact hl, vs, _, rv, ha⟩
      · exact tabOf b hb2
    obtain ⟨mc, q1, q2⟩ := hlim
    have M0 : Mod K mg (hidT s.heap H) := ⟨K0, ns0 hm, ⟨mb, ns0 hb, hbb⟩, mc, ns0 q1, q2⟩
    have TB : ∀ p ∈ cs, TabB (hidT s.heap H) mg p.1 p.2 := fun p hp => by
      have hTp := hT p hp
      refine ⟨?_, ?_, fun z => ?_⟩
      · obtain ⟨o, us, file, tf, flags, tg, inF, text, tt, e1, r1, r2, r3, rest⟩ := C p hp
        refine ⟨o, us, file, tf, flags, tg, inF, text, tt, hidT_get e1 (noH e1 (fun xs n z => by rw [r2] at z; cases z) fun z => ?_), r1, r2, r3, rest⟩
        rw [r2] at z; cases z; simp at r3
      · obtain ⟨bm, ob, b1, b2, b3, b4, b5, b6⟩ := hbm
        refine ⟨bm, ob, b1, b2, fun q => ?_, fun q => ?_, hidT_get b3 (noH b3 (fun xs n z => by rw [b6] at z; cases z) fun z => by rw [b6] at z; cases z), b4, b5, b6⟩
        · obtain ⟨o, es, n, e, d, _⟩ := hm
          rw [q, e] at b3; cases b3
          rw [d] at b6; cases b6
        · rw [q, hTp] at b3; cases b3; cases b6
      · obtain ⟨o, es, n, e, d, _⟩ := hm
        rw [z, hTp] at e; cases e; cases d
    have env : Env0 P w K mg (hidT s.heap H) callerA [] s H := ⟨rfl, M0, fun b o e => of_hidT e, Nat.le_of_eq (hidT_size _ _), trivial, fun b hb3 => (nomatch (show b ∈ ([] : List Addr) from hb3)), hok, .of_eq hg⟩
    have sq : SqL K H a (ns.map V.int) := by
      cases own with
      | true => exact Or.inl (Or.inr ⟨_, by rw [← eH]; exact if_pos ⟨rfl, rfl⟩⟩)
      | false =>
        obtain ⟨o, e⟩ := h2 rfl
        have e' := KX a o e
        rw [ha] at e'; cases e'
        exact Or.inr ⟨_, vs.toArray, _, e, rfl, rfl, rfl, by rw [List.size_toArray, lv]; exact hl, by simpa using rv⟩
    refine codeAny_mono ((F _ K0 (ns0 hm) TB).go callerA [] s H [.ref a] ⟨[.ref a], []⟩ [.ref a] _ E0 rfl hr env (hbind s (.ref a)) (.cons rfl .nil) (hsp H hTb sq)) fun r s' z => ?_
    match r, z with
    | .error _, z => exact z.elim
    | .ok .next, z => exact z.elim
    | .ok .brk, z => exact z.elim
    | .ok .cont, z => exact z.elim
    | .ok (.ret u), z =>
      obtain ⟨v, H', os, bare, un, hok', r', q⟩ := z
      cases (show v = .bl true from q)
      cases (show u = Value.bool true from r')
      have same : ∀ b o, b ∉ cs.map (·.2) → s.heap.get? b = some o → s'.heap.get? b = some o := fun b o nb e => by
        cases q : H b with
        | none => exact un.keep b o e q (fun z => nomatch z) (fun z => nomatch z)
        | some u =>
          rcases hS q with ⟨_, rfl, rfl⟩ | ⟨hb2, _⟩
          · rw [ha] at e; cases e
            obtain ⟨e2, _⟩ := hok' b _ (un.frzs b _ _ q)
            exact e2
          · exact absurd hb2 nb
      have grown : ∀ b ∈ cs.map (·.2), isCodeTable s.heap b ∧ ∃ more : Array Value, s'.heap.get? b = some (PySem.W.tabObj more) := fun b hb2 => by
        obtain ⟨p, hp, rfl⟩ := List.mem_map.mp hb2
        obtain ⟨more, q⟩ := un.tbls p.2 #[] (hTb p hp)
        exact ⟨((C p hp).tab (hT p hp)).isCodeTable, _, hok' p.2 _ q⟩
      refine ⟨rfl, ⟨fun b o e => ?_, fun b o e => ?_⟩, os, bare⟩
      · by_cases hb2 : b ∈ cs.map (·.2)
        · obtain ⟨g1, more, g2⟩ := grown b hb2
          rw [tabOf b hb2] at e; cases e
          exact .inr (.inl ⟨g1, rfl, #[], more, rfl, by rw [Array.empty_append]; exact g2⟩)
        · exact .inl (same b o hb2 e)
      · by_cases hb2 : b ∈ cs.map (·.2)
        · obtain ⟨_, more, g2⟩ := grown b hb2
          exact ⟨_, g2⟩
        · exact ⟨o, same b o hb2 e⟩
  cases hk : K.lookup a with
  | some o => exact key false (fun z => Bool.noConfusion z) (fun _ => ⟨o, hk⟩)
  | none => exact key true (fun _ => hk) (fun z => Bool.noConfusion z)
/-- a def whose code object is known by its place -/
structure FunC (K : PySem.W.Frag) (x qual : Str) (st : Stmt) (f : Addr) (fd : FuncData) (c : Addr) : Prop where
  ex : ∃ (oc : Value) (od : Option Addr) (kV doc pm : Value) (an : Option Addr) (ct : Value) (osl : Array (Option Value)),
    fd = PySem.W.fnOf x qual (defArgs st) (defBody st) (defScope st) .none kV doc pm an (.ref c) ct ∧ K.lookup f = some ⟨oc, od, .func (PySem.W.fnOf x qual (defArgs st) (defBody st) (defScope st) .none kV doc pm an (.ref c) ct), osl⟩ ∧ PySem.W.codeIn K (.ref c) qual = true
section
variable {P : Program} {w : World} {K : PySem.W.Frag} {mg : Str → Option Value} {base : Heap}
/-- such a def by its body, as FnG -/
theorem defGC {x qual : Str} {st : Stmt} {f c : Addr} {fd : FuncData} {N ps : List Str} {k : Nat} {sp : Sp} (F : FunC K x qual st f fd c) (S : FnScope N ps (defScope st)) (many : ∀ vs H Q E, sp vs H Q E → vs.length = ps.length)
    (body : ∀ (A : Around) (o : List Env) (s : Shared) (H : Hp) (vs : List V) (Q : VK) (E : XK), Clr A → Room k (A.deeper (envOfC qual (defScope st) s.heap.objs.size f (.ref c))) → sp vs H Q E →
      ∃ t, PSs (cxOf CX0 P w K mg base N qual (defScope st) f (.ref c) A o s H E).nox (defBody st) t ∧ t { nx := fun _ H' => Q .non H', rt := Q } (start N vs) H) : FnG P w K mg base (k + 1) f fd ps sp := by
  obtain ⟨oc, od, kV, doc, pm, an, ct, osl, rfl, lk, hcd⟩ := F.ex
  refine ⟨many, ?_⟩
  intro A o s H us a vs Q E cl r e0 hb rv hsp
  obtain ⟨t, ht, hq⟩ := body A o s H vs Q E cl (r.deeper _) hsp
  have inK : ∀ b ob, K.lookup b = some ob → s.heap.get? b = some ob := fun b ob e => (e0.bs b ob (e0.mod.kin b ob e)).1
  refine codeAny_call_function r.depth (inK _ _ lk) rfl S.co S.gen rfl (PySem.W.codeRec_of inK hcd) (hb _ _ _ _ ?_)
  have noL : s.heap.NoLimit := e0.mod.nolimit.keeps fun b ob e => (e0.bs b ob e).1
  refine wpAny_newFunctionEnv_cells S.kind ?_ ?_
  · rintro ⟨n, v⟩ hy
    rcases S.par n (List.of_mem_zip hy).1 with q | q
    · exact Or.inl q
    · exact Or.inr ⟨q, PySem.W.cellsFrom_some _ _ _ (Or.inl q)⟩
  · intro env he s1 x1
    subst he
    refine ⟨noL.keeps x1.toInCall.keep, codeAny_func ?_⟩
    have J := inv_start (CX := CX0) (mg := mg) (E := E) (qual := qual) S r.hd e0 (many _ _ _ _ hsp) rv x1
    refine wpAny_mono (ht.nox.run [] s1 _ H _ J hq) ?_ ?_
    · intro fl s2 h2
      cases fl with
      | next => obtain ⟨_, H2, J2, q2⟩ := h2; exact ⟨V.non, H2, J2.os, J2.bare, J2.base, J2.hok, rfl, q2⟩
      | ret u => obtain ⟨v, _, H2, J2, r2, q2⟩ := h2; exact ⟨v, H2, J2.os, J2.bare, J2.base, J2.hok, r2, q2⟩
      | brk => obtain ⟨_, _, _, q2⟩ := h2; exact q2.elim
      | cont => obtain ⟨_, _, _, q2⟩ := h2; exact q2.elim
    · intro e s2 h2; exact h2
end
/-- the end, the law's def by its facts, its code's tables known -/
theorem walkGT {l : PySem.W.OpenLaw} {n k : Nat} {q : Program} {loose : List Str} {XP : (Str → Option Value) → Heap → Prop} {YP : World → Heap → Prop} {d : DefRec} {K : Params → PySem.W.Frag} {sp : PySem.W.Frag → Sp} {st : Stmt} {x : Str} {ts : List Addr}
    (hn : l.most = some n) (hn2 : n ≤ sizeLine) (hdf : d.params.defaults = []) (hr : Room k callerA) (hY : ∀ (w : World) (h : Heap), YP w h → (K w.params).In h) (hY2 : ∀ (w : World) (h : Heap), YP w h → ∀ p ∈ ts, h.get? p = some (PySem.W.tabObj #[])) (hx : d.name = "law")
    (hb : ∀ (kV doc pm : Value) (an : Option Addr) (cdv ct u : Value), bindArgs (PySem.W.fnOf "law" "law" (defArgs st) (defBody st) (defScope st) .none kV doc pm an cdv ct) ⟨[u], []⟩ = pure [(x, u)])
    (F : ∀ (w : World) (mg : Str → Option Value) (h : Heap), (K w.params).In h → h.Ns mainGlobals mg → ∃ cs : List (Addr × Addr), cs.map (·.2) = ts ∧ (∀ p ∈ cs, (K w.params).lookup p.2 = none) ∧ (∀ p ∈ cs, PySem.W.codeHdIn (K w.params) p.1 p.2 = true) ∧
      ∃ (fa : Addr) (fd : FuncData), Cal (K w.params) mg "law" st [x] fa fd ∧ ∀ base : Heap, (∀ p ∈ cs, TabB base mg p.1 p.2) → FnG l.prog w (K w.params) mg base k fa fd [x] (sp (K w.params)))
    (hsp : ∀ (K : PySem.W.Frag) (H : Hp) (a : Addr) (ns : List Int), ns.length ≤ n → (∀ z ∈ ns, Builtin.Int.intBits z ≤ 1048576) → (∀ p ∈ ts, H p = some (.tbl #[])) → SqL K H a (ns.map V.int) → sp K [.ref a] H (fun v _ => v = .bl true) E0) :
    PySem.W.WalkO q loose XP YP l.row.toRowW d [] (fun f vs => PySem.call f vs) := by
  apply Att.attach_callB hn hdf
  intro w s0 s1 mg mb fa o pm cd doc a vs ns G Y ho hd hcd hmg hobj hints hlen hbits hg
  have KX := hY w _ Y
  obtain ⟨cs, ec, nT, cT, f, fd, C, ok⟩ := F w mg _ KX G.T.g
  subst ec
  rw [hx] at hmg
  have e := C.m.symm.trans hmg
  cases e
  obtain ⟨oc, od, kV, doc2, pm2, an2, cdv, ct, osl, rfl, lk, hcd2⟩ := C.F.ex
  exact lawGT (cs := cs) KX G.T.g G.T.b G.T.builtins G.T.nolimit hg (fun p hp => hY2 w _ Y _ (List.mem_map_of_mem (f := (·.2)) hp)) nT (fun p hp => PySem.W.codeHd_of_K KX (cT p hp)) G.T.bmain hobj hints (Nat.le_trans hlen hn2) hr (fun base _ _ TB => ok base TB) (fun s u => .of_eq (hb kV doc2 pm2 an2 cdv ct u)) fun H hH hS => hsp _ H a ns hlen hbits (fun P hP => by obtain ⟨p, hp, rfl⟩ := List.mem_map.mp hP; exact hH p hp) hS
end Xc

/-! Xc5: readings for own exceptions -/
namespace Xc
open PySem PySem.Spec PySem.Calls PyProof.Rows L2 Rs
/-- __init__(self, x) that stores x as f -/
def spInit1 (C : Addr) (f : Str) : Sp := fun vs H Q _ => ∃ (a : Addr) (v : V), vs = [.ref a, v] ∧ H a = some (exo a C none) ∧ ∀ dx, H dx = none → dx ≠ a → Q .non (upd (upd H dx (exd dx [(f, v)])) a (exo a C (some dx)))
theorem del_eq {H : Hp} {a d : Addr} {o1 o2 o3 o4 : HO} (ha : H a = none) (ne : d ≠ a) : upd (del (upd (upd (upd H a o1) d o2) a o3) a) d o4 = upd H d o4 := by
  funext b
  by_cases hb : b = d
  · subst hb; rw [upd_same, upd_same]
  · rw [upd_ne hb, upd_ne hb]
    by_cases h2 : b = a
    · subst h2; rw [del_same, ha]
    · rw [del_ne h2, upd_ne h2, upd_ne hb, upd_ne h2]
section
variable {σ : L2.St} {H H0 : Hp} {M : List Addr} {L : Led} {Q : VK} {K : PySem.W.Frag} {C : Addr} {f : Str} {x : V} {XQ : XK}
theorem rd_mk1 (k : ∀ d, H d = none → XQ (.ref C) (some d) (upd H d (.xd [(f, x)]))) : [x].length ≤ 1000 ∧ ∀ a, H a = none → spInit1 C f (.ref a :: ([x] ++ [])) (upd H a (exo a C none))
    (fun v H2 => v = .non ∧ ∃ (d : Addr) (fs : List (Str × V)), H2 a = some (exo a C (some d)) ∧ H2 d = some (exd d fs) ∧ H d = none ∧ XQ (.ref C) (some d) (upd (del H2 a) d (.xd fs))) (fun _ _ _ => False) := by
  refine ⟨by simp, fun a ha => ⟨a, x, rfl, upd_same, fun dx n1 n2 => ⟨rfl, dx, [(f, x)], upd_same, ?_, ?_, ?_⟩⟩⟩
  · rw [upd_ne n2, upd_same]
  · rw [upd_ne n2] at n1; exact n1
  · rw [del_eq ha n2]
    rw [upd_ne n2] at n1
    exact k dx n1
theorem rd_tmk {sp : Sp} {dvs : List V} {ta : TA} (h : ta σ H fun vs H1 => vs.length ≤ 1000 ∧ ∀ a, H1 a = none → sp (.ref a :: (vs ++ dvs)) (upd H1 a (exo a C none))
    (fun v H2 => v = .non ∧ ∃ (d : Addr) (fs : List (Str × V)), H2 a = some (exo a C (some d)) ∧ H2 d = some (exd d fs) ∧ H1 d = none ∧ XQ (.ref C) (some d) (upd (del H2 a) d (.xd fs))) (fun _ _ _ => False)) : tMkO C sp dvs ta σ H XQ := h
theorem rd_dm {a b : Int} (S : Hs H0 M H L) (h1 : 0 < b) (h2 : b < 2 ^ 30) (h3 : -(2 ^ 30) < a) (h4 : a < 2 ^ 30) (h : ∀ p H', H0 p = none → Hs H0 M H' ((p, .tup [.int (a / b), .int (a % b)]) :: L) → Q (.ref p) H') : rDm [.int a, .int b] H Q := ⟨a, b, rfl, h1, h2, h3, h4, rd_newO S h⟩
theorem rd_isX {a dx : Addr} {fs : List (Str × V)} {c : V} {u : Value} {b : Bool} (S : Hs H0 M H L) (m1 : (a, Exv a (.ref C) (some dx)) ∈ L) (m2 : (dx, HO.xd fs) ∈ L) (l : Lk K C) (hc : ClsV c u) (e : PySem.W.kitOne K (.ref C) u = some b) (h : Q (.bl b) H) : rIsX K [.ref a, c] H Q :=
  ⟨a, C, dx, fs, c, u, b, rfl, hc, l, ⟨S.is _ m1, S.is _ m2⟩, e, h⟩
theorem rd_xv {te : TE} (h : te σ H fun x H1 => ∃ (a C dx : Addr) (fs : List (Str × V)) (v : V), x = .ref a ∧ Lk K C ∧ PySem.W.findIn K (.ref C) f = some none ∧ Held H1 a C dx fs ∧ fs.lookup f = some v ∧ Q v H1) : tXv K f te σ H Q := h
theorem rd_put1 {B newId initId : String} {bmB : List Value} {to te : TE} {D : Ends} (h : te σ H fun y H1 => to σ H1 fun x H2 => ∃ a C : Addr, x = .ref a ∧ Own K C B newId initId bmB ∧ PySem.W.takerIn K C f = some none ∧
  ((H2 a = some (exo a C none) ∧ ∀ dx, H2 dx = none → dx ≠ a → D.nx σ (upd (upd H2 dx (exd dx [(f, y)])) a (exo a C (some dx)))) ∨
    ∃ (dx : Addr) (fs : List (Str × V)), H2 a = some (exo a C (some dx)) ∧ H2 dx = some (exd dx fs) ∧ fs.length ≤ 900 ∧ D.nx σ (upd H2 dx (exd dx ((f, y) :: fs))))) : tPut K B newId initId bmB f to te D σ H := h
theorem rd_slVx {a : Addr} {xs : List V} {lo hi : Option Int} (S : Hs H0 M H L) (m : (a, HO.lst xs) ∈ L) (h : ∀ p H', H0 p = none → Hs H0 M H' ((p, .lst (cutV xs lo hi)) :: L) → Q (.ref p) H') : rSlL K (.ref a) lo hi H Q :=
  ⟨a, xs, rfl, S.lst m, rd_newO S h⟩
theorem rd_bi {B newId initId : String} {bmB : List Value} {ta : TA} (h : ta σ H fun vs H1 => ∃ (a C : Addr) (ws : List V), vs = .ref a :: ws ∧ ws.length ≤ 1000 ∧ Own K C B newId initId bmB ∧ H1 a = some (exo a C none) ∧ Q .non H1) : tBI K B newId initId bmB ta σ H Q := h
end
end Xc
namespace Xc
open PySem PySem.Spec PySem.Calls PyProof.Rows L2 Rs
theorem rd_xvV {H H0 : Hp} {M : List Addr} {L : Led} {K : PySem.W.Frag} {C : Addr} {f : Str} {a dx : Addr} {fs : List (Str × V)} {v : V} {R : V → Prop} (S : Hs H0 M H L) (m1 : (a, Exv a (.ref C) (some dx)) ∈ L) (m2 : (dx, HO.xd fs) ∈ L) (l : Lk K C) (n : PySem.W.findIn K (.ref C) f = some none) (e : fs.lookup f = some v) (h : R v) :
    ∃ (a' C dx : Addr) (fs : List (Str × V)) (v : V), V.ref a = .ref a' ∧ Lk K C ∧ PySem.W.findIn K (.ref C) f = some none ∧ Held H a' C dx fs ∧ fs.lookup f = some v ∧ R v := ⟨a, C, dx, fs, v, rfl, l, n, ⟨S.is _ m1, S.is _ m2⟩, e, h⟩
/-- the slots' number is known of what flies -/
theorem takes_len {X : Cx} {W : WX} (t : Takes X W) : Takes X (fun cls d σ H => σ.length = X.N.length → W cls d σ H) := fun u s' ⟨a, B, sI, pins, σ, H, cls, d, e, I, nb, up, sky, na, os, ag, w⟩ =>
  t u s' ⟨a, B, sI, pins, σ, H, cls, d, e, I, nb, up, sky, na, os, ag, w I.len⟩
end Xc

/-! Xc6: repr of (text, thing), the thing data or an empty dict -/
namespace Xc
open PySem PySem.Spec PySem.Calls PyProof.Rows L2 Rs
/-- data, or an empty dict -/
inductive Tq (K : PySem.W.Frag) (H : Hp) : V → PyData → Prop where
  | dp {v : V} {d : PyData} (h : Dp K H v d) : Tq K H v d
  | emp {a : Addr} (h : H a = some (.dK [])) : Tq K H (.ref a) (.dict [])
section
variable {X : Cx} {pins : List (Addr × Obj)} {σ : L2.St} {H : Hp} {s : Shared}
theorem Tq.reads (I : Inv X pins σ H s) {v : V} {d : PyData} {u : Value} (h : Tq X.K H v d) (r : RelV v u) : ∃ as, Reads s.heap u d as ∧ (d.hasDict = true → sysModules ∉ as) := by
  cases h with
  | dp h =>
    obtain ⟨as, q⟩ := Dp.reads I d v u h r
    exact ⟨as, q, PyData.noDict_hsm (dp_noDict d v h)⟩
  | @emp a h =>
    cases (show u = Value.ref a from r)
    obtain ⟨_, ns, vs, kv, o, es, ep, e1, e2, e3, _, e5, _⟩ := dk_of I.hok h
    cases kv
    have e6 := Pairs.length e5
    have e7 : es.toList = [] := List.eq_nil_of_length_eq_zero e6
    refine ⟨[a] ++ [], ?_, fun _ hm => ?_⟩
    · have z := Reads.dict (kvs := []) (as := []) (bs := []) e1 e2.1 e3 (by rw [e7]; exact .nil) (by rw [e7]; exact .nil)
      exact z
    · have : sysModules = a := by simpa using hm
      rw [this] at ns
      simp at ns
/-- repr((text, thing)) -/
def rReprP (K : PySem.W.Frag) : List V → Hp → VK → Prop := fun xs H Q => ∃ (p : Addr) (t : Str) (v : V) (d : PyData), xs = [.ref p] ∧ SqT K H p [.str t, v] ∧ Tq K H v d ∧ Shw (.tuple [.str t, d]) ∧ (PyData.tuple [.str t, d]).depth ≤ 50 ∧ Q (.str (PyData.tuple [.str t, d]).shown) H
theorem call_reprP {k : Nat} (c : Clr X.A) (hr : Room k X.A) : CallR X (.builtin "repr") (rReprP X.K) := by
  intro pins s σ H xs us Q I r h
  obtain ⟨p, t, v, d, rfl, hs, hq, sw, dp, q⟩ := h
  cases r with
  | cons r1 r2 =>
    cases r2
    rename_i u
    cases (show u = Value.ref p from r1)
    obtain ⟨its, rv, ⟨o, ho, hc, n, hd⟩, _⟩ := I.tuple hs
    obtain ⟨u1, u2, rfl, q1, q2⟩ := vals2 rv
    obtain ⟨tk, rfl⟩ := (show ∃ tk, u1 = Value.str t tk from q1)
    obtain ⟨as, rd, hm⟩ := hq.reads I q2
    have rd2 : Reads s.heap (.ref p) (.tuple [.str t, d]) ([] ++ (as ++ [])) := Reads.tuple ho hc hd (.cons (.str t tk) (.cons rd .nil))
    have un := hr.units
    refine repr_of_reads' (s := s) rd2 sw.ok (fun z => ?_) c (by omega) (fun _ _ e => e) (fun h' t2 tk2 kp => ⟨.str _, H, I.kept kp, ⟨t2, rfl⟩, q⟩) sw.sz
    simp only [PyData.hasDict, PyData.hasDictAll, Bool.false_or, Bool.or_false] at z
    simpa using hm z
end
theorem rd_reprP {K : PySem.W.Frag} {H H0 : Hp} {M : List Addr} {L : Led} {Q : VK} {p : Addr} {t : Str} {v : V} {d : PyData} (S : Hs H0 M H L) (m : (p, HO.tup [.str t, v]) ∈ L) (h : Tq K H v d) (sw : Shw (.tuple [.str t, d])) (dp : (PyData.tuple [.str t, d]).depth ≤ 50)
    (k : Q (.str (PyData.tuple [.str t, d]).shown) H) : rReprP K [.ref p] H Q := ⟨p, t, v, d, rfl, S.tup m, h, sw, dp, k⟩
end Xc
namespace Xc
open PySem PySem.Spec PySem.Calls PyProof.Rows L2 Rs
section
variable {σ : L2.St} {H H0 : Hp} {M : List Addr} {L : Led} {Q : VK}
theorem rd_lstRg {te : L2.St → Hp → (Int → Int → Hp → Prop) → Prop} (h : te σ H fun a b H1 => RgOk a b ∧ ∀ q, H1 q = none → Q (.ref q) (upd H1 q (.lst (rgV a b)))) : tLstRg te σ H Q := h
theorem rd_rg1 {ta : TE} {R : Int → Int → Hp → Prop} (h : ta σ H fun x H1 => ∃ n, x = .int n ∧ R 0 n H1) : tRg1 ta σ H R := h
theorem rd_rg1v {n : Int} {R : Int → Prop} (h : R n) : ∃ m, V.int n = .int m ∧ R m := ⟨n, rfl, h⟩
theorem rd_rgNew {a b : Int} (S : Hs H0 M H L) (h1 : 0 ≤ a) (h2 : b ≤ 16777216) (h3 : a ≤ 16777216) (h4 : 0 ≤ b) (h : ∀ p H', H0 p = none → Hs H0 M H' ((p, .lst (rgV a b)) :: L) → Q (.ref p) H') : RgOk a b ∧ ∀ q, H q = none → Q (.ref q) (upd H q (.lst (rgV a b))) :=
  ⟨RgOk.of_le h1 h2 h3 h4, rd_newO S h⟩
end
end Xc

/-! Xc7: great numbers shown, dicts of plain pairs shown, truths counted, truths as numbers, ledgers begun anew -/
namespace Xc
open PySem PySem.Spec PySem.Calls PyProof.Rows L2 Rs
def Stat (K : PySem.W.Frag) : Prop := PySem.W.nsIn K cStatics "sys.int_max_str_digits" = some none
section
variable {prog : Program} {w : World} {A : Around} {E : Value → Shared → Prop} {s : Shared} {K : PySem.W.Frag}
/-- a whole number of less than 4300 figures that is no matter of _pylong -/
structure Fig (i : Int) : Prop where
  a : i.natAbs < 10 ^ 4300
  b : i.natAbs.log2 < 29000
theorem over_run {M : Model} {i : Int} {Q : Option Nat → Shared → Prop} (X : K.In s.heap) (st : Stat K) (f : Fig i) (q : Q none s) : wpAny M A (Builtin.overDigitLimit? i) Q E s := by
  unfold Builtin.overDigitLimit?
  by_cases h0 : i.natAbs.log2 < 1920
  · rw [if_pos h0]; exact wpAny_pure q
  · rw [if_neg h0]
    refine wpAny_bind ?_
    unfold Builtin.intMaxStrDigits
    refine wpAny_bind ((PySem.W.looks_nsIn X st).here ?_)
    refine wpAny_pure ?_
    have hb := f.b
    have h1 : ¬ (i.natAbs.log2 / 30 + 1 > 1000) := by omega
    dsimp only
    rw [if_neg h1]
    by_cases h2 : ((4300 : Nat) == 0 || decide (i.natAbs.log2 < 3 * 4300)) = true
    · rw [if_pos (by simpa using h2)]; exact wpAny_pure q
    · rw [if_neg (by simpa using h2), if_neg (Nat.not_le.mpr f.a)]; exact wpAny_pure q
theorem gives_big (i : Int) (t : Tok) (st : Stat K) (f : Fig i) : GivesAt (fun s => K.In s.heap) (Builtin.«int.__repr__» ⟨[.int i t], []⟩) (.str (toString i)) := by
  intro prog w A R s X h
  unfold Builtin.«int.__repr__»
  show wpAny _ _ (do let r ← Builtin.overDigitLimit? i; _) _ _ _
  refine wpAny_bind (over_run X st f ?_)
  exact (Gives.of_eq rfl : Gives _ (.str (toString i))) prog w A R s h
theorem reprObj_big {i : Int} {t : Tok} {Q : Value → Shared → Prop} (X : K.In s.heap) (st : Stat K) (f : Fig i) (hu : A.units < cLine) (h : Q (.str (toString i) s.toks) { s with toks := s.toks + 1 }) : wpAny (model prog w) A (pyReprObj (.int i t)) Q E s :=
  wpAny_pyReprObj_slot hu (typeIs_int s i t) F.slot_int_repr.toG (call_givesAt F.slot_int_repr (typeIs_int s i t) F.entry_int_repr (F.args_int_repr_1 _) (gives_big i t st f) X ⟨int_text_fits10 f.a, _, _, rfl, h⟩)
theorem reprK_big {as : List Addr} {h₀ : Heap} {d : Nat} {i : Int} {t : Tok} (X : K.In h₀) (st : Stat K) (f : Fig i) : ReprK prog w as h₀ d (.int i t) (toString i) := fun base hb A g E s Q hg hcl hu hk hQ => by
  have hn' : base ≤ sizeLine := by omega
  rw [pyReprUnder_leaf (v := .int i t) hn' (fun _ e => nomatch e)]
  unfold pyRepr
  exact wpAny_bind (reprObj_big (X.keeps hk) st f (by omega) (wpAny_pure (hQ s.heap _ fun _ _ e => e)))
end
/-! ### what is shown -/
/-- plain: no place in the heap -/
def plD : V → Option PyData
  | .non => some .none
  | .bl b => some (.bool b)
  | .int i => some (.int i)
  | .str x => some (.str x)
  | _ => none
def keyD : Key → PyData
  | .inl i => .int i
  | .inr x => .str x
inductive PlKv : List (Key × V) → List (PyData × PyData) → Prop where
  | nil : PlKv [] []
  | cons {k : Key} {v : V} {d : PyData} {kv : List (Key × V)} {kds : List (PyData × PyData)} : plD v = some d → PlKv kv kds → PlKv ((k, v) :: kv) ((keyD k, d) :: kds)
theorem plD_reads {h : Heap} {v : V} {d : PyData} {u : Value} (e : plD v = some d) (r : RelV v u) : Reads h u d [] := by
  cases v with
  | non => cases e; cases (show u = Value.none from r); exact .none
  | bl b => cases e; cases (show u = Value.bool b from r); exact .bool b
  | int i => cases e; obtain ⟨t, rfl⟩ := (show ∃ t, u = Value.int i t from r); exact .int i t
  | str x => cases e; obtain ⟨t, rfl⟩ := (show ∃ t, u = Value.str x t from r); exact .str x t
  | _ => cases e
theorem plKv_reads {P : Program} {w : World} {h : Heap} : ∀ {kv : List (Key × V)} {kds : List (PyData × PyData)} {vs : List (Key × Value)} {es : List DictEntry}, PlKv kv kds → KV kv vs → Pairs (mixKind P w) es vs →
    ReadsAll h (es.map (·.key)) (kds.map (·.1)) [] ∧ ReadsAll h (es.map (·.val)) (kds.map (·.2)) []
  | _, _, _, _, .nil, .nil, .nil => ⟨.nil, .nil⟩
  | _, _, _, _, .cons (k := k) e p, .cons ⟨e1, r⟩ q, .cons hk hv rest => by
    obtain ⟨h1, h2⟩ := plKv_reads p q rest
    refine ⟨?_, ?_⟩
    · refine ReadsAll.cons (as := []) (bs := []) ?_ h1
      dsimp only at e1
      rw [← e1] at hk
      rcases keyIs_shape hk with ⟨i, t, e2, e3⟩ | ⟨x, t, e2, e3⟩
      · show Reads h _ (keyD k) []
        rw [e2]; dsimp only; rw [e3]; exact .int i t
      · show Reads h _ (keyD k) []
        rw [e2]; dsimp only; rw [e3]; exact .str x t
    · refine ReadsAll.cons (as := []) (bs := []) ?_ h2
      dsimp only
      rw [hv]
      exact plD_reads e r
/-- data without dicts, a dict of plain pairs, a great number -/
inductive Tz (K : PySem.W.Frag) (H : Hp) : V → PyData → Prop where
  | dp {v : V} {d : PyData} (h : Dp K H v d) (s : d.showable = true) : Tz K H v d
  | dk {a : Addr} {kv : List (Key × V)} {kds : List (PyData × PyData)} (h : H a = some (.dK kv)) (p : PlKv kv kds) (s : (PyData.dict kds).showable = true) : Tz K H (.ref a) (.dict kds)
  | big {i : Int} (f : Fig i) : Tz K H (.int i) (.int i)
section
variable {X : Cx} {pins : List (Addr × Obj)} {σ : L2.St} {H : Hp} {s : Shared}
theorem Tz.shows (I : Inv X pins σ H s) (st : Stat X.K) {v : V} {d : PyData} {u : Value} (h : Tz X.K H v d) (r : RelV v u) (hz : d.shown.length ≤ sizeLine) (hd : d.depth ≤ 50) :
    ∃ bs, ReadAtMost s.heap d.depth bs ∧ ReprK X.prog X.w bs s.heap 50 u d.shown := by
  cases h with
  | dp h sw =>
    obtain ⟨as, q⟩ := Dp.reads I d v u h r
    obtain ⟨bs, h1, h2⟩ := ReprK.of_reads (prog := X.prog) (w := X.w) q sw (PyData.noDict_hsm (dp_noDict d v h)) hz
    exact ⟨bs, h1, h2.level_le hd⟩
  | @dk a kv kds h p sw =>
    cases (show u = Value.ref a from r)
    obtain ⟨_, ns, vs, kv', o, es, ep, e1, e2, e3, _, e5, _⟩ := dk_of I.hok h
    obtain ⟨r1, r2⟩ := plKv_reads (h := s.heap) p kv' e5
    have q : Reads s.heap (.ref a) (.dict kds) ([a] ++ [] ++ []) := Reads.dict (as := []) (bs := []) e1 e2.1 e3 r1 r2
    obtain ⟨bs, h1, h2⟩ := ReprK.of_reads (prog := X.prog) (w := X.w) q sw (fun _ hm => by
      have z : sysModules = a := by simpa using hm
      rw [z] at ns
      simp at ns) hz
    exact ⟨bs, h1, h2.level_le hd⟩
  | @big i f =>
    obtain ⟨t, rfl⟩ := (show ∃ t, u = Value.int i t from r)
    exact ⟨[], fun _ h => (nomatch h), by simp only [PyData.shown]; exact reprK_big I.kIn st f⟩
/-- repr((text, thing)) -/
def rReprZ (K : PySem.W.Frag) : List V → Hp → VK → Prop := fun xs H Q => ∃ (p : Addr) (t : Str) (v : V) (d : PyData), xs = [.ref p] ∧ SqT K H p [.str t, v] ∧ Tz K H v d ∧ (PyData.tuple [.str t, d]).shown.length ≤ sizeLine ∧ d.depth ≤ 30 ∧ Q (.str (PyData.tuple [.str t, d]).shown) H
theorem call_reprZ {k : Nat} (st : Stat X.K) (c : Clr X.A) (hr : Room k X.A) : CallR X (.builtin "repr") (rReprZ X.K) := by
  intro pins s σ H xs us Q I r h
  obtain ⟨p, t, v, d, rfl, hs, hq, sw, dp, q⟩ := h
  cases r with
  | cons r1 r2 =>
    cases r2
    rename_i u
    cases (show u = Value.ref p from r1)
    obtain ⟨its, rv, ⟨o, ho, hc, n, hd⟩, _⟩ := I.tuple hs
    obtain ⟨u1, u2, rfl, q1, q2⟩ := vals2 rv
    obtain ⟨tk, rfl⟩ := (show ∃ tk, u1 = Value.str t tk from q1)
    have un := hr.units
    have sz := sw
    rw [show (PyData.tuple [.str t, d]).shown = tupleText [reprText t, d.shown] by simp [PyData.shown, PyData.shownAll]] at sz q
    have z1 := Nat.le_trans (tupleText_mem_le (ts := [reprText t, d.shown]) (t := reprText t) (by simp)) sz
    have z2 := Nat.le_trans (tupleText_mem_le (ts := [reprText t, d.shown]) (t := d.shown) (by simp)) sz
    obtain ⟨bs, hb, rk⟩ := hq.shows I st q2 z2 (by omega)
    have hall : ReprAllK X.prog X.w bs s.heap 50 [.str t tk, u2] [reprText t, d.shown] := .cons (ReprK.of_is (ReprIs.str t tk z1) _ _ _) (.cons rk .nil)
    have hna : p ∉ bs := fun hm => by
      obtain ⟨d', as', r', hd'⟩ := hb p hm
      cases r' with
      | list h1 h2 h3 h4 => rw [ho] at h1; cases h1; rw [hc] at h2; exact absurd (Value.type.inj h2) (by decide)
      | dict h1 h2 h3 h4 h5 => rw [ho] at h1; cases h1; rw [hc] at h2; exact absurd (Value.type.inj h2) (by decide)
      | @tuple a' o' vs' n' xs' as' h1 h2 h3 h4 =>
        rw [ho] at h1; cases h1
        rw [hd] at h3; cases h3
        cases h4 with
        | cons ra rb =>
          cases rb with
          | cons rc rd =>
            cases rd
            have e9 : ∃ dd aa, Reads s.heap u2 dd aa ∧ dd.depth < d.depth := ⟨_, _, rc, by
              simp only [PyData.depth, PyData.depthAll] at hd'
              omega⟩
            obtain ⟨dd, aa, e10, e11⟩ := e9
            cases hq with
            | dp h _ =>
              obtain ⟨as, q9⟩ := Dp.reads I d v u2 h q2
              have := (PyProof.Rows.reads_det (fun _ _ e _ => e) q9 e10).1
              rw [this] at e11; omega
            | dk h p _ =>
              cases (show u2 = Value.ref _ from q2)
              obtain ⟨_, ns, vs, kv', o, es, ep, e1, e2, e3, _, e5, _⟩ := dk_of I.hok h
              obtain ⟨r1, r2⟩ := plKv_reads (h := s.heap) p kv' e5
              have q9 := Reads.dict (as := []) (bs := []) e1 e2.1 e3 r1 r2
              have := (PyProof.Rows.reads_det (fun _ _ e _ => e) q9 e10).1
              rw [this] at e11; omega
            | big f => simp only [PyData.depth] at e11; omega
    refine call_repr_slot (by omega) ⟨o, ho, hc⟩ F.slot_tuple_repr ?_
    exact call_tuple_reprK ho hc hd hna hall c (fun b _ => Clear.nil b) (by show X.A.units + 1 + (50 + 1) < cLine; omega) (fun _ _ e => e) (fun h' t2 tk2 kp => ⟨_, _, rfl, ⟨.str _, H, I.kept kp, ⟨t2, rfl⟩, q⟩⟩) sz
end
theorem rd_reprZ {K : PySem.W.Frag} {H H0 : Hp} {M : List Addr} {L : Led} {Q : VK} {p : Addr} {t : Str} {v : V} {d : PyData} (S : Hs H0 M H L) (m : (p, HO.tup [.str t, v]) ∈ L) (h : Tz K H v d) (sw : (PyData.tuple [.str t, d]).shown.length ≤ sizeLine) (dp : d.depth ≤ 30)
    (k : Q (.str (PyData.tuple [.str t, d]).shown) H) : rReprZ K [.ref p] H Q := ⟨p, t, v, d, rfl, S.tup m, h, sw, dp, k⟩
end Xc
namespace Xc
open PySem PySem.Spec PySem.Calls PyProof.Rows L2 Rs
/-! ### truths counted, truths as numbers -/
def rCntB (K : PySem.W.Frag) : V → List V → Hp → VK → Prop := fun x xs H Q => ∃ (p : Addr) (bs : List Bool) (k : Bool), x = .ref p ∧ xs = [.bl k] ∧ SqL K H p (bs.map V.bl) ∧ Q (.int (PySem.Spec.countIn (.bool k) (bs.map PyData.bool))) H
def b01 (b : Bool) : Int := if b = true then 1 else 0
section
variable {X : Cx}
theorem bools_read {h : Heap} : ∀ {bs : List Bool} {vs : List Value}, Vals (bs.map V.bl) vs → ReadsAll h vs (bs.map PyData.bool) []
  | [], _, .nil => .nil
  | b :: bs, _, .cons r q => by
    rename_i u vs
    cases (show u = Value.bool b from r)
    exact ReadsAll.cons (as := []) (bs := []) (.bool b) (bools_read q)
theorem mt_bcount : MtR X "list.count" (rCntB X.K) := by
  intro pins s σ H x xs v us Q I rx rxs h
  obtain ⟨p, bs, k, rfl, rfl, hs, q⟩ := h
  cases rx
  obtain ⟨u, rfl, ru⟩ := rxs.one
  cases (show u = Value.bool k from ru)
  obtain ⟨its, rv, ⟨o, n, ho, hc, hdn, hd⟩, hlen⟩ := I.list hs
  exact count_list_bools (hp := s.heap) ⟨o, ho, hc, n, hd⟩ (bools_read rv) (by simp [Shape.has]) ⟨.int _, H, I.tok _, ⟨_, rfl⟩, q⟩
def rBI (f : Int → Int → Int) : R2 := fun x y H Q => ∃ (b : Bool) (i : Int), x = .bl b ∧ y = .int i ∧ Q (.int (f (b01 b) i)) H
def rIB (f : Int → Int → Int) : R2 := fun x y H Q => ∃ (i : Int) (b : Bool), x = .int i ∧ y = .bl b ∧ Q (.int (f i (b01 b))) H
theorem op_addBI : OpR X (binaryOp .Add) (rBI (· + ·)) := by
  intro pins s σ H x y v u Q I rx ry h
  obtain ⟨b, i, rfl, rfl, q⟩ := h
  cases (show v = Value.bool b from rx)
  obtain ⟨t, rfl⟩ := (show ∃ t, u = Value.int i t from ry)
  exact PySem.IntBool.add_bool_int ⟨.int _, H, I.tok _, ⟨_, rfl⟩, q⟩
theorem op_mulIB : OpR X (binaryOp .Mult) (rIB (· * ·)) := by
  intro pins s σ H x y v u Q I rx ry h
  obtain ⟨i, b, rfl, rfl, q⟩ := h
  obtain ⟨t, rfl⟩ := (show ∃ t, v = Value.int i t from rx)
  cases (show u = Value.bool b from ry)
  exact PySem.IntBool.mul_int_bool ⟨.int _, H, I.tok _, ⟨_, rfl⟩, q⟩
end
section
variable {H H0 : Hp} {M : List Addr} {L : Led} {Q : VK} {a : Addr} {K : PySem.W.Frag} {σ : L2.St}
theorem rd_cntB {xs : List V} {bs : List Bool} {k : Bool} (S : Hs H0 M H L) (m : (a, HO.lst xs) ∈ L) (e : xs = bs.map V.bl) (h : Q (.int (PySem.Spec.countIn (.bool k) (bs.map PyData.bool))) H) : rCntB K (.ref a) [.bl k] H Q := by
  subst e
  exact ⟨a, bs, k, rfl, rfl, S.lst m, h⟩
theorem rd_bi2 {f : Int → Int → Int} {b : Bool} {i : Int} (h : Q (.int (f (b01 b) i)) H) : rBI f (.bl b) (.int i) H Q := ⟨b, i, rfl, rfl, h⟩
theorem rd_ib2 {f : Int → Int → Int} {b : Bool} {i : Int} (h : Q (.int (f i (b01 b))) H) : rIB f (.int i) (.bl b) H Q := ⟨i, b, rfl, rfl, h⟩
theorem rd_divB {i j : Int} {b : Nat} (hj : 0 < j) (hb : j.natAbs < 2 ^ b) (h0 : 0 < b) (h9 : b ≤ 9000) (h : Q (.int (i / j)) H) : rI CDivW (fun i j => .int (i / j)) (.int i) (.int j) H Q :=
  ⟨i, j, rfl, rfl, wide_div (b := b) hj hb h0 h9, h⟩
theorem rd_mulB {i j : Int} {a b : Nat} (ha : i.natAbs < 2 ^ a) (hb : j.natAbs < 2 ^ b) (h0 : 0 < a) (h1 : 0 < b) (h9 : a + b ≤ 1000000) (h : Q (.int (i * j)) H) : rI CMulW (fun i j => .int (i * j)) (.int i) (.int j) H Q :=
  ⟨i, j, rfl, rfl, wide_mul ha hb h0 h1 h9, h⟩
theorem rd_isBl {a b : Bool} (h : Q (.bl (decide (a = b))) H) : rIsB (.bl a) (.bl b) H Q := ⟨a, b, rfl, rfl, h⟩
theorem rd_notBl {a b : Bool} (h : Q (.bl (!decide (a = b))) H) : rNotB (.bl a) (.bl b) H Q := ⟨a, b, rfl, rfl, h⟩
/-- a ledger begun anew behind what leaves all but tables -/
theorem Hs.anew {H' : Hp} (S : Hs H0 M H L) (k : ∀ b o, H b = some o → (∀ ps, o ≠ .tbl ps) → H' b = some o) (nt : ∀ q ∈ L, ∀ ps, q.2 ≠ .tbl ps) : Hs H' (L.map (·.1)) H' L :=
  Rs.Hs.start H' _ L S.nd (fun q hq => k _ _ (S.is q hq) (nt q hq)) fun b hb z => by
    obtain ⟨q, hq, rfl⟩ := List.mem_map.mp hb
    rw [k _ _ (S.is q hq) (nt q hq)] at z
    cases z
end
end Xc

/-! Xc8: ledgers over all but tables; comprehensions whose steps change tables -/
namespace Xc
open PySem PySem.Spec PySem.Calls PyProof.Rows L2 Rs
/-- the heap less its tables -/
def noT (H : Hp) : Hp := fun b => match H b with | some (.tbl _) => none | o => o
theorem noT_some {H : Hp} {b : Addr} {o : HO} (e : H b = some o) (n : ∀ ps, o ≠ .tbl ps) : noT H b = some o := by
  unfold noT
  rw [e]
  cases o <;> first | rfl | exact absurd rfl (n _)
theorem noT_of {H : Hp} {b : Addr} {o : HO} (e : noT H b = some o) : H b = some o ∧ ∀ ps, o ≠ .tbl ps := by
  unfold noT at e
  split at e
  · cases e
  · rename_i h
    exact ⟨e, fun ps z => h ps (by rw [e, z])⟩
theorem noT_none {H : Hp} {b : Addr} (e : H b = none) : noT H b = none := by
  unfold noT
  rw [e]
section
variable {H H0 H1 H2 : Hp} {M : List Addr} {L : Led} {Q : VK} {K : PySem.W.Frag} {σ : L2.St}
theorem Hs.noT0 (H : Hp) : Hs (noT H) [] H [] := ⟨List.nodup_nil, fun q hq => (nomatch hq), fun b u e _ => (noT_of e).1, fun b hb => nomatch hb⟩
theorem Hs.begin (L : Led) (nd : (L.map (·.1)).Nodup) (is : ∀ q ∈ L, H q.1 = some q.2) : Hs (noT H) (L.map (·.1)) H L :=
  ⟨nd, is, fun b u e _ => (noT_of e).1, fun b hb z => by
    obtain ⟨q, hq, rfl⟩ := List.mem_map.mp hb
    rw [is q hq] at z
    cases z⟩
theorem Hs.extN (S : Hs (noT H0) M H1 L) (e : LamX.ExtN H1 H2) (nt : ∀ q ∈ L, ∀ ps, q.2 ≠ .tbl ps) (m : ∀ b ∈ M, b ∈ L.map (·.1)) : Hs (noT H0) M H2 L :=
  ⟨S.nd, fun q hq => e _ _ (S.is q hq) (nt q hq), fun b u eb hm => e _ _ (S.old b u eb hm) (noT_of eb).2, fun b hb z => by
    obtain ⟨q, hq, rfl⟩ := List.mem_map.mp (m b hb)
    rw [e _ _ (S.is q hq) (nt q hq)] at z
    cases z⟩
theorem Hs.toN (S : Hs (noT H0) [] H1 L) : LamX.ExtN H0 H1 := fun b o e n => S.old b o (noT_some e n) (fun z => nomatch z)
/-- what holds of the heap whatever lists are made or written -/
structure Lsts (J : Hp → Prop) : Prop where
  nw : ∀ H D, J H → H D = none → J (upd H D (.lst []))
  up : ∀ H D xs ys, J H → H D = some (.lst xs) → J (upd H D (.lst ys))
theorem tabs_upd {TT : List (Addr × Str)} {H : Hp} {D : Addr} {xs ys : List V} (h : LamX.Tabs TT H) (e : H D = some (.lst xs)) : LamX.Tabs TT (upd H D (.lst ys)) := fun p hp => by
  obtain ⟨ps, h1, h2, h3⟩ := h p hp
  have ne : ∀ b o, H b = some o → (∀ xs, o ≠ .lst xs) → upd H D (.lst ys) b = some o := fun b o eb n => by
    rw [upd_ne (fun z => n xs (by rw [z, e] at eb; exact (Option.some.inj eb).symm))]
    exact eb
  refine ⟨ps, ne _ _ h1 (fun _ z => by cases z), h2, fun pos cv hc => ?_⟩
  obtain ⟨c, e1, e2⟩ := h3 pos cv hc
  exact ⟨c, e1, ne _ _ e2 (fun _ z => by unfold LamX.CodeO at z; cases z)⟩
theorem lsts_tabs (TT : List (Addr × Str)) : Lsts (LamX.Tabs TT) :=
  ⟨fun H D h e => h.ext fun b u eb => by rw [upd_ne (ne_of_none eb e)]; exact eb, fun H D xs ys h e => tabs_upd h e⟩
def lcSkipJ (J : Hp → Prop) (H0 : Hp) (M : List Addr) (L : Led) (R1 : List V → Prop) (D : Addr) (H : Hp) : Prop := J H ∧ lcSkip H0 M L R1 D H
def lcPutJ (J : Hp → Prop) (H0 : Hp) (M : List Addr) (L : Led) (R1 : List V → Prop) (D : Addr) (y : V) (H : Hp) : Prop := ∃ acc, H D = some (.lst acc) ∧ acc.length < sizeLine ∧ lcSkipJ J H0 M L R1 D (upd H D (.lst (acc ++ [y])))
theorem rd_lcPutJ {J : Hp → Prop} {D : Addr} {y : V} {acc : List V} {L2 L3 : Led} {R1 : List V → Prop} (l : Lsts J) (j : J H) (S : Hs H0 M H L2) (c : Chg D (.lst acc) (.lst (acc ++ [y])) L2 L3) (n : H0 D = none) (hl : acc.length < sizeLine) (sub : ((D, HO.lst (acc ++ [y])) :: L).Sublist L3) (r : R1 (acc ++ [y])) : lcPutJ J H0 M L R1 D y H :=
  ⟨acc, S.is _ c.mem, hl, l.up _ _ _ _ j (S.is _ c.mem), n, _, r, (S.put c (Or.inl n)).sub sub⟩
theorem lcwj_list {J : Hp → Prop} {g : TG} {tt : TT} {te : TE} {a : Addr} {xs : List V} {vs : List Nat} (l : Lsts J) (j : J H) (S : Hs H0 M H L) (R : Nat → List V → Prop) (r0 : R 0 []) (hl : ∀ H' acc D, Hs H0 M H' ((D, .lst acc) :: L) → SqL K H' a xs)
    (hs : ∀ D i x acc H', xs[i]? = some x → R i acc → H0 D = none → J H' → Hs H0 M H' ((D, .lst acc) :: L) → g x (wipe σ vs) H' fun σ2 H2 => wipe σ2 vs = wipe σ vs ∧ tt σ2 H2 fun b H3 => if b = true then te σ2 H3 fun y H4 => lcPutJ J H0 M L (R (i + 1)) D y H4 else lcSkipJ J H0 M L (R (i + 1)) D H3)
    (hd : ∀ D acc H', R xs.length acc → H0 D = none → J H' → Hs H0 M H' ((D, .lst acc) :: L) → Q (.ref D) H') : lcW (Itl K a) g tt te vs σ H Q := by
  intro D hD
  have S1 := S.new hD (.lst [])
  refine lc_list (xs := xs) (fun i H' => lcSkipJ J H0 M L (R i) D H') ⟨l.nw _ _ j hD, S1.1, [], r0, S1.2⟩ (fun i H' _ ⟨_, _, acc, _, S'⟩ => hl H' acc D S') ?_ ?_
  · rintro i x H' hi ⟨j', n0, acc, r, S'⟩
    exact hs D i x acc H' hi r n0 j' S'
  · rintro H' ⟨j', n0, acc, r, S'⟩
    exact hd D acc H' r n0 j' S'
theorem lcwj_tup {J : Hp → Prop} {g : TG} {tt : TT} {te : TE} {a : Addr} {xs : List V} {vs : List Nat} (l : Lsts J) (j : J H) (S : Hs H0 M H L) (R : Nat → List V → Prop) (r0 : R 0 []) (hl : ∀ H' acc D, Hs H0 M H' ((D, .lst acc) :: L) → SqT K H' a xs)
    (hs : ∀ D i x acc H', xs[i]? = some x → R i acc → H0 D = none → J H' → Hs H0 M H' ((D, .lst acc) :: L) → g x (wipe σ vs) H' fun σ2 H2 => wipe σ2 vs = wipe σ vs ∧ tt σ2 H2 fun b H3 => if b = true then te σ2 H3 fun y H4 => lcPutJ J H0 M L (R (i + 1)) D y H4 else lcSkipJ J H0 M L (R (i + 1)) D H3)
    (hd : ∀ D acc H', R xs.length acc → H0 D = none → J H' → Hs H0 M H' ((D, .lst acc) :: L) → Q (.ref D) H') : lcW (Itt K a) g tt te vs σ H Q := by
  intro D hD
  have S1 := S.new hD (.lst [])
  refine lc_tup (xs := xs) (fun i H' => lcSkipJ J H0 M L (R i) D H') ⟨l.nw _ _ j hD, S1.1, [], r0, S1.2⟩ (fun i H' _ ⟨_, _, acc, _, S'⟩ => hl H' acc D S') ?_ ?_
  · rintro i x H' hi ⟨j', n0, acc, r, S'⟩
    exact hs D i x acc H' hi r n0 j' S'
  · rintro H' ⟨j', n0, acc, r, S'⟩
    exact hd D acc H' r n0 j' S'
theorem Hs.toT (S : Hs H0 M H L) : Hs (noT H0) M H L := ⟨S.nd, S.is, fun b o e hm => S.old b o (noT_of e).1 hm, S.mu⟩
/-- the heap less its tables, with the tables and the code objects that stand at H3 -/
def rb (H0 H3 : Hp) : Hp := fun b => match H3 b with | some (.tbl ps) => some (.tbl ps) | some (.ext r) => some (.ext r) | _ => noT H0 b
def MLst (M : List Addr) (H : Hp) : Prop := ∀ b ∈ M, ∃ xs, H b = some (.lst xs)
theorem Hs.toR {H3 : Hp} (S : Hs (noT H0) M H3 L) : Hs (rb H0 H3) M H3 L := by
  refine ⟨S.nd, S.is, fun b o e hm => ?_, S.mu⟩
  unfold rb at e
  split at e
  · rename_i h; rw [h]; exact e
  · rename_i h; rw [h]; exact e
  · exact S.old b o e hm
theorem Hs.ofR {H3 H' : Hp} {L' : Led} (S : Hs (noT H0) M H3 L) (S' : Hs (rb H0 H3) M H' L') : Hs (noT H0) M H' L' := by
  refine ⟨S'.nd, S'.is, fun b o e hm => S'.old b o ?_ hm, S'.mu⟩
  have h3 := S.old b o e hm
  unfold rb
  rw [h3]
  split
  · rename_i h; exact h.symm
  · rename_i h; exact h.symm
  · exact e
theorem Hs.tabR {H3 H' : Hp} {L' : Led} {TT : List (Addr × Str)} (S' : Hs (rb H0 H3) M H' L') (m : MLst M H3) (t : LamX.Tabs TT H3) : LamX.Tabs TT H' := fun p hp => by
  obtain ⟨ps, h1, h2, h3⟩ := t p hp
  have nm : ∀ b o, H3 b = some o → (∀ xs, o ≠ .lst xs) → b ∉ M := fun b o e n hm => by
    obtain ⟨xs, z⟩ := m b hm
    rw [e] at z
    exact n xs (Option.some.inj z)
  refine ⟨ps, S'.old _ _ (by unfold rb; rw [h1]) (nm _ _ h1 (fun _ z => by cases z)), h2, fun pos cv hc => ?_⟩
  obtain ⟨c, e1, e2⟩ := h3 pos cv hc
  exact ⟨c, e1, S'.old _ _ (by unfold rb; rw [e2]; rfl) (nm _ _ e2 (fun _ z => by unfold LamX.CodeO at z; cases z))⟩
theorem rb_none {H3 : Hp} {a : Addr} {o : HO} (h : noT H0 a = none) (e : H3 a = some o) (n1 : ∀ ps, o ≠ .tbl ps) (n2 : ∀ r, o ≠ .ext r) : rb H0 H3 a = none := by
  unfold rb
  rw [e]
  split
  · rename_i z; exact absurd (Option.some.inj z) (n1 _)
  · rename_i z; exact absurd (Option.some.inj z) (n2 _)
  · exact h
end
end Xc
namespace Xc
open PySem PySem.Spec PySem.Calls PyProof.Rows L2 Rs
/-- a + b of lists, handed in ones too -/
def rCatL (K : PySem.W.Frag) : R2 := fun x y H Q => ∃ l b xs zs, x = .ref l ∧ y = .ref b ∧ SqL K H l xs ∧ SqL K H b zs ∧ xs.length + zs.length ≤ sizeLine ∧ ∀ p, H p = none → Q (.ref p) (upd H p (.lst (xs ++ zs)))
theorem op_catL {X : Cx} : OpR X (binaryOp .Add) (rCatL X.K) := by
  intro pins s σ H x y v u Q I rx ry h
  obtain ⟨l, b, xs, zs, rfl, rfl, hl, hb, hz, q⟩ := h
  cases (show v = Value.ref l from rx)
  cases (show u = Value.ref b from ry)
  obtain ⟨its, r1, ⟨⟨cls, dd, data, sl⟩, n, ho, hc, hdn, hd⟩, _⟩ := I.list hl
  obtain ⟨its2, r2, ⟨⟨cls2, dd2, data2, sl2⟩, n2, ho2, hc2, hdn2, hd2⟩, _⟩ := I.list hb
  simp only at hc hd hc2 hd2
  subst hc hd hc2 hd2
  have e : its.toArray ++ its2.toArray = (its ++ its2).toArray := by simp
  refine concat_meets ⟨_, ho, rfl⟩ ⟨_, ho2, rfl⟩ noFill_list_add seq_list_add PySem.F.slot_list_add PySem.F.entry_list_add (PySem.F.args_list_add_2 _ _) (list_addW l b its.toArray its2.toArray n n2 dd dd2 sl sl2 (by rw [List.size_toArray, List.size_toArray, ← r1.length, ← r2.length]; exact hz)) ⟨ho, ho2, ?_⟩
  rw [e]
  exact ⟨.ref _, _, I.lnew (t' := s.toks) (r1.append r2) (by rw [List.length_append]; omega), rfl, q _ I.fresh⟩
end Xc

/-! Xd1: enumerate of a tuple -/
namespace Xd
open PySem PySem.Spec PySem.Calls PyProof.Rows L2 Rs
section
variable {prog : Program} {w : World} {A : Around} {E : Value → Shared → Prop} {s : Shared}
theorem tnext {ti tp : Addr} {j : Nat} {vs : Array Value} {y : Value} {Q : Value → Shared → Prop} (hi : s.heap.IsTupleIter ti tp j) (ht : s.heap.IsTuple tp vs) (hy : vs[j]? = some y)
    (k : ∀ h', h'.IsTupleIter ti tp (j + 1) → Heap.SameBut ti s.heap h' → Q y { s with heap := h' }) : wpAny (model prog w) A (Builtin.SmallTypes.nextOf (.ref ti)) Q E s := by
  obtain ⟨oi, hoi, hci, hdi⟩ := id hi
  obtain ⟨ot, hot, _, nt, hdt⟩ := ht
  unfold Builtin.SmallTypes.nextOf
  refine wpAny_bind (wpAny_callSpecial?_slot (name := Str.ofString "__next__") hi.typeIs F.slot_tuple_iterator_next (wpAny_call_entry F.slot_tuple_iterator_next hi.typeIs F.entry_tuple_iterator_next ?_ (F.args_tuple_iterator_next_1 _)))
  show wpAny _ _ (field (.ref ti) 0 >>= _) _ _ s
  refine wpAny_bind (wpAny_field hoi hdi (x := .ref tp) rfl ?_)
  show wpAny _ _ (if (Value.ref tp == Value.none) = true then _ else _) _ _ s
  rw [if_neg (show ¬ ((Value.ref tp == Value.none) = true) from Bool.false_ne_true)]
  show wpAny _ _ (field (.ref ti) 1 >>= _) _ _ s
  refine wpAny_bind (wpAny_field hoi hdi (x := .int j 0) rfl ?_)
  show wpAny _ _ (seqItems? (.ref tp) >>= _) _ _ s
  refine wpAny_bind (wpAny_seqItems hot hdt ?_)
  simp only [Int.toNat_natCast, hy]
  refine wpAny_bind (wpAny_setField hoi hdi (by simp) (wpAny_pure ⟨y, rfl, wpAny_pure (k _ ?_ (Heap.SameBut.update ..))⟩))
  exact ⟨_, Heap.get?_update_self _ hoi (Obj.isFreed_of_fields (Obj.data_mapFields hdi _)), (Obj.cls_mapFields ..).trans hci, by rw [Obj.data_mapFields hdi]; simp [rawInt]⟩
theorem tlast {ti tp : Addr} {j : Nat} {vs : Array Value} {Q : Value → Shared → Prop} (hh : A.handled = none) (hi : s.heap.IsTupleIter ti tp j) (ht : s.heap.IsTuple tp vs) (hy : vs[j]? = none)
    (k : ∀ h' e, Heap.ExtBut ti s.heap h' → (∃ o, h'.get? e = some o ∧ o.cls = .type "StopIteration") → E (.ref e) { s with heap := h' }) : wpAny (model prog w) A (Builtin.SmallTypes.nextOf (.ref ti)) Q E s := by
  obtain ⟨oi, hoi, hci, hdi⟩ := id hi
  obtain ⟨ot, hot, _, nt, hdt⟩ := ht
  unfold Builtin.SmallTypes.nextOf
  refine wpAny_bind (wpAny_callSpecial?_slot (name := Str.ofString "__next__") hi.typeIs F.slot_tuple_iterator_next (wpAny_call_entry F.slot_tuple_iterator_next hi.typeIs F.entry_tuple_iterator_next ?_ (F.args_tuple_iterator_next_1 _)))
  show wpAny _ _ (field (.ref ti) 0 >>= _) _ _ s
  refine wpAny_bind (wpAny_field hoi hdi (x := .ref tp) rfl ?_)
  show wpAny _ _ (if (Value.ref tp == Value.none) = true then _ else _) _ _ s
  rw [if_neg (show ¬ ((Value.ref tp == Value.none) = true) from Bool.false_ne_true)]
  show wpAny _ _ (field (.ref ti) 1 >>= _) _ _ s
  refine wpAny_bind (wpAny_field hoi hdi (x := .int j 0) rfl ?_)
  show wpAny _ _ (seqItems? (.ref tp) >>= _) _ _ s
  refine wpAny_bind (wpAny_seqItems hot hdt ?_)
  simp only [Int.toNat_natCast, hy]
  refine wpAny_bind (wpAny_rule (wpAny_bind (wpAny_setField hoi hdi (by simp) ?_)))
  show wpAny _ _ ((newExc (.type "StopIteration") []) >>= _) _ _ _
  refine wpAny_bind ?_
  (simp only [newExc, newTuple]); refine wpAny_bind (wpAny_newObj_type ?_ (by size_fits))
  refine wpAny_bind (m := firstArgMember _ _) (wpAny_of_eq (a := .none) (by first | rfl | (simp only [firstArgMember]; rfl)) ?_)
  (refine wpAny_newObj_type ?_ (by size_fits)); simp only [raiseNew]
  refine wpAny_bind (wpAny_handled ?_)
  first
    | rw [show A.in1.handled = none from hh]
    | rw [hh]
  exact wpAny_bind (wpAny_pure (wpAny_throw (k _ _ (((Heap.SameBut.update ..).extBut.push _).push _) ⟨_, Heap.get?_push_size _ rfl, rfl⟩)))
end
theorem tdraws {prog : Program} {w : World} {A : Around} (hh : A.handled = none) (ti tp : Addr) (ne : tp ≠ ti) (vs : Array Value) :
    Draws prog w A ti [ti, tp] vs.size (fun j v => vs[j]? = some v) (fun j h => h.IsTupleIter ti tp j ∧ h.IsTuple tp vs) where
  live := fun _ _ ⟨⟨o, ho, _⟩, _⟩ => ⟨o, ho⟩
  frame := fun _ _ _ ⟨⟨o, ho, r⟩, ⟨o2, ho2, r2⟩⟩ k => ⟨⟨o, k ti (by simp) o ho, r⟩, ⟨o2, k tp (by simp) o2 ho2, r2⟩⟩
  item := fun j s Q E hj ⟨a, b⟩ k => tnext a b (y := vs[j]) (by simp [hj]) fun h' hi' hs' => k _ h' s.toks (by simp [hj]) ⟨hi', b.extBut hs'.extBut ne⟩ hs'
  done := fun s Q E ⟨a, b⟩ k => tlast hh a b (by simp) k
end Xd
namespace Xd
open PySem PySem.Spec PySem.Calls PyProof.Rows L2 Rs
abbrev tit (tp : Addr) : Obj := { cls := .type "tuple_iterator", data := .fields #[.ref tp, .int 0 0] }
abbrev eno (it : Addr) : Obj := { cls := .type "enumerate", data := .fields #[.none, .bool false, .ref it, rawInt 0, .none, .none] }
theorem meets_new_tup (tp : Addr) (ot : Obj) (vs : Array Value) (hc : ot.cls = .type "tuple") (n : Nat) (hd : ot.data = .seq vs n) :
    Meets (Builtin.«enumerate.__new__» ⟨[.type "enumerate", .ref tp], []⟩) (fun _ R s => s.heap.get? tp = some ot ∧ R (.ok (.ret (.ref (s.heap.push (tit tp)).objs.size))) { s with heap := (s.heap.push (tit tp)).push (eno s.heap.objs.size) }) :=
  .of_wp fun prog w A R s h => by
    obtain ⟨hp, g, d, tk, os⟩ := s
    obtain ⟨hl, h⟩ := h
    have hsub := sub_enumerate
    have hL : Heap.IsTuple (Shared.heap ⟨hp, g, d, tk, os⟩) tp vs := ⟨_, hl, hc, n, hd⟩
    obtain ⟨cl, dc, dt, sl⟩ := ot
    dsimp only at hc hd
    subst hc hd
    wp_walk using AutoSeq1.wpAny_loadPart' hl
    refine wpAny_stack_any fun st => wpAny_pure ?_
    split
    · rename_i c _ _ _ _ _
      cases (c == Value.type "enumerate") <;> (wp_walk using AutoSeq1.wpAny_loadPart' hl, wpAny_pyIter_tuple hL; exact ⟨_, rfl, h⟩)
    · (wp_walk using AutoSeq1.wpAny_loadPart' hl, wpAny_pyIter_tuple hL); exact ⟨_, rfl, h⟩
section
variable {prog : Program} {w : World} {A : Around} {E : Value → Shared → Prop} {s : Shared}
theorem call_enum_tup {tp : Addr} {vs : Array Value} {Q : Value → Shared → Prop} (hL : s.heap.IsTuple tp vs)
    (k : ∀ h', IsEnum h' (s.heap.objs.size + 1) s.heap.objs.size 0 .none → h'.IsTupleIter s.heap.objs.size tp 0 → (∀ b o, s.heap.get? b = some o → h'.get? b = some o) → Q (.ref (s.heap.objs.size + 1)) { s with heap := h' }) :
    wpAny (model prog w) A (call (.type "enumerate") [.ref tp]) Q E s := by
  obtain ⟨ot, ho, hc, n, hd⟩ := hL
  refine callType_new F.called_enumerate (by decide) (F.typeCall_enumerate_1 _) (F.newCall_enumerate_1 _) (fun obj => F.args_object_init_2 obj _) F.entry_enumerate_new (meets_new_tup tp ot vs hc n hd) ⟨ho, ?_⟩
  have hz : (s.heap.push (tit tp)).objs.size = s.heap.objs.size + 1 := Heap.size_push ..
  show _ ∧ _
  rw [hz]
  have he : IsEnum ((s.heap.push (tit tp)).push (eno s.heap.objs.size)) (s.heap.objs.size + 1) s.heap.objs.size 0 .none := by
    have z := Heap.get?_push_size (s.heap.push (tit tp)) (o := eno s.heap.objs.size) rfl
    rw [hz] at z
    exact z
  exact ⟨⟨_, he, rfl⟩, k _ he ⟨_, Heap.get?_push_of_some _ (Heap.get?_push_size _ rfl), rfl, rfl⟩ fun b o x => Heap.get?_push_of_some _ (Heap.get?_push_of_some _ x)⟩
end
end Xd
namespace Xd
open PySem PySem.Spec PySem.Calls PyProof.Rows L2 Rs
theorem ne_cls {h : Heap} {a b : Addr} {n m : String} {o p : Obj} (ha : h.get? a = some o) (hb : h.get? b = some p) (ca : o.cls = .type n) (cb : p.cls = .type m) (ne : n ≠ m) : a ≠ b := fun z => by
  rw [z, hb] at ha
  cases ha
  rw [ca] at cb
  exact ne (Value.type.inj cb)
theorem tend {prog : Program} {w : World} {A : Around} {E : Value → Shared → Prop} {s : Shared} {e ti tp : Addr} {j : Nat} {vs : Array Value} {i : Int} {old : Value} {Q : Option Value → Shared → Prop} (hh : A.handled = none) (he : IsEnum s.heap e ti i old)
    (hi : s.heap.IsTupleIter ti tp j) (ht : s.heap.IsTuple tp vs) (hy : vs[j]? = none) (k : ∀ h', Heap.ExtBut ti s.heap h' → Q none { s with heap := h' }) : wpAny (model prog w) A (pyNext (.ref e)) Q E s := by
  have ty : s.TypeIs (.ref e) "enumerate" := ⟨_, he, rfl⟩
  unfold pyNext
  refine wpAny_bind (wpAny_attempt (wpAny_callSpecial?_slot (name := Str.ofString "__next__") ty F.slot_enumerate_next (wpAny_call_entry F.slot_enumerate_next ty F.entry_enumerate_next ?_ (F.args_enumerate_next_1 _))))
  show wpAny _ _ (bind (field (.ref e) 2) _) _ _ _
  refine wpAny_bind (wpAny_field he rfl (x := .ref ti) rfl ?_)
  refine wpAny_bind (tlast hh hi ht hy fun h' x hx hs => ?_)
  obtain ⟨ox, hox, hcx⟩ := hs
  exact wpAny_bind (wpAny_isInstance (T := "StopIteration") (b := true) ⟨ox, hox, hcx⟩ isSubtype_stop (wpAny_pure (k _ hx)))
/-- the tuple at a as it stands at each turn, number and item in a new pair -/
def IteT (K : PySem.W.Frag) (a : Addr) : It :=
  ⟨fun i H => ∃ (xs : List V) (x : V), SqT K H a xs ∧ xs[i]? = some x, fun i H v H' => ∃ (T : Addr) (x : V), v = .ref T ∧ H T = none ∧ H' = upd H T (.tup [.int (i : Nat), x]) ∧ ∀ xs, SqT K H a xs → xs[i]? = some x, fun i H => ∃ xs : List V, SqT K H a xs ∧ xs.length ≤ i⟩
theorem turn_eT {P : Program} {w : World} {K : PySem.W.Frag} {elts : List Expr} {kk : Nat} {tpos : Pos} (a e ti : Addr) :
    Turn P w K (.Tuple elts kk tpos) (IteT K a) [e, ti] e (fun i h => (∃ old, IsEnum h e ti ((i : Nat) : Int) old) ∧ h.IsTupleIter ti a i ∧ e ≠ ti) where
  mem := List.mem_cons_self
  obj := fun i h ⟨⟨old, he⟩, ⟨o, ho, hc, hd⟩, _⟩ b hb => by
    rcases (show b = e ∨ b = ti by simpa using hb) with rfl | rfl
    · exact ⟨_, he, fun v z => nomatch z⟩
    · exact ⟨o, ho, fun v z => by rw [hd] at z; cases z⟩
  keep := fun i h h' ⟨⟨old, he⟩, ⟨o, ho, r⟩, ne⟩ k => ⟨⟨old, k e (by simp) _ he⟩, ⟨o, k ti (by simp) o ho, r⟩, ne⟩
  item := by
    intro X hP hw hK hc i pins s σ H E I hf ⟨⟨old, he⟩, hit, hne⟩ ⟨xs, x, hq, hx⟩
    subst hP hw hK
    obtain ⟨its, rv, tpl, hz⟩ := I.tuple hq
    obtain ⟨u, hu, ru⟩ := rv.get hx
    obtain ⟨oi, hoi, hci, hdi⟩ := id hit
    obtain ⟨ot, hot, hct, nt, hdt⟩ := id tpl
    have n1 : a ≠ ti := ne_cls hot hoi hct hci (by decide)
    have n2 : e ≠ a := ne_cls he hot rfl hct (by decide)
    have le : e < s.heap.objs.size := Heap.lt_size he
    have li : ti < s.heap.objs.size := Heap.lt_size hoi
    have D := tdraws (prog := X.prog) (w := X.w) (A := X.A.in1) (I.ok.hd hc) ti a n1 its.toArray
    refine wpAny_pyNext_enum_itemD D he ⟨hit, tpl⟩ ?_ hne (by simp [hne, n2]) fun u' h' tk hu' ho hst hT hsz hk => ?_
    · have := (List.getElem?_eq_some_iff.mp hu).1
      rw [List.size_toArray]
      exact this
    · obtain rfl : u' = u := by
        have z : its[i]? = some u' := by simpa using hu'
        rw [hu] at z
        exact (Option.some.inj z).symm
      refine ⟨_, rfl, wpAny_letOwnedTupleGo_enum (s := { s with heap := h', toks := tk + 1 }) ho fun h2 he2 sb => ?_⟩
      have hT2 : h2.get? s.heap.objs.size = some { cls := .type "tuple", data := .seq #[.int i tk, u'] } := (sb.2 _ (Nat.ne_of_gt le)).trans hT
      have nw : ObjOk X.prog X.w (upd H s.heap.objs.size (.tup [.int (i : Nat), x])) h2 s.heap.objs.size (.tup [.int (i : Nat), x]) := ⟨by rw [sizeLine_eq]; simp, [.int i tk, u'], .cons ⟨_, rfl⟩ (.cons ru .nil), ⟨_, hT2, rfl, _, rfl⟩⟩
      have I1 : Inv X pins σ (upd H s.heap.objs.size (.tup [.int (i : Nat), x])) { s with heap := h2, toks := tk + 1 } :=
        I.turnedNew (ch := [e, ti]) (fun b ob hb q => (sb.2 b (fun z => hb (by simp [z]))).trans (hk b ob (fun z => hb (by simp [z])) (fun z => hb (by simp [z])) q)) hf (Nat.le_refl _) nw
      obtain ⟨⟨o3, ho3, r3⟩, _⟩ := hst
      refine ⟨.ref s.heap.objs.size, _, I1, rfl, ⟨_, x, rfl, I.hok.fresh (Nat.le_refl _), rfl, fun ys hy => by rw [I.tuple_inj hy hq]; exact hx⟩, ⟨⟨u', ?_⟩, ⟨o3, (sb.2 ti (Ne.symm hne)).trans ho3, r3⟩, hne⟩, fun b hb => ?_⟩
      · rw [show ((i + 1 : Nat) : Int) = (i : Int) + 1 by omega]; exact he2
      · have hb2 : b < s.heap.objs.size := by
          rcases (show b = e ∨ b = ti by simpa using hb) with rfl | rfl
          · exact le
          · exact li
        rw [upd_ne (Nat.ne_of_lt hb2)]; exact (hf b hb).1
  done := by
    intro X hP hw hK hc i pins s σ H E I hf ⟨⟨old, he⟩, hit, hne⟩ ⟨xs, hq, hx⟩
    subst hP hw hK
    obtain ⟨its, rv, tpl, hz⟩ := I.tuple hq
    obtain ⟨oi, hoi, hci, hdi⟩ := id hit
    obtain ⟨ot, hot, hct, nt, hdt⟩ := id tpl
    obtain ⟨f0, f1, f2, f3, f4, f5⟩ := hf ti (by simp)
    have hl := rv.length
    exact tend (I.ok.hd hc) he hit tpl (by simp; omega) fun h' eb => ⟨rfl, I.turned (t' := s.toks) (fun b o hb q => eb b o hb q) f0 f1 f3 f4 f5⟩
  self := fun A i s Q E ⟨⟨_, he⟩, _⟩ h => wpAny_pyIter_enum he h
end Xd
namespace Xd
open PySem PySem.Spec PySem.Calls PyProof.Rows L2 Rs
def enT (K : PySem.W.Frag) (R : It → Hp → Prop) (vs : List V) (H : Hp) : Prop := ∃ (a : Addr) (xs : List V), vs = [.ref a] ∧ SqT K H a xs ∧ R (IteT K a) H
def iEnT (K : PySem.W.Frag) (ta : TA) : TI := fun σ H R => ta σ H fun vs H1 => enT K R vs H1
theorem pi_enT {X : Cx} {e : Expr} {ta : TA} {p pos tpos : Pos} {elts : List Expr} {kk : Nat} (hg : Gl X "enumerate") (hm : X.mg "enumerate" = none) (ha : PA X [e] ta) (hs : starEach [e] X.env = [(false, eval e X.env)] := by rfl) :
    PI X (.Tuple elts kk tpos) (.Call (.Name "enumerate" p) [e] [] pos) (iEnT X.K ta) := by
  refine ⟨fun pins s σ H R I h => Call_ (ld_blt I hg hm boot_enumerate (PyProof.Rows.callWith_type1 (thn (ha.run pos pins s σ H _ I h) fun us s1 ⟨vs, H1, I1, r1, a, xs, ev, hq, q⟩ => ?_) hs rfl))⟩
  subst ev
  cases r1 with
  | cons r rr =>
    cases rr
    cases r
    obtain ⟨its, rv, tpl, hz⟩ := I1.tuple hq
    refine call_enum_tup tpl fun h' he hit hk => wpAny_pyIter_enum he ?_
    have I2 : Inv X pins σ H1 { s1 with heap := h' } := I1.kept (t' := s1.toks) hk
    refine ⟨s1.heap.objs.size + 1, [s1.heap.objs.size + 1, s1.heap.objs.size], _, _, H1, rfl, I2, turn_eT a (s1.heap.objs.size + 1) s1.heap.objs.size, ⟨⟨.none, he⟩, hit, Nat.succ_ne_self _⟩, fun b hb => ?_, q⟩
    have hle : s1.heap.objs.size ≤ b := by
      rcases (show b = s1.heap.objs.size + 1 ∨ b = s1.heap.objs.size by simpa using hb) with rfl | rfl
      · exact Nat.le_succ _
      · exact Nat.le_refl _
    exact I1.fpOk hle (I1.hok.fresh hle)
section
variable {K : PySem.W.Frag} {H H0 : Hp} {M : List Addr} {L : Led} {σ : L2.St} {a : Addr}
theorem walk_eT {xs : List V} : Walk (IteT K a) xs.length (fun H => SqT K H a xs) (YPair (fun i => some (.int (i : Nat))) (fun i => xs[i]?)) :=
  ⟨fun i _ hi q => ⟨xs, xs[i], q, by simp [hi]⟩, fun _ q => ⟨xs, q, Nat.le_refl _⟩, fun i H v H' _ q ⟨T, x, h1, h2, h3, h4⟩ => ⟨T, .int (i : Nat), x, h1, h2, h3, rfl, h4 xs q⟩⟩
theorem rd_enT {R : It → Hp → Prop} {ta : TA} (h : ta σ H fun vs H1 => enT K R vs H1) : iEnT K ta σ H R := h
theorem rd_enTI {R : It → Hp → Prop} {xs : List V} (S : Hs H0 M H L) (m : (a, HO.tup xs) ∈ L) (h : R (IteT K a) H) : enT K R [.ref a] H := ⟨a, xs, rfl, S.tup m, h⟩
/-- over enumerate of a tuple -/
theorem fw_enT {xs : List V} {g : TG} {tw : TS} {nx bk ct : L2.St → Hp → Prop} {rt : VK} (Pv : Nat → L2.St → Hp → Prop) (h0 : Pv 0 σ H) (hl : ∀ i σ H, i ≤ xs.length → Pv i σ H → SqT K H a xs)
    (hs : ∀ i x σ H T, xs[i]? = some x → Pv i σ H → H T = none → g (.ref T) σ (upd H T (.tup [.int (i : Nat), x])) fun σ2 H2 => tw ⟨Pv (i + 1), rt, nx, Pv (i + 1)⟩ σ2 H2) (hd : ∀ σ H, Pv xs.length σ H → nx σ H) : forW (IteT K a) g tw ⟨nx, rt, bk, ct⟩ σ H := by
  refine for_it walk_eT Pv h0 hl ?_ hd
  rintro i x σ H H' hi hp ⟨T, y, z, rfl, hT, rfl, e1, e2⟩
  cases e1
  exact hs i z σ H T e2 hp hT
end
end Xd

/-! Xd2: lists made longer by lists; slices of any list -/
namespace Xd
open PySem PySem.Spec PySem.Calls PyProof.Rows L2 Rs
theorem ip_ext {X : Cx} : PIp X .Add rExt2 := fun pins s σ H x y v u Q I rx ry h => iop_ext pins s σ H x y v u Q I rx ry h
section
variable {K : PySem.W.Frag} {H H0 : Hp} {M : List Addr} {L L' : Led} {σ : L2.St} {a b : Addr} {Q : VK}
theorem rd_ext2 {xs zs ys : List V} (S : Hs H0 M H L) (c : Chg a (.lst xs) (.lst ys) L L') (mb : (b, HO.lst zs) ∈ L) (hm : H0 a = none ∨ a ∈ M) (hz : xs.length + zs.length ≤ sizeLine) (e : xs ++ zs = ys) (h : ∀ H', Hs H0 M H' L' → Q (.ref a) H') : rExt2 (.ref a) (.ref b) H Q := by
  subst e
  exact ⟨a, b, xs, zs, rfl, rfl, S.is _ c.mem, S.is _ mb, hz, h _ (S.put c hm)⟩
theorem rd_extM {xs zs ys : List V} (S : Hs H0 M H L) (c : Chg a (.lst xs) (.lst ys) L L') (mb : (b, HO.lst zs) ∈ L) (hm : H0 a = none ∨ a ∈ M) (hz : xs.length + zs.length ≤ sizeLine) (e : xs ++ zs = ys) (h : ∀ H', Hs H0 M H' L' → Q .non H') : rExtend (.ref a) [.ref b] H Q := by
  subst e
  exact ⟨a, b, xs, zs, rfl, rfl, S.is _ c.mem, S.is _ mb, hz, h _ (S.put c hm)⟩
theorem cut_run (xs : List V) (i k : Nat) : cutV xs (some (i : Nat)) (some ((i + k : Nat) : Int)) = (xs.drop i).take k := by
  unfold cutV
  rw [HT.sIx_nat, HT.sIx_nat]
  by_cases h : i ≤ xs.length
  · rw [Nat.min_eq_left h]
    refine List.take_eq_take_iff.mpr ?_
    rw [List.length_drop]
    omega
  · have e1 : min i xs.length = xs.length := by omega
    rw [e1, List.drop_of_length_le (Nat.le_refl _), List.drop_of_length_le (by omega)]
    simp
theorem cut_to (xs : List V) (i : Nat) : cutV xs none (some (i : Nat)) = xs.take i := by
  unfold cutV
  rw [HT.sIx_nat, HT.sIx_none, List.drop_zero]
  refine List.take_eq_take_iff.mpr ?_
  omega
theorem cut_from (xs : List V) (i : Nat) : cutV xs (some (i : Nat)) none = xs.drop i := by
  unfold cutV
  rw [HT.sIx_nat, HT.sIx_none]
  by_cases h : i ≤ xs.length
  · rw [Nat.min_eq_left h]
    exact List.take_of_length_le (by rw [List.length_drop]; omega)
  · have e1 : min i xs.length = xs.length := by omega
    rw [e1, List.drop_of_length_le (Nat.le_refl _), List.drop_of_length_le (by omega)]
    simp
end
end Xd

/-! Xd3: list(text) -/
namespace Xd
open PySem PySem.Spec PySem.Calls PyProof.Rows L2 Rs
def rListS : List V → Hp → VK → Prop := fun xs H Q => ∃ x : Str, xs = [.str x] ∧ x.length ≤ sizeLine ∧ ∀ q, H q = none → Q (.ref q) (upd H q (.lst ((PyProof.Rows.signs x).map V.str)))
theorem call_listS {X : Cx} (hc : X.calm = true) : CallR X (.type "list") rListS := by
  intro pins s σ H xs us Q I r h
  obtain ⟨x, e, hz, q⟩ := h
  subst e
  obtain ⟨u, eu, rx⟩ := vals1 r
  subst eu
  obtain ⟨t, rfl⟩ : ∃ t, u = Value.str x t := rx
  refine PySem.call_list_str (hn := hz) (I.ok.hd hc) x t fun h' tk acc' c' hkeep hS hacc => ?_
  refine ⟨.ref s.heap.objs.size, upd H s.heap.objs.size (.lst ((PyProof.Rows.signs x).map V.str)), I.laid hkeep (Nat.le_refl _) (show ObjOk X.prog X.w _ _ _ (.lst ((PyProof.Rows.signs x).map V.str)) from ⟨?_, acc'.toList, c', ?_, ?_⟩), rfl, q _ (I.hok.fresh (Nat.le_refl _))⟩
  · rw [List.length_map, PyProof.Rows.signs_length]; exact hz
  · have el : acc'.toList.length = acc'.size := by simp
    refine vals_of_at (by rw [List.length_map, PyProof.Rows.signs_length, el, hacc.1]; rfl) fun j x1 w h1 h2 => ?_
    obtain ⟨c, t2, hc2, rfl⟩ := hacc.2 j w (by rw [← Array.getElem?_toList]; exact h2)
    have e2 : ((PyProof.Rows.signs x).map V.str)[j]? = some (.str ⟨#[c]⟩) := by
      unfold PyProof.Rows.signs
      rw [List.getElem?_map, List.getElem?_map, Array.getElem?_toList, hc2]
      rfl
    rw [e2] at h1
    cases h1
    exact ⟨t2, rfl⟩
  · rw [Array.toArray_toList]; exact hS
section
variable {K : PySem.W.Frag} {H H0 : Hp} {M : List Addr} {L L' : Led} {σ : L2.St} {a b : Addr} {Q : VK}
theorem rd_listS {x : Str} (S : Hs H0 M H L) (hz : x.length ≤ sizeLine) (h : ∀ p H', H0 p = none → Hs H0 M H' ((p, .lst ((PyProof.Rows.signs x).map V.str)) :: L) → Q (.ref p) H') : rListS [.str x] H Q :=
  ⟨x, rfl, hz, rd_newO S h⟩
end
end Xd

/-! Xe2: exceptions as objects of the ledger: made, looked at, their fields; S.__init__(self, ..) of an own class S -/
namespace Xc
open PySem PySem.Spec PySem.Calls PyProof.Rows L2 Rs ClX
/-- an exception of the class at C, its fields (none: nothing was stored) -/
def ExcAt (H : Hp) (a C : Addr) (o : Option (Addr × List (Str × V))) : Prop := match o with
  | none => H a = some (exo a C none)
  | some (dx, fs) => H a = some (exo a C (some dx)) ∧ H dx = some (exd dx fs)
section
variable {X : Cx} {pins : List (Addr × Obj)} {σ : L2.St} {H : Hp} {s : Shared} {a C dx : Addr} {fs : List (Str × V)}
theorem excAt_inst0 (I : Inv X pins σ H s) (h : H a = some (exo a C none)) : ∃ oe : Obj, PySem.W.InstAt s.heap a oe C none := by
  obtain ⟨t, e⟩ := exo_at I.hok h
  exact ⟨_, e, rfl, rfl, trivial⟩
theorem excAt_inst1 (I : Inv X pins σ H s) (h : H a = some (exo a C (some dx))) (hd : H dx = some (exd dx fs)) : ∃ (oe od : Obj) (mA : Str → Option Value), PySem.W.InstAt s.heap a oe C (some od) ∧ (∀ f, RelO (fs.lookup f) (mA f)) ∧ ∀ n : Str, PySem.W.lookIn n od = some (mA n) := by
  obtain ⟨t, e⟩ := exo_at I.hok h
  obtain ⟨mA, hns, hr⟩ := exd_at I.hok hd
  obtain ⟨od, ho, hl⟩ := lookIn_ns hns
  exact ⟨_, od, mA, ⟨e, rfl, rfl, ho⟩, hr, hl⟩
/-- isinstance(e, c) -/
def rIsE (K : PySem.W.Frag) : List V → Hp → VK → Prop := fun xs H Q => ∃ (a C : Addr) (o : Option (Addr × List (Str × V))) (c : V) (u : Value) (b : Bool), xs = [.ref a, c] ∧ ClsV c u ∧ Lk K C ∧ ExcAt H a C o ∧ PySem.W.kitOne K (.ref C) u = some b ∧ Q (.bl b) H
theorem call_isE : CallR X (.builtin "isinstance") (rIsE X.K) := by
  intro pins s σ H xs us Q I r h
  obtain ⟨a, C, o, c, u, b, rfl, k, l, hh, e, q⟩ := h
  obtain ⟨u1, u2, rfl, r1, r2⟩ := vals2 r
  have e2 := k.eq r2
  subst e2
  cases (show u1 = Value.ref a from r1)
  cases o with
  | none =>
    obtain ⟨oe, J⟩ := excAt_inst0 I hh
    exact PySem.W.kia_one (PySem.W.kitx_exc l.cl l.ga l.gg l.bx l.ha l.hn l.ht l.hm) I.kIn J e (fun z => nomatch z) fun tk => ⟨.bl b, H, I.tok tk, rfl, q⟩
  | some p =>
    obtain ⟨oe, od, mA, J, _, _⟩ := excAt_inst1 I hh.1 hh.2
    exact PySem.W.kia_one (PySem.W.kitx_exc l.cl l.ga l.gg l.bx l.ha l.hn l.ht l.hm) I.kIn J e (fun z => nomatch z) fun tk => ⟨.bl b, H, I.tok tk, rfl, q⟩
/-- e.f -/
def tXe (K : PySem.W.Frag) (f : Str) (te : TE) : TE := fun σ H Q => te σ H fun x H1 => ∃ (a C dx : Addr) (fs : List (Str × V)) (v : V), x = .ref a ∧ Lk K C ∧ PySem.W.findIn K (.ref C) f = some none ∧ ExcAt H1 a C (some (dx, fs)) ∧ fs.lookup f = some v ∧ Q v H1
theorem pe_xe {e : Expr} {te : TE} {pos : Pos} {n : Str} (he : PE X e te) (hb : attributeBase e n X.env (eval e X.env) = eval e X.env := by rfl) : PE X (.Attribute e n pos) (tXe X.K n te) := by
  refine ⟨fun pins s σ H Q I h => attr_of hb (thn (he.run pins s σ H _ I h) fun u s1 hh => ?_)⟩
  obtain ⟨x, H1, I1, rx, a, C, dx, fs, v, ex, l, hno, hd, lk, q⟩ := hh
  subst ex
  obtain rfl : u = Value.ref a := rx
  obtain ⟨oe, od, mA, J, hr, hl⟩ := excAt_inst1 I1 hd.1 hd.2
  obtain ⟨u2, hu, ru⟩ := RelO.some_of (v := v) (o := mA n) (by rw [← lk]; exact hr n)
  exact HandSPX.exc_get I1.kIn J l.ga l.gg l.bx (PySem.W.findObj_own l.hd hno rfl (by rw [hl, hu])) (handed_of ru) ⟨v, H1, I1.tok _, ru, q⟩
end
/-! ### made -/
/-- C(e, ..), C's own __init__ walked -/
def tMkX (C : Addr) (sp : Sp) (dvs : List V) (ta : TA) : TE := fun σ H Q => ta σ H fun vs H1 => vs.length ≤ 1000 ∧ ∀ a, H1 a = none → sp (.ref a :: (vs ++ dvs)) (upd H1 a (exo a C none)) (fun v H2 => v = .non ∧ Q (.ref a) H2) (fun _ _ _ => False)
/-- C(e, ..) of a class without __init__ -/
def tMk0 (C : Addr) (ta : TA) : TE := fun σ H Q => ta σ H fun vs H1 => vs.length ≤ 1000 ∧ ∀ a, H1 a = none → Q (.ref a) (upd H1 a (exo a C none))
section
variable {X : Cx} {e : Expr} {es : List Expr} {ta : TA} {p p1 p2 pos : Pos} {B newId initId : String} {bmB : List Value}
theorem pe_mkx {CX : CXT} {x : Str} {C fI : Addr} {k : Nat} {fd : FuncData} {ps : List Str} {sp : Sp} {ds : List Value} {dvs : List V} (T : Own X.K C B newId initId bmB) (iC : PySem.W.findIn X.K (.ref C) "__init__" = some (some (.ref fI))) (tI : PySem.W.typeIn X.K (.ref fI) = some (.type "function"))
    (F1 : FnOk X.prog X.w X.K X.mg X.base CX k fI fd ps sp) (hr : Room (k + 1) X.A) (hb : Binds X.K fd ps ds) (hd : Vals dvs ds) (hx : Passes CX X (fun _ _ _ => False)) (hg : Gl X x) (hm : X.mg x = some (.ref C)) (ha : PA X (e :: es) ta)
    (hdb : (x == ("__debug__" : Str)) = false := by decide) (he : starEach (e :: es) X.env = (false, eval e X.env) :: starEach es X.env := by rfl) (hp : (backTo pos (starEach es X.env)).any (·.1) = false := by rfl) :
    PE X (.Call (.Name x p) (e :: es) [] pos) (tMkX C sp dvs ta) := by
  refine ⟨fun pins s σ H Q I hh => ?_⟩
  refine wpAny_Call_Name_kw (ld_glob I hg hm ?_ hdb)
  refine PySem.W.callWith_K (h₀ := X.base) I.ok.mod.kin T.kpc (thn (ha.run pos pins s σ H _ I hh) fun us s1 ⟨vs, H1, I1, rv, hz, k1⟩ => ⟨I1.kIn, ?_⟩) he hp
  show wpAny _ _ (call (.ref C) us) _ _ _
  have hC := PySem.W.excInit_of I1.kIn T.ini
  obtain ⟨NB, fb⟩ := T.fb
  obtain ⟨hp1, gn, dr, tk, osS⟩ := s1
  have up1 : hp1.objs.size ≤ hp1.objs.size + 1 := Nat.le_succ _
  have body := k1 (hp1.objs.size + 1) (I1.hok.fresh up1)
  have kept : ∀ b o, hp1.get? b = some o → ((hp1.push (PySem.W.kdv_tup us)).push (PySem.HandSPX.excO C hp1.objs.size)).get? b = some o := fun b o q => Heap.get?_push_of_some _ (Heap.get?_push_of_some _ q)
  have there : ((hp1.push (PySem.W.kdv_tup us)).push (PySem.HandSPX.excO C hp1.objs.size)).get? (hp1.objs.size + 1) = some (PySem.HandSPX.excO C hp1.objs.size) := by heap_get
  have I2 : Inv X pins σ (upd H1 (hp1.objs.size + 1) (exo (hp1.objs.size + 1) C none)) ⟨(hp1.push (PySem.W.kdv_tup us)).push (PySem.HandSPX.excO C hp1.objs.size), gn, dr, tk, osS⟩ :=
    I1.laid (t' := tk) (a := hp1.objs.size + 1) (o := exo (hp1.objs.size + 1) C none) (h' := (hp1.push (PySem.W.kdv_tup us)).push (PySem.HandSPX.excO C hp1.objs.size)) kept up1 (exo_ok there)
  have rels : Vals (V.ref (hp1.objs.size + 1) :: (vs ++ dvs)) (Value.ref (hp1.objs.size + 1) :: (us ++ ds)) := .cons rfl (rv.append hd)
  have len1 : (Value.ref (hp1.objs.size + 1) :: us ++ ds).length = ps.length := (F1.len _ _ _ _ body).symm.trans rels.length |>.symm
  have lus : us.length ≤ sizeLine := by rw [← Paired.length rv, sizeLine_eq]; omega
  refine wpAny_call (xb_call fb hC (PySem.W.looks_findIn I1.kIn iC) (fun self => PySem.W.bind_fn I1.kIn self tI) lus
    (codeAny_mono (F1.run _ X.stack _ _ ⟨Value.ref (hp1.objs.size + 1) :: us, []⟩ (Value.ref (hp1.objs.size + 1) :: (us ++ ds)) _ _ (fun _ _ _ => False) (hr.make C us []) (I2.env0.make C us []) (hb _ (Value.ref (hp1.objs.size + 1) :: us) I2.kIn len1) rels body) fun r s2 z => ?_))
  cases r with
  | error er => exact hx pins σ _ _ er s2 I2 z
  | ok fl =>
    cases fl with
    | ret u =>
      obtain ⟨v, H', I3, rv3, ev, q3⟩ := I2.after z
      subst ev
      exact ⟨rv3, ⟨V.ref (hp1.objs.size + 1), H', I3, rfl, q3⟩⟩
    | next => exact False.elim z
    | brk => exact False.elim z
    | cont => exact False.elim z
/-- C('..') of a class without __init__ of its own -/
theorem pe_mk0 {x : Str} {C : Addr} (F : ExcBaseFacts B newId initId bmB) (q : PySem.W.excIn X.K C bmB newId = true) (hg : Gl X x) (hm : X.mg x = some (.ref C)) (kC : PySem.W.keepIn X.K (.ref C) = true) (ha : PA X (e :: es) ta)
    (hdb : (x == ("__debug__" : Str)) = false := by decide) (he : starEach (e :: es) X.env = (false, eval e X.env) :: starEach es X.env := by rfl) (hp : (backTo pos (starEach es X.env)).any (·.1) = false := by rfl) :
    PE X (.Call (.Name x p) (e :: es) [] pos) (tMk0 C ta) := by
  refine ⟨fun pins s σ H Q I hh => ?_⟩
  refine wpAny_Call_Name_kw (ld_glob I hg hm ?_ hdb)
  refine PySem.W.callWith_K (h₀ := X.base) I.ok.mod.kin kC (thn (ha.run pos pins s σ H _ I hh) fun us s1 ⟨vs, H1, I1, rv, hz, k1⟩ => ⟨I1.kIn, ?_⟩) he hp
  show wpAny _ _ (call (.ref C) us) _ _ _
  obtain ⟨bm, N, nm, qn, bs, hdct, sn, sub, ab, col, dd, y0, y1, y2, y3, y5, mN, hC, hN, hni, T⟩ := exc_obj I1.kIn q
  have lus : us.length ≤ sizeLine := by rw [← Paired.length rv, sizeLine_eq]; omega
  refine wpAny_call_exc_subT F T hC hN hni (fun h' z hm => ?_) lus
  have hn : H1 z = none := I1.hok.gone hm.new
  obtain ⟨t, ht, _, _⟩ := hm.there
  exact ⟨.ref z, _, I1.laidN hm.keeps hm.new hn (exo_ok ht), rfl, k1 z hn⟩
/-- S.__init__(self, ..) where S is an own class that has B's __init__ -/
theorem pe_binitS {n : Str} {pl : Sem Bool} {S C0 : Addr} {mc : Value} (_o : Own X.K C0 B newId initId bmB) (hg : Gl X n) (hm : X.mg n = some (.ref S)) (cr : CRead X.K S mc) (vV : PySem.W.findCls X.K (.ref S) mc "__init__" = some (.val (.builtin initId))) (hin : PySem.W.handedIn (.builtin initId) = true) (ha : PA X (e :: es) ta)
    (hc : eval (.Call (.Attribute (.Name n p1) "__init__" p2) (e :: es) [] pos) X.env = (do
      let ov ← eval (.Name n p1) X.env
      standAt p2.atName
      let (fn, fst) ← holding [ov] (getMethod ov "__init__" pl)
      callWith pos fn fst (backTo pos (starEach (e :: es) X.env)) (backToKw pos (keywordEach [] X.env))) := by rfl)
    (hdb : (n == ("__debug__" : Str)) = false := by decide) (he : starEach (e :: es) X.env = (false, eval e X.env) :: starEach es X.env := by rfl) (hp : (backTo pos (starEach es X.env)).any (·.1) = false := by rfl) :
    PE X (.Call (.Attribute (.Name n p1) "__init__" p2) (e :: es) [] pos) (tBI X.K B newId initId bmB ta) := by
  refine ⟨fun pins s σ H Q I k => PySem.W.methodCall_KW (ld_glob I hg hm ?_ hdb) hc⟩
  refine PySem.W.method_cls I.kIn cr.ga (PySem.W.cls_value I.kIn cr.rd vV hin ?_)
  show wpAny _ _ (callWith pos (Value.builtin initId) [] (backTo pos (starEach (e :: es) X.env)) []) _ _ _
  refine PyProof.Rows.callWith_method1 (thn (ha.run pos pins _ σ H _ (I.tok _) k) fun us s1 ⟨vs, H1, I1, rv, a, C, ws, ev, hl, T, ea, q⟩ => ?_) he hp
  subst ev
  cases rv with
  | @cons _ u1 _ ur rA rW =>
    obtain rfl : u1 = Value.ref a := rA
    exact binit T I1 ea (by rw [← Paired.length rW, sizeLine_eq]; omega) fun s2 J => ⟨.non, H1, J, rfl, q⟩
end
end Xc

/-! Xe3: text * number; repr of a list of things that may be dicts; comprehensions over zip; readings of Xe2 -/
namespace Xc
open PySem PySem.Spec PySem.Calls PyProof.Rows L2 Rs
/-! ### text * number -/
def rMulS : R2 := fun x y H Q => ∃ (t : Str) (n : Int), x = .str t ∧ y = .int n ∧ 0 ≤ n ∧ n ≤ 1000 ∧ t.length ≤ 1000 ∧ Q (.str (Txt.mul t n)) H
theorem op_mulS {X : Cx} : OpR X (binaryOp .Mult) rMulS := by
  intro pins s σ H x y v u Q I rx ry h
  obtain ⟨t, n, rfl, rfl, h0, h1, h2, q⟩ := h
  obtain ⟨a, rfl⟩ := (show ∃ a, v = Value.str t a from rx)
  obtain ⟨b, rfl⟩ := (show ∃ b, u = Value.int n b from ry)
  have hl : t.length * n.toNat ≤ 1000 * 1000 := Nat.mul_le_mul h2 (by omega)
  refine SB.mul (Q := EP X pins σ Q) ⟨by simp; omega, fun h3 _ => ?_, fun _ _ => ?_⟩ fun t' k => ⟨.str _, H, I.tok _, ⟨_, rfl⟩, q⟩
  · have h5 : (t.length : Int) ≤ (2 ^ 63 - 1) / n := by
      refine Int.le_ediv_of_mul_le (by omega) ?_
      have h6 : ((t.length * n.toNat : Nat) : Int) ≤ 1000 * 1000 := by omega
      rw [Int.natCast_mul, Int.toNat_of_nonneg h0] at h6
      omega
    omega
  · unfold Builtin.Str.tooLong
    simp
    rw [sizeLine_eq]
    omega
/-! ### repr of a list -/
inductive TzA (K : PySem.W.Frag) (H : Hp) : List V → List PyData → Prop where
  | nil : TzA K H [] []
  | cons {v : V} {d : PyData} {vs : List V} {ds : List PyData} : Tz K H v d → TzA K H vs ds → TzA K H (v :: vs) (d :: ds)
def rReprL (K : PySem.W.Frag) : List V → Hp → VK → Prop := fun xs H Q => ∃ (p : Addr) (vs : List V) (ds : List PyData), xs = [.ref p] ∧ SqL K H p vs ∧ TzA K H vs ds ∧ vs ≠ [] ∧ (PyData.list ds).shown.length ≤ sizeLine ∧ PyData.depthAll ds ≤ 30 ∧ Q (.str (PyData.list ds).shown) H
section
variable {X : Cx} {pins : List (Addr × Obj)} {σ : L2.St} {H : Hp} {s : Shared}
theorem Tz.reads (I : Inv X pins σ H s) {v : V} {d : PyData} {u : Value} (h : Tz X.K H v d) (r : RelV v u) : ∃ as, Reads s.heap u d as := by
  cases h with
  | dp h _ => exact Dp.reads I d v u h r
  | dk h p _ =>
    cases (show u = Value.ref _ from r)
    obtain ⟨_, ns, vs, kv', o, es, ep, e1, e2, e3, _, e5, _⟩ := dk_of I.hok h
    obtain ⟨r1, r2⟩ := plKv_reads (h := s.heap) p kv' e5
    exact ⟨_, Reads.dict (as := []) (bs := []) e1 e2.1 e3 r1 r2⟩
  | big f =>
    obtain ⟨t, rfl⟩ := (show ∃ t, u = Value.int _ t from r)
    exact ⟨_, .int _ t⟩
theorem TzA.reads (I : Inv X pins σ H s) : ∀ {vs : List V} {ds : List PyData} {us : List Value}, TzA X.K H vs ds → Vals vs us → ∃ as, ReadsAll s.heap us ds as
  | _, _, _, .nil, .nil => ⟨_, .nil⟩
  | _, _, _, .cons h t, .cons r q => by
    obtain ⟨a, h1⟩ := h.reads I r
    obtain ⟨b, h2⟩ := TzA.reads I t q
    exact ⟨_, .cons h1 h2⟩
theorem TzA.shows (I : Inv X pins σ H s) (st : Stat X.K) {n : Nat} (hn : n ≤ 50) : ∀ {vs : List V} {ds : List PyData} {us : List Value}, TzA X.K H vs ds → Vals vs us → (∀ d ∈ ds, d.shown.length ≤ sizeLine) → PyData.depthAll ds ≤ n →
    ∃ bs, ReadAtMost s.heap n bs ∧ ReprAllK X.prog X.w bs s.heap 50 us (PyData.shownAll ds)
  | _, _, _, .nil, .nil, _, _ => ⟨[], fun _ h => (nomatch h), by simp only [PyData.shownAll]; exact .nil⟩
  | _, _, _, .cons (d := d) h t, .cons r q, hz, hd => by
    simp only [PyData.depthAll] at hd
    obtain ⟨b1, m1, k1⟩ := h.shows I st r (hz d List.mem_cons_self) (by omega)
    obtain ⟨b2, m2, k2⟩ := TzA.shows I st hn t q (fun d hm => hz d (List.mem_cons_of_mem _ hm)) (by omega)
    refine ⟨b1 ++ b2, fun b hb => ?_, by
      simp only [PyData.shownAll]
      exact .cons (ReprK.more k1 fun b z => List.mem_append_left _ z) (k2.more_le (fun b z => List.mem_append_right _ z) (Nat.le_refl _))⟩
    rcases List.mem_append.mp hb with z | z
    · obtain ⟨d', as', r', hd'⟩ := m1 b z
      exact ⟨d', as', r', by omega⟩
    · exact m2 b z
theorem depth_of {ds : List PyData} : ∀ {d : PyData}, d ∈ ds → d.depth ≤ PyData.depthAll ds := by
  induction ds with
  | nil => intro d h; exact nomatch h
  | cons x xs ih =>
    intro d h
    simp only [PyData.depthAll]
    rcases List.mem_cons.mp h with rfl | h
    · omega
    · have := ih h
      omega
theorem shown_of {ds : List PyData} {d : PyData} (h : d ∈ ds) : d.shown ∈ PyData.shownAll ds := by
  induction ds with
  | nil => exact nomatch h
  | cons x xs ih =>
    simp only [PyData.shownAll]
    rcases List.mem_cons.mp h with rfl | h
    · exact List.mem_cons_self
    · exact List.mem_cons_of_mem _ (ih h)
theorem call_reprL {k : Nat} (st : Stat X.K) (c : Clr X.A) (hr : Room k X.A) : CallR X (.builtin "repr") (rReprL X.K) := by
  intro pins s σ H xs us Q I r h
  obtain ⟨p, vs, ds, rfl, hs, hq, hne, sw, dp, q⟩ := h
  cases r with
  | cons r1 r2 =>
    cases r2
    rename_i u
    cases (show u = Value.ref p from r1)
    obtain ⟨its, rv, ⟨o, n, ho, hc, hdn, hd⟩, hlen⟩ := I.list hs
    have un := hr.units
    obtain ⟨as, rd⟩ := hq.reads I rv
    have sz : ∀ d ∈ ds, d.shown.length ≤ sizeLine := fun d hm => by
      have z := listText_mem_le (ts := PyData.shownAll ds) (shown_of hm)
      simp only [PyData.shown] at sw
      omega
    obtain ⟨bs, hb, rk⟩ := hq.shows (n := PyData.depthAll ds) I st (by omega) rv sz (Nat.le_refl _)
    have own : Reads s.heap (.ref p) (.list ds) (p :: as) := Reads.list ho hc hd (by simpa using rd)
    have hna : p ∉ bs := fun hm => by
      obtain ⟨d', as', r', hd'⟩ := hb p hm
      have e := (PyProof.Rows.reads_det (fun _ _ e _ => e) own r').1
      rw [e] at hd'
      simp only [PyData.depth] at hd'
      omega
    cases its with
    | nil =>
      have := rv.length
      simp at this
      exact absurd this hne
    | cons y ys =>
      simp only [PyData.shown] at sw q
      refine call_repr_slot (by omega) ⟨o, ho, hc⟩ F.slot_list_repr.toG ?_
      exact call_list_reprK ho hc (by simpa using hd) hna (by rw [rk.length_eq]; simp) (fun i z e => rk.item i z (by simpa using e)) c (fun b _ => Clear.nil b) (by show X.A.units + 1 + (50 + 1) < cLine; omega) (fun _ _ e => e) (fun h' t2 tk2 kp => ⟨_, _, rfl, ⟨.str _, H, I.kept kp, ⟨t2, rfl⟩, q⟩⟩) sw
end
theorem rd_reprL {K : PySem.W.Frag} {H H0 : Hp} {M : List Addr} {L : Led} {Q : VK} {p : Addr} {vs : List V} {ds : List PyData} (S : Hs H0 M H L) (m : (p, HO.lst vs) ∈ L) (h : TzA K H vs ds) (ne : vs ≠ []) (sw : (PyData.list ds).shown.length ≤ sizeLine) (dp : PyData.depthAll ds ≤ 30)
    (k : Q (.str (PyData.list ds).shown) H) : rReprL K [.ref p] H Q := ⟨p, vs, ds, rfl, S.lst m, h, ne, sw, dp, k⟩
end Xc
namespace Xc
open PySem PySem.Spec PySem.Calls PyProof.Rows L2 Rs
/-- __init__ of n arguments that stores mk of them -/
def spIn (C : Addr) (n : Nat) (mk : List V → List (Str × V)) : Sp := fun vs H Q _ => ∃ (a : Addr) (xs : List V), vs = .ref a :: xs ∧ xs.length = n ∧ H a = some (exo a C none) ∧
  ∀ (dx : Addr) (H' : Hp), H dx = none → dx ≠ a → H' a = some (exo a C (some dx)) → H' dx = some (exd dx (mk xs)) → (∀ b, b ≠ a → b ≠ dx → H' b = H b) → Q .non H'
section
variable {σ : L2.St} {H H0 : Hp} {M : List Addr} {L : Led} {Q : VK} {K : PySem.W.Frag} {C a dx : Addr} {f : Str} {x : V}
theorem rd_mkx {R : Addr → Hp → Prop} {n : Nat} {mk : List V → List (Str × V)} {xs : List V} (S : Hs H0 M H L) (hl : xs.length = n) (hn : n ≤ 1000) (h : ∀ a d H', H0 a = none → H0 d = none → Hs H0 M H' ((a, exo a C (some d)) :: (d, exd d (mk xs)) :: L) → R a H') :
    xs.length ≤ 1000 ∧ ∀ a, H a = none → spIn C n mk (.ref a :: (xs ++ [])) (upd H a (exo a C none)) (fun v H2 => v = .non ∧ R a H2) (fun _ _ _ => False) := by
  refine ⟨by omega, fun a ha => ⟨a, xs, by rw [List.append_nil], hl, upd_same, fun d H' hd ne e1 e2 e3 => ⟨rfl, ?_⟩⟩⟩
  rw [upd_ne ne] at hd
  obtain ⟨z1, S1⟩ := S.new hd (exd d (mk xs))
  obtain ⟨z2, S2⟩ := S1.new (a := a) (by rw [upd_ne (Ne.symm ne)]; exact ha) (exo a C (some d))
  have e : H' = upd (upd H d (exd d (mk xs))) a (exo a C (some d)) := by
    funext b
    by_cases hb : b = a
    · rw [hb, upd_same, e1]
    · rw [upd_ne hb]
      by_cases hb2 : b = d
      · rw [hb2, upd_same, e2]
      · rw [upd_ne hb2, e3 b hb hb2, upd_ne hb]
  rw [e]
  exact h a d _ z2 z1 S2
theorem rd_tmkx {sp : Sp} {dvs : List V} {ta : TA} (h : ta σ H fun vs H1 => vs.length ≤ 1000 ∧ ∀ a, H1 a = none → sp (.ref a :: (vs ++ dvs)) (upd H1 a (exo a C none)) (fun v H2 => v = .non ∧ Q (.ref a) H2) (fun _ _ _ => False)) : tMkX C sp dvs ta σ H Q := h
theorem rd_tmk0 {ta : TA} (h : ta σ H fun vs H1 => vs.length ≤ 1000 ∧ ∀ a H2, H1 a = none → H2 = upd H1 a (exo a C none) → Q (.ref a) H2) : tMk0 C ta σ H Q := by
  have e : (fun (vs : List V) (H1 : Hp) => vs.length ≤ 1000 ∧ ∀ a H2, H1 a = none → H2 = upd H1 a (exo a C none) → Q (.ref a) H2) = fun vs H1 => vs.length ≤ 1000 ∧ ∀ a, H1 a = none → Q (.ref a) (upd H1 a (exo a C none)) := by
    funext vs H1
    exact propext ⟨fun ⟨x, y⟩ => ⟨x, fun a ha => y a _ ha rfl⟩, fun ⟨x, y⟩ => ⟨x, fun a H2 ha e => by rw [e]; exact y a ha⟩⟩
  rw [e] at h
  exact h
theorem rd_mk0 {R : Addr → Hp → Prop} {xs : List V} (S : Hs H0 M H L) (hl : xs.length ≤ 1000) (h : ∀ a H', H0 a = none → Hs H0 M H' ((a, exo a C none) :: L) → R a H') : xs.length ≤ 1000 ∧ ∀ a H2, H a = none → H2 = upd H a (exo a C none) → R a H2 :=
  ⟨hl, fun a H2 ha e => by rw [e]; exact h a _ (S.new ha (exo a C none)).1 (S.new ha (exo a C none)).2⟩
theorem rd_isE {o : Option (Addr × List (Str × V))} {c : V} {u : Value} {b : Bool} (e0 : ExcAt H a C o) (l : Lk K C) (hc : ClsV c u) (e : PySem.W.kitOne K (.ref C) u = some b) (h : Q (.bl b) H) : rIsE K [.ref a, c] H Q :=
  ⟨a, C, o, c, u, b, rfl, hc, l, e0, e, h⟩
theorem rd_xe {te : TE} (h : te σ H fun x H1 => ∃ (a C dx : Addr) (fs : List (Str × V)) (v : V), x = .ref a ∧ Lk K C ∧ PySem.W.findIn K (.ref C) f = some none ∧ ExcAt H1 a C (some (dx, fs)) ∧ fs.lookup f = some v ∧ Q v H1) : tXe K f te σ H Q := h
theorem rd_mulS {t : Str} {n : Int} (h0 : 0 ≤ n) (h1 : n ≤ 1000) (h2 : t.length ≤ 1000) (h : Q (.str (Txt.mul t n)) H) : rMulS (.str t) (.int n) H Q := ⟨t, n, rfl, rfl, h0, h1, h2, h⟩
theorem lcw_zip {a b : Addr} {xs ys : List V} {g : TG} {tt : TT} {te : TE} {vs : List Nat} (S : Hs H0 M H L) (hn : xs.length = ys.length) (R : Nat → List V → Prop) (r0 : R 0 []) (hl : ∀ H' acc D, Hs H0 M H' ((D, .lst acc) :: L) → SqL K H' a xs ∧ SqL K H' b ys)
    (hs : ∀ D i x y acc H' T, xs[i]? = some x → ys[i]? = some y → R i acc → H0 D = none → H0 T = none → Hs H0 M H' ((T, .tup [x, y]) :: (D, .lst acc) :: L) → g (.ref T) (wipe σ vs) H' fun σ2 H2 => wipe σ2 vs = wipe σ vs ∧ tt σ2 H2 fun b H3 => if b = true then te σ2 H3 fun y H4 => lcPut H0 M L (R (i + 1)) D y H4 else lcSkip H0 M L (R (i + 1)) D H3)
    (hd : ∀ D acc H', R xs.length acc → H0 D = none → Hs H0 M H' ((D, .lst acc) :: L) → Q (.ref D) H') : lcW (Itz K a b) g tt te vs σ H Q := by
  intro D hD
  have S1 := S.new hD (.lst [])
  refine lc_it (walk_zip (xs := xs) (ys := ys) (n := xs.length) (by omega)) (fun i H' => lcSkip H0 M L (R i) D H') ⟨S1.1, [], r0, S1.2⟩ (fun i H' _ ⟨_, acc, _, S'⟩ => hl H' acc D S') ?_ ?_
  · rintro i x H' H2 hi ⟨n0, acc, r, S'⟩ ⟨T, y, z, rfl, hT, rfl, e1, e2⟩
    obtain ⟨hT0, S2⟩ := S'.new hT (.tup [y, z])
    exact hs D i y z acc _ T e1 e2 r n0 hT0 S2
  · rintro H' ⟨n0, acc, r, S'⟩
    exact hd D acc H' r n0 S'
theorem rd_zip {R : It → Hp → Prop} {ta : TA} (h : ta σ H fun vs H1 => ∃ (a b : Addr) (xs ys : List V), vs = [.ref a, .ref b] ∧ SqL K H1 a xs ∧ SqL K H1 b ys ∧ R (Itz K a b) H1) : iZip K ta σ H R := h
end
end Xc

/-! Xg1: lists and tuples alike as what is walked: enumerate with a start, zip of any two -/
namespace Xg
open PySem PySem.Spec PySem.Calls PyProof.Rows L2 Rs Xd
/-- a list (false), a tuple (true) -/
def Sq (b : Bool) (K : PySem.W.Frag) (H : Hp) (a : Addr) (xs : List V) : Prop := match b with
  | true => SqT K H a xs
  | false => SqL K H a xs
def IsIt (b : Bool) (h : Heap) (i a : Addr) (j : Nat) : Prop := match b with
  | true => h.IsTupleIter i a j
  | false => h.IsListIter i a j
def IsSq (b : Bool) (h : Heap) (a : Addr) (vs : Array Value) : Prop := match b with
  | true => h.IsTuple a vs
  | false => h.IsList a vs
def ito (b : Bool) (a : Addr) : Obj := match b with
  | true => { cls := .type "tuple_iterator", data := .fields #[.ref a, .int 0 0] }
  | false => { cls := .type "list_iterator", data := .fields #[.ref a, .int 0 0] }
theorem IsIt.at {b : Bool} {h h' : Heap} {i a : Addr} {j : Nat} (x : IsIt b h i a j) (k : ∀ o, h.get? i = some o → h'.get? i = some o) : IsIt b h' i a j := by
  cases b <;> (obtain ⟨o, ho, r⟩ := x; exact ⟨o, k o ho, r⟩)
theorem IsIt.obj {b : Bool} {h : Heap} {i a : Addr} {j : Nat} (x : IsIt b h i a j) : ∃ o, h.get? i = some o ∧ ∀ v, o.data ≠ .cell v := by
  cases b <;> (obtain ⟨o, ho, _, hd⟩ := x; exact ⟨o, ho, fun v z => by rw [hd] at z; cases z⟩)
theorem IsSq.lt {b : Bool} {h : Heap} {a : Addr} {vs : Array Value} (x : IsSq b h a vs) : a < h.objs.size := by
  cases b <;> (obtain ⟨o, ho, _⟩ := x; exact Heap.lt_size ho)
theorem begins_sq (b : Bool) (a : Addr) (vs : Array Value) : Begins (.ref a) (ito b a) (fun h => IsSq b h a vs) := by
  cases b
  · exact begins_list a vs
  · exact begins_tuple a vs
theorem ito_it {b : Bool} {h : Heap} {i a : Addr} (x : h.get? i = some (ito b a)) : IsIt b h i a 0 := by
  cases b <;> exact ⟨_, x, rfl, rfl⟩
theorem sdraws {prog : Program} {w : World} {A : Around} (hh : A.handled = none) (b : Bool) (i a : Addr) (ne : a ≠ i) (vs : Array Value) : Draws prog w A i [i, a] vs.size (fun j v => vs[j]? = some v) (fun j h => IsIt b h i a j ∧ IsSq b h a vs) := by
  cases b
  · exact Draws.list hh i a ne vs
  · exact tdraws hh i a ne vs
section
variable {X : Cx} {pins : List (Addr × Obj)} {σ : L2.St} {H : Hp} {s : Shared} {a : Addr} {xs ys : List V}
theorem sq_get (I : Inv X pins σ H s) {b : Bool} (h : Sq b X.K H a xs) : ∃ its : List Value, Vals xs its ∧ IsSq b s.heap a its.toArray := by
  cases b
  · obtain ⟨its, rv, p, _⟩ := I.list h
    exact ⟨its, rv, p.isList⟩
  · obtain ⟨its, rv, p, _⟩ := I.tuple h
    exact ⟨its, rv, p⟩
theorem sq_inj (I : Inv X pins σ H s) {b : Bool} (h : Sq b X.K H a xs) (h' : Sq b X.K H a ys) : xs = ys := by
  cases b
  · exact I.list_inj h h'
  · exact I.tuple_inj h h'
end
/-! ### enumerate from a start -/
def IteS (b : Bool) (k : Int) (K : PySem.W.Frag) (a : Addr) : It :=
  ⟨fun i H => ∃ (xs : List V) (x : V), Sq b K H a xs ∧ xs[i]? = some x, fun i H v H' => ∃ (T : Addr) (x : V), v = .ref T ∧ H T = none ∧ H' = upd H T (.tup [.int (k + (i : Nat)), x]) ∧ ∀ xs, Sq b K H a xs → xs[i]? = some x, fun i H => ∃ xs : List V, Sq b K H a xs ∧ xs.length = i⟩
theorem turn_eS {P : Program} {w : World} {K : PySem.W.Frag} {elts : List Expr} {kk : Nat} {tpos : Pos} (b : Bool) (k : Int) (a e it : Addr) (nai : a ≠ it) (nei : e ≠ it) (nea : e ≠ a) :
    Turn P w K (.Tuple elts kk tpos) (IteS b k K a) [e, it] e (fun i h => (∃ old, IsEnum h e it (k + ((i : Nat) : Int)) old) ∧ IsIt b h it a i) where
  mem := List.mem_cons_self
  obj := fun i h ⟨⟨old, he⟩, hi⟩ c hc => by
    rcases (show c = e ∨ c = it by simpa using hc) with rfl | rfl
    · exact ⟨_, he, fun v z => nomatch z⟩
    · exact hi.obj
  keep := fun i h h' ⟨⟨old, he⟩, hi⟩ kp => ⟨⟨old, kp e (by simp) _ he⟩, hi.at fun o z => kp it (by simp) o z⟩
  item := by
    intro X hP hw hK hc i pins s σ H E I hf ⟨⟨old, he⟩, hit⟩ ⟨xs, x, hq, hx⟩
    subst hP hw hK
    obtain ⟨its, rv, tpl⟩ := sq_get I hq
    obtain ⟨u, hu, ru⟩ := rv.get hx
    obtain ⟨oi, hoi, _⟩ := hit.obj
    have le : e < s.heap.objs.size := Heap.lt_size he
    have li : it < s.heap.objs.size := Heap.lt_size hoi
    have D := sdraws (prog := X.prog) (w := X.w) (A := X.A.in1) (I.ok.hd hc) b it a nai its.toArray
    refine wpAny_pyNext_enum_itemC D he ⟨hit, tpl⟩ ?_ nei (by simp [nei, nea]) fun u' h' tk hu' ho hst hT hsz hk => ?_
    · have := (List.getElem?_eq_some_iff.mp hu).1
      rw [List.size_toArray]
      exact this
    · obtain rfl : u' = u := by
        have z : its[i]? = some u' := by simpa using hu'
        rw [hu] at z
        exact (Option.some.inj z).symm
      refine ⟨_, rfl, wpAny_letOwnedTupleGo_enum (s := { s with heap := h', toks := tk + 1 }) ho fun h2 he2 sb => ?_⟩
      have hT2 : h2.get? s.heap.objs.size = some { cls := .type "tuple", data := .seq #[.int (k + i) tk, u'] } := (sb.2 _ (Nat.ne_of_gt le)).trans hT
      have nw : ObjOk X.prog X.w (upd H s.heap.objs.size (.tup [.int (k + (i : Nat)), x])) h2 s.heap.objs.size (.tup [.int (k + (i : Nat)), x]) := ⟨by rw [sizeLine_eq]; simp, [.int (k + i) tk, u'], .cons ⟨_, rfl⟩ (.cons ru .nil), ⟨_, hT2, rfl, _, rfl⟩⟩
      have I1 : Inv X pins σ (upd H s.heap.objs.size (.tup [.int (k + (i : Nat)), x])) { s with heap := h2, toks := tk + 1 } :=
        I.turnedNew (ch := [e, it]) (fun c ob hb q => (sb.2 c (fun z => hb (by simp [z]))).trans (hk c ob (fun z => hb (by simp [z])) (fun z => hb (by simp [z])) q)) hf (Nat.le_refl _) nw
      refine ⟨.ref s.heap.objs.size, _, I1, rfl, ⟨_, x, rfl, I.hok.fresh (Nat.le_refl _), rfl, fun ys hy => by rw [sq_inj I hy hq]; exact hx⟩, ⟨⟨u', ?_⟩, hst.1.at fun o z => (sb.2 it (Ne.symm nei)).trans z⟩, fun c hb => ?_⟩
      · rw [show k + ((i + 1 : Nat) : Int) = k + (i : Int) + 1 by omega]; exact he2
      · have hb2 : c < s.heap.objs.size := by
          rcases (show c = e ∨ c = it by simpa using hb) with rfl | rfl
          · exact le
          · exact li
        rw [upd_ne (Nat.ne_of_lt hb2)]; exact (hf c hb).1
  done := by
    intro X hP hw hK hc i pins s σ H E I hf ⟨⟨old, he⟩, hit⟩ ⟨xs, hq, hx⟩
    subst hP hw hK
    obtain ⟨its, rv, tpl⟩ := sq_get I hq
    obtain ⟨f0, f1, f2, f3, f4, f5⟩ := hf it (by simp)
    have hl := rv.length
    have D := sdraws (prog := X.prog) (w := X.w) (A := X.A.in1) (I.ok.hd hc) b it a nai its.toArray
    have en : its.toArray.size = i := by rw [List.size_toArray]; omega
    exact wpAny_pyNext_enum_endD D he ⟨by rw [en]; exact hit, tpl⟩ fun h' eb => ⟨rfl, I.turned (t' := s.toks) (fun c o hb q => eb c o hb q) f0 f1 f3 f4 f5⟩
  self := fun A i s Q E ⟨⟨_, he⟩, _⟩ h => wpAny_pyIter_enum he h
section
variable {M : Model} {A : Around} {E : Value → Shared → Prop} {s : Shared} {env : Env}
/-- a built-in class called with keywords -/
theorem callWith_tyKw {pos : Pos} {T : String} {e : Expr} {rest : List Expr} {kws : List Keyword} {Q : Value → Shared → Prop}
    (h : wpAny M A (spliced (backTo pos (starEach (e :: rest) env))) (fun vs s1 => wpAny M A (evalAll ((backToKw pos (keywordEach kws env)).map (·.2)))
      (fun ws s2 => wpAny M A (call (.type T) vs (((backToKw pos (keywordEach kws env)).filterMap (·.1)).zip ws)) Q E s2) E s1) E s)
    (he : backTo pos (starEach (e :: rest) env) = (false, eval e env) :: backTo pos (starEach rest env)) (hp : (backTo pos (starEach (e :: rest) env)).any (·.1) = false)
    (ha : (backToKw pos (keywordEach kws env)).all (·.1.isSome) = true) (hn : (backToKw pos (keywordEach kws env)).any (·.1.isNone) = false) :
    wpAny M A (callWith pos (.type T) [] (backTo pos (starEach (e :: rest) env)) (backToKw pos (keywordEach kws env))) Q E s := by
  rw [he] at h hp ⊢
  have h2 := evalArgs_kwB (Q := fun (z : Args) s2 => wpAny M A (call (.type T) z.pos z.kw) Q E s2) (f := .type T) ha h
  unfold callWith
  refine wpAny_bind (wpAny_holding (wpAny_mono h2 (fun z s1 q => wpAny_bind (wpAny_standAt ?_)) fun _ _ x => x))
  simp only [hp, hn, Bool.or_false]
  exact wpAny_bind (wpAny_pure (wpAny_bind (wpAny_mono q (fun r s3 hr => wpAny_bind (wpAny_holding (wpAny_point (wpAny_pure hr)))) fun _ _ x => x)))
end
def enS (b : Bool) (K : PySem.W.Frag) (R : It → Hp → Prop) (vs zs : List V) (H : Hp) : Prop := ∃ (a : Addr) (k : Int) (xs : List V), vs = [.ref a] ∧ zs = [.int k] ∧ -(2 ^ 63) ≤ k ∧ k < 2 ^ 63 ∧ Sq b K H a xs ∧ R (IteS b k K a) H
def iEnS (b : Bool) (K : PySem.W.Frag) (ta tk : TA) : TI := fun σ H R => ta σ H fun vs H1 => tk σ H1 fun zs H2 => enS b K R vs zs H2
theorem apart_e {N : Nat} {a : Addr} (h : a < N) : a ≠ N ∧ N + 1 ≠ N ∧ N + 1 ≠ a := ⟨Nat.ne_of_lt h, Nat.succ_ne_self _, fun z => by
  rw [← z] at h
  exact absurd h (Nat.not_lt.mpr (Nat.le_succ N))⟩
theorem pi_enS {X : Cx} (b : Bool) {e : Expr} {kws : List Keyword} {ta tk : TA} {p pos tpos : Pos} {elts : List Expr} {kk : Nat} (hg : Gl X "enumerate") (hm : X.mg "enumerate" = none) (ha : PA X [e] ta) (hk : PK X kws tk)
    (he : backTo pos (starEach [e] X.env) = (false, eval e X.env) :: backTo pos (starEach [] X.env) := by rfl) (hpl : (backTo pos (starEach [e] X.env)).any (·.1) = false := by rfl)
    (hall : (backToKw pos (keywordEach kws X.env)).all (·.1.isSome) = true := by rfl) (hnone : (backToKw pos (keywordEach kws X.env)).any (·.1.isNone) = false := by rfl) (hks : (backToKw pos (keywordEach kws X.env)).filterMap (·.1) = [Str.ofString "start"] := by rfl) :
    PI X (.Tuple elts kk tpos) (.Call (.Name "enumerate" p) [e] kws pos) (iEnS b X.K ta tk) := by
  refine ⟨fun pins s σ H R I h => ?_⟩
  refine wpAny_Call_Name_kw (ld_blt I hg hm boot_enumerate ?_)
  refine callWith_tyKw (thn (ha.run pos pins s σ H _ I h) fun us s1 ⟨vs, H1, I1, r1, q1⟩ => thn (hk.run pos pins s1 σ H1 _ I1 q1) fun ws s2 ⟨zs, H2, I2, r2, a, k, xs, ev, ez, k0, k1, hq, q⟩ => ?_) he hpl hall hnone
  rw [hks]
  subst ev ez
  rw [Vals.ref1 r1]
  obtain ⟨u, rfl, t, rfl⟩ := vals1 r2
  obtain ⟨its, rv, tpl⟩ := sq_get I2 hq
  refine enum_begins_start (begins_sq b a its.toArray) tpl k0 k1 fun h' he hit hz hkp => wpAny_pyIter_enum he ?_
  have I3 : Inv X pins σ H2 { s2 with heap := h' } := I2.kept (t' := s2.toks) hkp
  obtain ⟨n1, n2, n3⟩ := apart_e tpl.lt
  refine ⟨s2.heap.objs.size + 1, [s2.heap.objs.size + 1, s2.heap.objs.size], _, _, H2, rfl, I3, turn_eS b k a (s2.heap.objs.size + 1) s2.heap.objs.size n1 n2 n3, ⟨⟨.none, by rw [show k + ((0 : Nat) : Int) = k by omega]; exact he⟩, ito_it hit⟩, fun c hc => ?_, q⟩
  have hle : s2.heap.objs.size ≤ c := by
    rcases (show c = s2.heap.objs.size + 1 ∨ c = s2.heap.objs.size by simpa using hc) with rfl | rfl
    · exact Nat.le_succ _
    · exact Nat.le_refl _
  exact I2.fpOk hle (I2.hok.fresh hle)
/-! ### zip of any two -/
def ItzS (b c : Bool) (K : PySem.W.Frag) (p q : Addr) : It :=
  ⟨fun i H => ∃ (xs ys : List V) (x y : V), Sq b K H p xs ∧ Sq c K H q ys ∧ xs[i]? = some x ∧ ys[i]? = some y,
    fun i H v H' => ∃ T x y, v = .ref T ∧ H T = none ∧ H' = upd H T (.tup [x, y]) ∧ (∀ xs, Sq b K H p xs → xs[i]? = some x) ∧ ∀ ys, Sq c K H q ys → ys[i]? = some y,
    fun i H => ∃ xs ys : List V, Sq b K H p xs ∧ Sq c K H q ys ∧ i = min xs.length ys.length⟩
theorem turn_zS {P : Program} {w : World} {K : PySem.W.Frag} {elts : List Expr} {kk : Nat} {tpos : Pos} (b c : Bool) {p q z TI TO i1 i2 : Addr} (D : ZipSep2 z TI TO i1 i2 [i1, p] [i2, q]) (n1 : p ≠ i1) (n2 : q ≠ i2) :
    Turn P w K (.Tuple elts kk tpos) (ItzS b c K p q) [z, TI, TO, i1, i2] z (fun i h => IsZip h z TI TO .none ∧ IsTupOf2 h TI (.ref i1) (.ref i2) ∧ (∃ x y, IsTupOf2 h TO x y) ∧ IsIt b h i1 p i ∧ IsIt c h i2 q i) where
  mem := List.mem_cons_self
  obj := fun i h ⟨a1, a2, ⟨x, y, a3⟩, a4, a5⟩ d hd => by
    rcases (show d = z ∨ d = TI ∨ d = TO ∨ d = i1 ∨ d = i2 by simpa using hd) with rfl | rfl | rfl | rfl | rfl
    · exact ⟨_, a1, fun v y => nomatch y⟩
    · exact ⟨_, a2, fun v y => nomatch y⟩
    · exact ⟨_, a3, fun v y => nomatch y⟩
    · exact a4.obj
    · exact a5.obj
  keep := fun i h h' ⟨a1, a2, ⟨x, y, a3⟩, a4, a5⟩ kp => ⟨kp z (by simp) _ a1, kp TI (by simp) _ a2, ⟨x, y, kp TO (by simp) _ a3⟩, a4.at fun o e => kp i1 (by simp) o e, a5.at fun o e => kp i2 (by simp) o e⟩
  item := by
    intro X hP hw hK hc i pins s σ H E I hf ⟨a1, a2, ⟨x0, y0, a3⟩, a4, a5⟩ ⟨xs, ys, x, y, hx, hy, ex, ey⟩
    subst hP hw hK
    obtain ⟨us, rx, tx⟩ := sq_get I hx
    obtain ⟨vs, ry, ty⟩ := sq_get I hy
    obtain ⟨u, hu, ru⟩ := rx.get ex
    obtain ⟨v, hv, rv⟩ := ry.get ey
    have lz : z < s.heap.objs.size := Heap.lt_size a1
    have Da := sdraws (prog := X.prog) (w := X.w) (A := X.A.in1) (I.ok.hd hc) b i1 p n1 us.toArray
    have Db := sdraws (prog := X.prog) (w := X.w) (A := X.A.in1) (I.ok.hd hc) c i2 q n2 vs.toArray
    have lu := (List.getElem?_eq_some_iff.mp hu).1
    have lv := (List.getElem?_eq_some_iff.mp hv).1
    refine wpAny_pyNext_zipD2_item D Da Db a1 a2 a3 ⟨a4, tx⟩ ⟨a5, ty⟩ (by rw [List.size_toArray]; exact lu) (by rw [List.size_toArray]; exact lv) fun u' v' h' tk pu pv hz hTO s1 s2 hT hsz hk => ?_
    obtain rfl : u' = u := by
      have e : us[i]? = some u' := by simpa using pu
      rw [hu] at e; exact (Option.some.inj e).symm
    obtain rfl : v' = v := by
      have e : vs[i]? = some v' := by simpa using pv
      rw [hv] at e; exact (Option.some.inj e).symm
    refine ⟨_, rfl, wpAny_letOwnedTupleGo_zip (s := { s with heap := h', toks := tk }) hz fun h2 hz2 sb => ?_⟩
    have hT2 : h2.get? s.heap.objs.size = some { cls := .type "tuple", data := .seq #[u', v'] } := (sb.2 _ (Nat.ne_of_gt lz)).trans hT
    have nw : ObjOk X.prog X.w (upd H s.heap.objs.size (.tup [x, y])) h2 s.heap.objs.size (.tup [x, y]) := ⟨by rw [sizeLine_eq]; simp, [u', v'], .cons ru (.cons rv .nil), ⟨_, hT2, rfl, _, rfl⟩⟩
    have I1 : Inv X pins σ (upd H s.heap.objs.size (.tup [x, y])) { s with heap := h2, toks := tk } :=
      I.turnedNew (ch := [z, TI, TO, i1, i2]) (fun d o hb e => (sb.2 d (fun y => hb (by simp [y]))).trans (hk d o (fun y => hb (by simp [y])) (fun y => hb (by simp [y])) (fun y => hb (by simp [y])) (fun y => hb (by simp [y])) e)) hf (Nat.le_refl _) nw
    refine ⟨.ref s.heap.objs.size, _, I1, rfl, ⟨_, x, y, rfl, I.hok.fresh (Nat.le_refl _), rfl, fun l hl => by rw [sq_inj I hl hx]; exact ex, fun l hl => by rw [sq_inj I hl hy]; exact ey⟩, ⟨hz2, ?_, ⟨u', v', ?_⟩, ?_, ?_⟩, fun d hd => ?_⟩
    · exact (sb.2 _ D.TIz).trans (hk _ _ D.TIz D.TITO D.TIi1 D.TIi2 a2)
    · exact (sb.2 _ D.TOz).trans hTO
    · exact s1.1.at fun o e => (sb.2 _ D.zi1.symm).trans e
    · exact s2.1.at fun o e => (sb.2 _ D.zi2.symm).trans e
    · have hlt : d < s.heap.objs.size := by
        rcases (show d = z ∨ d = TI ∨ d = TO ∨ d = i1 ∨ d = i2 by simpa using hd) with rfl | rfl | rfl | rfl | rfl
        · exact lz
        · exact Heap.lt_size a2
        · exact Heap.lt_size a3
        · obtain ⟨_, e, _⟩ := a4.obj; exact Heap.lt_size e
        · obtain ⟨_, e, _⟩ := a5.obj; exact Heap.lt_size e
      rw [upd_ne (Nat.ne_of_lt hlt)]
      exact (hf d hd).1
  done := by
    intro X hP hw hK hc i pins s σ H E I hf ⟨a1, a2, ⟨x0, y0, a3⟩, a4, a5⟩ ⟨xs, ys, hx, hy, hi⟩
    subst hP hw hK
    obtain ⟨us, rx, tx⟩ := sq_get I hx
    obtain ⟨vs, ry, ty⟩ := sq_get I hy
    have l1 := rx.length
    have l2 := ry.length
    have Da := sdraws (prog := X.prog) (w := X.w) (A := X.A.in1) (I.ok.hd hc) b i1 p n1 us.toArray
    have Db := sdraws (prog := X.prog) (w := X.w) (A := X.A.in1) (I.ok.hd hc) c i2 q n2 vs.toArray
    exact wpAny_pyNext_zipD2_end D Da Db a1 a2 a3 ⟨a4, tx⟩ ⟨a5, ty⟩ (by rw [List.size_toArray]; omega) (by rw [List.size_toArray]; omega) (by rw [List.size_toArray, List.size_toArray]; omega) fun h' tk hk => ⟨rfl, I.turnedL (t' := tk) (ch := [z, TI, TO, i1, i2]) (fun d o hb e =>
      hk d o (fun y => hb (by simp [y])) (fun y => hb (by simp [y])) (fun y => hb (by simp [y])) (fun y => hb (by simp [y])) e) hf⟩
  self := fun A i s Q E st h => wpAny_pyIter_zip st.1 h
def zpS (b c : Bool) (K : PySem.W.Frag) (R : It → Hp → Prop) (vs : List V) (H : Hp) : Prop := ∃ (p q : Addr) (xs ys : List V), vs = [.ref p, .ref q] ∧ Sq b K H p xs ∧ Sq c K H q ys ∧ R (ItzS b c K p q) H
def iZpS (b c : Bool) (K : PySem.W.Frag) (ta : TA) : TI := fun σ H R => ta σ H fun vs H1 => zpS b c K R vs H1
theorem pi_zpS {X : Cx} (b c : Bool) {e e2 : Expr} {ta : TA} {p pos tpos : Pos} {elts : List Expr} {kk : Nat} (hg : Gl X "zip") (hm : X.mg "zip" = none) (ha : PA X [e, e2] ta)
    (hs : starEach [e, e2] X.env = (false, eval e X.env) :: starEach [e2] X.env := by rfl) (hpl : (backTo pos (starEach [e2] X.env)).any (·.1) = false := by rfl) :
    PI X (.Tuple elts kk tpos) (.Call (.Name "zip" p) [e, e2] [] pos) (iZpS b c X.K ta) := by
  refine ⟨fun pins s σ H R I h => ?_⟩
  refine Call_ (ld_blt I hg hm boot_zip (PyProof.Rows.callWith_type1 (thn (ha.run pos pins s σ H _ I h) fun us s1 ⟨vs, H1, I1, r1, p1, p2, xs, ys, ev, hx, hy, q⟩ => ?_) hs hpl))
  subst ev
  cases r1 with
  | cons r rr =>
    cases rr with
    | cons r2 rr =>
      cases rr
      cases r
      cases r2
      obtain ⟨us, rx, tx⟩ := sq_get I1 hx
      obtain ⟨vs, ry, ty⟩ := sq_get I1 hy
      refine zip_begins2 (begins_sq b p1 us.toArray) (begins_sq c p2 vs.toArray) tx ty fun h' hz hTI hTO h1 h2 hsz hk => wpAny_pyIter_zip hz ?_
      have I2 : Inv X pins σ H1 { s1 with heap := h' } := I1.kept (t' := s1.toks) hk
      have l1 := tx.lt
      have l2 := ty.lt
      have Z : ZipSep2 (s1.heap.objs.size + 4) (s1.heap.objs.size + 2) (s1.heap.objs.size + 3) s1.heap.objs.size (s1.heap.objs.size + 1) [s1.heap.objs.size, p1] [s1.heap.objs.size + 1, p2] := zip_sep2 (fun d hd => by rw [List.mem_singleton.mp hd]; exact l1) (fun d hd => by rw [List.mem_singleton.mp hd]; exact l2)
      refine ⟨s1.heap.objs.size + 4, [s1.heap.objs.size + 4, s1.heap.objs.size + 2, s1.heap.objs.size + 3, s1.heap.objs.size, s1.heap.objs.size + 1], _, _, H1, rfl, I2, turn_zS b c Z (Nat.ne_of_lt l1) (Nat.ne_of_lt (Nat.lt_succ_of_lt l2)), ⟨hz, hTI, ⟨_, _, hTO⟩, ito_it h1, ito_it h2⟩, fun d hd => ?_, q⟩
      have hle : s1.heap.objs.size ≤ d := by
        rcases (show d = s1.heap.objs.size + 4 ∨ d = s1.heap.objs.size + 2 ∨ d = s1.heap.objs.size + 3 ∨ d = s1.heap.objs.size ∨ d = s1.heap.objs.size + 1 by simpa using hd) with rfl | rfl | rfl | rfl | rfl
        · exact Nat.le_add_right _ _
        · exact Nat.le_add_right _ _
        · exact Nat.le_add_right _ _
        · exact Nat.le_refl _
        · exact Nat.le_add_right _ _
      exact I1.fpOk hle (I1.hok.fresh hle)
/-! ### readings -/
section
variable {K : PySem.W.Frag} {H H0 : Hp} {M : List Addr} {L : Led} {σ : L2.St} {a p q : Addr} {b c : Bool} {Q : VK}
theorem Hs.sqT {xs : List V} (S : Hs H0 M H L) (m : (a, HO.tup xs) ∈ L) : Sq true K H a xs := S.tup m
theorem Hs.sqL {xs : List V} (S : Hs H0 M H L) (m : (a, HO.lst xs) ∈ L) : Sq false K H a xs := S.lst m
theorem walk_eS {k : Int} {xs : List V} : Walk (IteS b k K a) xs.length (fun H => Sq b K H a xs) (YPair (fun i => some (.int (k + (i : Nat)))) (fun i => xs[i]?)) :=
  ⟨fun i _ hi q => ⟨xs, xs[i], q, by simp [hi]⟩, fun _ q => ⟨xs, q, rfl⟩, fun i H v H' _ q ⟨T, x, h1, h2, h3, h4⟩ => ⟨T, .int (k + (i : Nat)), x, h1, h2, h3, rfl, h4 xs q⟩⟩
theorem walk_zS {xs ys : List V} : Walk (ItzS b c K p q) (min xs.length ys.length) (fun H => Sq b K H p xs ∧ Sq c K H q ys) (YPair (fun i => xs[i]?) (fun i => ys[i]?)) :=
  ⟨fun i _ hi h => ⟨xs, ys, xs[i]'(by omega), ys[i]'(by omega), h.1, h.2, List.getElem?_eq_getElem _, List.getElem?_eq_getElem _⟩, fun _ h => ⟨xs, ys, h.1, h.2, rfl⟩,
    fun i H v H' _ h ⟨T, x, y, h1, h2, h3, h4, h5⟩ => ⟨T, x, y, h1, h2, h3, h4 xs h.1, h5 ys h.2⟩⟩
theorem rd_enS {R : It → Hp → Prop} {ta tk : TA} (h : ta σ H fun vs H1 => tk σ H1 fun zs H2 => enS b K R vs zs H2) : iEnS b K ta tk σ H R := h
theorem rd_enST {R : It → Hp → Prop} {xs : List V} {k : Int} (S : Hs H0 M H L) (m : (a, HO.tup xs) ∈ L) (k0 : -(2 ^ 63) ≤ k) (k1 : k < 2 ^ 63) (h : R (IteS true k K a) H) : enS true K R [.ref a] [.int k] H := ⟨a, k, xs, rfl, rfl, k0, k1, S.tup m, h⟩
theorem rd_enSL {R : It → Hp → Prop} {xs : List V} {k : Int} (S : Hs H0 M H L) (m : (a, HO.lst xs) ∈ L) (k0 : -(2 ^ 63) ≤ k) (k1 : k < 2 ^ 63) (h : R (IteS false k K a) H) : enS false K R [.ref a] [.int k] H := ⟨a, k, xs, rfl, rfl, k0, k1, S.lst m, h⟩
theorem rd_zpS {R : It → Hp → Prop} {ta : TA} (h : ta σ H fun vs H1 => zpS b c K R vs H1) : iZpS b c K ta σ H R := h
theorem rd_zpSI {R : It → Hp → Prop} {xs ys : List V} (hx : Sq b K H p xs) (hy : Sq c K H q ys) (h : R (ItzS b c K p q) H) : zpS b c K R [.ref p, .ref q] H := ⟨p, q, xs, ys, rfl, hx, hy, h⟩
/-- over enumerate from a start -/
theorem fw_enS {xs : List V} {k : Int} {g : TG} {tw : TS} {nx bk ct : L2.St → Hp → Prop} {rt : VK} (Pv : Nat → L2.St → Hp → Prop) (h0 : Pv 0 σ H) (hl : ∀ i σ H, i ≤ xs.length → Pv i σ H → Sq b K H a xs)
    (hs : ∀ i x σ H T, xs[i]? = some x → Pv i σ H → H T = none → g (.ref T) σ (upd H T (.tup [.int (k + (i : Nat)), x])) fun σ2 H2 => tw ⟨Pv (i + 1), rt, nx, Pv (i + 1)⟩ σ2 H2) (hd : ∀ σ H, Pv xs.length σ H → nx σ H) : forW (IteS b k K a) g tw ⟨nx, rt, bk, ct⟩ σ H := by
  refine for_it walk_eS Pv h0 hl ?_ hd
  rintro i x σ H H' hi hp ⟨T, y, z, rfl, hT, rfl, e1, e2⟩
  cases e1
  exact hs i z σ H T e2 hp hT
/-- over zip of any two -/
theorem fw_zpS {xs ys : List V} {g : TG} {tw : TS} {nx bk ct : L2.St → Hp → Prop} {rt : VK} (Pv : Nat → L2.St → Hp → Prop) (h0 : Pv 0 σ H) (hl : ∀ i σ H, i ≤ min xs.length ys.length → Pv i σ H → Sq b K H p xs ∧ Sq c K H q ys)
    (hs : ∀ i x y σ H T, xs[i]? = some x → ys[i]? = some y → Pv i σ H → H T = none → g (.ref T) σ (upd H T (.tup [x, y])) fun σ2 H2 => tw ⟨Pv (i + 1), rt, nx, Pv (i + 1)⟩ σ2 H2) (hd : ∀ σ H, Pv (min xs.length ys.length) σ H → nx σ H) : forW (ItzS b c K p q) g tw ⟨nx, rt, bk, ct⟩ σ H := by
  refine for_it walk_zS Pv h0 hl ?_ hd
  rintro i x σ H H' hi hp ⟨T, y, z, rfl, hT, rfl, e1, e2⟩
  exact hs i y z σ H T e1 e2 hp hT
/-- a comprehension over enumerate from a start -/
theorem lcw_enS {xs : List V} {k : Int} {g : TG} {tt : TT} {te : TE} {vs : List Nat} (S : Hs H0 M H L) (R : Nat → List V → Prop) (r0 : R 0 []) (hl : ∀ H' acc D, Hs H0 M H' ((D, .lst acc) :: L) → Sq b K H' a xs)
    (hs : ∀ D i x acc H' T, xs[i]? = some x → R i acc → H0 D = none → Hs H0 M H' ((D, .lst acc) :: L) → H' T = none → g (.ref T) (wipe σ vs) (upd H' T (.tup [.int (k + (i : Nat)), x])) fun σ2 H2 => wipe σ2 vs = wipe σ vs ∧ tt σ2 H2 fun b H3 => if b = true then te σ2 H3 fun y H4 => lcPut H0 M L (R (i + 1)) D y H4 else lcSkip H0 M L (R (i + 1)) D H3)
    (hd : ∀ D acc H', R xs.length acc → H0 D = none → Hs H0 M H' ((D, .lst acc) :: L) → Q (.ref D) H') : lcW (IteS b k K a) g tt te vs σ H Q := by
  intro D hD
  have S1 := S.new hD (.lst [])
  refine lc_it walk_eS (fun i H' => lcSkip H0 M L (R i) D H') ⟨S1.1, [], r0, S1.2⟩ (fun i H' _ ⟨_, acc, _, S'⟩ => hl H' acc D S') ?_ ?_
  · rintro i x H1 H2 hi ⟨n0, acc, r, S'⟩ ⟨T, y, z, rfl, hT, rfl, e1, e2⟩
    cases e1
    exact hs D i z acc H1 T e2 r n0 S' hT
  · rintro H' ⟨n0, acc, r, S'⟩
    exact hd D acc H' r n0 S'
end
end Xg

/-! Xg2: comprehensions over enumerate of a tuple; comprehensions whose steps change what the ledger holds -/
namespace Xg
open PySem PySem.Spec PySem.Calls PyProof.Rows L2 Rs Xd
section
variable {K : PySem.W.Frag} {H H0 : Hp} {M : List Addr} {L : Led} {σ : L2.St} {a p q : Addr} {Q : VK}
theorem lcw_enT {xs : List V} {g : TG} {tt : TT} {te : TE} {vs : List Nat} (S : Hs H0 M H L) (R : Nat → List V → Prop) (r0 : R 0 []) (hl : ∀ H' acc D, Hs H0 M H' ((D, .lst acc) :: L) → SqT K H' a xs)
    (hs : ∀ D i x acc H' T, xs[i]? = some x → R i acc → H0 D = none → Hs H0 M H' ((D, .lst acc) :: L) → H' T = none → g (.ref T) (wipe σ vs) (upd H' T (.tup [.int (i : Nat), x])) fun σ2 H2 => wipe σ2 vs = wipe σ vs ∧ tt σ2 H2 fun b H3 => if b = true then te σ2 H3 fun y H4 => lcPut H0 M L (R (i + 1)) D y H4 else lcSkip H0 M L (R (i + 1)) D H3)
    (hd : ∀ D acc H', R xs.length acc → H0 D = none → Hs H0 M H' ((D, .lst acc) :: L) → Q (.ref D) H') : lcW (IteT K a) g tt te vs σ H Q := by
  intro D hD
  have S1 := S.new hD (.lst [])
  refine lc_it walk_eT (fun i H' => lcSkip H0 M L (R i) D H') ⟨S1.1, [], r0, S1.2⟩ (fun i H' _ ⟨_, acc, _, S'⟩ => hl H' acc D S') ?_ ?_
  · rintro i x H1 H2 hi ⟨n0, acc, r, S'⟩ ⟨T, y, z, rfl, hT, rfl, e1, e2⟩
    cases e1
    exact hs D i z acc H1 T e2 r n0 S' hT
  · rintro H' ⟨n0, acc, r, S'⟩
    exact hd D acc H' r n0 S'
def lvSkip (H0 : Hp) (M : List Addr) (R1 : List V → Led → Prop) (D : Addr) (H : Hp) : Prop := H0 D = none ∧ ∃ acc L, R1 acc L ∧ Hs H0 M H ((D, .lst acc) :: L)
def lvPut (H0 : Hp) (M : List Addr) (R1 : List V → Led → Prop) (D : Addr) (y : V) (H : Hp) : Prop := ∃ acc, H D = some (.lst acc) ∧ acc.length < sizeLine ∧ lvSkip H0 M R1 D (upd H D (.lst (acc ++ [y])))
theorem rd_lvPut {D : Addr} {y : V} {acc : List V} {L1 L2 : Led} {R1 : List V → Led → Prop} (S : Hs H0 M H L2) (pm : ∀ x, cn x ((D, HO.lst acc) :: L1) ≤ cn x L2) (n : H0 D = none) (hl : acc.length < sizeLine) (r : R1 (acc ++ [y]) L1) : lvPut H0 M R1 D y H := by
  have S1 := S.re pm
  exact ⟨acc, S1.is _ List.mem_cons_self, hl, n, _, _, r, S1.put .here (Or.inl n)⟩
theorem lcv_range {lo : Int} {n : Nat} {g : TG} {tt : TT} {te : TE} {vs : List Nat} (S : Hs H0 M H L) (R : Nat → List V → Led → Prop) (r0 : R 0 [] L)
    (hs : ∀ D i acc L' H', i < n → R i acc L' → H0 D = none → Hs H0 M H' ((D, .lst acc) :: L') → g (.int (lo + i)) (wipe σ vs) H' fun σ2 H2 => wipe σ2 vs = wipe σ vs ∧ tt σ2 H2 fun b H3 => if b = true then te σ2 H3 fun y H4 => lvPut H0 M (R (i + 1)) D y H4 else lvSkip H0 M (R (i + 1)) D H3)
    (hd : ∀ D acc L' H', R n acc L' → H0 D = none → Hs H0 M H' ((D, .lst acc) :: L') → Q (.ref D) H') : lcW (Itr lo n) g tt te vs σ H Q := by
  intro D hD
  have S1 := S.new hD (.lst [])
  refine lc_range (fun i H' => lvSkip H0 M (R i) D H') ⟨S1.1, [], L, r0, S1.2⟩ ?_ ?_
  · rintro i H' hi ⟨n0, acc, L', r, S'⟩
    exact hs D i acc L' H' hi r n0 S'
  · rintro H' ⟨n0, acc, L', r, S'⟩
    exact hd D acc L' H' r n0 S'
theorem lcv_list {a : Addr} {xs : List V} {g : TG} {tt : TT} {te : TE} {vs : List Nat} (S : Hs H0 M H L) (R : Nat → List V → Led → Prop) (r0 : R 0 [] L) (hl : ∀ i H' acc D L', R i acc L' → Hs H0 M H' ((D, .lst acc) :: L') → SqL K H' a xs)
    (hs : ∀ D i x acc L' H', xs[i]? = some x → R i acc L' → H0 D = none → Hs H0 M H' ((D, .lst acc) :: L') → g x (wipe σ vs) H' fun σ2 H2 => wipe σ2 vs = wipe σ vs ∧ tt σ2 H2 fun b H3 => if b = true then te σ2 H3 fun y H4 => lvPut H0 M (R (i + 1)) D y H4 else lvSkip H0 M (R (i + 1)) D H3)
    (hd : ∀ D acc L' H', R xs.length acc L' → H0 D = none → Hs H0 M H' ((D, .lst acc) :: L') → Q (.ref D) H') : lcW (Itl K a) g tt te vs σ H Q := by
  intro D hD
  have S1 := S.new hD (.lst [])
  refine lc_list (xs := xs) (fun i H' => lvSkip H0 M (R i) D H') ⟨S1.1, [], L, r0, S1.2⟩ (fun i H' _ ⟨_, acc, L', r, S'⟩ => hl i H' acc D L' r S') ?_ ?_
  · rintro i x H' hi ⟨n0, acc, L', r, S'⟩
    exact hs D i x acc L' H' hi r n0 S'
  · rintro H' ⟨n0, acc, L', r, S'⟩
    exact hd D acc L' H' r n0 S'
end
end Xg

/-! Xf1: functions held as values behind the end of the def that made them: their cells tracked -/
namespace Xf
open PySem PySem.Spec PySem.Calls PyProof.Rows L2 Rs NdefX
/-- a cell that holds v for good -/
def CellO (c : Addr) (v : V) : HO := .ext fun h => ∃ u, RelV v u ∧ h.IsCell c (some u)
theorem cellO_ok {P : Program} {w : World} {H : Hp} {h : Heap} {c : Addr} {v : V} {u : Value} (r : RelV v u) (e : h.IsCell c (some u)) : ObjOk P w H h c (CellO c v) := by
  obtain ⟨o, ho, hd⟩ := e
  exact ⟨⟨u, r, o, ho, hd⟩, ⟨o, ho⟩, fun h1 h2 ⟨u, r, o, ho, hd⟩ k => ⟨u, r, o, k o ho, hd⟩⟩
theorem cellO_at {P : Program} {w : World} {H : Hp} {h : Heap} {c : Addr} {v : V} (hok : HOk P w H h) (e : H c = some (CellO c v)) : ∃ u, RelV v u ∧ h.IsCell c (some u) := by
  obtain ⟨z, _, _⟩ := hok c _ e
  exact z
/-- cells: where, what -/
abbrev CL := List (Addr × V)
def hide (cs : CL) (H : Hp) : Hp := fun b => match cs.lookup b with
  | some _ => none
  | none => H b
def unhide (cs : CL) (H : Hp) : Hp := fun b => match cs.lookup b with
  | some v => some (CellO b v)
  | none => H b
/-- all are tracked -/
def Trk (cs : CL) (H : Hp) : Prop := ∀ b v, cs.lookup b = some v → H b = some (CellO b v)
section
variable {cs : CL} {H H' : Hp} {b : Addr} {v : V} {o : HO}
theorem hide_in (h : cs.lookup b = some v) : hide cs H b = none := by unfold hide; rw [h]
theorem hide_out (h : cs.lookup b = none) : hide cs H b = H b := by unfold hide; rw [h]
theorem unhide_in (h : cs.lookup b = some v) : unhide cs H b = some (CellO b v) := by unfold unhide; rw [h]
theorem unhide_out (h : cs.lookup b = none) : unhide cs H b = H b := by unfold unhide; rw [h]
theorem hide_none (h : H b = none) : hide cs H b = none := by
  unfold hide
  split
  · rfl
  · exact h
theorem hide_some (h : hide cs H b = some o) : cs.lookup b = none ∧ H b = some o := by
  unfold hide at h
  split at h
  · cases h
  · exact ⟨by assumption, h⟩
theorem Trk.out (t : Trk cs H) (h : H b = some o) (n : ∀ v, o ≠ CellO b v) : cs.lookup b = none := by
  cases e : cs.lookup b with
  | none => rfl
  | some v =>
    rw [t b v e] at h
    exact absurd (Option.some.inj h).symm (n v)
theorem Trk.none (t : Trk cs H) (h : H b = none) : cs.lookup b = none := by
  cases e : cs.lookup b with
  | none => rfl
  | some v => rw [t b v e] at h; cases h
theorem cell_tup {b : Addr} {v : V} {xs : List V} : HO.tup xs ≠ CellO b v := fun z => by cases z
theorem hide_hok {P : Program} {w : World} {h : Heap} (t : Trk cs H) (x : HOk P w H h) : HOk P w (hide cs H) h := fun a o e => by
  obtain ⟨_, e2⟩ := hide_some e
  refine (x a o e2).stay (fun b u _ q => q) (fun b q => ?_) fun b xs q => ?_
  · rw [hide_out (t.out q fun v z => by cases z)]; exact q
  · rw [hide_out (t.out q fun v => cell_tup)]; exact q
theorem unhide_hok {P : Program} {w : World} {h : Heap} (n : ∀ b v, cs.lookup b = some v → H b = Option.none) (c : ∀ b v, cs.lookup b = some v → ∃ u, RelV v u ∧ h.IsCell b (some u)) (x : HOk P w H h) : HOk P w (unhide cs H) h := fun a o e => by
  cases hl : cs.lookup a with
  | some v =>
    rw [unhide_in hl] at e
    cases e
    obtain ⟨u, r, q⟩ := c a v hl
    exact cellO_ok r q
  | none =>
    rw [unhide_out hl] at e
    have out : ∀ {b : Addr} {u : HO}, H b = some u → cs.lookup b = none := fun {b u} q => by
      cases z : cs.lookup b with
      | none => rfl
      | some v => rw [n b v z] at q; cases q
    exact (x a o e).stay (fun b u _ q => q) (fun b q => by rw [unhide_out (out q)]; exact q) fun b xs q => by rw [unhide_out (out q)]; exact q
theorem hide_un {fs ex : List Addr} {H0 : Hp} {h0 h : Heap} (t : Trk cs H) (u : Un fs ex H0 H h0 h) : Un fs ex H0 (hide cs H) h0 h where
  keep := u.keep
  slot := u.slot
  free := fun b o q n x => hide_none (u.free b o q n x)
  there := u.there
  tups := fun b xs q => by
    have z := u.tups b xs q
    rw [hide_out (t.out z fun v => cell_tup)]; exact z
  frzs := fun b o xs q => by
    have z := u.frzs b o xs q
    rw [hide_out (t.out z fun v e => by cases e)]; exact z
  tbls := fun b ps q => by
    obtain ⟨m, z⟩ := u.tbls b ps q
    exact ⟨m, by rw [hide_out (t.out z fun v e => by cases e)]; exact z⟩
/-- what a call made of the heap without the cells, told of the heap with them -/
theorem unhide_un {fs : List Addr} {h h' : Heap} (t : Trk cs H) (hf : ∀ b ∈ fs, H b = Option.none) (u : Un fs [] (hide cs H) H' h h') : Un fs [] H (unhide cs H') h h' where
  keep := fun b o q n => u.keep b o q (hide_none n)
  slot := fun b o q n => u.slot b o q (hide_none n)
  free := fun b o q n x => by rw [unhide_out (t.none n)]; exact u.free b o q (hide_none n) x
  there := u.there
  tups := fun b xs q => by
    have l := t.out q fun v => cell_tup
    rw [unhide_out l]
    exact u.tups b xs (by rw [hide_out l]; exact q)
  frzs := fun b o xs q => by
    have l := t.out q fun v e => by cases e
    rw [unhide_out l]
    exact u.frzs b o xs (by rw [hide_out l]; exact q)
  tbls := fun b ps q => by
    have l := t.out q fun v e => by cases e
    obtain ⟨m, z⟩ := u.tbls b ps (by rw [hide_out l]; exact q)
    exact ⟨m, by rw [unhide_out l]; exact z⟩
theorem unhide_ub {fs : List Addr} {h B h' : Heap} (t : Trk cs H) (u : UB fs (hide cs H) H' h B h') : UB fs H (unhide cs H') h B h' where
  keep := fun b o q n => u.keep b o q (hide_none n)
  slot := u.slot
  free := fun b o q n => by rw [unhide_out (t.none n)]; exact u.free b o q (hide_none n)
  there := u.there
  tups := fun b xs q => by
    have l := t.out q fun v => cell_tup
    rw [unhide_out l]
    exact u.tups b xs (by rw [hide_out l]; exact q)
  frzs := fun b o xs q => by
    have l := t.out q fun v e => by cases e
    rw [unhide_out l]
    exact u.frzs b o xs (by rw [hide_out l]; exact q)
  tbls := fun b ps q => by
    have l := t.out q fun v e => by cases e
    obtain ⟨m, z⟩ := u.tbls b ps (by rw [hide_out l]; exact q)
    exact ⟨m, by rw [unhide_out l]; exact z⟩
end
/-- nothing stands there -/
def Free (cs : CL) (H : Hp) : Prop := ∀ b v, cs.lookup b = some v → H b = none
/-- a wish, of the heap without the cells -/
def Qh (cs : CL) (Q : VK) : VK := fun v H' => Free cs H' → Q v (unhide cs H')
def Eh (cs : CL) (E : XK) : XK := fun c d H' => Free cs H' → E c d (unhide cs H')
section
variable {P : Program} {w : World} {outer : List Env} {cs : CL} {H : Hp} {s s' : Shared} {Q : VK} {E : XK} {u : Value}
theorem cells_kept {fs : List Addr} {h B : Heap} (t : Trk cs H) (hok : HOk P w H h) (hf : ∀ b ∈ fs, H b = none) (k : ∀ b o, h.get? b = some o → hide cs H b = none → b ∉ fs → B.get? b = some o) : ∀ b v, cs.lookup b = some v → ∃ u, RelV v u ∧ B.IsCell b (some u) := fun b v e => by
  obtain ⟨u, r, o, ho, hd⟩ := cellO_at hok (t b v e)
  exact ⟨u, r, o, k b o ho (hide_in e) (fun z => by have := hf b z; rw [t b v e] at this; cases this), hd⟩
theorem ce_unhide (t : Trk cs H) (hok : HOk P w H s.heap) (hf : ∀ b ∈ frs outer, H b = none) (h : CE outer P w (hide cs H) s (Qh cs Q) u s') : CE outer P w H s Q u s' := by
  obtain ⟨v, H', e1, e2, un, hok', r, q⟩ := h
  have ck := cells_kept (P := P) (w := w) t hok hf (fun b o q n nf => un.keep b o q n nf (by simp))
  have fr : Free cs H' := fun b v e => by
    obtain ⟨u, _, o, ho, _⟩ := cellO_at hok (t b v e)
    exact un.free b o ho (hide_in e) (by simp)
  exact ⟨v, unhide cs H', e1, e2, unhide_un t hf un, unhide_hok fr ck hok', r, q fr⟩
theorem cx_unhide (t : Trk cs H) (hok : HOk P w H s.heap) (hf : ∀ b ∈ frs outer, H b = none) (h : L2.CX P w outer (hide cs H) s (Eh cs E) u s') : L2.CX P w outer H s E u s' := by
  obtain ⟨a, B, H', cls, d, e0, fl, hok', ub, na, e1, e2, q⟩ := h
  have ck := cells_kept (P := P) (w := w) t hok hf (fun b o q n nf => ub.keep b o q n nf)
  have fr : Free cs H' := fun b v e => by
    obtain ⟨u, _, o, ho, _⟩ := cellO_at hok (t b v e)
    exact ub.free b o ho (hide_in e)
  refine ⟨a, B, unhide cs H', cls, d, e0, fl, unhide_hok fr ck hok', unhide_ub t ub, ?_, e1, e2, q fr⟩
  cases hl : cs.lookup a with
  | none => rw [unhide_out hl]; exact na
  | some v =>
    obtain ⟨u, _, o, ho, _⟩ := ck a v hl
    have z := fl.2.1
    rw [ho] at z; cases z
end
end Xf

/-! Xh1: lambdas with parameters as values: made, tracked, called -/
namespace Xh
open PySem PySem.Spec PySem.Calls PyProof.Rows L2 LamX NdefX
/-- a lambda's words, its cells, its code object -/
structure LF where
  qual : Str
  params : Arguments
  body : Expr
  scope : Scope
  cl : List (Str × Addr)
  c : Addr
abbrev LF.fd (F : LF) (pm ctv : Value) : FuncData := PySem.W.kla_fn "<lambda>" F.qual F.params F.body F.scope F.cl pm (.ref F.c) ctv
abbrev LF.nf (F : LF) : NF := ⟨"<lambda>", F.qual, F.params, [], F.scope, F.cl, F.c⟩
/-- the object at f is the lambda F -/
def LamO (f : Addr) (F : LF) : HO := .ext fun h => ∃ (pm ctv : Value), h.get? f = some (PySem.W.kla_obj "<lambda>" F.qual F.params F.body F.scope F.cl pm F.c ctv)
theorem lamO_ne {f : Addr} {F : LF} (ps : Array Value) : LamO f F ≠ .tbl ps := fun z => by
  unfold LamO at z
  cases z
theorem lamO_at {P : Program} {w : World} {H : Hp} {h : Heap} {f : Addr} {F : LF} (hok : HOk P w H h) (e : H f = some (LamO f F)) : ∃ (pm ctv : Value), h.get? f = some (PySem.W.kla_obj "<lambda>" F.qual F.params F.body F.scope F.cl pm F.c ctv) := by
  obtain ⟨z, _, _⟩ := hok f _ e
  exact z
section
variable {X : Cx} {pins : List (Addr × Obj)} {σ : L2.St} {H : Hp} {s : Shared}
theorem inv_lam {F : LF} {h' : Heap} {t' : Nat} {pm ctv : Value} (I : Inv X pins σ H { s with heap := h', toks := t' }) :
    Inv X pins σ (upd H h'.objs.size (LamO h'.objs.size F)) { s with heap := h'.push (PySem.W.kla_obj "<lambda>" F.qual F.params F.body F.scope F.cl pm F.c ctv), toks := t' } := by
  refine I.laid (s := { s with heap := h', toks := t' }) (a := h'.objs.size) (fun b u e => Heap.get?_push_of_some _ e) (Nat.le_refl _) ?_
  have e : (h'.push (PySem.W.kla_obj "<lambda>" F.qual F.params F.body F.scope F.cl pm F.c ctv)).get? h'.objs.size = some (PySem.W.kla_obj "<lambda>" F.qual F.params F.body F.scope F.cl pm F.c ctv) := Heap.get?_push_size _ rfl
  exact ⟨⟨pm, ctv, e⟩, ⟨_, e⟩, fun h1 h2 ⟨p, t, z⟩ st => ⟨p, t, st _ z⟩⟩
/-- tables that got one more code object at P -/
theorem tabs_grow {T : List (Addr × Str)} {H G : Hp} {P ca : Addr} {q : Str} {ps : Array Value} {at_ : Pos} (hT : Tabs T H) (same : ∀ r ∈ T, r.1 = P → r.2 = q) (was : H P = some (.tbl ps)) (now : G P = some (.tbl (ps ++ #[rawInt at_.line, rawInt at_.col, .ref ca]))) (code : G ca = some (CodeO ca q))
    (rest : ∀ b o, b ≠ P → H b = some o → G b = some o) : Tabs T G := by
  have codes : ∀ {x : Addr} {y : Str}, H x = some (CodeO x y) → G x = some (CodeO x y) := fun {x y} w => rest x _ (fun z => by
    rw [z, was] at w
    exact codeO_ne ps (Option.some.inj w).symm) w
  intro r hr
  obtain ⟨qs, w1, w2, w3⟩ := hT r hr
  rcases Decidable.em (r.1 = P) with y | y
  · rw [y, was] at w1
    cases w1
    refine ⟨_, by rw [y]; exact now, ?_, fun where_ val found => ?_⟩
    · rw [Array.toList_append]
      exact PySem.TriplesOk_snoc _ _ _ _ w2
    · rw [Array.toList_append] at found
      rcases among_app _ w2 found with old | new_
      · obtain ⟨x, v1, v2⟩ := w3 where_ val old
        exact ⟨x, v1, codes v2⟩
      · exact ⟨ca, new_, by rw [same r hr y]; exact code⟩
  · exact ⟨qs, rest _ _ y w1, w2, fun where_ val found => (w3 where_ val found).imp fun x v => ⟨v.1, codes v.2⟩⟩
/-- a lambda is evaluated: a function object that was not there, its code object new or told by the table -/
theorem lamv_make {T : List (Addr × Str)} {c P : Addr} {ar : Arguments} {bd : Expr} {sco : Scope} {at_ : Pos} {E Q : Value → Shared → Prop} (I : Inv X pins σ H s) (TB : TabB X.base X.mg c P) (own : X.env.code = .ref c) (nodef : defaultsOf ar X.env = ([], []))
    (mine : (P, X.env.qual ++ "<lambda>") ∈ T) (same : ∀ r ∈ T, r.1 = P → r.2 = X.env.qual ++ "<lambda>") (hT : Tabs T H) (held : ∀ y ∈ sco.names, y.2 = .free → ∃ a, X.env.cells.lookup y.1 = some a)
    (go : ∀ (f ca : Addr) (G : Hp) (s' : Shared), Inv X pins σ G s' → ExtN H G → (∀ b, G b = Option.none → H b = Option.none) → Tabs T G → H f = none →
      G f = some (LamO f ⟨X.env.qual ++ "<lambda>", ar, bd, sco, cloFrom X.env.cells sco.names [], ca⟩) → G ca = some (CodeO ca (X.env.qual ++ "<lambda>")) → Q (.ref f) s') :
    wpAny (model X.prog X.w) X.A (eval (.Lambda ar bd sco at_) X.env) Q E s := by
  obtain ⟨qs, was, w2, w3⟩ := hT _ mine
  have stands : s.heap.get? P = some { cls := .none, data := .fields qs } := I.hok P _ was
  refine PySem.W.kla_eval nodef ?_
  rcases found : codeAmong at_ qs.toList with _ | val
  · refine PySem.W.kla_makeFunction (mg := X.mg) (c := c) (P := P) (ps := qs) (closure_ok held) I.ok.glob (I.mod.glob.keeps I.bk) own (TB.code.keeps I.bk) stands w2 found TB.gP (TB.bm.keeps I.bk) fun ca ctv hp tk kept ge lt rcd tab => ?_
    obtain ⟨wh, oc, vs, t, r0, r1, r2, r3⟩ := rcd
    cases r0
    have noC : H ca = none := I.hok.fresh ge
    have J := inv_table (t' := tk) (more := #[rawInt at_.line, rawInt at_.col, .ref ca]) (h' := hp) I was (fun b o n e => kept b o n e) tab ge ⟨oc, vs, t, r1, r2, r3⟩
    have noF := J.hok.fresh (Nat.le_refl hp.objs.size)
    have nPC : P ≠ ca := ne_of_none was noC
    have rest : ∀ b o, b ≠ P → H b = some o → upd (upd (upd H P (.tbl (qs ++ #[rawInt at_.line, rawInt at_.col, .ref ca]))) ca (CodeO ca (X.env.qual ++ "<lambda>"))) hp.objs.size (LamO hp.objs.size ⟨X.env.qual ++ "<lambda>", ar, bd, sco, cloFrom X.env.cells sco.names [], ca⟩) b = some o := fun b o n e => by
      have e2 : upd (upd H P (.tbl (qs ++ #[rawInt at_.line, rawInt at_.col, .ref ca]))) ca (CodeO ca (X.env.qual ++ "<lambda>")) b = some o := by rw [upd_ne (ne_of_none e noC), upd_ne n]; exact e
      rw [upd_ne (ne_of_none e2 noF)]; exact e2
    have atC : upd (upd (upd H P (.tbl (qs ++ #[rawInt at_.line, rawInt at_.col, .ref ca]))) ca (CodeO ca (X.env.qual ++ "<lambda>"))) hp.objs.size (LamO hp.objs.size ⟨X.env.qual ++ "<lambda>", ar, bd, sco, cloFrom X.env.cells sco.names [], ca⟩) ca = some (CodeO ca (X.env.qual ++ "<lambda>")) := by rw [upd_ne (Nat.ne_of_lt lt), upd_same]
    have atP : upd (upd (upd H P (.tbl (qs ++ #[rawInt at_.line, rawInt at_.col, .ref ca]))) ca (CodeO ca (X.env.qual ++ "<lambda>"))) hp.objs.size (LamO hp.objs.size ⟨X.env.qual ++ "<lambda>", ar, bd, sco, cloFrom X.env.cells sco.names [], ca⟩) P = some (.tbl (qs ++ #[rawInt at_.line, rawInt at_.col, .ref ca])) := by
      have e2 : upd (upd H P (.tbl (qs ++ #[rawInt at_.line, rawInt at_.col, .ref ca]))) ca (CodeO ca (X.env.qual ++ "<lambda>")) P = some (.tbl (qs ++ #[rawInt at_.line, rawInt at_.col, .ref ca])) := by rw [upd_ne nPC, upd_same]
      rw [upd_ne (ne_of_none e2 noF)]; exact e2
    exact go hp.objs.size ca _ _ (inv_lam (pm := (X.mg "__name__").getD .none) (ctv := ctv) J) (fun b o e n => rest b o (fun z => by
      rw [z, was] at e
      exact n qs (Option.some.inj e).symm) e) (fun b e => upd_none (upd_none (upd_none e))) (tabs_grow hT same was atP atC rest) (I.hok.fresh (Nat.le_trans ge (Nat.le_of_lt lt))) upd_same atC
  · obtain ⟨ca, rfl, told⟩ := w3 at_ val found
    refine PySem.W.kla_makeFunctionHit (mg := X.mg) (c := c) (P := P) (ps := qs) (closure_ok held) I.ok.glob (I.mod.glob.keeps I.bk) own (TB.code.keeps I.bk) stands w2 found (TB.bm.keeps I.bk) fun ctv hp tk kept sz => ?_
    have J : Inv X pins σ H { s with heap := hp, toks := tk } := I.kept kept
    have noF := J.hok.fresh (Nat.le_refl hp.objs.size)
    have all : ∀ b o, H b = some o → upd H hp.objs.size (LamO hp.objs.size ⟨X.env.qual ++ "<lambda>", ar, bd, sco, cloFrom X.env.cells sco.names [], ca⟩) b = some o := fun b o e => by rw [upd_ne (ne_of_none e noF)]; exact e
    exact go hp.objs.size ca _ _ (inv_lam (pm := (X.mg "__name__").getD .none) (ctv := ctv) J) (fun b o e _ => all b o e) (fun b e => upd_none e) (hT.ext all) noF upd_same (all _ _ told)
end
/-! ### the expression -/
/-- the reading of «lambda ..: ..»: a new function object -/
def tLamV (T : List (Addr × Str)) (mk : Addr → LF) : TE := fun σ H Q => Tabs T H ∧ ∀ (f c' : Addr) (H1 : Hp), ExtN H H1 → (∀ b, H1 b = Option.none → H b = Option.none) → Tabs T H1 → H f = none → H1 f = some (LamO f (mk c')) → H1 c' = some (CodeO c' (mk c').qual) → Q (.ref f) H1
theorem pe_lamv {X : Cx} {T : List (Addr × Str)} {c P : Addr} {params : Arguments} {body : Expr} {scope : Scope} {pos : Pos} (TB : TabB X.base X.mg c P) (hcode : X.env.code = .ref c) (hm : (P, X.env.qual ++ "<lambda>") ∈ T) (hu : ∀ p ∈ T, p.1 = P → p.2 = X.env.qual ++ "<lambda>")
    (hdef : defaultsOf params X.env = ([], [])) (hfree : ∀ y ∈ scope.names, y.2 = .free → X.env.scope.names.lookup y.1 = some .cell ∨ X.env.scope.names.lookup y.1 = some .free) :
    PE X (.Lambda params body scope pos) (tLamV T fun c' => ⟨X.env.qual ++ "<lambda>", params, body, scope, cloFrom X.env.cells scope.names [], c'⟩) := by
  refine ⟨fun pins s σ H Q I h => ?_⟩
  obtain ⟨hT, h⟩ := h
  refine lamv_make I TB hcode hdef hm hu hT (fun y hy e => (hfree y hy e).elim (fun z => I.ok.has _ (.inl z)) fun z => I.ok.has _ (.inr z)) fun f c' H1 s' I1 eN nn T1 f0 f1 c1 => ?_
  exact ⟨.ref f, H1, I1, rfl, h f c' H1 eN nn T1 f0 f1 c1⟩
/-! ### calls of function values -/
/-- what a call of the function at f, of these things, with this heap, keeps -/
def CallsTo (P : Program) (w : World) (K : PySem.W.Frag) (mg : Str → Option Value) (base : Heap) (CX : CXT) (k : Nat) (f : Addr) (H : Hp) (vs : List V) (Q : VK) (E : XK) : Prop :=
  ∀ (A : Around) (outer : List Env) (s : Shared) (us : List Value), Room k A → Env0 P w K mg base A outer s H → Vals vs us → PySem.W.FnAt f s.heap ∧ codeAny (model P w) A (.call (.ref f) ⟨us, []⟩) (CR CX outer P w H s Q E) s
section
variable {CX : CXT} {P : Program} {w : World} {K : PySem.W.Frag} {mg : Str → Option Value} {base : Heap} {N ps : List Str} {F : LF} {f : Addr} {k j : Nat}
/-- a lambda that captures nothing -/
theorem calls_lam {H : Hp} {vs : List V} {Q : VK} {E : XK} {t : TE} (S : NScope N ps [] F.scope) (hcl : F.cl = []) (hb : ∀ (pm ctv : Value) (us : List Value), us.length = ps.length → bindArgs (F.fd pm ctv) ⟨us, []⟩ = pure (ps.zip us)) (hl : vs.length = ps.length)
    (hf : H f = some (LamO f F)) (hc : H F.c = some (CodeO F.c F.qual))
    (hbody : ∀ (A : Around) (outer : List Env) (s : Shared), Room k (A.deeper (envF F.nf f s.heap.objs.size)) → PE (ncx CX P w K mg base N F.nf f A outer s H E) F.body t) (hq : t (startF N vs []) H Q) :
    CallsTo P w K mg base CX (k + 1) f H vs Q E := by
  refine fun A outer s us hr e0 r => ?_
  have unlim : s.heap.NoLimit := e0.mod.nolimit.keeps fun x y z => (e0.bs x y z).1
  obtain ⟨pm, ctv, ho⟩ := lamO_at e0.hok hf
  refine ⟨⟨_, _, _, _, ho⟩, ?_⟩
  refine PySem.W.kla_callFunE hr.depth ho rfl S.co S.gen rfl (codeO_at e0.hok hc) ?_
  rw [hb pm ctv us (by rw [← r.length]; exact hl)]
  refine wpAny_pure (wpAny_newFunctionEnv S.nocell (fun y hy => S.par y.1 (List.of_mem_zip hy).1) (fun hn frm grown => ⟨unlim.fresh _ grown, ?_⟩) S.kind)
  show codeAny _ _ (.expr F.body (envF F.nf f s.heap.objs.size)) _ _
  have still : ∀ x y, s.heap.get? x = some y → hn.get? x = some y := fun x y z => grown.extBut x y (Nat.ne_of_lt (Heap.lt_size z)) (Heap.get?_push_of_some _ z)
  have C : CellsAt F.nf.cl [] [] s.heap H := by
    refine ⟨rfl, fun y c e => ?_, fun x y c e _ => ?_, fun i y e => by simp at e⟩
    · rw [show F.nf.cl = [] from hcl] at e; cases e
    · rw [show F.nf.cl = [] from hcl] at e; cases e
  have I : Inv (ncx CX P w K mg base N F.nf f A outer s H E) [] (startF N vs []) H { s with heap := hn, toks := s.toks + (ps.zip us).length } := inv_startN S hr.hd e0 hl r C frm still
  refine PySem.W.kla_codeExpr (wpAny_mono ((hbody A outer s (hr.deeper _)).run [] _ (startF N vs []) H Q I hq) (fun v s' hq => ?_) fun e s' hq => hq)
  obtain ⟨w', H', J, rv, q⟩ := hq
  exact ⟨w', H', J.os, J.bare, J.base, J.hok, rv, q⟩
end
/-- the object at f is known to be a function -/
def IsFn (f : Addr) (H : Hp) : Prop := ∀ (P : Program) (w : World) (h : Heap), HOk P w H h → PySem.W.FnAt f h
theorem isFn_lam {f : Addr} {F : LF} {H : Hp} (e : H f = some (LamO f F)) : IsFn f H := fun P w h hok => by
  obtain ⟨pm, ctv, ho⟩ := lamO_at hok e
  exact ⟨_, _, _, _, ho⟩
/-- o.m(..), m a field that holds a function -/
def tCallF (X : Cx) (CX : CXT) (k : Nat) (m : Str) (te : TE) (ta : TA) (E : XK) : TE := fun σ H Q => te σ H fun x H1 => ∃ a C dx fs f, x = .ref a ∧ H1 a = some (.ins C dx fs) ∧ Cls X.K C ∧ NoAttr X.K C m ∧ fs.lookup m = some (.ref f) ∧ IsFn f H1 ∧
  ta σ H1 fun vs H2 => CallsTo X.prog X.w X.K X.mg X.base CX k f H2 vs Q E
section
variable {X : Cx} {CX : CXT} {k j : Nat} {m : Str} {E : XK} {te : TE} {ta : TA} {o e : Expr} {es : List Expr} {apos pos : Pos}
theorem getfn_ok {H : Hp} {σ : L2.St} {s : Shared} {pins : List (Addr × Obj)} {a C dx : Addr} {fs : List (Str × V)} {v : V} {pl : Sem Bool} {Q : Value × List Value → Shared → Prop} (I : Inv X pins σ H s) (e : H a = some (.ins C dx fs)) (c : Cls X.K C) (n : NoAttr X.K C m) (l : fs.lookup m = some v)
    (h : ∀ u s', Inv X pins σ H s' → RelV v u → Q (u, []) s') : wpAny (model X.prog X.w) X.A (getMethod (.ref a) m pl) Q X.xe s := by
  obtain ⟨mm, ob, rr, _⟩ := ins_get I.hok e
  obtain ⟨u, hu, ru⟩ := RelO.some_of (v := v) (o := mm m) (by rw [← l]; exact rr m)
  obtain ⟨od, J, hl⟩ := ob.look
  refine PySem.W.method_usual (r := none) I.kIn J (PySem.W.plainGet_of (c.get m)).1 (PySem.W.plainGet_of (c.get m)).2 n rfl ?_
  exact get_map I.kIn ob (c.get m) c.hd n hu (handed_of ru) (h u _ (I.tok _) ru)
theorem pe_callF {pl : Sem Bool} (he : PE X o te) (ha : PA X (e :: es) ta) (hr : Room j X.A) (hk : k ≤ j) (hx : Passes CX X E)
    (ht : eval (.Call (.Attribute o m apos) (e :: es) [] pos) X.env = (do let recv ← eval o X.env; standAt apos.atName; let (fn_, first_) ← holding [recv] (getMethod recv m pl); callWith pos fn_ first_ (backTo pos (starEach (e :: es) X.env)) (backToKw pos (keywordEach [] X.env))) := by rfl)
    (hs : starEach (e :: es) X.env = (false, eval e X.env) :: starEach es X.env := by rfl) (hpl : (backTo pos (starEach es X.env)).any (·.1) = false := by rfl) :
    PE X (.Call (.Attribute o m apos) (e :: es) [] pos) (tCallF X CX k m te ta E) := by
  refine ⟨fun pins s σ H Q I h => ?_⟩
  refine PySem.W.methodCall_KW (pl := pl) (thn (he.run pins s σ H _ I h) fun u s1 ⟨x, H1, I1, rx, a, C, dx, fs, f, ex, ea, c, n, l, hfn, q⟩ => ?_) ht
  subst ex
  cases (show u = Value.ref a from rx)
  refine getfn_ok I1 ea c n l fun u2 s2 I2 ru => ?_
  obtain rfl : u2 = Value.ref f := ru
  show wpAny _ _ (callWith pos (.ref f) [] (backTo pos (starEach (e :: es) X.env)) []) _ _ s2
  refine PySem.W.callWith_F (first := []) (hfn _ _ _ I2.hok) ?_ hs hpl
  refine thn (ha.run pos pins s2 σ H1 _ I2 q) fun us s3 ⟨vs, H2, I3, r, q3⟩ => ?_
  obtain ⟨z1, z2⟩ := q3 X.A X.stack s3 us (hr.mono hk) I3.env0 r
  refine ⟨z1, wpAny_call (codeAny_mono z2 fun r s' hq => ?_)⟩
  cases r with
  | error e => exact hx pins σ H2 s3 e s' I3 hq
  | ok fl =>
    cases fl with
    | ret u => exact I3.after hq
    | next => exact False.elim hq
    | brk => exact False.elim hq
    | cont => exact False.elim hq
end
end Xh

/-! Xh2: defs with defaults of both kinds -/
namespace Xh
open PySem PySem.Spec PySem.Calls PyProof.Rows L2 Rs
structure CalDD (K : PySem.W.Frag) (mg : Str → Option Value) (x : Str) (st : Stmt) (dvs : List V) (kws : List (Str × V)) (f : Addr) (fd : FuncData) : Prop where
  F : FunD K x x (defArgs st) (defBody st) (defScope st) dvs kws f fd
  m : mg x = some (.ref f)
section
variable {σ : L2.St} {H H0 : Hp} {M : List Addr} {L L' : Led} {Q : VK} {te : TE} {ta : TA} {a : Addr}
theorem rd_callF {X : Cx} {CX : CXT} {k : Nat} {m : Str} {E : XK} (h : te σ H fun x H1 => ∃ a C dx fs f, x = .ref a ∧ H1 a = some (.ins C dx fs) ∧ Cls X.K C ∧ NoAttr X.K C m ∧ fs.lookup m = some (.ref f) ∧ IsFn f H1 ∧
  ta σ H1 fun vs H2 => CallsTo X.prog X.w X.K X.mg X.base CX k f H2 vs Q E) : tCallF X CX k m te ta E σ H Q := h
theorem rd_callFV {K : PySem.W.Frag} {m : Str} {C dx f : Addr} {fs : List (Str × V)} {R : Addr → Prop} (S : Hs H0 M H L) (hm : (a, HO.ins C dx fs) ∈ L) (c : Cls K C) (n : NoAttr K C m) (e : fs.lookup m = some (.ref f)) (hf : IsFn f H) (h : R f) :
    ∃ a' C dx fs f, V.ref a = .ref a' ∧ H a' = some (.ins C dx fs) ∧ Cls K C ∧ NoAttr K C m ∧ fs.lookup m = some (.ref f) ∧ IsFn f H ∧ R f := ⟨a, C, dx, fs, f, rfl, S.is _ hm, c, n, e, hf, h⟩
end
end Xh

/-! Xh3: repr of a list of things, some of them pairs (text, thing) -/
namespace Xh
open PySem PySem.Spec PySem.Calls PyProof.Rows L2 Rs Xc
inductive Tp (K : PySem.W.Frag) (H : Hp) : V → PyData → Prop where
  | tz {v : V} {d : PyData} (h : Tz K H v d) : Tp K H v d
  | pr {p : Addr} {t : Str} {v : V} {d : PyData} (h : SqT K H p [.str t, v]) (q : Tz K H v d) : Tp K H (.ref p) (.tuple [.str t, d])
inductive TpA (K : PySem.W.Frag) (H : Hp) : List V → List PyData → Prop where
  | nil : TpA K H [] []
  | cons {v : V} {d : PyData} {vs : List V} {ds : List PyData} : Tp K H v d → TpA K H vs ds → TpA K H (v :: vs) (d :: ds)
def rReprP (K : PySem.W.Frag) : List V → Hp → VK → Prop := fun xs H Q => ∃ (p : Addr) (vs : List V) (ds : List PyData), xs = [.ref p] ∧ SqL K H p vs ∧ TpA K H vs ds ∧ vs ≠ [] ∧ (PyData.list ds).shown.length ≤ sizeLine ∧ PyData.depthAll ds ≤ 30 ∧ Q (.str (PyData.list ds).shown) H
section
variable {X : Cx} {pins : List (Addr × Obj)} {σ : L2.St} {H : Hp} {s : Shared}
theorem tz_shows (I : Inv X pins σ H s) (st : Stat X.K) {n : Nat} {v : V} {d : PyData} {u : Value} (h : Tz X.K H v d) (r : RelV v u) (hz : d.shown.length ≤ sizeLine) (hd : d.depth ≤ n) :
    ∃ bs, ReadAtMost s.heap d.depth bs ∧ ReprK X.prog X.w bs s.heap n u d.shown := by
  cases h with
  | dp h sw =>
    obtain ⟨as, q⟩ := Dp.reads I d v u h r
    obtain ⟨bs, h1, h2⟩ := ReprK.of_reads (prog := X.prog) (w := X.w) q sw (PyData.noDict_hsm (dp_noDict d v h)) hz
    exact ⟨bs, h1, h2.level_le hd⟩
  | @dk a kv kds h p sw =>
    cases (show u = Value.ref a from r)
    obtain ⟨_, ns, vs, kv', o, es, ep, e1, e2, e3, _, e5, _⟩ := dk_of I.hok h
    obtain ⟨r1, r2⟩ := plKv_reads (h := s.heap) p kv' e5
    have q : Reads s.heap (.ref a) (.dict kds) ([a] ++ [] ++ []) := Reads.dict (as := []) (bs := []) e1 e2.1 e3 r1 r2
    obtain ⟨bs, h1, h2⟩ := ReprK.of_reads (prog := X.prog) (w := X.w) q sw (fun _ hm => by
      have z : sysModules = a := by simpa using hm
      rw [z] at ns
      simp at ns) hz
    exact ⟨bs, h1, h2.level_le hd⟩
  | @big i f =>
    obtain ⟨tk, rfl⟩ := (show ∃ tk, u = Value.int i tk from r)
    exact ⟨[], fun _ h => (nomatch h), by simp only [PyData.shown]; exact reprK_big I.kIn st f⟩
theorem Tp.reads (I : Inv X pins σ H s) {v : V} {d : PyData} {u : Value} (h : Tp X.K H v d) (r : RelV v u) : ∃ as, Reads s.heap u d as := by
  cases h with
  | tz h => exact h.reads I r
  | @pr p t v d h q =>
    cases (show u = Value.ref p from r)
    obtain ⟨its, rv, ⟨o, ho, hc, n, hd⟩, _⟩ := I.tuple h
    obtain ⟨u1, u2, rfl, q1, q2⟩ := vals2 rv
    obtain ⟨tk, rfl⟩ := (show ∃ tk, u1 = Value.str t tk from q1)
    obtain ⟨as, rd⟩ := q.reads I q2
    exact ⟨_, Reads.tuple ho hc hd (.cons (.str t tk) (.cons rd .nil))⟩
theorem Tp.shows (I : Inv X pins σ H s) (st : Stat X.K) {n : Nat} {v : V} {d : PyData} {u : Value} (h : Tp X.K H v d) (r : RelV v u) (hz : d.shown.length ≤ sizeLine) (hd : d.depth ≤ n) :
    ∃ bs, ReadAtMost s.heap d.depth bs ∧ ReprK X.prog X.w bs s.heap n u d.shown := by
  cases h with
  | tz h => exact tz_shows I st h r hz hd
  | @pr p t v d h q =>
    have hrd := Tp.reads I (.pr h q) r
    obtain ⟨as, rdp⟩ := hrd
    cases (show u = Value.ref p from r)
    obtain ⟨its, rv, ⟨o, ho, hc, n2, hdt⟩, _⟩ := I.tuple h
    obtain ⟨u1, u2, rfl, q1, q2⟩ := vals2 rv
    obtain ⟨tk, rfl⟩ := (show ∃ tk, u1 = Value.str t tk from q1)
    have es : (PyData.tuple [.str t, d]).shown = tupleText [reprText t, d.shown] := by simp [PyData.shown, PyData.shownAll]
    rw [es] at hz ⊢
    have z1 := Nat.le_trans (tupleText_mem_le (ts := [reprText t, d.shown]) (t := reprText t) (by simp)) hz
    have z2 := Nat.le_trans (tupleText_mem_le (ts := [reprText t, d.shown]) (t := d.shown) (by simp)) hz
    have ed : (PyData.tuple [.str t, d]).depth = d.depth + 1 := by
      simp only [PyData.depth, PyData.depthAll]; omega
    rw [ed] at hd
    obtain ⟨m, rfl⟩ : ∃ m, n = m + 1 := ⟨n - 1, by omega⟩
    obtain ⟨bs, hb, rk⟩ := tz_shows I st (n := m) q q2 z2 (by omega)
    have hall : ReprAllK X.prog X.w bs s.heap m [.str t tk, u2] [reprText t, d.shown] := .cons (ReprK.of_is (ReprIs.str t tk z1) _ _ _) (.cons rk .nil)
    have hna : p ∉ bs := not_mem_of_deeper rdp (by rw [ed]; omega) hb
    refine ⟨p :: bs, ReadAtMost.cons rdp (Nat.le_refl _) (hb.mono (by rw [ed]; omega)), ?_⟩
    exact ReprK.tuple ho hc hdt hna hall
theorem TpA.reads (I : Inv X pins σ H s) : ∀ {vs : List V} {ds : List PyData} {us : List Value}, TpA X.K H vs ds → Vals vs us → ∃ as, ReadsAll s.heap us ds as
  | _, _, _, .nil, .nil => ⟨_, .nil⟩
  | _, _, _, .cons h t, .cons r q => by
    obtain ⟨a, h1⟩ := h.reads I r
    obtain ⟨b, h2⟩ := TpA.reads I t q
    exact ⟨_, .cons h1 h2⟩
theorem TpA.shows (I : Inv X pins σ H s) (st : Stat X.K) {n : Nat} (hn : n ≤ 50) : ∀ {vs : List V} {ds : List PyData} {us : List Value}, TpA X.K H vs ds → Vals vs us → (∀ d ∈ ds, d.shown.length ≤ sizeLine) → PyData.depthAll ds ≤ n →
    ∃ bs, ReadAtMost s.heap n bs ∧ ReprAllK X.prog X.w bs s.heap 50 us (PyData.shownAll ds)
  | _, _, _, .nil, .nil, _, _ => ⟨[], fun _ h => (nomatch h), by simp only [PyData.shownAll]; exact .nil⟩
  | _, _, _, .cons (d := d) h t, .cons r q, hz, hd => by
    simp only [PyData.depthAll] at hd
    obtain ⟨b1, m1, k1⟩ := h.shows I st (n := 50) r (hz d List.mem_cons_self) (by omega)
    obtain ⟨b2, m2, k2⟩ := TpA.shows I st hn t q (fun d hm => hz d (List.mem_cons_of_mem _ hm)) (by omega)
    refine ⟨b1 ++ b2, fun b hb => ?_, by
      simp only [PyData.shownAll]
      exact .cons (ReprK.more k1 fun b z => List.mem_append_left _ z) (k2.more_le (fun b z => List.mem_append_right _ z) (Nat.le_refl _))⟩
    rcases List.mem_append.mp hb with z | z
    · obtain ⟨d', as', r', hd'⟩ := m1 b z
      exact ⟨d', as', r', by omega⟩
    · exact m2 b z
theorem call_reprPs {k : Nat} (st : Stat X.K) (c : Clr X.A) (hr : Room k X.A) : CallR X (.builtin "repr") (rReprP X.K) := by
  intro pins s σ H xs us Q I r h
  obtain ⟨p, vs, ds, rfl, hs, hq, hne, sw, dp, q⟩ := h
  cases r with
  | cons r1 r2 =>
    cases r2
    rename_i u
    cases (show u = Value.ref p from r1)
    obtain ⟨its, rv, ⟨o, n, ho, hc, hdn, hd⟩, hlen⟩ := I.list hs
    have un := hr.units
    obtain ⟨as, rd⟩ := hq.reads I rv
    have sz : ∀ d ∈ ds, d.shown.length ≤ sizeLine := fun d hm => by
      have z := listText_mem_le (ts := PyData.shownAll ds) (shown_of hm)
      simp only [PyData.shown] at sw
      omega
    obtain ⟨bs, hb, rk⟩ := hq.shows (n := PyData.depthAll ds) I st (by omega) rv sz (Nat.le_refl _)
    have own : Reads s.heap (.ref p) (.list ds) (p :: as) := Reads.list ho hc hd (by simpa using rd)
    have hna : p ∉ bs := fun hm => by
      obtain ⟨d', as', r', hd'⟩ := hb p hm
      have e := (PyProof.Rows.reads_det (fun _ _ e _ => e) own r').1
      rw [e] at hd'
      simp only [PyData.depth] at hd'
      omega
    cases its with
    | nil =>
      have := rv.length
      simp at this
      exact absurd this hne
    | cons y ys =>
      simp only [PyData.shown] at sw q
      refine call_repr_slot (by omega) ⟨o, ho, hc⟩ F.slot_list_repr.toG ?_
      exact call_list_reprK ho hc (by simpa using hd) hna (by rw [rk.length_eq]; simp) (fun i z e => rk.item i z (by simpa using e)) c (fun b _ => Clear.nil b) (by show X.A.units + 1 + (50 + 1) < cLine; omega) (fun _ _ e => e) (fun h' t2 tk2 kp => ⟨_, _, rfl, ⟨.str _, H, I.kept kp, ⟨t2, rfl⟩, q⟩⟩) sw
end
end Xh

/-! Xh4: comprehensions over enumerate of a list whose steps change the ledger; lambdas as values in the readings -/
namespace Xh
open PySem PySem.Spec PySem.Calls PyProof.Rows L2 Rs Xg
section
variable {K : PySem.W.Frag} {H H0 : Hp} {M : List Addr} {L : Led} {σ : L2.St} {a : Addr} {Q : VK}
theorem lcv_enum {xs : List V} {g : TG} {tt : TT} {te : TE} {vs : List Nat} (S : Hs H0 M H L) (R : Nat → List V → Led → Prop) (r0 : R 0 [] L) (hl : ∀ i H' acc D L', R i acc L' → Hs H0 M H' ((D, .lst acc) :: L') → SqL K H' a xs)
    (hs : ∀ D i x acc L' H' T, xs[i]? = some x → R i acc L' → H0 D = none → Hs H0 M H' ((D, .lst acc) :: L') → H' T = none → g (.ref T) (wipe σ vs) (upd H' T (.tup [.int (i : Nat), x])) fun σ2 H2 => wipe σ2 vs = wipe σ vs ∧ tt σ2 H2 fun b H3 => if b = true then te σ2 H3 fun y H4 => lvPut H0 M (R (i + 1)) D y H4 else lvSkip H0 M (R (i + 1)) D H3)
    (hd : ∀ D acc L' H', R xs.length acc L' → H0 D = none → Hs H0 M H' ((D, .lst acc) :: L') → Q (.ref D) H') : lcW (Ite K a) g tt te vs σ H Q := by
  intro D hD
  have S1 := S.new hD (.lst [])
  refine lc_it walk_enum (fun i H' => lvSkip H0 M (R i) D H') ⟨S1.1, [], L, r0, S1.2⟩ (fun i H' _ ⟨_, acc, L', r, S'⟩ => hl i H' acc D L' r S') ?_ ?_
  · rintro i x H1 H2 hi ⟨n0, acc, L', r, S'⟩ ⟨T, y, z, rfl, hT, rfl, e1, e2⟩
    cases e1
    exact hs D i z acc L' H1 T e2 r n0 S' hT
  · rintro H' ⟨n0, acc, L', r, S'⟩
    exact hd D acc L' H' r n0 S'
end
end Xh

/-! Xh5: a nested def as a value, called behind the end of its maker: its cells are tracked -/
namespace Xh
open PySem PySem.Spec PySem.Calls PyProof.Rows L2 LamX NdefX Xf
/-- the cells of cl are those of cs; ws: what the names fr stand for -/
structure ClAt (cl : List (Str × Addr)) (fr : List Str) (ws : List (Option V)) (cs : CL) : Prop where
  len : ws.length = fr.length
  all : ∀ y c, cl.lookup y = some c → ∃ v, cs.lookup c = some v
  inj : ∀ x y c, cl.lookup x = some c → cl.lookup y = some c → x = y
  has : ∀ (i : Nat) (y : Str), fr[i]? = some y → ∃ c, cl.lookup y = some c ∧ ∀ v, ws[i]? = some (some v) → cs.lookup c = some v
section
variable {CX : CXT} {P : Program} {w : World} {K : PySem.W.Frag} {mg : Str → Option Value} {base : Heap} {N ps fr : List Str} {F : NF} {f : Addr} {k j : Nat} {sp : List (Option V) → Sp} {cs : CL} {H : Hp}
theorem fn_out {h : Heap} (t : Trk cs H) (hok : HOk P w H h) (e : H f = some (FnO f F)) : cs.lookup f = none := by
  rcases q : cs.lookup f with _ | v
  · rfl
  · obtain ⟨u, _, o, ho, hd⟩ := cellO_at hok (t f v q)
    obtain ⟨od, sl, doc, pm, ctv, ho2⟩ := fnO_at hok e
    rw [ho2] at ho
    cases ho
    cases hd
theorem isFn_nd (e : H f = some (FnO f F)) : IsFn f H := fun P w h hok => by
  obtain ⟨od, sl, doc, pm, ctv, ho⟩ := fnO_at hok e
  exact ⟨_, _, _, _, ho⟩
theorem code_out {h : Heap} {c : Addr} {q : Str} (t : Trk cs H) (hok : HOk P w H h) (e : H c = some (CodeO c q)) : cs.lookup c = none := by
  rcases z : cs.lookup c with _ | v
  · rfl
  · obtain ⟨u, _, o, ho, hd⟩ := cellO_at hok (t c v z)
    obtain ⟨⟨oc, vs, tk, h1, h2, h3⟩, _, _⟩ := hok c _ e
    rw [ho] at h1
    cases h1
    rw [h2] at hd
    cases hd
theorem env_hide {A : Around} {outer : List Env} {s : Shared} (t : Trk cs H) (e : Env0 P w K mg base A outer s H) : Env0 P w K mg base A outer s (hide cs H) :=
  ⟨e.frames, e.mod, fun b o q => ⟨(e.bs b o q).1, hide_none (e.bs b o q).2⟩, e.bsz, e.funs, fun b q => hide_none (e.frf b q), hide_hok t e.hok, e.bare⟩
theorem cells_hide {h : Heap} {ws : List (Option V)} (t : Trk cs H) (hok : HOk P w H h) (c : ClAt F.cl fr ws cs) : CellsAt F.cl fr ws h (hide cs H) := by
  refine ⟨c.len, fun y a e => ?_, c.inj, fun i y e => ?_⟩
  · obtain ⟨v, q⟩ := c.all y a e
    obtain ⟨u, _, z⟩ := cellO_at hok (t a v q)
    exact ⟨hide_in q, _, z⟩
  · obtain ⟨a, e1, e2⟩ := c.has i y e
    refine ⟨a, e1, fun v ev => ?_⟩
    obtain ⟨u, r, z⟩ := cellO_at hok (t a v (e2 v ev))
    exact ⟨u, r, z⟩
/-- a nested def, called later: what its body promises of the heap less its cells -/
theorem calls_nd {vs : List V} {ws : List (Option V)} {Q : VK} {E : XK} (o : NOk P w K mg base (L2.CX P w) k f F ps fr sp) (t : Trk cs H) (c : ClAt F.cl fr ws cs) (hf : H f = some (FnO f F)) (hc : H F.c = some (CodeO F.c F.qual)) (q : sp ws vs (hide cs H) (Qh cs Q) (Eh cs E)) :
    CallsTo P w K mg base (L2.CX P w) k f H vs Q E := by
  refine fun A outer s us hr e0 r => ⟨isFn_nd hf _ _ _ e0.hok, ?_⟩
  have run := o.run A outer s (hide cs H) us vs ws (Qh cs Q) (Eh cs E) hr (env_hide t e0) (by rw [hide_out (fn_out t e0.hok hf)]; exact hf) (by rw [hide_out (code_out t e0.hok hc)]; exact hc) (cells_hide t e0.hok c) r q
  refine codeAny_mono run fun rs s' z => ?_
  cases rs with
  | error e => exact cx_unhide t e0.hok e0.frf z
  | ok fl =>
    cases fl with
    | ret u => exact ce_unhide t e0.hok e0.frf z
    | next => exact z.elim
    | brk => exact z.elim
    | cont => exact z.elim
end
end Xh

/-! Xh6: a def that hands out functions which capture its names: at its end its cells are heap objects -/
namespace Xh
open PySem PySem.Spec PySem.Calls PyProof.Rows L2 LamX NdefX Xf
structure EndsR where
  nx : L2.St → Hp → Prop
  rt : V → L2.St → Hp → Prop
abbrev TSR := EndsR → L2.St → Hp → Prop
def SPR (X : Cx) (pins : List (Addr × Obj)) (D : EndsR) (f : Flow) (s' : Shared) : Prop :=
  match f with
  | .next => ∃ σ' H', Inv X pins σ' H' s' ∧ D.nx σ' H'
  | .ret u => ∃ v σ' H', Inv X pins σ' H' s' ∧ RelV v u ∧ D.rt v σ' H'
  | _ => False
/-- a block; what is told is told with the slots -/
structure PSr (X : Cx) (st : List Stmt) (t : TSR) : Prop where
  run : ∀ (pins : List (Addr × Obj)) (s : Shared) (σ : L2.St) (H : Hp) (D : EndsR), Inv X pins σ H s → t D σ H → wpAny (model X.prog X.w) X.A (execs st X.env) (SPR X pins D) X.xe s
structure P1r (X : Cx) (st : Stmt) (t : TSR) : Prop where
  run : ∀ (pins : List (Addr × Obj)) (s : Shared) (σ : L2.St) (H : Hp) (D : EndsR), Inv X pins σ H s → t D σ H → wpAny (model X.prog X.w) X.A (exec st X.env) (SPR X pins D) X.xe s
def tLift (t : TS) : TSR := fun D σ H => t ⟨D.nx, fun _ _ => False, fun _ _ => False, fun _ _ => False⟩ σ H
def tSeqR (t u : TSR) : TSR := fun D σ H => t ⟨fun σ H => u D σ H, D.rt⟩ σ H
def tRetR (t : TE) : TSR := fun D σ H => t σ H fun v H' => D.rt v σ H'
def tIfR (c : TT) (t u : TSR) : TSR := fun D σ H => c σ H fun b H1 => if b = true then t D σ H1 else u D σ H1
def tNextR : TSR := fun D σ H => D.nx σ H
section
variable {X : Cx} {st : Stmt} {rest : List Stmt} {t u : TSR} {pos : Pos}
theorem p1_lift {t : TS} (h : PS X st t) : P1r X st (tLift t) := by
  refine ⟨fun pins s σ H D I q => thn (h.run pins s σ H _ I q) fun f s1 z => ?_⟩
  cases f with
  | next => exact z
  | ret v => obtain ⟨_, _, _, _, _, q⟩ := z; exact q.elim
  | brk => obtain ⟨_, _, _, q⟩ := z; exact q.elim
  | cont => obtain ⟨_, _, _, q⟩ := z; exact q.elim
theorem p1_ret {e : Expr} {te : TE} (he : PE X e te) : P1r X (.Return (some e) pos) (tRetR te) := by
  refine ⟨fun pins s σ H D I h => ?_⟩
  exact wpAny_Return_some (thn (he.run pins s σ H _ I h) fun v s1 ⟨x, H1, I1, r1, q1⟩ => ⟨x, σ, H1, I1, r1, q1⟩)
theorem psr_cons (h1 : P1r X st t) (h2 : PSr X rest u) : PSr X (st :: rest) (tSeqR t u) := by
  refine ⟨fun pins s σ H D I h => ?_⟩
  refine wpAny_execs_cons (thn (h1.run pins s σ H ⟨u D, D.rt⟩ I h) fun f s1 q => ?_)
  cases f with
  | next =>
    obtain ⟨σ', H', I', q⟩ := q
    exact h2.run pins s1 σ' H' D I' q
  | ret v => exact q
  | brk => exact q.elim
  | cont => exact q.elim
theorem psr_nil : PSr X [] tNextR := ⟨fun pins s σ H D I h => wpAny_execs_nil ⟨σ, H, I, h⟩⟩
theorem psr_one (h1 : P1r X st t) : PSr X [st] t := by
  refine ⟨fun pins s σ H D I h => ?_⟩
  refine wpAny_execs_cons (thn (h1.run pins s σ H D I h) fun f s1 q => ?_)
  cases f with
  | next => exact wpAny_execs_nil q
  | ret v => exact q
  | brk => exact q.elim
  | cont => exact q.elim
theorem p1_if {c : Expr} {a b : List Stmt} {tc : TT} (hc : PT X c tc) (ha : PSr X a t) (hb : PSr X b u) : P1r X (.If c a b pos) (tIfR tc t u) := by
  refine ⟨fun pins s σ H D I h => ?_⟩
  refine wpAny_If (thn (hc.run pins s σ H _ I h) fun d s1 ⟨H1, I1, q1⟩ => ?_)
  cases d with
  | true => exact ha.run pins s1 σ H1 D I1 q1
  | false => exact hb.run pins s1 σ H1 D I1 q1
end
/-! ### the handing over -/
/-- the cells of cl, with what the names hold -/
structure Cov (N : List Str) (cl : List (Str × Addr)) (σ : L2.St) (cs : CL) : Prop where
  has : ∀ (y : Str) (c : Addr) (j : Nat) (v : V), cl.lookup y = some c → N[j]? = some y → σ[j]? = some (some v) → cs.lookup c = some v
  own : ∀ (c : Addr) (v : V), cs.lookup c = some v → ∃ (y : Str) (j : Nat), cl.lookup y = some c ∧ N[j]? = some y ∧ σ[j]? = some (some v)
theorem graph_lookup {ks : List Addr} {g : Addr → V} {c : Addr} (h : c ∈ ks) : (ks.map fun c => (c, g c)).lookup c = some (g c) := by
  induction ks with
  | nil => cases h
  | cons k ks ih =>
    simp only [List.map_cons, List.lookup_cons]
    by_cases e : c = k
    · subst e; simp
    · rw [show (c == k) = false by simpa using e]
      rcases List.mem_cons.mp h with q | q
      · exact absurd q e
      · exact ih q
theorem graph_mem {ks : List Addr} {g : Addr → V} {c : Addr} {v : V} (h : (ks.map fun c => (c, g c)).lookup c = some v) : c ∈ ks ∧ v = g c := by
  induction ks with
  | nil => cases h
  | cons k ks ih =>
    simp only [List.map_cons, List.lookup_cons] at h
    by_cases e : c = k
    · subst e
      simp only [beq_self_eq_true] at h
      exact ⟨List.mem_cons_self, (Option.some.inj h).symm⟩
    · rw [show (c == k) = false by simpa using e] at h
      obtain ⟨a, b⟩ := ih h
      exact ⟨List.mem_cons_of_mem _ a, b⟩
open Classical in
theorem cov_ex {N : List Str} {cl : List (Str × Addr)} {σ : L2.St} (nd : N.Nodup) (inj : ∀ x y c, cl.lookup x = some c → cl.lookup y = some c → x = y) (all : ∀ (y : Str) (c : Addr), cl.lookup y = some c → ∃ (j : Nat) (v : V), N[j]? = some y ∧ σ[j]? = some (some v)) : ∃ cs, Cov N cl σ cs := by
  let good : Addr → V → Prop := fun c v => ∃ (y : Str) (j : Nat), cl.lookup y = some c ∧ N[j]? = some y ∧ σ[j]? = some (some v)
  let g : Addr → V := fun c => if h : ∃ v, good c v then h.choose else .non
  let ks : List Addr := (cl.map (·.2)).filter fun c => decide (∃ v, good c v)
  refine ⟨ks.map fun c => (c, g c), fun y c j v h1 h2 h3 => ?_, fun c v h => ?_⟩
  · have hg : ∃ v, good c v := ⟨v, y, j, h1, h2, h3⟩
    have hm : c ∈ ks := by
      refine List.mem_filter.mpr ⟨?_, decide_eq_true hg⟩
      exact List.mem_map.mpr ⟨(y, c), PySem.mem_of_lookup h1, rfl⟩
    rw [graph_lookup (g := g) hm]
    have eg : g c = hg.choose := dif_pos hg
    obtain ⟨y', j', a1, a2, a3⟩ := hg.choose_spec
    have ey : y = y' := inj _ _ _ h1 a1
    subst ey
    have ej : j = j' := by
      have l1 := (List.getElem?_eq_some_iff.mp h2).1
      exact (List.getElem?_inj l1 nd).mp (h2.trans a2.symm)
    subst ej
    rw [h3] at a3
    rw [eg]
    exact congrArg some (Option.some.inj (Option.some.inj a3)).symm
  · obtain ⟨h1, h2⟩ := graph_mem h
    have hg : ∃ v, good c v := by simpa using (List.mem_filter.mp h1).2
    have eg : g c = hg.choose := dif_pos hg
    rw [h2, eg]
    exact hg.choose_spec
/-- what is wished for at the end of a def whose cells are cl, told of the heap with the cells -/
def Handed (N : List Str) (cl : List (Str × Addr)) (σ : L2.St) (H : Hp) (R : Hp → Prop) : Prop :=
  (∀ (y : Str) (c : Addr), cl.lookup y = some c → ∃ (j : Nat) (v : V), N[j]? = some y ∧ σ[j]? = some (some v)) ∧ ∀ cs : CL, (∀ (x y : Str) (c : Addr), cl.lookup x = some c → cl.lookup y = some c → x = y) → Cov N cl σ cs → Free cs H → R (unhide cs H)
theorem cellsFrom_kind : ∀ (names : List (Str × NameKind)) (n : Nat) (acc : List (Str × Addr)) (y : Str) (c : Addr), (y, c) ∈ cellsFrom n names acc → (y, c) ∈ acc ∨ (y, NameKind.cell) ∈ names
  | [], _, _, _, _, h => .inl h
  | (x, k) :: names, n, acc, y, c, h => by
    unfold cellsFrom at h
    split at h
    · rename_i e
      have e : k = NameKind.cell := by
        cases k <;> first | rfl | exact absurd e (by decide)
      rcases cellsFrom_kind names _ _ y c h with q | q
      · rcases List.mem_cons.mp q with e2 | q
        · cases e2; exact .inr (by rw [e]; exact List.mem_cons_self)
        · exact .inl q
      · exact .inr (List.mem_cons_of_mem _ q)
    · exact (cellsFrom_kind names _ _ y c h).imp_right (List.mem_cons_of_mem _)
theorem look_nodup {α : Type} : ∀ {l : List (Str × α)} {y : Str} {k : α}, (l.map (·.1)).Nodup → (y, k) ∈ l → l.lookup y = some k
  | [], _, _, _, h => nomatch h
  | (x, a) :: l, y, k, nd, h => by
    simp only [List.map_cons, List.nodup_cons] at nd
    rw [List.lookup_cons]
    rcases List.mem_cons.mp h with e | h
    · cases e; simp
    · have ne : y ≠ x := fun e => nd.1 (e ▸ List.mem_map_of_mem (f := (·.1)) h)
      rw [show (y == x) = false by simpa using ne]
      exact look_nodup nd.2 h
/-- THE RULE: such a def by its body -/
theorem fn_maker {CX : CXT} {P : Program} {w : World} {K : PySem.W.Frag} {mg : Str → Option Value} {base : Heap} {k : Nat} {f : Addr} {name qual : Str} {params : Arguments} {body : List Stmt} {scope : Scope} {dV kV doc pm cdv ct oc : Value} {an od : Option Addr}
    {osl : Array (Option Value)} {N ps : List Str} {sp : Sp} (lk : K.lookup f = some ⟨oc, od, .func (PySem.W.fnOf name qual params body scope dV kV doc pm an cdv ct), osl⟩) (hcd : PySem.W.codeIn K cdv qual = true) (S : FnScope N ps scope) (nk : (scope.names.map (·.1)).Nodup)
    (len : ∀ vs H Q E, sp vs H Q E → vs.length = ps.length)
    (hbody : ∀ (A : Around) (outer : List Env) (s : Shared) (H : Hp) (vs : List V) (Q : VK) (E : XK), Room k (A.deeper (envOfC qual scope s.heap.objs.size f cdv)) → sp vs H Q E →
      ∃ t, PSr (cxOf CX P w K mg base N qual scope f cdv A outer s H E) body t ∧ t { nx := fun _ _ => False, rt := fun v σ H' => Handed N (cellsFrom (s.heap.objs.size + 1) scope.names []) σ H' (Q v) } (start N vs) H) :
    FnOk P w K mg base CX (k + 1) f (PySem.W.fnOf name qual params body scope dV kV doc pm an cdv ct) ps sp := by
  refine ⟨len, fun A outer s H args us vs Q E hr e0 hb r hsp => ?_⟩
  have hl := len _ _ _ _ hsp
  have KX : K.In s.heap := e0.mod.kin.keeps fun b o e => (e0.bs b o e).1
  have lim : s.heap.NoLimit := e0.mod.nolimit.keeps fun b o e => (e0.bs b o e).1
  have hkind : ∀ y ∈ ps.zip us, scope.names.lookup y.1 = some .local ∨ (scope.names.lookup y.1 = some .cell ∧ ((cellsFrom (s.heap.objs.size + 1) scope.names []).lookup y.1).isSome = true) := fun ⟨n, v⟩ hy => by
    rcases S.par n (List.of_mem_zip hy).1 with q | q
    · exact .inl q
    · exact .inr ⟨q, PySem.W.cellsFrom_some _ _ _ (.inl q)⟩
  refine codeAny_call_function hr.depth (KX _ _ lk) rfl S.co S.gen rfl (PySem.W.codeRec_of KX hcd) (hb _ _ _ _ ?_)
  refine wpAny_newFunctionEnv_cells S.kind hkind fun env he s1 x => ?_
  subst he
  refine ⟨lim.keeps x.toInCall.keep, codeAny_func ?_⟩
  obtain ⟨t, ht, hq⟩ := hbody A outer s H vs Q E (hr.deeper _) hsp
  have I : Inv (cxOf CX P w K mg base N qual scope f cdv A outer s H E) [] (start N vs) H s1 := inv_start S hr.hd e0 hl r x
  refine wpAny_mono (ht.run [] s1 (start N vs) H _ I hq) (fun fl s' hs => ?_) fun e s' hs => hs
  cases fl with
  | ret u =>
    obtain ⟨v, σ', H', J, rv, all, q⟩ := hs
    obtain ⟨cs, cv⟩ := cov_ex S.nd J.ok.inj all
    have fr : Free cs H' := fun b v e => by
      obtain ⟨y, j, h1, _⟩ := cv.own b v e
      exact J.freeC y b h1
    have old : ∀ b, b < s.heap.objs.size → cs.lookup b = none := fun b hb => by
      cases e : cs.lookup b with
      | none => rfl
      | some v =>
        obtain ⟨y, j, h1, _⟩ := cv.own b v e
        have z : s.heap.objs.size ≤ b := J.ok.cab y b rfl h1
        omega
    have lt : ∀ b o, H b = some o → b < s.heap.objs.size := fun b o e => e0.hok.lt e
    refine ⟨v, unhide cs H', J.os, J.bare, ?_, ?_, rv, q cs J.ok.inj cv fr⟩
    · have un := J.base
      exact ⟨un.keep, un.slot, fun b o h1 h2 h3 => by rw [unhide_out (old b (Heap.lt_size h1))]; exact un.free b o h1 h2 h3, un.there, fun b xs h => by rw [unhide_out (old b (lt _ _ h))]; exact un.tups b xs h,
        fun b o u h => by rw [unhide_out (old b (lt _ _ h))]; exact un.frzs b o u h, fun b ps h => by rw [unhide_out (old b (lt _ _ h))]; exact un.tbls b ps h⟩
    · refine unhide_hok fr (fun b v e => ?_) J.hok
      obtain ⟨y, j, h1, h2, h3⟩ := cv.own b v e
      have ky : scope.names.lookup y = some .cell := by
        rcases cellsFrom_kind _ _ _ _ _ (PySem.mem_of_lookup h1) with z | z
        · cases z
        · exact look_nodup nk z
      obtain ⟨m, hn, hl⟩ := J.loc
      obtain ⟨u, r, l⟩ := hl j y v h2 h3 (.inr (.inl ky))
      rcases l with ⟨z, _⟩ | ⟨_, c', hc', hcell⟩
      · have z : scope.names.lookup y = some .local := z
        rw [ky] at z; cases z
      · have hc' : (cellsFrom (s.heap.objs.size + 1) scope.names []).lookup y = some c' := hc'
        have h1 : (cellsFrom (s.heap.objs.size + 1) scope.names []).lookup y = some b := h1
        rw [h1] at hc'
        cases hc'
        exact ⟨u, r, hcell⟩
  | next =>
    obtain ⟨σ', H', J, q⟩ := hs
    exact False.elim q
  | brk => exact hs.elim
  | cont => exact hs.elim
theorem PSr.nox {X : Cx} {st : List Stmt} {t : TSR} (h : PSr X.nox st t) : PSr X st t := ⟨fun pins s σ H D I hw =>
  wpAny_mono (h.run pins s σ H D (I.wish _) hw) (fun f s' q => by
    cases f with
    | next => obtain ⟨σ', H', J, q⟩ := q; exact ⟨σ', H', J.unwish, q⟩
    | ret u => obtain ⟨v, σ', H', J, r, q⟩ := q; exact ⟨v, σ', H', J.unwish, r, q⟩
    | brk => exact q.elim
    | cont => exact q.elim) fun _ _ x => x.elim⟩
/-- such a def whose code object is known -/
theorem fnC_maker {P : Program} {w : World} {K : PySem.W.Frag} {mg : Str → Option Value} {base : Heap} {x qual : Str} {st : Stmt} {f c : Addr} {fd : FuncData} {N ps : List Str} {k : Nat} {sp : Sp} (F : Xc.FunC K x qual st f fd c) (S : FnScope N ps (defScope st)) (nk : ((defScope st).names.map (·.1)).Nodup) (len : ∀ vs H Q E, sp vs H Q E → vs.length = ps.length)
    (hbody : ∀ (A : Around) (o : List Env) (s : Shared) (H : Hp) (vs : List V) (Q : VK) (E : XK), Room k (A.deeper (envOfC qual (defScope st) s.heap.objs.size f (.ref c))) → sp vs H Q E →
      ∃ t, PSr (cxOf CX0 P w K mg base N qual (defScope st) f (.ref c) A o s H E).nox (defBody st) t ∧ t { nx := fun _ _ => False, rt := fun v σ H' => Handed N (cellsFrom (s.heap.objs.size + 1) (defScope st).names []) σ H' (Q v) } (start N vs) H) : FnOk P w K mg base CX0 (k + 1) f fd ps sp := by
  obtain ⟨oc, od, kV, doc, pm, an, ct, osl, rfl, lk, hcd⟩ := F.ex
  refine fn_maker lk hcd S nk len fun A o s H vs Q E hr hsp => ?_
  obtain ⟨t, h, q⟩ := hbody A o s H vs Q E hr hsp
  exact ⟨t, h.nox, q⟩
theorem calls_mono {CX : CXT} {P : Program} {w : World} {K : PySem.W.Frag} {mg : Str → Option Value} {base : Heap} {k : Nat} {f : Addr} {H : Hp} {vs : List V} {Q Q' : VK} {E : XK} (c : CallsTo P w K mg base CX k f H vs Q E) (h : ∀ v H', Q v H' → Q' v H') : CallsTo P w K mg base CX k f H vs Q' E :=
  fun A outer s us hr e0 r => ⟨(c A outer s us hr e0 r).1, codeAny_mono (c A outer s us hr e0 r).2 fun rs s' z => by
    cases rs with
    | error e => exact z
    | ok fl =>
      cases fl with
      | ret u => obtain ⟨v, H', e1, e2, un, hok', r, q⟩ := z; exact ⟨v, H', e1, e2, un, hok', r, h v H' q⟩
      | next => exact z
      | brk => exact z
      | cont => exact z⟩
/-- what a function captured, by the cells that were handed over -/
theorem clAt_of {N : List Str} {cl : List (Str × Addr)} {σ : L2.St} {cs : CL} {names : List (Str × NameKind)} {fr : List Str} {ws : List (Option V)} (cv : Cov N cl σ cs) (inj : ∀ (x y : Str) (c : Addr), cl.lookup x = some c → cl.lookup y = some c → x = y)
    (all : ∀ (y : Str) (c : Addr), cl.lookup y = some c → ∃ (j : Nat) (v : V), N[j]? = some y ∧ σ[j]? = some (some v)) (hfree : ∀ y ∈ names, y.2 = .free → ∃ c, cl.lookup y.1 = some c) (hfr : ∀ y ∈ fr, (y, NameKind.free) ∈ names) (hw : ws.length = fr.length)
    (hv : ∀ (i : Nat) (y : Str) (v : V), fr[i]? = some y → ws[i]? = some (some v) → ∃ (j : Nat), N[j]? = some y ∧ σ[j]? = some (some v)) : ClAt (cloFrom cl names []) fr ws cs := by
  refine ⟨hw, fun y c e => ?_, fun x y c e1 e2 => inj x y c (clo_cm hfree e1) (clo_cm hfree e2), fun i y e => ?_⟩
  · have e2 := clo_cm hfree e
    obtain ⟨j, v, h1, h2⟩ := all y c e2
    exact ⟨v, cv.has y c j v e2 h1 h2⟩
  · have hm := hfr y (List.mem_of_getElem? e)
    obtain ⟨c, hc⟩ := hfree _ hm rfl
    refine ⟨c, clo_has hfree hm hc, fun v ev => ?_⟩
    obtain ⟨j, h1, h2⟩ := hv i y v e ev
    exact cv.has y c j v hc h1 h2
theorem unhide_keep {cs : CL} {H : Hp} {b : Addr} {o : HO} (fr : Free cs H) (e : H b = some o) : unhide cs H b = some o := by
  rw [unhide_out]
  · exact e
  · cases z : cs.lookup b with
    | none => rfl
    | some v => rw [fr b v z] at e; cases e
theorem unhide_trk {cs : CL} {H : Hp} : Trk cs (unhide cs H) := fun b v e => unhide_in e
end Xh

/-! Xi1: promises of defs that make functions: tables change, what never changes stays -/
namespace Xi
open PySem PySem.Spec PySem.Calls PyProof.Rows L2 Rs Xc
/-- what never changes stays -/
structure Pers (H H' : Hp) : Prop where
  ext : ∀ b r, H b = some (.ext r) → H' b = some (.ext r)
  tup : ∀ b xs, H b = some (.tup xs) → H' b = some (.tup xs)
theorem Pers.refl (H : Hp) : Pers H H := ⟨fun _ _ e => e, fun _ _ e => e⟩
theorem Pers.trans {H H1 H2 : Hp} (a : Pers H H1) (b : Pers H1 H2) : Pers H H2 := ⟨fun x r e => b.ext x r (a.ext x r e), fun x r e => b.tup x r (a.tup x r e)⟩
/-- the base B, with the tables and all that never changes as it stands at H -/
def rbI (B H : Hp) : Hp := fun b => match H b with | some (.tbl ps) => some (.tbl ps) | some (.ext r) => some (.ext r) | some (.tup xs) => some (.tup xs) | _ => B b
/-- these are objects that may be written -/
inductive MutL (H : Hp) : List Addr → Prop where
  | nil : MutL H []
  | lst {b : Addr} {xs : List V} {M : List Addr} (h : H b = some (.lst xs)) (t : MutL H M) : MutL H (b :: M)
  | dct {b : Addr} {kvs : List (Key × V)} {M : List Addr} (h : H b = some (.dK kvs)) (t : MutL H M) : MutL H (b :: M)
  | ins {b C dx : Addr} {fs : List (Str × V)} {M : List Addr} (h : H b = some (.ins C dx fs)) (t : MutL H M) : MutL H (b :: M)
section
variable {B H H' H1 H2 : Hp} {M C : List Addr} {L L' LL F : Led} {Q : VK} {TT : List (Addr × Str)} {a : Addr}
theorem MutL.at_ (m : MutL H M) {b : Addr} (hb : b ∈ M) : (∃ xs, H b = some (.lst xs)) ∨ (∃ kvs, H b = some (.dK kvs)) ∨ ∃ C dx fs, H b = some (.ins C dx fs) := by
  induction m with
  | nil => cases hb
  | lst h _ ih =>
    rcases List.mem_cons.mp hb with rfl | hb
    · exact .inl ⟨_, h⟩
    · exact ih hb
  | dct h _ ih =>
    rcases List.mem_cons.mp hb with rfl | hb
    · exact .inr (.inl ⟨_, h⟩)
    · exact ih hb
  | ins h _ ih =>
    rcases List.mem_cons.mp hb with rfl | hb
    · exact .inr (.inr ⟨_, _, _, h⟩)
    · exact ih hb
theorem MutL.not (m : MutL H M) {b : Addr} {o : HO} (e : H b = some o) (h1 : ∀ xs, o ≠ .lst xs) (h2 : ∀ kvs, o ≠ .dK kvs) (h3 : ∀ C dx fs, o ≠ .ins C dx fs) : b ∉ M := fun hb => by
  rcases m.at_ hb with ⟨xs, z⟩ | ⟨kvs, z⟩ | ⟨C, dx, fs, z⟩
  · rw [e] at z; exact h1 _ (Option.some.inj z)
  · rw [e] at z; exact h2 _ (Option.some.inj z)
  · rw [e] at z; exact h3 _ _ _ (Option.some.inj z)
theorem MutL.ext (m : MutL H M) {b : Addr} {r : Heap → Prop} (e : H b = some (.ext r)) : b ∉ M := m.not e (fun _ z => by cases z) (fun _ z => by cases z) (fun _ _ _ z => by cases z)
theorem MutL.tup (m : MutL H M) {b : Addr} {r : List V} (e : H b = some (.tup r)) : b ∉ M := m.not e (fun _ z => by cases z) (fun _ z => by cases z) (fun _ _ _ z => by cases z)
theorem MutL.tbl (m : MutL H M) {b : Addr} {r : Array Value} (e : H b = some (.tbl r)) : b ∉ M := m.not e (fun _ z => by cases z) (fun _ z => by cases z) (fun _ _ _ z => by cases z)
theorem rbI_ext {b : Addr} {r : Heap → Prop} (e : H b = some (.ext r)) : rbI B H b = some (.ext r) := by unfold rbI; rw [e]
theorem rbI_tup {b : Addr} {r : List V} (e : H b = some (.tup r)) : rbI B H b = some (.tup r) := by unfold rbI; rw [e]
theorem rbI_tbl {b : Addr} {r : Array Value} (e : H b = some (.tbl r)) : rbI B H b = some (.tbl r) := by unfold rbI; rw [e]
theorem rbI_lst {b : Addr} {xs : List V} (e : H b = some (.lst xs)) : rbI B H b = B b := by unfold rbI; rw [e]
theorem rbI_dct {b : Addr} {xs : List (Key × V)} (e : H b = some (.dK xs)) : rbI B H b = B b := by unfold rbI; rw [e]
theorem rbI_ins {b C dx : Addr} {xs : List (Str × V)} (e : H b = some (.ins C dx xs)) : rbI B H b = B b := by unfold rbI; rw [e]
theorem _root_.Rs.Hs.toI (S : Hs B M H L) : Hs (rbI B H) M H L := by
  refine ⟨S.nd, S.is, fun b o e hm => ?_, S.mu⟩
  unfold rbI at e
  split at e
  · rename_i h; rw [h]; exact e
  · rename_i h; rw [h]; exact e
  · rename_i h; rw [h]; exact e
  · exact S.old b o e hm
theorem _root_.Rs.Hs.ofI (S : Hs B M H L) (S' : Hs (rbI B H) M H' L') : Hs B M H' L' := by
  refine ⟨S'.nd, S'.is, fun b o e hm => S'.old b o ?_ hm, S'.mu⟩
  have h3 := S.old b o e hm
  unfold rbI
  rw [h3]
  split
  · rename_i h; exact h.symm
  · rename_i h; exact h.symm
  · rename_i h; exact h.symm
  · exact e
theorem _root_.Rs.Hs.persI (S' : Hs (rbI B H) M H' L') (m : MutL H M) : Pers H H' := ⟨fun b r e => S'.old _ _ (rbI_ext e) (m.ext e), fun b r e => S'.old _ _ (rbI_tup e) (m.tup e)⟩
theorem tabs_pers (p : Pers H H') (k : ∀ b ps, H b = some (.tbl ps) → H' b = some (.tbl ps)) (t : LamX.Tabs TT H) : LamX.Tabs TT H' := fun q hq => by
  obtain ⟨ps, h1, h2, h3⟩ := t q hq
  refine ⟨ps, k _ _ h1, h2, fun pos cv hc => ?_⟩
  obtain ⟨c, e1, e2⟩ := h3 pos cv hc
  exact ⟨c, e1, p.ext _ _ e2⟩
theorem _root_.Rs.Hs.tabI (S' : Hs (rbI B H) M H' L') (m : MutL H M) (t : LamX.Tabs TT H) : LamX.Tabs TT H' :=
  tabs_pers (S'.persI m) (fun b ps e => S'.old _ _ (rbI_tbl e) (m.tbl e)) t
/-- more objects that may be written; fewer -/
theorem _root_.Rs.Hs.addM {o : HO} (S : Hs B M H L) (m : (a, o) ∈ L) : Hs B (a :: M) H L := by
  refine ⟨S.nd, S.is, fun b u e hb => S.old b u e fun z => hb (List.mem_cons_of_mem _ z), fun b hb => ?_⟩
  by_cases e : b = a
  · rw [e, S.is _ m]; simp
  · rcases List.mem_cons.mp hb with z | z
    · exact absurd z e
    · exact S.mu b z
theorem _root_.Rs.Hs.lessM (S : Hs B M H L) (sub : ∀ b ∈ C, b ∈ M) (h : ∀ b ∈ M, b ∈ C ∨ B b = none) : Hs B C H L :=
  ⟨S.nd, S.is, fun b u e hb => S.old b u e (fun z => (h b z).elim hb fun q => by rw [q] at e; cases e), fun b hb => S.mu b (sub b hb)⟩
/-- another base -/
theorem _root_.Rs.Hs.base {B' : Hp} (S : Hs B M H L) (h : ∀ b o, B' b = some o → b ∉ M → H b = some o) : Hs B' M H L := ⟨S.nd, S.is, h, S.mu⟩
/-! ### promises -/
abbrev SepF := Hp → List V → List Addr → Led → (V → Hp → Led → Led → Prop) → Prop
/-- R: the heap, the arguments, what may be written, what is known ahead, what is promised (the new objects told apart) -/
def SepT (TT : List (Addr × Str)) (R : SepF) : Sp := fun vs H Q _ => ∃ C L post, R H vs C L post ∧ (L.map (·.1)).Nodup ∧ (∀ q ∈ L, H q.1 = some q.2) ∧ (∀ c ∈ C, c ∈ L.map (·.1)) ∧ LamX.Tabs TT H ∧
  ∀ v H' N L', post v H' N L' → Hs (noT H) C H' (N ++ L') → (∀ q ∈ L', q.1 ∈ L.map (·.1)) → (∀ q ∈ N, noT H q.1 = none) → LamX.Tabs TT H' → Pers H H' → Q v H'
theorem frameT (nb : ∀ b ps, B b ≠ some (.tbl ps)) (nf : ∀ q ∈ F, ∀ ps, q.2 ≠ .tbl ps) (S : Hs B M H (L ++ F)) (S' : Hs (noT H) C H' L') (hC : ∀ c ∈ C, c ∈ L.map (·.1) ∧ (B c = none ∨ c ∈ M)) (hk : ∀ q ∈ L', q.1 ∈ L.map (·.1) ∨ noT H q.1 = none) (m : MutL H M) : Hs B M H' (L' ++ F) := by
  have nd := S.nd
  rw [List.map_append, List.nodup_append] at nd
  obtain ⟨_, nF, dis⟩ := nd
  have isF : ∀ q ∈ F, H' q.1 = some q.2 := fun q h => by
    refine S'.old _ _ (noT_some (S.is q (List.mem_append_right _ h)) (nf q h)) fun hc => ?_
    exact dis _ (hC _ hc).1 _ (List.mem_map_of_mem (f := (·.1)) h) rfl
  refine ⟨?_, ?_, ?_, ?_⟩
  · rw [List.map_append, List.nodup_append]
    refine ⟨S'.nd, nF, ?_⟩
    intro x hx y hy e
    subst e
    obtain ⟨q, hq, rfl⟩ := List.mem_map.mp hx
    rcases hk q hq with h | h
    · exact dis _ h _ hy rfl
    · obtain ⟨r, hr, e⟩ := List.mem_map.mp hy
      have := noT_some (S.is r (List.mem_append_right _ hr)) (nf r hr)
      rw [e, h] at this
      cases this
  · intro q hq
    rcases List.mem_append.mp hq with h | h
    · exact S'.is q h
    · exact isF q h
  · intro b o e hb
    refine S'.old _ _ (noT_some (S.old b o e hb) fun ps z => nb b ps (by rw [e, z])) fun hc => ?_
    rcases (hC _ hc).2 with z | z
    · rw [z] at e; cases e
    · exact hb z
  · intro b hb
    by_cases hc : b ∈ C
    · exact S'.mu b hc
    · rcases m.at_ hb with ⟨xs, z⟩ | ⟨kvs, z⟩ | ⟨C', dx, fs, z⟩
      · rw [S'.old b _ (noT_some z fun ps q => by cases q) hc]; simp
      · rw [S'.old b _ (noT_some z fun ps q => by cases q) hc]; simp
      · rw [S'.old b _ (noT_some z fun ps q => by cases q) hc]; simp
theorem none_noT (nb : ∀ b ps, B b ≠ some (.tbl ps)) (S : Hs B M H L) (m : MutL H M) (h : noT H a = none) : B a = none := by
  cases e : B a with
  | none => rfl
  | some o =>
    by_cases hm : a ∈ M
    · rcases m.at_ hm with ⟨xs, z⟩ | ⟨kvs, z⟩ | ⟨C', dx, fs, z⟩
      · rw [noT_some z (fun ps q => by cases q)] at h; cases h
      · rw [noT_some z (fun ps q => by cases q)] at h; cases h
      · rw [noT_some z (fun ps q => by cases q)] at h; cases h
    · rw [noT_some (S.old a o e hm) (fun ps z => nb a ps (by rw [e, z]))] at h; cases h
theorem rbI_none (h : rbI B H a = none) : B a = none := by
  unfold rbI at h
  split at h
  · cases h
  · cases h
  · cases h
  · exact h
/-- such a def is called -/
theorem sept_use {R : SepF} {vs : List V} {post : V → Hp → Led → Led → Prop} {E : XK} (nb : ∀ b ps, B b ≠ some (.tbl ps)) (S : Hs B M H LL) (tb : LamX.Tabs TT H) (m : MutL H M) (r : R H vs C L post) (pm : ∀ a, cn a (L ++ F) ≤ cn a LL) (nf : ∀ q ∈ F, ∀ ps, q.2 ≠ .tbl ps) (hC : ∀ c ∈ C, c ∈ L.map (·.1) ∧ (B c = none ∨ c ∈ M))
    (h : ∀ v H' N L', post v H' N L' → (∀ q ∈ N, B q.1 = none) → Hs B M H' (N ++ (L' ++ F)) → LamX.Tabs TT H' → Pers H H' → Q v H') : SepT TT R vs H Q E := by
  have S1 := S.re pm
  refine ⟨C, L, post, r, ?_, fun q hq => S1.is q (List.mem_append_left _ hq), fun c hc => (hC c hc).1, tb, fun v H' N L' p S' h1 h2 tb' pe => ?_⟩
  · have := S1.nd
    rw [List.map_append, List.nodup_append] at this
    exact this.1
  · refine h v H' N L' p (fun q hq => none_noT nb S m (h2 q hq)) ?_ tb' pe
    rw [← List.append_assoc]
    refine frameT nb nf S1 S' hC (fun q hq => ?_) m
    rcases List.mem_append.mp hq with z | z
    · exact Or.inr (h2 q z)
    · exact Or.inl (h1 q z)
theorem noT_nb {H0 : Hp} : ∀ b ps, noT H0 b ≠ some (.tbl ps) := fun b ps e => (noT_of e).2 ps rfl
theorem Pers.of_ext (h : LamX.ExtN H H') : Pers H H' := ⟨fun b r e => h b _ e (fun ps z => by cases z), fun b r e => h b _ e (fun ps z => by cases z)⟩
theorem Pers.of_noT (S : Hs (noT H) C H' L') (m : MutL H C) : Pers H H' := ⟨fun b r e => S.old b _ (noT_some e fun ps z => by cases z) (m.ext e), fun b r e => S.old b _ (noT_some e fun ps z => by cases z) (m.tup e)⟩
end
end Xi

/-! Xi2: ways that come together -/
namespace Xi
open PySem PySem.Spec PySem.Calls PyProof.Rows L2 Rs
theorem if_viaV {b : Bool} {te1 te2 : TE} {σ : L2.St} {H : Hp} {C : VK} (Post : V → Hp → Prop) (h1 : b = true → ∀ C' : VK, (∀ v H', Post v H' → C' v H') → te1 σ H C') (h2 : b = false → ∀ C' : VK, (∀ v H', Post v H' → C' v H') → te2 σ H C') (k : ∀ v H', Post v H' → C v H') : if b = true then te1 σ H C else te2 σ H C := by
  cases b with
  | true => exact h1 rfl C k
  | false => exact h2 rfl C k
theorem seq_via {t u : TS} {σ : L2.St} {H : Hp} {nx : L2.St → Hp → Prop} {rt : VK} {bk ct : L2.St → Hp → Prop} (R : L2.St → Hp → Prop) (h : ∀ nx : L2.St → Hp → Prop, (∀ σ' H', R σ' H' → nx σ' H') → t ⟨nx, rt, bk, ct⟩ σ H) (k : ∀ σ' H', R σ' H' → u ⟨nx, rt, bk, ct⟩ σ' H') : tSeq t u ⟨nx, rt, bk, ct⟩ σ H := h _ k
theorem ifs_viaP {b : Bool} {t u : TS} {σ : L2.St} {H : Hp} {nx : L2.St → Hp → Prop} {rt : VK} {bk ct : L2.St → Hp → Prop} (Post : Hp → Prop) (h1 : b = true → ∀ nx' : L2.St → Hp → Prop, (∀ H', Post H' → nx' σ H') → t ⟨nx', rt, bk, ct⟩ σ H) (h2 : b = false → ∀ nx' : L2.St → Hp → Prop, (∀ H', Post H' → nx' σ H') → u ⟨nx', rt, bk, ct⟩ σ H)
    (k : ∀ H', Post H' → nx σ H') : if b = true then t ⟨nx, rt, bk, ct⟩ σ H else u ⟨nx, rt, bk, ct⟩ σ H := by
  cases b with
  | true => exact h1 rfl nx k
  | false => exact h2 rfl nx k
/-- the scope of a comprehension that an assignment's value is -/
def lcScope : Stmt → Scope
  | .Assign _ (.ListComp _ _ sc _) .. => sc
  | st => defScope st
end Xi

/-! Xj1: methods by the object's own class, function values called by a name, captured lambdas handed over, C.m(x, ..) of own classes -/
namespace Xj
open PySem PySem.Spec PySem.Calls PyProof.Rows L2 LamX NdefX Xf Xh
section
variable {X : Cx} {CX : CXT} {k j i : Nat} {m x : Str} {E : XK} {te : TE} {ta : TA} {o e : Expr} {es : List Expr} {apos pos p : Pos}
theorem run_to {pins : List (Addr × Obj)} {σ : L2.St} {H : Hp} {s : Shared} {Q : VK} {f : Addr} {us : List Value} {vs : List V} (c : CallsTo X.prog X.w X.K X.mg X.base CX k f H vs Q E) (hr : Room j X.A) (hk : k ≤ j) (hx : Passes CX X E) (I : Inv X pins σ H s) (r : Vals vs us) :
    wpAny (model X.prog X.w) X.A (call (.ref f) us) (EP X pins σ Q) X.xe s := by
  obtain ⟨_, z⟩ := c X.A X.stack s us (hr.mono hk) I.env0 r
  refine wpAny_call (codeAny_mono z fun r s' hq => ?_)
  cases r with
  | error e => exact hx pins σ H s e s' I hq
  | ok fl =>
    cases fl with
    | ret u => exact I.after hq
    | next => exact False.elim hq
    | brk => exact False.elim hq
    | cont => exact False.elim hq
/-- o.m(..), m a method of the class that o is of -/
def tMethD (X : Cx) (CX : CXT) (k : Nat) (m : Str) (te : TE) (ta : TA) (E : XK) : TE := fun σ H Q => te σ H fun x H1 => ∃ a C dx fs f, x = .ref a ∧ H1 a = some (.ins C dx fs) ∧ Cls X.K C ∧ Meth X.K C m f ∧ fs.lookup m = none ∧ ta σ H1 fun vs H2 => CallsTo X.prog X.w X.K X.mg X.base CX k f H2 (x :: vs) Q E
theorem pe_methD {pl : Sem Bool} (he : PE X o te) (ha : PA X (e :: es) ta) (hr : Room j X.A) (hk : k ≤ j) (hx : Passes CX X E)
    (hst : starEach (e :: es) X.env = (false, eval e X.env) :: starEach es X.env := by rfl) (hpl : (backTo pos (starEach es X.env)).any (·.1) = false := by rfl)
    (ht : eval (.Call (.Attribute o m apos) (e :: es) [] pos) X.env = (do
      let ov ← eval o X.env
      standAt apos.atName
      let (f, first) ← holding [ov] (getMethod ov m pl)
      callWith pos f first (backTo pos (starEach (e :: es) X.env)) (backToKw pos (keywordEach [] X.env))) := by rfl) :
    PE X (.Call (.Attribute o m apos) (e :: es) [] pos) (tMethD X CX k m te ta E) := by
  refine ⟨fun pins s σ H Q I h => ?_⟩
  refine PySem.W.methodCall_KW (pl := pl) (thn (he.run pins s σ H _ I h) fun u s1 ⟨x, H1, I1, rx, a, C, dx, fs, f, ex, ea, c, hm, l, q⟩ => ?_) ht
  subst ex
  obtain rfl : u = Value.ref a := rx
  refine getmeth_ok I1 ea c hm l ?_
  refine PySem.W.callWith_K (first := [.ref a]) (h₀ := X.base) I.ok.mod.kin hm.kp (thn (ha.run pos pins s1 σ H1 _ I1 q) fun us s2 ⟨vs, H2, I2, r, q2⟩ => ⟨I2.kIn, ?_⟩) hst hpl
  exact run_to (us := .ref a :: us) q2 hr hk hx I2 (.cons rfl r)
theorem pe_methD0 {pl : Sem Bool} (he : PE X o te) (hr : Room j X.A) (hk : k ≤ j) (hx : Passes CX X E)
    (ht : eval (.Call (.Attribute o m apos) [] [] pos) X.env = (do
      let ov ← eval o X.env
      standAt apos.atName
      let (f, first) ← holding [ov] (getMethod ov m pl)
      callWith pos f first (backTo pos (starEach [] X.env)) (backToKw pos (keywordEach [] X.env))) := by rfl) :
    PE X (.Call (.Attribute o m apos) [] [] pos) (tMethD X CX k m te tNil E) := by
  refine ⟨fun pins s σ H Q I h => ?_⟩
  refine PySem.W.methodCall_KW (pl := pl) (thn (he.run pins s σ H _ I h) fun u s1 ⟨x, H1, I1, rx, a, C, dx, fs, f, ex, ea, c, hm, l, q⟩ => ?_) ht
  subst ex
  obtain rfl : u = Value.ref a := rx
  refine getmeth_ok I1 ea c hm l ?_
  refine PySem.W.callWith_K0 (first := [.ref a]) I1.kIn hm.kp ?_
  exact run_to (us := [.ref a]) q hr hk hx I1 (.cons rfl .nil)
/-- f(..), f a name that holds a function -/
def tCallV (X : Cx) (CX : CXT) (k i : Nat) (ta : TA) (E : XK) : TE := fun σ H Q => ∃ f, σ[i]? = some (some (.ref f)) ∧ IsFn f H ∧ ta σ H fun vs H2 => IsFn f H2 ∧ CallsTo X.prog X.w X.K X.mg X.base CX k f H2 vs Q E
theorem pe_callV (hN : X.N[i]? = some x) (hv : Vis X.env.scope x) (ha : PA X (e :: es) ta) (hr : Room j X.A) (hk : k ≤ j) (hx : Passes CX X E) (hdb : (x == ("__debug__" : Str)) = false := by decide) (hcd : (x == ("__classdict__" : Str)) = false := by decide)
    (he : starEach (e :: es) X.env = (false, eval e X.env) :: starEach es X.env := by rfl) (hpl : (backTo pos (starEach es X.env)).any (·.1) = false := by rfl) : PE X (.Call (.Name x p) (e :: es) [] pos) (tCallV X CX k i ta E) := by
  refine ⟨fun pins s σ H Q I h => ?_⟩
  obtain ⟨f, hs, hf, ht⟩ := h
  refine wpAny_Call_Name_kw (thn ((pe_var (pos := p) hN hv hdb hcd).run pins s σ H (fun v H1 => v = .ref f ∧ H1 = H) I ⟨.ref f, hs, rfl, rfl⟩) fun u s1 ⟨v, H1, I1, r1, q1⟩ => ?_)
  obtain ⟨rfl, rfl⟩ := q1
  obtain rfl : u = Value.ref f := r1
  refine PySem.W.callWith_F (first := []) (hf _ _ _ I1.hok) (thn (ha.run pos pins s1 σ _ _ I1 ht) fun us s2 ⟨vs, H2, I2, r, hf2, q⟩ => ⟨hf2 _ _ _ I2.hok, ?_⟩) he hpl
  exact run_to q hr hk hx I2 r
theorem pe_callV0 (hN : X.N[i]? = some x) (hv : Vis X.env.scope x) (hr : Room j X.A) (hk : k ≤ j) (hx : Passes CX X E) (hdb : (x == ("__debug__" : Str)) = false := by decide) (hcd : (x == ("__classdict__" : Str)) = false := by decide) :
    PE X (.Call (.Name x p) [] [] pos) (tCallV X CX k i tNil E) := by
  refine ⟨fun pins s σ H Q I h => ?_⟩
  obtain ⟨f, hs, hf, _, q⟩ := h
  refine wpAny_Call_Name_kw (thn ((pe_var (pos := p) hN hv hdb hcd).run pins s σ H (fun v H1 => v = .ref f ∧ H1 = H) I ⟨.ref f, hs, rfl, rfl⟩) fun u s1 ⟨v, H1, I1, r1, q1⟩ => ?_)
  obtain ⟨rfl, rfl⟩ := q1
  obtain rfl : u = Value.ref f := r1
  refine PySem.W.callWith_F0 (first := []) (hf _ _ _ I1.hok) ?_
  exact run_to q hr hk hx I1 .nil
/-- C.m(o, ..), C an own class, m a def of it or of a class above it -/
def tClsF (sp : Sp) (E : XK) (ta : TA) : TE := fun σ H Q => ta σ H fun vs H1 => sp vs H1 Q E
theorem pe_clsF {n : Str} {pl : Sem Bool} {S f : Addr} {mc : Value} {fd : FuncData} {ps : List Str} {sp : Sp} {p1 p2 : Pos} (hg : Gl X n) (hm : X.mg n = some (.ref S)) (cr : ClX.CRead X.K S mc) (vV : PySem.W.findCls X.K (.ref S) mc m = some (.val (.ref f))) (hin : PySem.W.handedIn (.ref f) = true) (hkp : PySem.W.keepIn X.K (.ref f) = true)
    (F : FnOk X.prog X.w X.K X.mg X.base CX k f fd ps sp) (hr : Room k X.A) (hb : Binds X.K fd ps []) (hx : Passes CX X E) (ha : PA X (e :: es) ta)
    (hc : eval (.Call (.Attribute (.Name n p1) m p2) (e :: es) [] pos) X.env = (do
      let ov ← eval (.Name n p1) X.env
      standAt p2.atName
      let (fn, fst) ← holding [ov] (getMethod ov m pl)
      callWith pos fn fst (backTo pos (starEach (e :: es) X.env)) (backToKw pos (keywordEach [] X.env))) := by rfl)
    (hdb : (n == ("__debug__" : Str)) = false := by decide) (he : starEach (e :: es) X.env = (false, eval e X.env) :: starEach es X.env := by rfl) (hp : (backTo pos (starEach es X.env)).any (·.1) = false := by rfl) :
    PE X (.Call (.Attribute (.Name n p1) m p2) (e :: es) [] pos) (tClsF sp E ta) := by
  refine ⟨fun pins s σ H Q I k => PySem.W.methodCall_KW (ld_glob I hg hm ?_ hdb) hc⟩
  refine PySem.W.method_cls I.kIn cr.ga (PySem.W.cls_value I.kIn cr.rd vV hin ?_)
  show wpAny _ _ (callWith pos (Value.ref f) [] (backTo pos (starEach (e :: es) X.env)) []) _ _ _
  refine PySem.W.callWith_K (first := []) (h₀ := X.base) I.ok.mod.kin hkp (thn (ha.run pos pins _ σ H _ (I.tok _) k) fun us s1 ⟨vs, H1, I1, rv, q⟩ => ⟨I1.kIn, ?_⟩) he hp
  exact run_fn (us := us) (vs := vs) (dvs := []) F hr hb .nil hx I1 rv (by rw [List.append_nil]; exact q)
end
section
variable {CX : CXT} {P : Program} {w : World} {K : PySem.W.Frag} {mg : Str → Option Value} {base : Heap} {N ps fr : List Str} {F : LF} {f : Addr} {k j : Nat} {H : Hp} {vs : List V} {Q Q' : VK} {E : XK}
theorem calls_up (c : CallsTo P w K mg base CX j f H vs Q E) (h : j ≤ k) : CallsTo P w K mg base CX k f H vs Q E := fun A outer s us hr => c A outer s us (hr.mono h)
structure CalMD (K : PySem.W.Frag) (qual : Str) (st : Stmt) (dvs : List V) (f : Addr) (fd : FuncData) : Prop where
  F : FunD K "__init__" qual (defArgs st) (defBody st) (defScope st) dvs [] f fd
/-- what never raises -/
theorem calls_ok (c : CallsTo P w K mg base CX0 k f H vs Q E0) : CallsTo P w K mg base (L2.CX P w) k f H vs Q E := fun A outer s us hr e0 r => ⟨(c A outer s us hr e0 r).1, codeAny_mono (c A outer s us hr e0 r).2 fun rs s' z => by
  cases rs with
  | error e => exact z.elim
  | ok fl =>
    cases fl with
    | ret u => exact z
    | next => exact z
    | brk => exact z
    | cont => exact z⟩
/-- a def of the text -/
theorem calls_fn {x qual : Str} {st : Stmt} {fd : FuncData} {sp : Sp} (Fn : Fun K x qual st f fd) (o : FnOk P w K mg base CX k f fd ps sp) (hb : Binds K fd ps []) (q : sp vs H Q E) : CallsTo P w K mg base CX k f H vs Q E := by
  refine fun A outer s us hr e0 r => ?_
  have KX : K.In s.heap := e0.mod.kin.keeps fun b o e => (e0.bs b o e).1
  obtain ⟨oc, od, kV, doc, pm, an, cdv, ct, osl, rfl, lk, hcd⟩ := Fn.ex
  have hl : (us ++ []).length = ps.length := by rw [List.append_nil, ← r.length]; exact o.len _ _ _ _ q
  refine ⟨⟨_, _, _, _, KX _ _ lk⟩, o.run A outer s H ⟨us, []⟩ us vs Q E hr e0 ?_ r q⟩
  have := hb s us KX hl
  rw [List.append_nil] at this
  exact this
/-- a lambda that captured names, called behind the end of its maker -/
theorem calls_lamC {ws : List (Option V)} {cs : CL} {t : TE} (S : NScope N ps fr F.scope) (hb : ∀ (pm ctv : Value) (us : List Value), us.length = ps.length → bindArgs (F.fd pm ctv) ⟨us, []⟩ = pure (ps.zip us)) (hl : vs.length = ps.length)
    (tr : Trk cs H) (c : ClAt F.cl fr ws cs) (hf : H f = some (LamO f F)) (hc : H F.c = some (CodeO F.c F.qual))
    (hbody : ∀ (A : Around) (outer : List Env) (s : Shared), Room k (A.deeper (envF F.nf f s.heap.objs.size)) → PE (ncx (L2.CX P w) P w K mg base N F.nf f A outer s (hide cs H) (Eh cs E)) F.body t) (hq : t (startF N vs ws) (hide cs H) (Qh cs Q)) :
    CallsTo P w K mg base (L2.CX P w) (k + 1) f H vs Q E := by
  refine fun A outer s us hr e0 r => ?_
  have e1 := env_hide tr e0
  have unlim : s.heap.NoLimit := e0.mod.nolimit.keeps fun x y z => (e0.bs x y z).1
  obtain ⟨pm, ctv, ho⟩ := lamO_at e0.hok hf
  refine ⟨⟨_, _, _, _, ho⟩, ?_⟩
  refine PySem.W.kla_callFunE hr.depth ho rfl S.co S.gen rfl (codeO_at e0.hok hc) ?_
  rw [hb pm ctv us (by rw [← r.length]; exact hl)]
  refine wpAny_pure (wpAny_newFunctionEnv S.nocell (fun y hy => S.par y.1 (List.of_mem_zip hy).1) (fun hn frm grown => ⟨unlim.fresh _ grown, ?_⟩) S.kind)
  show codeAny _ _ (.expr F.body (envF F.nf f s.heap.objs.size)) _ _
  have still : ∀ x y, s.heap.get? x = some y → hn.get? x = some y := fun x y z => grown.extBut x y (Nat.ne_of_lt (Heap.lt_size z)) (Heap.get?_push_of_some _ z)
  have C : CellsAt F.nf.cl fr ws s.heap (hide cs H) := cells_hide (F := F.nf) tr e0.hok c
  have I : Inv (ncx (L2.CX P w) P w K mg base N F.nf f A outer s (hide cs H) (Eh cs E)) [] (startF N vs ws) (hide cs H) { s with heap := hn, toks := s.toks + (ps.zip us).length } := inv_startN S hr.hd e1 hl r C frm still
  refine PySem.W.kla_codeExpr (wpAny_mono ((hbody A outer s (hr.deeper _)).run [] _ (startF N vs ws) (hide cs H) (Qh cs Q) I hq) (fun v s' hq => ?_) fun e s' hq => ?_)
  · obtain ⟨w', H', J, rv, q⟩ := hq
    exact ce_unhide tr e0.hok e0.frf ⟨w', H', J.os, J.bare, J.base, J.hok, rv, q⟩
  · refine wpAny_mono hq (fun _ s2 z => ?_) fun e2 s2 z => ?_
    · exact cx_unhide tr e0.hok e0.frf z
    · exact cx_unhide tr e0.hok e0.frf z
end
section
variable {X : Cx} {CX : CXT} {k i : Nat} {m : Str} {E : XK} {te : TE} {ta : TA} {σ : L2.St} {H : Hp} {Q : VK} {sp : Sp}
theorem rd_methD (h : te σ H fun x H1 => ∃ a C dx fs f, x = .ref a ∧ H1 a = some (.ins C dx fs) ∧ Cls X.K C ∧ Meth X.K C m f ∧ fs.lookup m = none ∧ ta σ H1 fun vs H2 => CallsTo X.prog X.w X.K X.mg X.base CX k f H2 (x :: vs) Q E) : tMethD X CX k m te ta E σ H Q := h
theorem rd_clsF (h : ta σ H fun vs H1 => sp vs H1 Q E) : tClsF sp E ta σ H Q := h
end
end Xj

/-! Xk1: askings as trees: what is asked, what is put into the row, what is told; a tree kept at a heap -/
namespace Xk
open PySem PySem.Spec PyProof.Rows L2 Rs LamX
inductive Ak (ι β : Type) : Type
  | ret (b : β) : Ak ι β
  | ask (q : ι) (k : Bool → Ak ι β) : Ak ι β
  | put (ys : List V) (k : Ak ι β) : Ak ι β
namespace Ak
variable {ι κ β γ : Type}
def bind : Ak ι β → (β → Ak ι γ) → Ak ι γ
  | ret b, g => g b
  | ask q k, g => ask q fun b => (k b).bind g
  | put ys k, g => put ys (k.bind g)
def mapq (f : ι → κ) : Ak ι β → Ak κ β
  | ret b => ret b
  | ask q k => ask (f q) fun b => (k b).mapq f
  | put ys k => put ys (k.mapq f)
theorem bind_ret (t : Ak ι β) : t.bind ret = t := by
  induction t with
  | ret b => rfl
  | ask q k ih => simp only [bind, ih]
  | put ys k ih => simp only [bind, ih]
theorem bind_bind {δ : Type} (t : Ak ι β) (g : β → Ak ι γ) (h : γ → Ak ι δ) : (t.bind g).bind h = t.bind fun b => (g b).bind h := by
  induction t with
  | ret b => rfl
  | ask q k ih => simp only [bind, ih]
  | put ys k ih => simp only [bind, ih]
theorem ite_bind {c : Prop} [Decidable c] (t u : Ak ι β) (g : β → Ak ι γ) : (if c then t else u).bind g = if c then t.bind g else u.bind g := by split <;> rfl
end Ak
theorem same_nn {H H' : Hp} {b : Addr} (s : Same H H') (e : H' b = none) : H b = none := by
  cases h : H b with
  | none => rfl
  | some o => rw [s _ _ h] at e; cases e
/-- a thing that may be changed stands there -/
def Mq : HO → Prop
  | .lst _ => True
  | .ins _ _ _ => True
  | .dK _ => True
  | _ => False
theorem Mq.tbl {o : HO} (h : Mq o) (ps : Array Value) : o ≠ .tbl ps := fun e => by subst e; exact h
def Std (H : Hp) (b : Addr) : Prop := ∃ o, H b = some o ∧ Mq o
theorem Std.ext {H H' : Hp} {b : Addr} (s : Std H b) (e : ExtN H H') : Std H' b := let ⟨o, h, n⟩ := s; ⟨o, e _ _ h n.tbl, n⟩
theorem Std.ne {H : Hp} {b : Addr} (s : Std H b) : H b ≠ none := by obtain ⟨o, h, _⟩ := s; rw [h]; simp
theorem Std.not {H : Hp} {b : Addr} {o : HO} (s : Std H b) (h : H b = some o) : Mq o := by obtain ⟨u, e, m⟩ := s; rw [h] at e; cases e; exact m
/-- what an asking is, what it may change (besides tables), what it keeps -/
structure Wd (ι : Type) where
  TT : List (Addr × Str)
  MM : List Addr
  J : Hp → Prop
  Do : ι → Hp → VK → XK → Prop
  mono : ∀ q H (Q Q' : VK) (E E' : XK), (∀ v H', Q v H' → Q' v H') → (∀ c d H', E c d H' → E' c d H') → Do q H Q E → Do q H Q' E'
  jm : ∀ H H', J H → (∀ b ∈ MM, ∀ o, H b = some o → H' b = some o) → J H'
/-- what is done between askings: new objects, tables, the program's own objects o but those of pr -/
structure Mv {ι : Type} (W : Wd ι) (pr o o' : List Addr) (H H' : Hp) : Prop where
  ext : ∀ b u, H b = some u → (b ∉ o ∨ b ∈ pr) → (∀ ps, u ≠ .tbl ps) → H' b = some u
  tab : Tabs W.TT H → Tabs W.TT H'
  nn : ∀ b, H' b = none → H b = none
  sub : ∀ b ∈ o', b ∈ o ∨ H b = none
  sup : ∀ b ∈ o, b ∈ o'
  on : (∀ b ∈ o, H b ≠ none) → ∀ b ∈ o', H' b ≠ none
/-- what an asking keeps -/
structure Frm {ι : Type} (W : Wd ι) (H H' : Hp) : Prop where
  old : ∀ b o, H b = some o → b ∉ W.MM → (∀ ps, o ≠ .tbl ps) → H' b = some o
  tab : Tabs W.TT H → Tabs W.TT H'
  nn : ∀ b, H' b = none → H b = none
  j : W.J H → W.J H'
/-- a row is written -/
structure Pt {ι : Type} (W : Wd ι) (a : Addr) (ys : List V) (pr o o' : List Addr) (H H' : Hp) : Prop where
  at_ : H' a = some (.lst ys)
  old : ∀ b u, H b = some u → b ≠ a → (b ∉ o ∨ b ∈ pr) → (∀ ps, u ≠ .tbl ps) → H' b = some u
  tab : Tabs W.TT H → Tabs W.TT H'
  nn : ∀ b, H' b = none → H b = none
  sub : ∀ b ∈ o', b ∈ o ∨ H b = none
  sup : ∀ b ∈ o, b ∈ o'
  on : (∀ b ∈ o, H b ≠ none) → ∀ b ∈ o', H' b ≠ none
section
variable {ι κ β γ : Type} {W : Wd ι} {a : Addr} {H H' H1 H2 : Hp} {E : XK} {pr pr' o o' o1 o2 : List Addr}
theorem Mv.refl (W : Wd ι) (pr o : List Addr) (H : Hp) : Mv W pr o o H H := ⟨fun _ _ e _ _ => e, id, fun _ h => h, fun _ h => .inl h, fun _ h => h, id⟩
theorem mv_keepo (x : Mv W pr o o1 H H1) {b : Addr} {u : HO} (e : H b = some u) (h : b ∉ o ∨ b ∈ pr) : b ∉ o1 ∨ b ∈ pr := by
  rcases h with h | h
  · by_cases c : b ∈ o1
    · rcases x.sub b c with z | z
      · exact absurd z h
      · rw [e] at z; cases z
    · exact .inl c
  · exact .inr h
theorem mv_sub (x : Mv W pr o o1 H H1) {b : Addr} (h : b ∈ o1 ∨ H1 b = none) : b ∈ o ∨ H b = none := by
  rcases h with h | h
  · exact x.sub b h
  · exact .inr (x.nn b h)
theorem Mv.trans (x : Mv W pr o o1 H H1) (y : Mv W pr o1 o2 H1 H2) : Mv W pr o o2 H H2 :=
  ⟨fun b u e h nt => y.ext b u (x.ext b u e h nt) (mv_keepo x e h) nt, fun t => y.tab (x.tab t), fun b h => x.nn b (y.nn b h), fun b hb => mv_sub x (y.sub b hb), fun b hb => y.sup b (x.sup b hb), fun h => y.on (x.on h)⟩
theorem Mv.same (s : Same H H') : Mv W pr o o H H' := ⟨fun b u e _ _ => s b u e, fun t => t.ext s, fun b e => same_nn s e, fun _ h => .inl h, fun _ h => h, fun h b hb z => h b hb (same_nn s z)⟩
theorem Pt.mv {ys : List V} (x : Mv W pr o o1 H H1) (y : Pt W a ys pr o1 o2 H1 H2) : Pt W a ys pr o o2 H H2 :=
  ⟨y.at_, fun b u e n h nt => y.old b u (x.ext b u e h nt) n (mv_keepo x e h) nt, fun t => y.tab (x.tab t), fun b h => x.nn b (y.nn b h), fun b hb => mv_sub x (y.sub b hb), fun b hb => y.sup b (x.sup b hb), fun h => y.on (x.on h)⟩
theorem Mv.less (h : ∀ b ∈ pr, b ∈ pr') (x : Mv W pr' o o' H H') : Mv W pr o o' H H' := ⟨fun b u e c nt => x.ext b u e (c.imp_right (h b)) nt, x.tab, x.nn, x.sub, x.sup, x.on⟩
theorem Pt.less {ys : List V} (h : ∀ b ∈ pr, b ∈ pr') (x : Pt W a ys pr' o o' H H') : Pt W a ys pr o o' H H' := ⟨x.at_, fun b u e n c nt => x.old b u e n (c.imp_right (h b)) nt, x.tab, x.nn, x.sub, x.sup, x.on⟩
/-- the tree is kept at H; o: the program's own objects, pr: those of them that stay as they are -/
def Wp (W : Wd ι) (a : Addr) (E : XK) (pr : List Addr) : Ak ι β → List Addr → Hp → (β → List Addr → Hp → Prop) → Prop
  | .ret b, o, H, Q => ∀ o' H', Mv W pr o o' H H' → Q b o' H'
  | .ask q k, o, H, Q => ∀ o' H', Mv W pr o o' H H' → W.Do q H' (fun v H2 => ∃ b, v = .bl b ∧ Frm W H' H2 ∧ Wp W a E pr (k b) o' H2 Q) E
  | .put ys k, o, H, Q => ∀ o' H', Pt W a ys pr o o' H H' → Wp W a E pr k o' H' Q
theorem Wp.mv {Q : β → List Addr → Hp → Prop} (m : Mv W pr o o' H H') : ∀ {t : Ak ι β}, Wp W a E pr t o H Q → Wp W a E pr t o' H' Q
  | .ret b, h => fun o2 H2 n => h o2 H2 (m.trans n)
  | .ask q k, h => fun o2 H2 n => h o2 H2 (m.trans n)
  | .put ys k, h => fun o2 H2 n => h o2 H2 (n.mv m)
theorem Wp.imp {Q Q' : β → List Addr → Hp → Prop} (m : ∀ b o H, Q b o H → Q' b o H) : ∀ {t : Ak ι β} {o : List Addr} {H : Hp}, Wp W a E pr t o H Q → Wp W a E pr t o H Q'
  | .ret b, _, _, h => fun o2 H2 n => m _ _ _ (h o2 H2 n)
  | .ask q k, _, _, h => fun o2 H2 n => W.mono _ _ _ _ _ _ (fun v H3 ⟨b, e, f, w⟩ => ⟨b, e, f, Wp.imp m w⟩) (fun _ _ _ z => z) (h o2 H2 n)
  | .put ys k, _, _, h => fun o2 H2 n => Wp.imp m (h o2 H2 n)
/-- more stays as it is -/
theorem Wp.prot {Q : β → List Addr → Hp → Prop} (le : ∀ b ∈ pr, b ∈ pr') : ∀ {t : Ak ι β} {o : List Addr} {H : Hp}, Wp W a E pr t o H Q → Wp W a E pr' t o H Q
  | .ret b, _, _, h => fun o2 H2 n => h o2 H2 (n.less le)
  | .ask q k, _, _, h => fun o2 H2 n => W.mono _ _ _ _ _ _ (fun v H3 ⟨b, e, f, w⟩ => ⟨b, e, f, Wp.prot le w⟩) (fun _ _ _ z => z) (h o2 H2 (n.less le))
  | .put ys k, _, _, h => fun o2 H2 n => Wp.prot le (h o2 H2 (n.less le))
theorem Wp.bind {Q : γ → List Addr → Hp → Prop} {g : β → Ak ι γ} : ∀ {t : Ak ι β} {o : List Addr} {H : Hp}, Wp W a E pr (t.bind g) o H Q → Wp W a E pr t o H (fun b o' H' => Wp W a E pr (g b) o' H' Q)
  | .ret b, _, _, h => fun o2 H2 n => Wp.mv n h
  | .ask q k, _, _, h => fun o2 H2 n => W.mono _ _ _ _ _ _ (fun v H3 ⟨b, e, f, w⟩ => ⟨b, e, f, Wp.bind w⟩) (fun _ _ _ z => z) (h o2 H2 n)
  | .put ys k, _, _, h => fun o2 H2 n => Wp.bind (h o2 H2 n)
end
/-! ### a tree run by answers -/
section
variable {ι β γ : Type}
/-- what is told, how the row stands at last, what was asked and how the row stood -/
def Ak.run (tl : Nat → ι → Bool) : Ak ι β → Nat → List V → β × List V × List (ι × List V)
  | .ret b, _, xs => (b, xs, [])
  | .ask q k, n, xs => (((k (tl n q)).run tl (n + 1) xs).1, ((k (tl n q)).run tl (n + 1) xs).2.1, (q, xs) :: ((k (tl n q)).run tl (n + 1) xs).2.2)
  | .put ys k, n, _ => k.run tl n ys
theorem run_bind (tl : Nat → ι → Bool) (g : β → Ak ι γ) : ∀ (t : Ak ι β) (n : Nat) (xs : List V),
    (t.bind g).run tl n xs = (((g (t.run tl n xs).1).run tl (n + (t.run tl n xs).2.2.length) (t.run tl n xs).2.1).1, ((g (t.run tl n xs).1).run tl (n + (t.run tl n xs).2.2.length) (t.run tl n xs).2.1).2.1,
      (t.run tl n xs).2.2 ++ ((g (t.run tl n xs).1).run tl (n + (t.run tl n xs).2.2.length) (t.run tl n xs).2.1).2.2)
  | .ret b, n, xs => by simp [Ak.bind, Ak.run]
  | .ask q k, n, xs => by
    have e := run_bind tl g (k (tl n q)) (n + 1) xs
    simp only [Ak.bind, Ak.run, e, List.length_cons, List.cons_append]
    rw [show n + 1 + ((k (tl n q)).run tl (n + 1) xs).2.2.length = n + (((k (tl n q)).run tl (n + 1) xs).2.2.length + 1) by omega]
  | .put ys k, n, xs => run_bind tl g k n ys
/-- kept by an invariant over so many askings -/
theorem Wp.of_run {W : Wd ι} {a : Addr} {E : XK} {pr : List Addr} (tl : Nat → ι → Bool) (I : List Addr → Nat → Hp → Prop) {Q : β → List Addr → Hp → Prop} (im : ∀ o o' n H H', I o n H → Mv W pr o o' H H' → I o' n H') (ip : ∀ o o' n ys H H', I o n H → Pt W a ys pr o o' H H' → I o' n H') (ia : a ∉ W.MM) (io : ∀ o n H, I o n H → a ∉ o) :
    ∀ (t : Ak ι β) (n : Nat) (xs : List V) (o : List Addr) (H : Hp), I o n H → H a = some (.lst xs) →
      (∀ i q ys o' H', (t.run tl n xs).2.2[i]? = some (q, ys) → I o' (n + i) H' → H' a = some (.lst ys) → W.Do q H' (fun v H2 => v = .bl (tl (n + i) q) ∧ Frm W H' H2 ∧ I o' (n + i + 1) H2) E) →
      (∀ o' H', I o' (n + (t.run tl n xs).2.2.length) H' → H' a = some (.lst (t.run tl n xs).2.1) → Q (t.run tl n xs).1 o' H') → Wp W a E pr t o H Q
  | .ret b, n, xs, o, H, i0, ha, _, hq => fun o' H' m => hq o' H' (im _ _ _ _ _ i0 m) (m.ext _ _ ha (.inl (io _ _ _ i0)) (fun _ z => by cases z))
  | .ask q k, n, xs, o, H, i0, ha, hs, hq => fun o' H' m => by
    have ha' := m.ext _ _ ha (.inl (io _ _ _ i0)) (fun _ z => by cases z)
    refine W.mono _ _ _ _ _ _ (fun v H2 ⟨e, f, i2⟩ => ⟨tl n q, e, f, ?_⟩) (fun _ _ _ z => z) (hs 0 q xs o' H' rfl (im _ _ _ _ _ i0 m) ha')
    have ha2 := f.old _ _ ha' ia (fun _ z => by cases z)
    refine Wp.of_run tl I im ip ia io (k (tl n q)) (n + 1) xs o' H2 i2 ha2 (fun i q' ys o3 H3 e3 i3 h3 => ?_) fun o3 H3 i3 h3 => ?_
    · have z := hs (i + 1) q' ys o3 H3 (by simpa [Ak.run] using e3) (by rw [show n + (i + 1) = n + 1 + i by omega]; exact i3) h3
      rw [show n + (i + 1) = n + 1 + i by omega] at z
      exact z
    · refine hq o3 H3 ?_ h3
      simp only [Ak.run, List.length_cons]
      rw [show n + (((k (tl n q)).run tl (n + 1) xs).2.2.length + 1) = n + 1 + ((k (tl n q)).run tl (n + 1) xs).2.2.length by omega]
      exact i3
  | .put ys k, n, xs, o, H, i0, ha, hs, hq => fun o' H' p => Wp.of_run tl I im ip ia io k n ys o' H' (ip _ _ _ _ _ _ i0 p) p.at_ hs hq
/-- the very askings are those of another run, as long as the answers are alike -/
theorem run_pre (tl tl' : Nat → ι → Bool) : ∀ (t : Ak ι β) (n : Nat) (xs : List V) (m : Nat), (∀ i q ys, i < m → (t.run tl n xs).2.2[i]? = some (q, ys) → tl (n + i) q = tl' (n + i) q) → (t.run tl n xs).2.2.take (m + 1) = (t.run tl' n xs).2.2.take (m + 1)
  | .ret b, n, xs, m, _ => rfl
  | .ask q k, n, xs, m, h => by
    simp only [Ak.run, List.take_succ_cons]
    congr 1
    cases m with
    | zero => rfl
    | succ m =>
      have e := h 0 q xs (Nat.succ_pos _) rfl
      rw [Nat.add_zero] at e
      rw [← e]
      exact run_pre tl tl' (k (tl n q)) (n + 1) xs m fun i q' ys hi e' => by
        have z := h (i + 1) q' ys (by omega) (by simpa [Ak.run] using e')
        rw [show n + (i + 1) = n + 1 + i by omega] at z
        exact z
  | .put ys k, n, xs, m, h => run_pre tl tl' k n ys m h
end
end Xk

/-! Xk2: a lambda with parameters handed down: the running frame's cells are heap objects while the callee runs -/
namespace Xk
open PySem PySem.Spec PySem.Calls PyProof.Rows L2 Rs LamX NdefX Xf Xh
/-- a cell of a running frame, while a callee runs: its very object -/
def CellZ (c : Addr) (o : Obj) (v : V) : HO := .frz o (.ext fun h => ∃ u, RelV v u ∧ h.IsCell c (some u))
theorem cellZ_ok {P : Program} {w : World} {H : Hp} {h : Heap} {c : Addr} {o : Obj} {v : V} {u : Value} (r : RelV v u) (e : h.get? c = some o) (k : h.IsCell c (some u)) : ObjOk P w H h c (CellZ c o v) :=
  ⟨e, ⟨u, r, k⟩, ⟨o, e⟩, fun h1 h2 ⟨u, r, o, ho, hd⟩ k => ⟨u, r, o, k o ho, hd⟩⟩
theorem cellZ_at {P : Program} {w : World} {H : Hp} {h : Heap} {c : Addr} {o : Obj} {v : V} (hok : HOk P w H h) (e : H c = some (CellZ c o v)) : h.get? c = some o ∧ ∃ u, RelV v u ∧ h.IsCell c (some u) := by
  obtain ⟨e1, z, _, _⟩ := hok c _ e
  exact ⟨e1, z⟩
def unhideZ (oz : Addr → Obj) (cs : CL) (H : Hp) : Hp := fun b => match cs.lookup b with
  | some v => some (CellZ b (oz b) v)
  | none => H b
def TrkZ (oz : Addr → Obj) (cs : CL) (H : Hp) : Prop := ∀ b v, cs.lookup b = some v → H b = some (CellZ b (oz b) v)
section
variable {cs : CL} {oz : Addr → Obj} {H H' : Hp} {b : Addr} {v : V} {o : HO}
theorem unhideZ_in (h : cs.lookup b = some v) : unhideZ oz cs H b = some (CellZ b (oz b) v) := by unfold unhideZ; rw [h]
theorem unhideZ_out (h : cs.lookup b = none) : unhideZ oz cs H b = H b := by unfold unhideZ; rw [h]
theorem unhideZ_trk : TrkZ oz cs (unhideZ oz cs H) := fun b v e => unhideZ_in e
theorem TrkZ.out (t : TrkZ oz cs H) (h : H b = some o) (n : ∀ ob u, o ≠ .frz ob u) : cs.lookup b = none := by
  cases e : cs.lookup b with
  | none => rfl
  | some v =>
    rw [t b v e] at h
    exact absurd (Option.some.inj h).symm (n _ _)
theorem TrkZ.none (t : TrkZ oz cs H) (h : H b = none) : cs.lookup b = none := by
  cases e : cs.lookup b with
  | none => rfl
  | some v => rw [t b v e] at h; cases h
theorem hide_unhideZ (fr : Free cs H) : hide cs (unhideZ oz cs H) = H := by
  funext b
  cases e : cs.lookup b with
  | none => rw [hide_out e, unhideZ_out e]
  | some v => rw [hide_in e, fr b v e]
theorem unhideZ_keep (fr : Free cs H) (e : H b = some o) : unhideZ oz cs H b = some o := by
  rw [unhideZ_out]
  · exact e
  · cases z : cs.lookup b with
    | none => rfl
    | some v => rw [fr b v z] at e; cases e
theorem hideZ_hok {P : Program} {w : World} {h : Heap} (t : TrkZ oz cs H) (x : HOk P w H h) : HOk P w (hide cs H) h := fun a o e => by
  obtain ⟨_, e2⟩ := hide_some e
  refine (x a o e2).stay (fun b u _ q => q) (fun b q => ?_) fun b xs q => ?_
  · rw [hide_out (t.out q fun _ _ z => by cases z)]; exact q
  · rw [hide_out (t.out q fun _ _ z => by cases z)]; exact q
theorem unhideZ_hok {P : Program} {w : World} {h : Heap} (n : ∀ b v, cs.lookup b = some v → H b = Option.none) (c : ∀ b v, cs.lookup b = some v → h.get? b = some (oz b) ∧ ∃ u, RelV v u ∧ h.IsCell b (some u)) (x : HOk P w H h) : HOk P w (unhideZ oz cs H) h := fun a o e => by
  cases hl : cs.lookup a with
  | some v =>
    rw [unhideZ_in hl] at e
    cases e
    obtain ⟨e1, u, r, q⟩ := c a v hl
    exact cellZ_ok r e1 q
  | none =>
    rw [unhideZ_out hl] at e
    have out : ∀ {b : Addr} {u : HO}, H b = some u → cs.lookup b = none := fun {b u} q => by
      cases z : cs.lookup b with
      | none => rfl
      | some v => rw [n b v z] at q; cases q
    exact (x a o e).stay (fun b u _ q => q) (fun b q => by rw [unhideZ_out (out q)]; exact q) fun b xs q => by rw [unhideZ_out (out q)]; exact q
theorem unhideZ_un {fs : List Addr} {h h' : Heap} (t : TrkZ oz cs H) (u : Un fs [] (hide cs H) H' h h') : Un fs [] H (unhideZ oz cs H') h h' where
  keep := fun b o q n => u.keep b o q (hide_none n)
  slot := fun b o q n => u.slot b o q (hide_none n)
  free := fun b o q n x => by rw [unhideZ_out (t.none n)]; exact u.free b o q (hide_none n) x
  there := u.there
  tups := fun b xs q => by
    have l := t.out q fun _ _ z => by cases z
    rw [unhideZ_out l]
    exact u.tups b xs (by rw [hide_out l]; exact q)
  frzs := fun b o xs q => by
    cases l : cs.lookup b with
    | none =>
      rw [unhideZ_out l]
      exact u.frzs b o xs (by rw [hide_out l]; exact q)
    | some v => rw [unhideZ_in l, ← t b v l]; exact q
  tbls := fun b ps q => by
    have l := t.out q fun _ _ z => by cases z
    obtain ⟨m, z⟩ := u.tbls b ps (by rw [hide_out l]; exact q)
    exact ⟨m, by rw [unhideZ_out l]; exact z⟩
theorem unhideZ_ub {fs : List Addr} {h B h' : Heap} (t : TrkZ oz cs H) (u : UB fs (hide cs H) H' h B h') : UB fs H (unhideZ oz cs H') h B h' where
  keep := fun b o q n => u.keep b o q (hide_none n)
  slot := u.slot
  free := fun b o q n => by rw [unhideZ_out (t.none n)]; exact u.free b o q (hide_none n)
  there := u.there
  tups := fun b xs q => by
    have l := t.out q fun _ _ z => by cases z
    rw [unhideZ_out l]
    exact u.tups b xs (by rw [hide_out l]; exact q)
  frzs := fun b o xs q => by
    cases l : cs.lookup b with
    | none =>
      rw [unhideZ_out l]
      exact u.frzs b o xs (by rw [hide_out l]; exact q)
    | some v => rw [unhideZ_in l, ← t b v l]; exact q
  tbls := fun b ps q => by
    have l := t.out q fun _ _ z => by cases z
    obtain ⟨m, z⟩ := u.tbls b ps (by rw [hide_out l]; exact q)
    exact ⟨m, by rw [unhideZ_out l]; exact z⟩
end
/-- a wish, of the heap without the cells -/
def Qz (oz : Addr → Obj) (cs : CL) (Q : VK) : VK := fun v H' => Free cs H' → Q v (unhideZ oz cs H')
def Ez (oz : Addr → Obj) (cs : CL) (E : XK) : XK := fun c d H' => Free cs H' → E c d (unhideZ oz cs H')
section
variable {P : Program} {w : World} {outer : List Env} {cs : CL} {oz : Addr → Obj} {H : Hp} {s s' : Shared} {Q : VK} {E : XK} {u : Value}
theorem cellsZ_kept {fs : List Addr} {h B : Heap} (t : TrkZ oz cs H) (hok : HOk P w H h) (hf : ∀ b ∈ fs, H b = none) (k : ∀ b o, h.get? b = some o → hide cs H b = none → b ∉ fs → B.get? b = some o) : ∀ b v, cs.lookup b = some v → B.get? b = some (oz b) ∧ ∃ u, RelV v u ∧ B.IsCell b (some u) := fun b v e => by
  obtain ⟨e1, u, r, o, ho, hd⟩ := cellZ_at hok (t b v e)
  have nf : b ∉ fs := fun z => by have := hf b z; rw [t b v e] at this; cases this
  exact ⟨k b _ e1 (hide_in e) nf, u, r, o, k b o ho (hide_in e) nf, hd⟩
theorem ce_unhideZ (t : TrkZ oz cs H) (hok : HOk P w H s.heap) (hf : ∀ b ∈ frs outer, H b = none) (h : CE outer P w (hide cs H) s (Qz oz cs Q) u s') : CE outer P w H s Q u s' := by
  obtain ⟨v, H', e1, e2, un, hok', r, q⟩ := h
  have ck := cellsZ_kept (P := P) (w := w) t hok hf (fun b o q n nf => un.keep b o q n nf (by simp))
  have fr : Free cs H' := fun b v e => by
    obtain ⟨e1, _⟩ := cellZ_at hok (t b v e)
    exact un.free b _ e1 (hide_in e) (by simp)
  exact ⟨v, unhideZ oz cs H', e1, e2, unhideZ_un t un, unhideZ_hok fr ck hok', r, q fr⟩
theorem cx_unhideZ (t : TrkZ oz cs H) (hok : HOk P w H s.heap) (hf : ∀ b ∈ frs outer, H b = none) (h : L2.CX P w outer (hide cs H) s (Ez oz cs E) u s') : L2.CX P w outer H s E u s' := by
  obtain ⟨a, B, H', cls, d, e0, fl, hok', ub, na, e1, e2, q⟩ := h
  have ck := cellsZ_kept (P := P) (w := w) t hok hf (fun b o q n nf => ub.keep b o q n nf)
  have fr : Free cs H' := fun b v e => by
    obtain ⟨e1, _⟩ := cellZ_at hok (t b v e)
    exact ub.free b _ e1 (hide_in e)
  refine ⟨a, B, unhideZ oz cs H', cls, d, e0, fl, unhideZ_hok fr ck hok', unhideZ_ub t ub, ?_, e1, e2, q fr⟩
  cases hl : cs.lookup a with
  | none => rw [unhideZ_out hl]; exact na
  | some v =>
    obtain ⟨ho, _⟩ := ck a v hl
    have z := fl.2.1
    rw [ho] at z; cases z
end
section
variable {P : Program} {w : World} {K : PySem.W.Frag} {mg : Str → Option Value} {base : Heap} {N ps fr : List Str} {F : LF} {f : Addr} {k j : Nat} {H : Hp} {vs : List V} {Q Q' : VK} {E : XK} {cs : CL} {oz : Addr → Obj}
theorem env_hideZ {A : Around} {outer : List Env} {s : Shared} (t : TrkZ oz cs H) (e : Env0 P w K mg base A outer s H) : Env0 P w K mg base A outer s (hide cs H) :=
  ⟨e.frames, e.mod, fun b o q => ⟨(e.bs b o q).1, hide_none (e.bs b o q).2⟩, e.bsz, e.funs, fun b q => hide_none (e.frf b q), hideZ_hok t e.hok, e.bare⟩
theorem cells_hideZ {F : NF} {h : Heap} {ws : List (Option V)} (t : TrkZ oz cs H) (hok : HOk P w H h) (c : ClAt F.cl fr ws cs) : CellsAt F.cl fr ws h (hide cs H) := by
  refine ⟨c.len, fun y a e => ?_, c.inj, fun i y e => ?_⟩
  · obtain ⟨v, q⟩ := c.all y a e
    obtain ⟨_, u, _, z⟩ := cellZ_at hok (t a v q)
    exact ⟨hide_in q, _, z⟩
  · obtain ⟨a, e1, e2⟩ := c.has i y e
    refine ⟨a, e1, fun v ev => ?_⟩
    obtain ⟨_, u, r, z⟩ := cellZ_at hok (t a v (e2 v ev))
    exact ⟨u, r, z⟩
/-- a lambda that captured names of a frame that still runs -/
theorem calls_lamZ {ws : List (Option V)} {t : TE} (S : NScope N ps fr F.scope) (hb : ∀ (pm ctv : Value) (us : List Value), us.length = ps.length → bindArgs (F.fd pm ctv) ⟨us, []⟩ = pure (ps.zip us)) (hl : vs.length = ps.length)
    (tr : TrkZ oz cs H) (c : ClAt F.cl fr ws cs) (hf : H f = some (LamO f F)) (hc : H F.c = some (CodeO F.c F.qual))
    (hbody : ∀ (A : Around) (outer : List Env) (s : Shared), Room k (A.deeper (envF F.nf f s.heap.objs.size)) → PE (ncx (L2.CX P w) P w K mg base N F.nf f A outer s (hide cs H) (Ez oz cs E)) F.body t) (hq : t (startF N vs ws) (hide cs H) (Qz oz cs Q)) :
    CallsTo P w K mg base (L2.CX P w) (k + 1) f H vs Q E := by
  refine fun A outer s us hr e0 r => ?_
  have e1 := env_hideZ tr e0
  have unlim : s.heap.NoLimit := e0.mod.nolimit.keeps fun x y z => (e0.bs x y z).1
  obtain ⟨pm, ctv, ho⟩ := lamO_at e0.hok hf
  refine ⟨⟨_, _, _, _, ho⟩, ?_⟩
  refine PySem.W.kla_callFunE hr.depth ho rfl S.co S.gen rfl (codeO_at e0.hok hc) ?_
  rw [hb pm ctv us (by rw [← r.length]; exact hl)]
  refine wpAny_pure (wpAny_newFunctionEnv S.nocell (fun y hy => S.par y.1 (List.of_mem_zip hy).1) (fun hn frm grown => ⟨unlim.fresh _ grown, ?_⟩) S.kind)
  show codeAny _ _ (.expr F.body (envF F.nf f s.heap.objs.size)) _ _
  have still : ∀ x y, s.heap.get? x = some y → hn.get? x = some y := fun x y z => grown.extBut x y (Nat.ne_of_lt (Heap.lt_size z)) (Heap.get?_push_of_some _ z)
  have C : CellsAt F.nf.cl fr ws s.heap (hide cs H) := cells_hideZ (F := F.nf) tr e0.hok c
  have I : Inv (ncx (L2.CX P w) P w K mg base N F.nf f A outer s (hide cs H) (Ez oz cs E)) [] (startF N vs ws) (hide cs H) { s with heap := hn, toks := s.toks + (ps.zip us).length } := inv_startN S hr.hd e1 hl r C frm still
  refine PySem.W.kla_codeExpr (wpAny_mono ((hbody A outer s (hr.deeper _)).run [] _ (startF N vs ws) (hide cs H) (Qz oz cs Q) I hq) (fun v s' hq => ?_) fun e s' hq => ?_)
  · obtain ⟨w', H', J, rv, q⟩ := hq
    exact ce_unhideZ tr e0.hok e0.frf ⟨w', H', J.os, J.bare, J.base, J.hok, rv, q⟩
  · refine wpAny_mono hq (fun _ s2 z => ?_) fun e2 s2 z => ?_
    · exact cx_unhideZ tr e0.hok e0.frf z
    · exact cx_unhideZ tr e0.hok e0.frf z
end
section
variable {X : Cx} {pins : List (Addr × Obj)} {σ : L2.St} {H H' : Hp} {s s' : Shared} {cs : CL} {oz : Addr → Obj} {h' : Heap}
theorem callC_free (I : Inv X pins σ H s) (cv : Cov X.N X.env.cells σ cs) : Free cs H := fun b v e => by
  obtain ⟨y, j, h1, _⟩ := cv.own b v e
  exact I.freeC y b h1
/-- behind a call that saw the cells -/
theorem _root_.L2.Inv.callC {g' : Array GenState} {t' : Nat} {d' : Drawn} (I : Inv X pins σ H s) (fnA : ∀ y, X.fn y = true) (cv : Cov X.N X.env.cells σ cs) (all : ∀ (y : Str) (c : Addr), X.env.cells.lookup y = some c → ∃ (j : Nat) (v : V), X.N[j]? = some y ∧ σ[j]? = some (some v))
    (u : Un (frs X.stack) [] (unhideZ oz cs H) H' s.heap h') (hok : HOk X.prog X.w H' h') (tr : TrkZ oz cs H') (hg : AllBare g') : Inv X pins σ (hide cs H') { s with heap := h', gens := g', drawn := d', toks := t' } := by
  have fr := callC_free I cv
  have un : ∀ {b : Addr}, H b = Option.none → cs.lookup b = Option.none → unhideZ oz cs H b = Option.none := fun {b} n l => by rw [unhideZ_out l]; exact n
  have lo : ∀ b o, X.s_0.heap.get? b = some o → cs.lookup b = Option.none := fun b o e => by
    cases z : cs.lookup b with
    | none => rfl
    | some v =>
      obtain ⟨y, j, h1, _⟩ := cv.own b v z
      have := I.ok.cab y b (fnA y) h1
      exact absurd (Nat.lt_of_lt_of_le (Heap.lt_size e) this) (Nat.lt_irrefl _)
  have nst : ∀ b o, X.s_0.heap.get? b = some o → b ∉ X.fs → b ∉ frs X.stack := fun b o e nb hm => by
    rcases List.mem_cons.mp (I.stkSub b hm) with z | z
    · rw [z] at e
      exact absurd (Nat.lt_of_lt_of_le (Heap.lt_size e) I.ok.above) (Nat.lt_irrefl _)
    · exact nb z
  have some_lo : ∀ {b : Addr} {o : HO}, H b = some o → cs.lookup b = Option.none := fun {b o} e => by
    cases z : cs.lookup b with
    | none => rfl
    | some v => rw [fr b v z] at e; cases e
  have lloc : cs.lookup X.env.locals = Option.none := by
    cases z : cs.lookup X.env.locals with
    | none => rfl
    | some v =>
      obtain ⟨y, j, h1, _⟩ := cv.own _ v z
      exact absurd rfl (I.cne y _ h1)
  have cellK : ∀ (y : Str) (c : Addr), X.env.cells.lookup y = some c → ∃ (j : Nat) (v : V), X.N[j]? = some y ∧ σ[j]? = some (some v) ∧ cs.lookup c = some v ∧ ∃ u, RelV v u ∧ h'.IsCell c (some u) := fun y c e => by
    obtain ⟨j, v, h1, h2⟩ := all y c e
    have h3 := cv.has y c j v e h1 h2
    exact ⟨j, v, h1, h2, h3, (cellZ_at hok (tr c v h3)).2⟩
  refine ⟨I.ok, I.os, hg, ⟨fun b o e n hb hx => ?_, fun b o e n hb hx => ?_, fun b o e n hx => ?_, fun b o e hx => ?_, fun b xs e => ?_, fun b o xs e => ?_, fun b ps e => ?_⟩, ?_, fun y c e => ?_, ?_, fun y c e => ?_, fun p hp => ?_, hideZ_hok tr hok, I.len⟩
  · exact u.keep b o (I.base.keep b o e n hb hx) (un (I.base.free b o e n hx) (lo b o e)) (nst b o e hb) (by simp)
  · obtain ⟨sl, e1⟩ := I.base.slot b o e n hb hx
    obtain ⟨sl2, e2⟩ := u.any e1 (un (I.base.free b o e n hx) (lo b o e)) (by simp)
    exact ⟨sl2, e2⟩
  · obtain ⟨o', e1⟩ := I.base.there b o e hx
    exact hide_none (u.free b o' e1 (un (I.base.free b o e n hx) (lo b o e)) (by simp))
  · obtain ⟨o', e1⟩ := I.base.there b o e hx
    exact u.there b o' e1 (by simp)
  · have e1 := I.base.tups b xs e
    have l := some_lo e1
    rw [hide_out l]
    exact u.tups b xs (by rw [unhideZ_out l]; exact e1)
  · have e1 := I.base.frzs b o xs e
    have l := some_lo e1
    rw [hide_out l]
    exact u.frzs b o xs (by rw [unhideZ_out l]; exact e1)
  · obtain ⟨m1, e1⟩ := I.base.tbls b ps e
    have l := some_lo e1
    obtain ⟨m2, e2⟩ := u.tbls b (ps ++ m1) (by rw [unhideZ_out l]; exact e1)
    exact ⟨m1 ++ m2, by rw [hide_out l, e2, Array.append_assoc]⟩
  · obtain ⟨m, ⟨o, es, ep, ho, r⟩, hl⟩ := I.loc
    obtain ⟨sl, hL⟩ := u.any ho (un I.free lloc) (by simp)
    refine ⟨m, ⟨_, es, ep, hL, r⟩, fun i x v e1 e2 e3 => ?_⟩
    obtain ⟨w, rw_, l⟩ := hl i x v e1 e2 e3
    rcases l with l | ⟨k, c, e, z⟩
    · exact ⟨w, rw_, .inl l⟩
    · have h3 := cv.has x c i v e e1 e2
      obtain ⟨w2, r2, z2⟩ := (cellZ_at hok (tr c v h3)).2
      exact ⟨w2, r2, .inr ⟨k, c, e, z2⟩⟩
  · obtain ⟨j, v, _, _, _, w, _, z⟩ := cellK y c e
    exact ⟨_, z⟩
  · obtain ⟨m, ⟨o, _, _, ho, _⟩, _⟩ := I.loc
    exact hide_none (u.free _ o ho (un I.free lloc) (by simp))
  · obtain ⟨j, v, _, _, h3, _⟩ := cellK y c e
    exact hide_in h3
  · obtain ⟨e, n, ne, nf, d⟩ := I.pin p hp
    have l : cs.lookup p.1 = Option.none := by
      cases z : cs.lookup p.1 with
      | none => rfl
      | some v =>
        obtain ⟨y, j, h1, _⟩ := cv.own _ v z
        obtain ⟨w, o, ho, hd⟩ := I.cell y _ h1
        rw [e] at ho
        cases ho
        exact absurd hd (d w)
    have ns : p.1 ∉ frs X.stack := fun z => by
      rcases List.mem_cons.mp (I.stkSub _ z) with q | q
      · exact ne q
      · exact nf q
    exact ⟨u.keep _ _ e (un n l) ns (by simp), hide_none (u.free _ _ e (un n l) (by simp)), ne, nf, d⟩
/-- what is wished for at the heap with the cells -/
def Qc (cs : CL) (Q : VK) : VK := fun v H' => Q v (hide cs H')
def Ec (cs : CL) (E : XK) : XK := fun c d H' => E c d (hide cs H')
theorem after_c {Q : VK} {u : Value} (I : Inv X pins σ H s) (fnA : ∀ y, X.fn y = true) (cv : Cov X.N X.env.cells σ cs) (all : ∀ (y : Str) (c : Addr), X.env.cells.lookup y = some c → ∃ (j : Nat) (v : V), X.N[j]? = some y ∧ σ[j]? = some (some v))
    (h : CE X.stack X.prog X.w (unhideZ oz cs H) s (Qc cs Q) u s') : EP X pins σ Q u s' := by
  obtain ⟨v, H', os, bare, un, hok, r, q⟩ := h
  have tr : TrkZ oz cs H' := fun b v e => un.frzs b _ _ (unhideZ_in e)
  obtain ⟨hh, g, d, t, os'⟩ := s'
  obtain rfl : os' = s.os := os
  exact ⟨v, hide cs H', I.callC (h' := hh) (g' := g) (d' := d) (t' := t) fnA cv all un hok tr bare, r, q⟩
theorem _root_.L2.XE.of_callC {W : WX} {E : XK} (I : Inv X pins σ H s) (fnA : ∀ y, X.fn y = true) (cv : Cov X.N X.env.cells σ cs) (all : ∀ (y : Str) (c : Addr), X.env.cells.lookup y = some c → ∃ (j : Nat) (v : V), X.N[j]? = some y ∧ σ[j]? = some (some v))
    (hW : ∀ cls d H', E cls d H' → W cls d σ H') {u : Value} (c : L2.CX X.prog X.w X.stack (unhideZ oz cs H) s (Ec cs E) u s') : XE X W u s' := by
  obtain ⟨a, B, H', cls, d, rfl, fl, hok, ub, na, os, ag, hE⟩ := c
  have tr : TrkZ oz cs H' := fun b v e => ub.frzs b _ _ (unhideZ_in e)
  obtain ⟨G, g1, g2⟩ := restrict s'.heap fun b => (B.get? b).isSome || decide (b ∈ frs X.stack)
  have st : B.StaysIn s'.heap := fl.1
  have gB : ∀ b o, B.get? b = some o → G.get? b = some o := fun b o e => by
    rw [g1 b (by simp [e])]
    exact st b o e
  have gF : ∀ b, b ∈ frs X.stack → G.get? b = s'.heap.get? b := fun b hb => g1 b (by simp [hb])
  have og : ∀ b o, G.get? b = some o → s'.heap.get? b = some o ∧ ((B.get? b).isSome = true ∨ b ∈ frs X.stack) := fun b o e => by
    cases q : ((B.get? b).isSome || decide (b ∈ frs X.stack)) with
    | false => rw [g2 b q] at e; cases e
    | true =>
      rw [g1 b q] at e
      exact ⟨e, by simpa [Bool.or_eq_true] using q⟩
  refine ⟨a, B, { s with heap := G, gens := s'.gens, drawn := s'.drawn, toks := s'.toks }, pins, σ, hide cs H', cls, d, rfl, ?_, fun b o e hb => ?_, Heap.UpToSlots.of_keeps fun b o e => (og b o e).1, .inr (.inl fl), hide_none na, os, ag, hW _ _ _ hE⟩
  · refine I.callC fnA cv all ⟨fun b o e n hb _ => gB b o (ub.keep b o e n hb), fun b o e n hb _ => ?_, fun b o e n _ => ub.free b o e n, fun b o e _ => ?_, ub.tups, ub.frzs, ub.tbls⟩ (hok.kept gB) tr ag
    · obtain ⟨sl, q⟩ := ub.slot b o e hb
      exact ⟨sl, by rw [gF b hb]; exact q⟩
    · by_cases hb : b ∈ frs X.stack
      · obtain ⟨sl, q⟩ := ub.slot b o e hb
        exact ⟨_, by rw [gF b hb]; exact q⟩
      · obtain ⟨o', q⟩ := ub.there b o e hb
        exact ⟨o', gB b o' q⟩
  · obtain ⟨e', h⟩ := og b o e
    rcases h with h | h
    · obtain ⟨o', q⟩ := Option.isSome_iff_exists.mp h
      have z := st b o' q
      rw [e'] at z; cases z
      exact q
    · exact absurd h hb
theorem env_unhide {P : Program} {w : World} {K : PySem.W.Frag} {mg : Str → Option Value} {base : Heap} {A : Around} {outer : List Env} (e : Env0 P w K mg base A outer s H) (fr : Free cs H) (nb : ∀ b o, base.get? b = some o → cs.lookup b = Option.none) (nf : ∀ b ∈ frs outer, cs.lookup b = Option.none)
    (c : ∀ b v, cs.lookup b = some v → s.heap.get? b = some (oz b) ∧ ∃ u, RelV v u ∧ s.heap.IsCell b (some u)) : Env0 P w K mg base A outer s (unhideZ oz cs H) :=
  ⟨e.frames, e.mod, fun b o q => ⟨(e.bs b o q).1, by rw [unhideZ_out (nb b o q)]; exact (e.bs b o q).2⟩, e.bsz, e.funs, fun b q => by rw [unhideZ_out (nf b q)]; exact e.frf b q, unhideZ_hok fr c e.hok, e.bare⟩
/-- the state at a call, with the cells -/
theorem env0_c (I : Inv X pins σ H s) (fnA : ∀ y, X.fn y = true) (cv : Cov X.N X.env.cells σ cs) (hoz : ∀ b o, s.heap.get? b = some o → oz b = o) (vis : ∀ (y : Str) (c : Addr), X.env.cells.lookup y = some c → X.env.scope.names.lookup y = some .cell) : Env0 X.prog X.w X.K X.mg X.base X.A X.stack s (unhideZ oz cs H) := by
  refine env_unhide I.env0 (callC_free I cv) (fun b o e => ?_) (fun b hb => ?_) fun b v e => ?_
  · cases z : cs.lookup b with
    | none => rfl
    | some v =>
      obtain ⟨y, j, h1, _⟩ := cv.own b v z
      have h2 := I.ok.cab y b (fnA y) h1
      have h3 := Heap.lt_size (I.ok.bs b o e).1
      exact absurd (Nat.lt_of_lt_of_le h3 h2) (Nat.lt_irrefl _)
  · cases z : cs.lookup b with
    | none => rfl
    | some v =>
      obtain ⟨y, j, h1, _⟩ := cv.own b v z
      rcases List.mem_cons.mp (I.stkSub b hb) with q | q
      · exact absurd q (I.cne y b h1)
      · obtain ⟨_, o, ho, _⟩ := I.ok.funs.mem q
        have h2 := I.ok.cab y b (fnA y) h1
        exact absurd (Nat.lt_of_lt_of_le (Heap.lt_size ho) h2) (Nat.lt_irrefl _)
  · obtain ⟨y, j, h1, h2, h3⟩ := cv.own b v e
    obtain ⟨m, hn, hl⟩ := I.loc
    obtain ⟨u, r, l⟩ := hl j y v h2 h3 (.inr (.inl (vis y b h1)))
    rcases l with ⟨z, _⟩ | ⟨_, c', hc', hcl⟩
    · have z : X.env.scope.names.lookup y = some .local := z
      rw [vis y b h1] at z; cases z
    · rw [h1] at hc'
      cases hc'
      obtain ⟨o, ho, hd⟩ := hcl
      exact ⟨by rw [hoz _ _ ho]; exact ho, u, r, o, ho, hd⟩
end
/-! ### the call -/
/-- g(lambda ..: .., e, ..): the lambda's object, then what the callee is told of the heap with the cells -/
def tDn (X : Cx) (T : List (Addr × Str)) (mk : Addr → LF) (sp : Sp) (E : XK) (ta : TA) : TE := fun σ H Q =>
  (∀ (y : Str) (c : Addr), X.env.cells.lookup y = some c → ∃ (j : Nat) (v : V), X.N[j]? = some y ∧ σ[j]? = some (some v)) ∧ Tabs T H ∧
    ∀ (f c' : Addr) (H1 : Hp), ExtN H H1 → (∀ b, H1 b = Option.none → H b = Option.none) → Tabs T H1 → H f = none → H1 f = some (LamO f (mk c')) → H1 c' = some (CodeO c' (mk c').qual) →
      ta σ H1 fun vs H2 => ∀ (cs : CL) (oz : Addr → Obj), (∀ (x y : Str) (c : Addr), X.env.cells.lookup x = some c → X.env.cells.lookup y = some c → x = y) → Cov X.N X.env.cells σ cs → Free cs H2 → sp (.ref f :: vs) (unhideZ oz cs H2) (Qc cs Q) (Ec cs E)
section
variable {X : Cx} {k : Nat} {f : Addr} {fd : FuncData} {ps : List Str} {sp : Sp} {E : XK} {x : Str} {p pos lpos : Pos} {e : Expr} {es : List Expr} {ta : TA} {T : List (Addr × Str)} {c P : Addr} {params : Arguments} {body : Expr} {scope : Scope} {W : WX}
theorem pe_dn (F : FnOk X.prog X.w X.K X.mg X.base (L2.CX X.prog X.w) k f fd ps sp) (hr : Room k X.A) (hg : Gl X x) (hm : X.mg x = some (.ref f)) (hk : PySem.W.keepIn X.K (.ref f) = true) (hb : Binds X.K fd ps []) (tk : Takes X W) (hW : ∀ cls d σ H, E cls d H → W cls d σ H)
    (TB : TabB X.base X.mg c P) (hcode : X.env.code = .ref c) (hmT : (P, X.env.qual ++ "<lambda>") ∈ T) (hu : ∀ p ∈ T, p.1 = P → p.2 = X.env.qual ++ "<lambda>")
    (hdef : defaultsOf params X.env = ([], [])) (hfree : ∀ y ∈ scope.names, y.2 = .free → X.env.scope.names.lookup y.1 = some .cell ∨ X.env.scope.names.lookup y.1 = some .free) (fnA : ∀ y, X.fn y = true) (hnd : X.N.Nodup)
    (vis : ∀ (y : Str) (c : Addr), X.env.cells.lookup y = some c → X.env.scope.names.lookup y = some .cell)
    (ha : PA X (e :: es) ta) (hdb : (x == ("__debug__" : Str)) = false := by decide) (hst : starEach (.Lambda params body scope lpos :: e :: es) X.env = (false, eval (.Lambda params body scope lpos) X.env) :: starEach (e :: es) X.env := by rfl)
    (hst2 : starEach (e :: es) X.env = (false, eval e X.env) :: starEach es X.env := by rfl)
    (hpl : (backTo pos (starEach (e :: es) X.env)).any (·.1) = false := by rfl) :
    PE X (.Call (.Name x p) (.Lambda params body scope lpos :: e :: es) [] pos) (tDn X T (fun c' => ⟨X.env.qual ++ "<lambda>", params, body, scope, cloFrom X.env.cells scope.names [], c'⟩) sp E ta) := by
  refine ⟨fun pins s σ H Q I h => ?_⟩
  obtain ⟨all, hT, h⟩ := h
  refine wpAny_Call_Name_kw (ld_glob I hg hm ?_ hdb)
  refine PySem.W.callWith_K (h₀ := X.base) I.ok.mod.kin hk ?_ hst hpl
  show wpAny _ _ (spliced ((false, eval (.Lambda params body scope lpos) X.env) :: backTo pos (starEach (e :: es) X.env))) _ _ s
  refine Calls.spliced_cons (lamv_make I TB hcode hdef hmT hu hT (fun y hy e => (hfree y hy e).elim (fun z => I.ok.has _ (.inl z)) fun z => I.ok.has _ (.inr z)) fun fo c' H1 s1 I1 eN nn T1 f0 f1 c1 => ?_)
  have h := h fo c' H1 eN nn T1 f0 f1 c1
  refine thn (ha.run pos pins s1 σ H1 _ I1 h) fun us s2 ⟨vs, H2, I2, r, q⟩ => ⟨I2.kIn, ?_⟩
  obtain ⟨cs, cv⟩ := cov_ex hnd I2.ok.inj all
  let oz : Addr → Obj := fun b => match s2.heap.get? b with
    | some o => o
    | none => { cls := .none, data := .fields #[] }
  have hoz : ∀ b o, s2.heap.get? b = some o → oz b = o := fun b o e => by show (match s2.heap.get? b with | some o => o | none => _) = o; rw [e]
  have q := q cs oz I2.ok.inj cv (callC_free I2 cv)
  have hl : (Value.ref fo :: us).length = ps.length := by
    have z := F.len _ _ _ _ q
    simp only [List.length_cons] at z ⊢
    rw [← r.length]; exact z
  have e0 := env0_c I2 fnA cv hoz vis
  have bi := hb s2 (.ref fo :: us) I2.kIn (by rw [List.append_nil]; exact hl)
  rw [List.append_nil] at bi
  refine wpAny_call (codeAny_mono (F.run X.A X.stack s2 (unhideZ oz cs H2) ⟨.ref fo :: us, []⟩ (.ref fo :: us) (.ref fo :: vs) _ _ hr e0 bi (.cons rfl r) q) fun r s' hq => ?_)
  cases r with
  | error e => exact tk e s' (XE.of_callC I2 fnA cv all (fun cls d H' h => hW cls d σ H' h) hq)
  | ok fl =>
    cases fl with
    | ret u => exact after_c I2 fnA cv all hq
    | next => exact False.elim hq
    | brk => exact False.elim hq
    | cont => exact False.elim hq
/-- a def whose code object is known, by its body; it may raise -/
theorem _root_.Xc.FunC.okX {P : Program} {w : World} {K : PySem.W.Frag} {mg : Str → Option Value} {base : Heap} {x qual : Str} {st : Stmt} {f c : Addr} {fd : FuncData} {N ps : List Str} {k : Nat} {sp : Sp} (F : Xc.FunC K x qual st f fd c) (S : FnScope N ps (defScope st)) (len : ∀ vs H Q E, sp vs H Q E → vs.length = ps.length)
    (hbody : ∀ (A : Around) (outer : List Env) (s : Shared) (H : Hp) (vs : List V) (Q : VK) (E : XK), Room k (A.deeper (envOfC qual (defScope st) s.heap.objs.size f (.ref c))) → sp vs H Q E →
      ∃ t, PSs (cxOf (L2.CX P w) P w K mg base N qual (defScope st) f (.ref c) A outer s H E) (defBody st) t ∧ t { nx := fun _ H' => Q .non H', rt := Q } (start N vs) H) : FnOk P w K mg base (L2.CX P w) (k + 1) f fd ps sp := by
  obtain ⟨oc, od, kV, doc, pm, an, ct, osl, rfl, lk, hcd⟩ := F.ex
  exact fn_of lk hcd S len fun A outer s H vs Q E hr hsp => hbody A outer s H vs Q E hr hsp
end
end Xk

/-! Xk3: trees told of a lambda handed down -/
namespace Xk
open PySem PySem.Spec PySem.Calls PyProof.Rows L2 Rs LamX NdefX Xf Xh
theorem vis_of {names : List (Str × NameKind)} {n : Nat} (nk : (names.map (·.1)).Nodup) : ∀ (y : Str) (c : Addr), (cellsFrom n names []).lookup y = some c → names.lookup y = some .cell := fun y c h => by
  rcases cellsFrom_kind _ _ _ _ _ (PySem.mem_of_lookup h) with z | z
  · cases z
  · exact look_nodup nk z
theorem cx_mono {P : Program} {w : World} {outer : List Env} {H : Hp} {s s' : Shared} {E E' : XK} {u : Value} (m : ∀ c d H', E c d H' → E' c d H') (h : L2.CX P w outer H s E u s') : L2.CX P w outer H s E' u s' := by
  obtain ⟨a, B, H', cls, d, e0, fl, hok', ub, na, e1, e2, q⟩ := h
  exact ⟨a, B, H', cls, d, e0, fl, hok', ub, na, e1, e2, m _ _ _ q⟩
theorem calls_mono2 {P : Program} {w : World} {K : PySem.W.Frag} {mg : Str → Option Value} {base : Heap} {k : Nat} {f : Addr} {H : Hp} {vs : List V} {Q Q' : VK} {E E' : XK} (h : ∀ v H', Q v H' → Q' v H') (m : ∀ c d H', E c d H' → E' c d H')
    (c : CallsTo P w K mg base (L2.CX P w) k f H vs Q E) : CallsTo P w K mg base (L2.CX P w) k f H vs Q' E' :=
  fun A outer s us hr e0 r => ⟨(c A outer s us hr e0 r).1, codeAny_mono (c A outer s us hr e0 r).2 fun rs s' z => by
    cases rs with
    | error e => exact cx_mono m z
    | ok fl =>
      cases fl with
      | ret u => obtain ⟨v, H', e1, e2, un, hok', r, q⟩ := z; exact ⟨v, H', e1, e2, un, hok', r, h v H' q⟩
      | next => exact z
      | brk => exact z
      | cont => exact z⟩
/-- o.m(..) told without the context -/
def tMethP (P : Program) (w : World) (K : PySem.W.Frag) (mg : Str → Option Value) (base : Heap) (k : Nat) (m : Str) (te : TE) (ta : TA) (E : XK) : TE := fun σ H Q => te σ H fun x H1 => ∃ a C dx fs f, x = .ref a ∧ H1 a = some (.ins C dx fs) ∧ Cls K C ∧ Meth K C m f ∧ fs.lookup m = none ∧
  ta σ H1 fun vs H2 => CallsTo P w K mg base (L2.CX P w) k f H2 (x :: vs) Q E
/-- every asking is such -/
def Ak.all {ι β : Type} (R : ι → Prop) : Ak ι β → Prop
  | .ret _ => True
  | .ask q k => R q ∧ ∀ b, (k b).all R
  | .put _ k => k.all R
/-- nothing is put -/
def Ak.np {ι β : Type} : Ak ι β → Prop
  | .ret _ => True
  | .ask _ k => ∀ b, (k b).np
  | .put _ _ => False
section
variable {ι κ β : Type} {W : Wd ι} {W' : Wd κ} {cs : CL} {oz : Addr → Obj} {H H' : Hp} {E : XK} {a b : Addr}
theorem tabs_hide {T : List (Addr × Str)} (tr : TrkZ oz cs H) (t : Tabs T H) : Tabs T (hide cs H) := fun p hp => by
  obtain ⟨ps, h1, h2, h3⟩ := t p hp
  refine ⟨ps, by rw [hide_out (tr.out h1 fun _ _ z => by cases z)]; exact h1, h2, fun pos cv hc => ?_⟩
  obtain ⟨c, e1, e2⟩ := h3 pos cv hc
  exact ⟨c, e1, by rw [hide_out (tr.out e2 fun _ _ z => by unfold CodeO at z; cases z)]; exact e2⟩
theorem tabs_seen {T : List (Addr × Str)} (t : Tabs T (hide cs H)) : Tabs T H := t.ext fun b o e => (hide_some e).2
theorem mv_hide {pr o o' : List Addr} (eT : W'.TT = W.TT) (tr : TrkZ oz cs H) (oc : ∀ b v, cs.lookup b = some v → b ∉ o) (m : Mv W' pr o o' H H') : Mv W pr o o' (hide cs H) (hide cs H') ∧ TrkZ oz cs H' ∧ ∀ b v, cs.lookup b = some v → b ∉ o' := by
  have tr' : TrkZ oz cs H' := fun b v z => m.ext _ _ (tr b v z) (.inl (oc b v z)) (fun _ y => by cases y)
  have oc' : ∀ b v, cs.lookup b = some v → b ∉ o' := fun b v e z => by
    rcases m.sub b z with y | y
    · exact oc b v e y
    · rw [tr b v e] at y; cases y
  refine ⟨⟨fun b u e h n => ?_, fun t => ?_, fun b e => ?_, fun b hb => (m.sub b hb).imp_right hide_none, m.sup, fun h b hb => ?_⟩, tr', oc'⟩
  · obtain ⟨l, e2⟩ := hide_some e
    rw [hide_out l]
    exact m.ext _ _ e2 h n
  · have t1 := m.tab (by rw [eT]; exact tabs_seen t)
    rw [eT] at t1
    exact tabs_hide tr' t1
  · cases l : cs.lookup b with
    | some v => exact hide_in l
    | none =>
      rw [hide_out l] at e ⊢
      exact m.nn b e
  · have l : cs.lookup b = none := by
      cases z : cs.lookup b with
      | none => rfl
      | some v => exact absurd hb (oc' b v z)
    rw [hide_out l]
    refine m.on (fun c hc z => h c hc (hide_none z)) b hb
theorem frm_unhide (eT : W'.TT = W.TT) (eM : W'.MM = W.MM) (jj : ∀ H, W'.J H) {H2 : Hp} (tr : TrkZ oz cs H) (fr : Free cs H2) (f : Frm W (hide cs H) H2) : Frm W' H (unhideZ oz cs H2) := by
  refine ⟨fun b o e n nt => ?_, fun t => ?_, fun b e => ?_, fun _ => jj _⟩
  · cases l : cs.lookup b with
    | some v => rw [unhideZ_in l, ← tr b v l]; exact e
    | none =>
      rw [unhideZ_out l]
      exact f.old b o (by rw [hide_out l]; exact e) (by rw [← eM]; exact n) nt
  · rw [eT] at t ⊢
    exact (f.tab (tabs_hide tr t)).ext fun b o e => unhideZ_keep fr e
  · cases l : cs.lookup b with
    | some v => rw [unhideZ_in l] at e; cases e
    | none =>
      rw [unhideZ_out l] at e
      have z := f.nn b e
      rwa [hide_out l] at z
/-- what a lambda asks for each place -/
theorem Wp.lift {pr : List Addr} (g : κ → ι) (eT : W'.TT = W.TT) (eM : W'.MM = W.MM) (jj : ∀ H, W'.J H) (L1 : Led) (l1 : ∀ q ∈ L1, q.1 ∉ W.MM ∧ ∀ ps, q.2 ≠ .tbl ps)
    (R : κ → Prop) (step : ∀ m Hu Qn En, R m → TrkZ oz cs Hu → (∀ q ∈ L1, Hu q.1 = some q.2) → W.Do (g m) (hide cs Hu) (Qz oz cs Qn) (Ez oz cs En) → W'.Do m Hu Qn En) {Q : β → List Addr → Hp → Prop} :
    ∀ (t : Ak κ β) (o : List Addr) (Hu : Hp), t.np → TrkZ oz cs Hu → (∀ q ∈ L1, Hu q.1 = some q.2) → (∀ q ∈ L1, q.1 ∉ o ∨ q.1 ∈ pr) → (∀ b v, cs.lookup b = some v → b ∉ o) → (Ak.all R t) → Wp W a E pr (t.mapq g) o (hide cs Hu) Q → Wp W' b (Ec cs E) pr t o Hu (fun r o' H' => Q r o' (hide cs H'))
  | .ret r, o, Hu, _, tr, _, _, oc, _, h => fun o' H' m => h o' _ (mv_hide eT tr oc m).1
  | .ask q k, o, Hu, np, tr, hl, lo, oc, al, h => fun o' H' m => by
    obtain ⟨m', tr', oc'⟩ := mv_hide (W := W) eT tr oc m
    have hl' : ∀ q ∈ L1, H' q.1 = some q.2 := fun q hq => m.ext _ _ (hl q hq) (lo q hq) (l1 q hq).2
    have lo' : ∀ q ∈ L1, q.1 ∉ o' ∨ q.1 ∈ pr := fun q hq => mv_keepo m (hl q hq) (lo q hq)
    refine step q H' _ _ al.1 tr' hl' (W.mono _ _ _ _ _ _ ?hq ?he (h o' _ m'))
    case hq =>
      intro v H2 z fr
      obtain ⟨r, e, f, w⟩ := z
      refine ⟨r, e, frm_unhide eT eM jj tr' fr f, ?_⟩
      have tr2 : TrkZ oz cs (unhideZ oz cs H2) := unhideZ_trk
      refine Wp.lift g eT eM jj L1 l1 R step (k r) o' _ (np r) tr2 (fun q hq => ?_) lo' oc' (al.2 r) (by rw [hide_unhideZ fr]; exact w)
      have l2 : cs.lookup q.1 = none ∨ ∃ v, cs.lookup q.1 = some v := by cases cs.lookup q.1 with | none => exact .inl rfl | some v => exact .inr ⟨v, rfl⟩
      rcases l2 with l2 | ⟨v, l2⟩
      · rw [unhideZ_out l2]
        exact f.old _ _ (by rw [hide_out l2]; exact hl' q hq) (l1 q hq).1 (l1 q hq).2
      · rw [unhideZ_in l2, ← tr' _ _ l2]; exact hl' q hq
    case he =>
      intro c d H2 z fr
      show E c d (hide cs (unhideZ oz cs H2))
      rw [hide_unhideZ fr]; exact z
  | .put _ _, _, _, np, _, _, _, _, _, _ => np.elim
end
end Xk

/-! Xk4: a ledger kept over askings -/
namespace Xk
open PySem PySem.Spec PySem.Calls PyProof.Rows L2 Rs LamX Xc Xi
theorem _root_.Rs.Hs.refull {B H : Hp} {M : List Addr} {L : Led} (S : Hs B M H L) : Hs H [] H L := ⟨S.nd, S.is, fun _ _ e _ => e, fun _ h => nomatch h⟩
theorem _root_.Rs.Hs.refullM {B H : Hp} {M M' : List Addr} {L : Led} (S : Hs B M H L) (h : ∀ b ∈ M', b ∈ L.map (·.1)) : Hs H M' H L := ⟨S.nd, S.is, fun _ _ e _ => e, fun b hb => by
  obtain ⟨q, hq, rfl⟩ := List.mem_map.mp (h b hb)
  rw [S.is q hq]; simp⟩
/-- what of the entry stays -/
def bsK (MM : List Addr) (H : Hp) : Hp := fun b => if b ∈ MM then none else noT H b
theorem bsK_some {MM : List Addr} {H : Hp} {b : Addr} {o : HO} (e : bsK MM H b = some o) : H b = some o ∧ b ∉ MM ∧ ∀ ps, o ≠ .tbl ps := by
  unfold bsK at e
  split at e
  · cases e
  · rename_i h; exact ⟨(noT_of e).1, h, (noT_of e).2⟩
theorem bsK_none {MM : List Addr} {H : Hp} {b : Addr} (e : H b = none) : bsK MM H b = none := by
  unfold bsK
  split
  · rfl
  · exact noT_none e
structure BK {ι : Type} (W : Wd ι) (B : Hp) : Prop where
  bk : ∀ b o, B b = some o → b ∉ W.MM ∧ ∀ ps, o ≠ .tbl ps
  js : ∀ H, W.J H → ∀ b ∈ W.MM, Std H b
theorem bk_of {ι : Type} {W : Wd ι} (H : Hp) (js : ∀ H, W.J H → ∀ b ∈ W.MM, Std H b) : BK W (bsK W.MM H) := ⟨fun b o e => (bsK_some e).2, js⟩
/-- B: what stays whatever is asked; M: what the program changes itself; L: what stands; o: the program's own, pr: those of them that stay now -/
structure Kp {ι : Type} (W : Wd ι) (pr o : List Addr) (B : Hp) (M : List Addr) (L : Led) (H : Hp) : Prop where
  S : Hs B M H L
  tb : Tabs W.TT H
  j : W.J H
  lk : ∀ q ∈ L, q.1 ∉ W.MM ∧ (∀ ps, q.2 ≠ .tbl ps) ∧ (q.1 ∉ o ∨ q.1 ∈ pr)
  mo : ∀ b ∈ M, b ∈ L.map (·.1)
  bo : ∀ b u, B b = some u → b ∉ o ∨ b ∈ pr
  oo : ∀ b ∈ o, H b ≠ none
  ps : ∀ b ∈ pr, b ∈ o
section
variable {ι β : Type} {W : Wd ι} {a : Addr} {B H H' : Hp} {M M' : List Addr} {L L' : Led} {E : XK} {Q : β → List Addr → Hp → Prop} {pr pr' o o' : List Addr}
theorem Kp.mu (k : Kp W pr o B M L H) : ∀ b ∈ M, H b ≠ none := fun b hb => by
  obtain ⟨q, hq, rfl⟩ := List.mem_map.mp (k.mo b hb)
  rw [k.S.is q hq]; simp
theorem Kp.mv (k : Kp W pr o B M L H) (bk : BK W B) (m : Mv W pr o o' H H') (om : ∀ b ∈ W.MM, b ∉ o ∨ b ∈ pr) : Kp W pr o' B M L H' := by
  refine ⟨⟨k.S.nd, fun q hq => m.ext _ _ (k.S.is q hq) (k.lk q hq).2.2 (k.lk q hq).2.1, fun b u e hm => m.ext _ _ (k.S.old b u e hm) (k.bo b u e) (bk.bk b u e).2, fun b hb => ?_⟩, m.tab k.tb, ?_, fun q hq => ⟨(k.lk q hq).1, (k.lk q hq).2.1, mv_keepo m (k.S.is q hq) (k.lk q hq).2.2⟩, k.mo, fun b u e => ?_, m.on k.oo, fun b hb => m.sup b (k.ps b hb)⟩
  · obtain ⟨q, hq, rfl⟩ := List.mem_map.mp (k.mo b hb)
    rw [m.ext _ _ (k.S.is q hq) (k.lk q hq).2.2 (k.lk q hq).2.1]; simp
  · exact W.jm _ _ k.j fun b hb u e => m.ext _ _ e (om b hb) ((bk.js _ k.j b hb).not e).tbl
  · by_cases hm : b ∈ M
    · obtain ⟨q, hq, rfl⟩ := List.mem_map.mp (k.mo b hm)
      exact mv_keepo m (k.S.is q hq) (k.lk q hq).2.2
    · exact mv_keepo m (k.S.old b u e hm) (k.bo b u e)
theorem mm_keepo (bk : BK W B) (j : W.J H) (m : Mv W pr o o' H H') (om : ∀ b ∈ W.MM, b ∉ o ∨ b ∈ pr) : ∀ b ∈ W.MM, b ∉ o' ∨ b ∈ pr := fun b hb => by
  obtain ⟨u, e, _⟩ := bk.js _ j b hb
  exact mv_keepo m e (om b hb)
theorem Kp.frm (k : Kp W pr o B M L H) (bk : BK W B) (f : Frm W H H') : Kp W pr o B M L H' := by
  refine ⟨⟨k.S.nd, fun q hq => f.old _ _ (k.S.is q hq) (k.lk q hq).1 (k.lk q hq).2.1, fun b u e hm => f.old _ _ (k.S.old b u e hm) (bk.bk b u e).1 (bk.bk b u e).2, fun b hb => ?_⟩, f.tab k.tb, f.j k.j, k.lk, k.mo, k.bo, fun b hb z => k.oo b hb (f.nn b z), k.ps⟩
  obtain ⟨q, hq, rfl⟩ := List.mem_map.mp (k.mo b hb)
  rw [f.old _ _ (k.S.is q hq) (k.lk q hq).1 (k.lk q hq).2.1]; simp
/-- kept by a tree that puts nothing -/
theorem Wp.keep (bk : BK W B) : ∀ {t : Ak ι β} {o : List Addr} {H : Hp}, t.np → Kp W pr o B M L H → (∀ b ∈ W.MM, b ∉ o ∨ b ∈ pr) → Wp W a E pr t o H Q → Wp W a E pr t o H (fun b o' H' => Q b o' H' ∧ Kp W pr o' B M L H' ∧ (∀ b ∈ W.MM, b ∉ o' ∨ b ∈ pr))
  | .ret b, _, _, _, k, om, h => fun o2 H2 m => ⟨h o2 H2 m, k.mv bk m om, mm_keepo bk k.j m om⟩
  | .ask q c, _, _, np, k, om, h => fun o2 H2 m => W.mono _ _ _ _ _ _ (fun v H3 ⟨b, e, f, w⟩ => ⟨b, e, f, Wp.keep bk (np b) ((k.mv bk m om).frm bk f) (mm_keepo bk k.j m om) w⟩) (fun _ _ _ z => z) (h o2 H2 m)
  | .put _ _, _, _, np, _, _, _ => np.elim
/-- how a tree leaves the row -/
def Ak.ends (R : List V → β → Prop) : Ak ι β → List V → Prop
  | .ret b, xs => R xs b
  | .ask _ k, xs => ∀ b, (k b).ends R xs
  | .put ys k, _ => k.ends R ys
theorem Wp.rets {R : List V → β → Prop} : ∀ {t : Ak ι β} {o : List Addr} {H : Hp} {xs : List V}, t.ends R xs → Wp W a E pr t o H Q → Wp W a E pr t o H (fun b o' H' => (∃ ys, R ys b) ∧ Q b o' H')
  | .ret b, _, _, xs, en, h => fun o2 H2 m => ⟨⟨xs, en⟩, h o2 H2 m⟩
  | .ask q c, _, _, xs, en, h => fun o2 H2 m => W.mono _ _ _ _ _ _ (fun v H3 ⟨b, e, f, w⟩ => ⟨b, e, f, Wp.rets (en b) w⟩) (fun _ _ _ z => z) (h o2 H2 m)
  | .put ys c, _, _, xs, en, h => fun o2 H2 p => Wp.rets (xs := ys) en (h o2 H2 p)
/-- kept by a tree that writes the row -/
theorem Wp.keepR (bk : BK W B) {R : List V → β → Prop} (F : List V → Led) (hF : ∀ ys zs, ∀ q ∈ F ys, q = (a, .lst ys) ∨ (q.1 ≠ a ∧ q ∈ F zs)) (hk : ∀ ys zs, (F ys).map (·.1) = (F zs).map (·.1)) (ha : a ∈ M) :
    ∀ {t : Ak ι β} {o : List Addr} {H : Hp} {xs : List V}, t.ends R xs → Kp W pr o B M (F xs) H → (∀ b ∈ W.MM, b ∉ o ∨ b ∈ pr) → Wp W a E pr t o H Q → Wp W a E pr t o H (fun b o' H' => Q b o' H' ∧ (∃ ys, R ys b ∧ Kp W pr o' B M (F ys) H') ∧ (∀ b ∈ W.MM, b ∉ o' ∨ b ∈ pr))
  | .ret b, _, _, xs, en, k, om, h => fun o2 H2 m => ⟨h o2 H2 m, ⟨xs, en, k.mv bk m om⟩, mm_keepo bk k.j m om⟩
  | .ask q c, _, _, xs, en, k, om, h => fun o2 H2 m => W.mono _ _ _ _ _ _ (fun v H3 ⟨b, e, f, w⟩ => ⟨b, e, f, Wp.keepR bk F hF hk ha (en b) ((k.mv bk m om).frm bk f) (mm_keepo bk k.j m om) w⟩) (fun _ _ _ z => z) (h o2 H2 m)
  | .put ys c, o, H, xs, en, k, om, h => fun o2 H2 p => by
    have am : a ∉ W.MM := by
      obtain ⟨q, hq, e⟩ := List.mem_map.mp (k.mo a ha)
      rw [← e]; exact (k.lk q hq).1
    have ko : ∀ {b : Addr} {u : HO}, H b = some u → (b ∉ o ∨ b ∈ pr) → b ∉ o2 ∨ b ∈ pr := fun {b u} e h => by
      rcases h with h | h
      · by_cases c : b ∈ o2
        · rcases p.sub b c with z | z
          · exact absurd z h
          · rw [e] at z; cases z
        · exact .inl c
      · exact .inr h
    refine Wp.keepR bk F hF hk ha (xs := ys) en ⟨⟨?_, fun q hq => ?_, fun b u e hm => ?_, fun b hb => ?_⟩, p.tab k.tb, ?_, fun q hq => ?_, ?_, fun b u e => ?_, p.on k.oo, fun b hb => p.sup b (k.ps b hb)⟩ (fun b hb => ?_) (h o2 H2 p)
    · rw [hk ys xs]; exact k.S.nd
    · rcases hF ys xs q hq with rfl | ⟨n, z⟩
      · exact p.at_
      · exact p.old _ _ (k.S.is q z) n (k.lk q z).2.2 (k.lk q z).2.1
    · exact p.old _ _ (k.S.old b u e hm) (fun z => hm (z ▸ ha)) (k.bo b u e) (bk.bk b u e).2
    · by_cases e : b = a
      · rw [e, p.at_]; simp
      · obtain ⟨q, hq, rfl⟩ := List.mem_map.mp (k.mo b hb)
        rw [p.old _ _ (k.S.is q hq) e (k.lk q hq).2.2 (k.lk q hq).2.1]; simp
    · exact W.jm _ _ k.j fun b hb u e => p.old _ _ e (fun z => am (z ▸ hb)) (om b hb) ((bk.js _ k.j b hb).not e).tbl
    · rcases hF ys xs q hq with e | ⟨n, z⟩
      · obtain ⟨r, hr, er⟩ := List.mem_map.mp (k.mo a ha)
        rw [e]
        refine ⟨am, (fun _ z => by cases z), ?_⟩
        have z := ko (k.S.is r hr) (k.lk r hr).2.2
        rwa [er] at z
      · exact ⟨(k.lk q z).1, (k.lk q z).2.1, ko (k.S.is q z) (k.lk q z).2.2⟩
    · intro b hb; rw [hk ys xs]; exact k.mo b hb
    · by_cases hm : b ∈ M
      · obtain ⟨q, hq, rfl⟩ := List.mem_map.mp (k.mo b hm)
        exact ko (k.S.is q hq) (k.lk q hq).2.2
      · exact ko (k.S.old b u e hm) (k.bo b u e)
    · obtain ⟨u, e, _⟩ := bk.js _ k.j b hb
      exact ko e (om b hb)
theorem tabs_lst {T : List (Addr × Str)} (S : Hs H M' H' L') (ml : ∀ b ∈ M', ∃ xs, H b = some (.lst xs)) (t : Tabs T H) : Tabs T H' := by
  have nm : ∀ {b : Addr} {u : HO}, H b = some u → (∀ xs, u ≠ .lst xs) → b ∉ M' := fun {b u} e n z => by
    obtain ⟨xs, h⟩ := ml b z
    rw [e] at h
    exact n xs (Option.some.inj h)
  exact tabs_pers ⟨fun b r e => S.old _ _ e (nm e fun _ z => by cases z), fun b r e => S.old _ _ e (nm e fun _ z => by cases z)⟩ (fun b ps e => S.old _ _ e (nm e fun _ z => by cases z)) t
theorem seg_nn (S : Hs H M' H' L') : ∀ b, H' b = none → H b = none := fun b e => by
  cases h : H b with
  | none => rfl
  | some u =>
    by_cases hm : b ∈ M'
    · exact absurd e (S.mu b hm)
    · rw [S.old b u h hm] at e; cases e
/-- a stretch of the program's own -/
theorem mv_seg {N : List Addr} (S : Hs H M' H' L') (ml : ∀ b ∈ M', (∃ xs, H b = some (.lst xs)) ∧ b ∈ o ∧ b ∉ pr) (hN : ∀ b ∈ N, H b = none ∧ b ∈ L'.map (·.1)) : Mv W pr o (N ++ o) H H' := by
  refine ⟨fun b u e h _ => S.old b u e fun z => ?_, tabs_lst S fun b hb => (ml b hb).1, seg_nn S, fun b hb => ?_, fun b hb => List.mem_append_right _ hb, fun h b hb => ?_⟩
  · rcases h with h | h
    · exact h (ml b z).2.1
    · exact (ml b z).2.2 h
  · rcases List.mem_append.mp hb with z | z
    · exact .inr (hN b z).1
    · exact .inl z
  · rcases List.mem_append.mp hb with z | z
    · obtain ⟨q, hq, rfl⟩ := List.mem_map.mp (hN b z).2
      rw [S.is q hq]; simp
    · exact fun y => h b z (seg_nn S b y)
/-- the row is written -/
theorem pt_seg {ys : List V} (S : Hs H [a] H' L') (m : (a, HO.lst ys) ∈ L') (ml : ∃ xs, H a = some (.lst xs)) : Pt W a ys pr o o H H' :=
  ⟨S.is _ m, fun b u e n _ _ => S.old b u e (by simpa using n), tabs_lst S (fun b hb => by rw [List.mem_singleton.mp hb]; exact ml), seg_nn S, fun _ h => .inl h, fun _ h => h, fun h b hb z => h b hb (seg_nn S b z)⟩
theorem Kp.seg (k : Kp W pr o B M L H) (bk : BK W B) (S : Hs H M' H' L') (ml : ∀ b ∈ M', (∃ xs, H b = some (.lst xs)) ∧ b ∉ W.MM ∧ (B b = none ∨ b ∈ M)) (lk : ∀ q ∈ L', q.1 ∉ W.MM ∧ (∀ ps, q.2 ≠ .tbl ps) ∧ (q.1 ∉ o' ∨ q.1 ∈ pr')) (mo : ∀ b ∈ M, b ∈ L'.map (·.1)) (bo : ∀ b u, B b = some u → b ∉ o' ∨ b ∈ pr') (oo : ∀ b ∈ o', H' b ≠ none) (ps : ∀ b ∈ pr', b ∈ o') : Kp W pr' o' B M L' H' := by
  refine ⟨⟨S.nd, S.is, fun b u e hm => S.old b u (k.S.old b u e hm) fun z => ?_, fun b hb => ?_⟩, tabs_lst S (fun b hb => (ml b hb).1) k.tb, W.jm _ _ k.j fun b hb u e => S.old b u e fun z => (ml b z).2.1 hb, lk, mo, bo, oo, ps⟩
  · rcases (ml b z).2.2 with y | y
    · rw [e] at y; cases y
    · exact hm y
  · obtain ⟨q, hq, rfl⟩ := List.mem_map.mp (mo b hb)
    rw [S.is q hq]; simp
/-- what is new stands apart -/
theorem Kp.fresh (k : Kp W pr o B M L H) (bk : BK W B) {p : Addr} (e : H p = none) : p ∉ W.MM ∧ (B p = none ∨ p ∈ M) := by
  refine ⟨fun z => (bk.js _ k.j p z).ne e, ?_⟩
  by_cases hm : p ∈ M
  · exact .inr hm
  · refine .inl ?_
    cases h : B p with
    | none => rfl
    | some u => rw [k.S.old p u h hm] at e; cases e
end
end Xk

/-! Xl1: isinstance of a function -/
namespace PySem
open Sem (wp)
namespace F
theorem xl_slot_ga : Slot "function" "__getattribute__" "object.__getattribute__" :=
  .of (owner := "object") (n := "__getattribute__") (by rw [typeLookup_type, builtinLookup_eq_fast]; kernel_rfl) (by decide +kernel) (by decide +kernel) (by decide +kernel)
    (by first | exact .inl (by decide +kernel) | exact .inr (by decide +kernel)) (by rw [isSubtype_type]; kernel_rfl)
theorem xl_args_ga (a b : Value) : argsOk "object.__getattribute__" ⟨[a, b], []⟩ := by unfold argsOk; kernel_rfl
theorem xl_entry_ga : entryFor table "object.__getattribute__" = some Builtin.«object.__getattribute__» := entryFor_of_tree (by kernel_rfl)
theorem xl_lk_class : typeLookup (.type "function") "__class__" = pure (some (.builtin "object.__class__")) := by rw [typeLookup_type, builtinLookup_eq_fast]; kernel_rfl
theorem xl_sub_class_owner : isSubtype (.type "function") (.type (".".intercalate ("object.__class__".cutAt '.').dropLast)) = pure true := by
  rw [owner_object_class, isSubtype_type]; kernel_rfl
end F
section
variable {prog : Program} {w : World} {A : Around} {E : Value → Shared → Prop} {h : Heap} {g : Array GenState} {d : Drawn} {t : Nat} {os : OsState} {a : Addr} {o : Obj}
theorem xl_class_get {R : Result → Shared → Prop} (hx : h.get? a = some o) (hc : o.cls = .type "function") (hq : R (.ok (.ret (.type "function"))) ⟨h, g, d, t, os⟩) :
    codeAny (model prog w) A (.call (.builtin "getset_descriptor.__get__") ⟨[.builtin "object.__class__", .ref a, .type "function"], []⟩) R ⟨h, g, d, t, os⟩ := by
  have hT : (⟨h, g, d, t, os⟩ : Shared).TypeIs (.ref a) "function" := ⟨_, hx, hc⟩
  have hT5 : (⟨h, g, d, t, os⟩ : Shared).TypeIs (.builtin "object.__class__") "getset_descriptor" := F.typeOf_object_class
  have f8 := F.xl_sub_class_owner
  refine codeAny_call_builtin F.slot_gs_get.plain F.entry_gs_get (F.slot_gs_get.check _ _ _ _ _ _ _ _ hT5 (F.args_gs_get _ _ _) ?_)
  repeat (any_goals (first | assumption | wp_step))
  refine ⟨Code.quiet_builtin _ (by decide +kernel), codeAny_builtin F.entry_object_class ?_⟩
  repeat (any_goals (first | assumption | wp_step))
theorem xl_class_entry {tk : Tok} {Q : Fin → Shared → Prop} (hx : h.get? a = some o) (hc : o.cls = .type "function") (hq : Q (.done (.ret (.type "function"))) ⟨h, g, d, t, os⟩) :
    wpAny (model prog w) A (Builtin.«object.__getattribute__» ⟨[.ref a, .str "__class__" tk], []⟩) Q E ⟨h, g, d, t, os⟩ := by
  have hT : (⟨h, g, d, t, os⟩ : Shared).TypeIs (.ref a) "function" := ⟨_, hx, hc⟩
  have hT5 : (⟨h, g, d, t, os⟩ : Shared).TypeIs (.builtin "object.__class__") "getset_descriptor" := F.typeOf_object_class
  have f4 := F.xl_lk_class
  have f5 := F.typeOf_object_class
  have f6 := F.slot_gs_get.lookup
  have f7 := F.slot_gs_set.lookup
  repeat (any_goals (first | assumption | wp_step))
  refine xl_class_get hx hc ?_
  repeat (any_goals (first | assumption | wp_step))
theorem xl_class_call {tk : Tok} {R : Result → Shared → Prop} (hx : h.get? a = some o) (hc : o.cls = .type "function") (hq : R (.ok (.ret (.type "function"))) ⟨h, g, d, t, os⟩) :
    codeAny (model prog w) A (.call (.builtin "object.__getattribute__") ⟨[.ref a, .str "__class__" tk], []⟩) R ⟨h, g, d, t, os⟩ :=
  codeAny_call_builtin F.xl_slot_ga.plain F.xl_entry_ga (F.xl_slot_ga.check _ _ _ _ _ _ _ _ (show (⟨h, g, d, t, os⟩ : Shared).TypeIs (.ref a) "function" from ⟨_, hx, hc⟩) (F.xl_args_ga _ _) (xl_class_entry hx hc hq))
theorem xl_class_by {tk : Tok} {Q : Value → Shared → Prop} (hx : h.get? a = some o) (hc : o.cls = .type "function") (hq : Q (.type "function") ⟨h, g, d, t, os⟩) : wpAny (model prog w) A (getAttrBy (.ref a) (.str "__class__" tk) false) Q E ⟨h, g, d, t, os⟩ := by
  have hT : (⟨h, g, d, t, os⟩ : Shared).TypeIs (.ref a) "function" := ⟨_, hx, hc⟩
  have f2 := F.xl_slot_ga.lookup
  have f3 := F.xl_slot_ga.bind (.ref a)
  repeat (any_goals (first | assumption | wp_step))
  refine xl_class_call hx hc ?_
  repeat (any_goals (first | assumption | wp_step))
theorem xl_class_attr {Q : Option Value → Shared → Prop} (hx : h.get? a = some o) (hc : o.cls = .type "function") (hq : Q (some (.type "function")) ⟨h, g, d, t + 1, os⟩) : wpAny (model prog w) A (getAttr? (.ref a) "__class__") Q E ⟨h, g, d, t, os⟩ := by
  unfold getAttr? getAttrBy?
  repeat (any_goals (first | assumption | with_reducible apply xl_class_by hx hc | wp_step))
end
namespace W
theorem kitx_fn {K : Frag} {a : Addr} : KitX K (.ref a) (.type "function") (KitAt a "function") := kitx_of kitAt_ty (fun {_ _ _ _ _ s} p k => by obtain ⟨h, g, d, t, os⟩ := s; obtain ⟨o, h1, h2⟩ := p; exact xl_class_attr h1 h2 k)
end W
end PySem
namespace Xl
open PySem PySem.Spec PyProof.Rows L2 Rs
/-- isinstance(x, c), where x may be a function -/
def rIsiF (K : PySem.W.Frag) : List V → Hp → VK → Prop := fun xs H Q => rIsi K xs H Q ∨ ∃ (f : Addr) (F : Xh.LF) (c : V) (u : Value) (b : Bool), xs = [.ref f, c] ∧ ClsV c u ∧ H f = some (Xh.LamO f F) ∧ PySem.W.kitOne K (.type "function") u = some b ∧ Q (.bl b) H
theorem call_isiF {X : Cx} : CallR X (.builtin "isinstance") (rIsiF X.K) := by
  intro pins s σ H xs us Q I r h
  rcases h with h | ⟨f, F, c, u, b, rfl, k, hf, e, q⟩
  · exact call_isi pins s σ H xs us Q I r h
  · obtain ⟨u1, u2, rfl, r1, r2⟩ := vals2 r
    have e2 := k.eq r2
    subst e2
    cases (show u1 = Value.ref f from r1)
    obtain ⟨pm, ctv, hg⟩ := Xh.lamO_at I.hok hf
    exact PySem.W.kia_one PySem.W.kitx_fn I.kIn ⟨_, hg, rfl⟩ e (fun z => nomatch z) fun tk => ⟨.bl b, H, I.tok tk, rfl, q⟩
end Xl

/-! Xm1: own exceptions of two fields, raised -/
namespace Xm
open PySem PySem.Spec PySem.Calls PyProof.Rows L2 Rs Xc
def spInit2 (C : Addr) (f g : Str) : Sp := fun vs H Q _ => ∃ (a : Addr) (v w : V), vs = [.ref a, v, w] ∧ H a = some (exo a C none) ∧
  ∀ (dx : Addr) (H' : Hp), H dx = none → dx ≠ a → H' a = some (exo a C (some dx)) → H' dx = some (exd dx [(g, w), (f, v)]) → (∀ b, b ≠ a → b ≠ dx → H' b = H b) → Q .non H'
theorem rd_mk2 {H : Hp} {C : Addr} {f g : Str} {x y : V} {XQ : XK} (k : ∀ d, H d = none → XQ (.ref C) (some d) (upd H d (.xd [(g, y), (f, x)]))) : [x, y].length ≤ 1000 ∧ ∀ a, H a = none → spInit2 C f g (.ref a :: ([x, y] ++ [])) (upd H a (exo a C none))
    (fun v H2 => v = .non ∧ ∃ (d : Addr) (fs : List (Str × V)), H2 a = some (exo a C (some d)) ∧ H2 d = some (exd d fs) ∧ H d = none ∧ XQ (.ref C) (some d) (upd (del H2 a) d (.xd fs))) (fun _ _ _ => False) := by
  refine ⟨by simp, fun a ha => ⟨a, x, y, rfl, upd_same, fun d H' hd ne e1 e2 e3 => ⟨rfl, d, [(g, y), (f, x)], e1, e2, ?_, ?_⟩⟩⟩
  · rw [upd_ne ne] at hd; exact hd
  · rw [upd_ne ne] at hd
    have e : upd (del H' a) d (.xd [(g, y), (f, x)]) = upd H d (.xd [(g, y), (f, x)]) := by
      funext b
      by_cases hb : b = d
      · subst hb; rw [upd_same, upd_same]
      · rw [upd_ne hb, upd_ne hb]
        by_cases h2 : b = a
        · subst h2; rw [del_same, ha]
        · rw [del_ne h2, e3 b h2 hb, upd_ne h2]
    rw [e]
    exact k d hd
/-- Python's own less: of whole numbers, of texts, of tuples of whole numbers -/
def rLtG (K : PySem.W.Frag) : R2 := fun x y H Q => rI0 (fun i j => .bl (decide (i < j))) x y H Q ∨ (∃ i j : Str, x = .str i ∧ y = .str j ∧ Q (.bl (decide (i.cps.toList < j.cps.toList))) H) ∨ rLtT K x y H Q
theorem op_ltG {X : Cx} (hu : X.A.units + 64 < cLine) : OpR X (compareOp .Lt) (rLtG X.K) := by
  intro pins s σ H x y u v Q I r1 r2 h
  rcases h with h | h | h
  · exact op_lt pins s σ H x y u v Q I r1 r2 h
  · exact op_lt_str pins s σ H x y u v Q I r1 r2 h
  · exact op_ltT (by omega) pins s σ H x y u v Q I r1 r2 h
/-- one item of a list or a tuple -/
def rIxS (K : PySem.W.Frag) : R2 := fun x y H Q => rIxL K x y H Q ∨ rIxT K x y H Q
theorem ix_seq {X : Cx} : IxR X (rIxS X.K) := by
  intro e1 e2 pins s σ H x y u v Q I r1 r2 h hs
  rcases h with h | h
  · exact ix_list e1 e2 pins s σ H x y u v Q I r1 r2 h hs
  · exact ix_tup e1 e2 pins s σ H x y u v Q I r1 r2 h hs
end Xm

/-! Xn1: (*t, a, b, ..) = a tuple: the first target takes a new list of what the others leave -/
namespace Xn
open PySem PySem.Spec PySem.Calls PyProof.Rows L2
section
variable {X : Cx} {pos : Pos}
theorem pgs_star {e : Expr} {p : Pos} {es : List Expr} {t : TG} {u : TGs} (h1 : PG X e t) (h2 : PGs X es u) : PGs X (.Starred e p :: es) (gCons t u) := by
  refine ⟨fun pins s σ H vs us Q I r h => ?_⟩
  obtain ⟨v, vr, rfl, h⟩ := h
  cases r with
  | cons r1 r2 =>
    show wpAny _ _ (assignInOrder (assign e X.env :: (assignEach es X.env).map (·.2)) _) _ _ _
    exact assignInOrder_cons (thn (h1.run pins s σ H _ _ _ I r1 h) fun _ s1 ⟨σ1, H1, I1, q1⟩ => h2.run pins s1 σ1 H1 _ _ Q I1 r2 q1)
/-- (*t, a, ..) = a tuple of k + rest things; n targets -/
def gStar (K : PySem.W.Frag) (n : Nat) (t : TGs) : TG := fun v σ H Q => ∃ a xs, v = .ref a ∧ SqT K H a xs ∧ n ≤ xs.length + 1 ∧ xs.length ≤ 16384 ∧ ∀ p, H p = none → t (.ref p :: xs.drop (xs.length + 1 - n)) σ (upd H p (.lst (xs.take (xs.length + 1 - n)))) Q
theorem vals_take : ∀ {xs : List V} {us : List Value} (_ : Vals xs us) (k : Nat), Vals (xs.take k) (us.take k) ∧ Vals (xs.drop k) (us.drop k)
  | _, _, .nil, k => by simp; exact .nil
  | _, _, .cons a r, 0 => ⟨.nil, .cons a r⟩
  | _, _, .cons a r, k + 1 => ⟨.cons a (vals_take r k).1, (vals_take r k).2⟩
theorem unpack0 {A : Around} {w : World} {prog : Program} {s : Shared} {a : Addr} {its : List Value} {n : Nat} {E : Value → Shared → Prop} {Q : List Value → Shared → Prop} (hh : A.handled = none) (ht : IsTup s.heap a its.toArray) (hn0 : 0 < n) (hn : n ≤ its.length + 1) (hz : its.length ≤ 16384)
    (h : ∀ hp tk, (∀ b o, s.heap.get? b = some o → hp.get? b = some o) → wpAny (model prog w) A (newList (its.take (its.length + 1 - n)) >>= fun d => pure (d :: its.drop (its.length + 1 - n))) Q E { s with heap := hp, toks := tk }) :
    wpAny (model prog w) A (unpackItems (.ref a) n (some 0)) Q E s := by
  have lt : a < s.heap.objs.size := let ⟨_, z, _⟩ := ht; Heap.lt_size z
  have ne : a ≠ s.heap.objs.size := Nat.ne_of_lt lt
  unfold unpackItems notIterableAtAll
  refine wpAny_bind (wpAny_bind (wpAny_specialOf ht.typeIs slot_tuple_iter.lookup (wpAny_pure ?_)))
  rw [if_neg Bool.false_ne_true]
  refine wpAny_bind (wpAny_holding (iter_tuple ht (wpAny_bind (wpAny_holding (draw_tuple ne 0 0 _ _ ⟨_, Heap.get?_push_size _ rfl, rfl, rfl⟩ (ht.push _) (Nat.zero_le _) fun g gi gs => ?_)))))
  have gt : IsTup g a its.toArray := (ht.push _).extBut gs.extBut ne
  obtain ⟨oi, ei, _⟩ := id gi
  obtain ⟨ot, et, _⟩ := id gt
  rw [show (List.drop 0 its.toArray.toList).take 0 = [] by rfl, if_neg (show ¬ (([] : List Value).length < 0) by simp)]
  refine wpAny_bind (wpAny_holding (PySem.W.kun_collect (s := { s with heap := g }) (k := 0) (.inr (.inr (.inr rfl))) (Walks.tuple (A := A.in1) hh s.heap.objs.size a ne its.toArray) (fun _ _ z => z.1.typeIs) (Nat.zero_le _) ⟨gi, gt⟩ (Heap.lt_size ei) (Heap.lt_size et) (fun g2 tk k2 => ?_) (by rw [sizeLine_eq]; simp; omega)))
  have len : (List.drop 0 its.toArray.toList).length = its.length := by simp
  show wpAny _ _ (if (List.drop 0 its.toArray.toList).length < n - 1 - 0 then _ else _) _ _ _
  rw [if_neg (by rw [len]; omega)]
  have e1 : its.length - (n - 1 - 0) = its.length + 1 - n := by omega
  show wpAny _ _ (newList ((List.drop 0 its.toArray.toList).take ((List.drop 0 its.toArray.toList).length - (n - 1 - 0))) >>= fun d => pure ([] ++ [d] ++ (List.drop 0 its.toArray.toList).drop ((List.drop 0 its.toArray.toList).length - (n - 1 - 0)))) _ _ _
  rw [len, e1]
  refine h g2 tk fun b o e => ?_
  have b1 : b ≠ s.heap.objs.size := Nat.ne_of_lt (Heap.lt_size e)
  exact k2 b o b1 (gs.extBut b o b1 (Heap.get?_push_of_some _ e))
theorem pg_star {es : List Expr} {k : Nat} {t : TGs} {n : Nat} (hc : X.calm = true) (h : PGs X es t) (hn0 : 0 < n)
    (hn : (assignEach es X.env).length = n := by rfl) (hst : (assignEach es X.env).findIdx? (·.1) = some 0 := by rfl) : PG X (.Tuple es k pos) (gStar X.K n t) := by
  refine ⟨fun pins s σ H v u Q I r ⟨a, xs, e1, hq, hl, hz, hw⟩ => ?_⟩
  subst e1
  cases r
  obtain ⟨its, rv, ht, _⟩ := I.tuple hq
  have len := rv.length
  rw [assign_Tuple]
  refine wpAny_bind (wpAny_standAt ?_)
  unfold unpack
  rw [hn, hst]
  refine wpAny_bind (wpAny_holding (unpack0 (I.ok.hd hc) ht hn0 (by omega) (by omega) fun g tk kept => ?_))
  have I1 : Inv X pins σ H { s with heap := g, toks := tk } := I.kept kept
  obtain ⟨r1, r2⟩ := vals_take rv (xs.length + 1 - n)
  have small : (xs.take (xs.length + 1 - n)).length ≤ sizeLine := by rw [List.length_take, sizeLine_eq]; omega
  have fresh : H g.objs.size = none := I1.hok.fresh (Nat.le_refl _)
  rw [← len]
  refine wpAny_bind (wpAny_newList (wpAny_pure ?_) (by rw [← r1.length]; exact small))
  have I2 : Inv X pins σ (upd H g.objs.size (.lst (xs.take (xs.length + 1 - n)))) { s with heap := g.push (seqObj "list" (its.take (xs.length + 1 - n)).toArray 0), toks := tk } :=
    I1.laid (t' := tk) (fun b u e => Heap.get?_push_of_some _ e) (Nat.le_refl _) ⟨small, _, 0, r1, Heap.get?_push_size _ rfl⟩
  exact h.run pins _ σ _ (.ref g.objs.size :: xs.drop (xs.length + 1 - n)) _ Q I2 (.cons rfl r2) (hw _ fresh)
/-! ### f(..), f a name that holds a def of the text -/
def tCallVK (X : Cx) (CX : CXT) (k i : Nat) (ta : TA) (E : XK) : TE := fun σ H Q => ∃ f, σ[i]? = some (some (.ref f)) ∧ PySem.W.keepIn X.K (.ref f) = true ∧ ta σ H fun vs H2 => Xh.CallsTo X.prog X.w X.K X.mg X.base CX k f H2 vs Q E
theorem pe_callVK {CX : CXT} {k j i : Nat} {x : Str} {E : XK} {ta : TA} {e : Expr} {es : List Expr} {p : Pos} (hN : X.N[i]? = some x) (hv : Vis X.env.scope x) (ha : PA X (e :: es) ta) (hr : Room j X.A) (hk : k ≤ j) (hx : Passes CX X E) (hdb : (x == ("__debug__" : Str)) = false := by decide) (hcd : (x == ("__classdict__" : Str)) = false := by decide)
    (he : starEach (e :: es) X.env = (false, eval e X.env) :: starEach es X.env := by rfl) (hpl : (backTo pos (starEach es X.env)).any (·.1) = false := by rfl) : PE X (.Call (.Name x p) (e :: es) [] pos) (tCallVK X CX k i ta E) := by
  refine ⟨fun pins s σ H Q I ⟨f, at_, kp, go⟩ => ?_⟩
  refine wpAny_Call_Name_kw (thn ((pe_var (pos := p) hN hv hdb hcd).run pins s σ H (fun v H1 => v = .ref f ∧ H1 = H) I ⟨.ref f, at_, rfl, rfl⟩) fun u s1 ⟨v, H1, I1, r1, ev, eH⟩ => ?_)
  subst ev eH
  obtain rfl : u = Value.ref f := r1
  exact PySem.W.callWith_K (first := []) (h₀ := X.base) I1.ok.mod.kin kp (thn (ha.run pos pins s1 σ _ _ I1 go) fun us s2 ⟨vs, H2, I2, r, q⟩ => ⟨I2.kIn, Xj.run_to q hr hk hx I2 r⟩) he hpl
/-! ### sum(a tuple, start=..) -/
def rSumTK (K : PySem.W.Frag) : List V → List V → Hp → VK → Prop := fun vs zs H Q => ∃ (a : Addr) (ns : List Int) (k : Int), vs = [V.ref a] ∧ zs = [V.int k] ∧ SqT K H a (ns.map V.int) ∧ Q (.int (k + ns.sum)) H
theorem cr_sumTK (hc : X.calm = true) : CallRK X (.builtin "sum") [Str.ofString "start"] (rSumTK X.K) := by
  intro pins s σ H vs zs us ws Q I r rz ⟨a, ns, k, e1, e2, hs, q⟩
  subst e1 e2
  obtain ⟨its, rv, ht, hz⟩ := I.tuple hs
  rw [Vals.ref1 r]
  obtain ⟨u, rfl, t, rfl⟩ := vals1 rz
  obtain ⟨o, z1, z2, n, z3⟩ := id ht
  refine Rs.sum_from (Rs.walk_tup (A := X.A.in1) (I.ok.hd hc) ⟨o, z1, z2, n, z3⟩ fun s₂ es St W st hfp => ?_)
  subst es
  refine ⟨_, _, _, _, _, _, fun i => ns.getD i 0, rfl, W, st, hfp, Rs.vals_at rv, fun h' tk t' hk => ⟨.int _, H, I.kept (Rs.it_old hk), ⟨_, rfl⟩, ?_⟩⟩
  rw [List.size_toArray, ← rv.length, List.length_map, Rs.preSum_all]
  exact q
theorem rd_sumTK {K : PySem.W.Frag} {H0 H : Hp} {M : List Addr} {L : Rs.Led} {Q : VK} {a : Addr} {ns : List Int} {k : Int} (S : Rs.Hs H0 M H L) (m : (a, HO.tup (ns.map V.int)) ∈ L) (h : Q (.int (k + ns.sum)) H) : rSumTK K [.ref a] [.int k] H Q := ⟨a, ns, k, rfl, rfl, S.tup m, h⟩
end
end Xn

/-! Xn2: isinstance(e, (A, B, ..)) of a held exception -/
namespace Xn
open PySem PySem.Spec PySem.Calls PyProof.Rows L2 Rs Xc
theorem kitAny_no {K : PySem.W.Frag} {t : Value} : ∀ {us : List Value}, (∀ u ∈ us, PySem.W.kitOne K t u = some false) → PySem.W.kitAny K t us = some false
  | [], _ => rfl
  | u :: us, h => by
    have e := kitAny_no (us := us) fun v hv => h v (List.mem_cons_of_mem _ hv)
    unfold PySem.W.kitAny
    rw [h u List.mem_cons_self]
    exact e
def rIsXT (K : PySem.W.Frag) : List V → Hp → VK → Prop := fun xs H Q => ∃ (a C dx tp : Addr) (fs : List (Str × V)) (cs : List V) (us : List Value) (b : Bool), xs = [.ref a, .ref tp] ∧ H tp = some (.tup cs) ∧ Paired ClsV cs us ∧ Lk K C ∧ Held H a C dx fs ∧ PySem.W.kitAny K (.ref C) us = some b ∧ Q (.bl b) H
section
variable {X : Cx} {K : PySem.W.Frag} {H0 H : Hp} {M : List Addr} {L : Led} {Q : VK} {C : Addr}
theorem call_isXT : CallR X (.builtin "isinstance") (rIsXT X.K) := by
  intro pins s σ H xs us Q I r ⟨a, C, dx, tp, fs, cs, ws, b, e0, hT, k, l, hh, e, q⟩
  subst e0
  obtain ⟨u1, u2, rfl, r1, r2⟩ := vals2 r
  cases (show u2 = Value.ref tp from r2)
  cases (show u1 = Value.ref a from r1)
  obtain ⟨oe, od, mA, J, _, _⟩ := held_inst I hh
  obtain ⟨_, its, rv, o, h1, h2, n, h3⟩ := (show ObjOk X.prog X.w H s.heap tp (.tup cs) from I.hok tp _ hT)
  have e3 := ClsV.all k rv
  subst e3
  obtain ⟨oc, od2, dt, sl⟩ := o
  dsimp only at h2 h3
  subst h2 h3
  exact PySem.W.kia_tup (PySem.W.kitx_exc l.cl l.ga l.gg l.bx l.ha l.hn l.ht l.hm) I.kIn J h1 e (fun z => nomatch z) fun tk => ⟨.bl b, H, I.tok tk, rfl, q⟩
theorem rd_isXT {a dx tp : Addr} {fs : List (Str × V)} {cs : List V} {us : List Value} {b : Bool} (S : Hs H0 M H L) (m1 : (a, Exv a (.ref C) (some dx)) ∈ L) (m2 : (dx, HO.xd fs) ∈ L) (m3 : (tp, HO.tup cs) ∈ L) (l : Lk K C) (hc : Paired ClsV cs us) (e : PySem.W.kitAny K (.ref C) us = some b) (h : Q (.bl b) H) : rIsXT K [.ref a, .ref tp] H Q :=
  ⟨a, C, dx, tp, fs, cs, us, b, rfl, S.is _ m3, hc, l, ⟨S.is _ m1, S.is _ m2⟩, e, h⟩
end
end Xn

/-! K29m: rows mixed of two, and parted again -/
namespace K30
def mix {α : Type} : List Nat → List α → List α → List α
  | [], _, _ => []
  | n :: r, B, A => B.take n ++ mix r A (B.drop n)
def spl {α : Type} : List Nat → List α → List α × List α
  | [], _ => ([], [])
  | n :: r, W => (W.take n ++ (spl r (W.drop n)).2, (spl r (W.drop n)).1)
/-- how many of the one, of the other -/
def ssum : List Nat → Nat × Nat
  | [] => (0, 0)
  | n :: r => (n + (ssum r).2, (ssum r).1)
section
variable {α : Type}
theorem spl_mix : ∀ (pk : List Nat) (B A X Y Z : List α), B.length = (ssum pk).1 → A.length = (ssum pk).2 → spl pk (mix pk (B ++ X) (A ++ Y) ++ Z) = (B, A)
  | [], B, A, X, Y, Z, hb, ha => by
    simp only [ssum, List.length_eq_zero_iff] at hb ha
    subst hb ha
    rfl
  | n :: r, B, A, X, Y, Z, hb, ha => by
    simp only [ssum] at hb ha
    have h1 : n ≤ B.length := by omega
    have e1 : (B ++ X).take n = B.take n := List.take_append_of_le_length h1
    have e2 : (B ++ X).drop n = B.drop n ++ X := List.drop_append_of_le_length h1
    have h2 : (B.take n).length = n := by rw [List.length_take]; omega
    have h3 : (B.drop n).length = (ssum r).2 := by rw [List.length_drop]; omega
    simp only [mix, spl, e1, e2, List.append_assoc]
    rw [List.take_left' h2, List.drop_left' h2, spl_mix r A (B.drop n) Y X Z ha h3, List.take_append_drop]
theorem mix_spl : ∀ (pk : List Nat) (W X Y : List α), (ssum pk).1 + (ssum pk).2 ≤ W.length → mix pk ((spl pk W).1 ++ X) ((spl pk W).2 ++ Y) = W.take ((ssum pk).1 + (ssum pk).2)
  | [], W, X, Y, h => by simp [mix, ssum]
  | n :: r, W, X, Y, h => by
    simp only [ssum] at h
    have h2 : (W.take n).length = n := by rw [List.length_take]; omega
    have h3 : (ssum r).1 + (ssum r).2 ≤ (W.drop n).length := by rw [List.length_drop]; omega
    simp only [mix, spl, ssum, List.append_assoc]
    rw [List.take_left' h2, List.drop_left' h2, mix_spl r (W.drop n) Y X h3, ← List.take_add]
    congr 1
    omega
theorem mix_len : ∀ (pk : List Nat) (B A : List α), (ssum pk).1 ≤ B.length → (ssum pk).2 ≤ A.length → (mix pk B A).length = (ssum pk).1 + (ssum pk).2
  | [], _, _, _, _ => rfl
  | n :: r, B, A, hb, ha => by
    simp only [ssum] at hb ha
    simp only [mix, ssum, List.length_append, List.length_take]
    rw [mix_len r A (B.drop n) ha (by rw [List.length_drop]; omega)]
    omega
theorem spl_len : ∀ (pk : List Nat) (W : List α), (ssum pk).1 + (ssum pk).2 ≤ W.length → (spl pk W).1.length = (ssum pk).1 ∧ (spl pk W).2.length = (ssum pk).2
  | [], _, _ => ⟨rfl, rfl⟩
  | n :: r, W, h => by
    simp only [ssum] at h
    obtain ⟨h1, h2⟩ := spl_len r (W.drop n) (by rw [List.length_drop]; omega)
    show (W.take n ++ (spl r (W.drop n)).2).length = n + (ssum r).2 ∧ (spl r (W.drop n)).1.length = (ssum r).1
    exact ⟨by rw [List.length_append, List.length_take, h2]; omega, h1⟩
theorem mix_app : ∀ (pk : List Nat) (B A X Y : List α), (ssum pk).1 ≤ B.length → (ssum pk).2 ≤ A.length → mix pk (B ++ X) (A ++ Y) = mix pk B A
  | [], _, _, _, _, _, _ => rfl
  | n :: r, B, A, X, Y, hb, ha => by
    simp only [ssum] at hb ha
    have h1 : n ≤ B.length := by omega
    have e1 : (B ++ X).take n = B.take n := List.take_append_of_le_length h1
    have e2 : (B ++ X).drop n = B.drop n ++ X := List.drop_append_of_le_length h1
    simp only [mix, e1, e2]
    rw [mix_app r A (B.drop n) Y X ha (by rw [List.length_drop]; omega)]
theorem spl_app : ∀ (pk : List Nat) (W Z : List α), (ssum pk).1 + (ssum pk).2 ≤ W.length → spl pk (W ++ Z) = spl pk W
  | [], _, _, _ => rfl
  | n :: r, W, Z, h => by
    simp only [ssum] at h
    have h1 : n ≤ W.length := by omega
    have e1 : (W ++ Z).take n = W.take n := List.take_append_of_le_length h1
    have e2 : (W ++ Z).drop n = W.drop n ++ Z := List.drop_append_of_le_length h1
    simp only [spl, e1, e2]
    rw [spl_app r (W.drop n) Z (by rw [List.length_drop]; omega)]
theorem mix_mem : ∀ (pk : List Nat) (B A : List α) (x : α), x ∈ mix pk B A → x ∈ B ∨ x ∈ A
  | [], _, _, _, h => nomatch h
  | n :: r, B, A, x, h => by
    simp only [mix] at h
    rcases List.mem_append.mp h with h | h
    · exact .inl (List.mem_of_mem_take h)
    · rcases mix_mem r A (B.drop n) x h with h | h
      · exact .inr h
      · exact .inl (List.mem_of_mem_drop h)
theorem spl_mem : ∀ (pk : List Nat) (W : List α) (x : α), x ∈ (spl pk W).1 ∨ x ∈ (spl pk W).2 → x ∈ W
  | [], _, _, h => by rcases h with h | h <;> exact nomatch h
  | n :: r, W, x, h => by
    simp only [spl] at h
    rcases h with h | h
    · rcases List.mem_append.mp h with h | h
      · exact List.mem_of_mem_take h
      · exact List.mem_of_mem_drop (spl_mem r (W.drop n) x (.inr h))
    · exact List.mem_of_mem_drop (spl_mem r (W.drop n) x (.inl h))
/-- a row moved forth: f things stay in front, from m on the second ones, from e on what stays behind -/
def fwd (pk : List Nat) (f m e : Nat) (xs : List α) : List α := xs.take f ++ mix pk (xs.drop m) (xs.drop f) ++ xs.drop e
def bck (pk : List Nat) (f e : Nat) (xs : List α) : List α := xs.take f ++ ((spl pk (xs.drop f)).2 ++ (spl pk (xs.drop f)).1) ++ xs.drop e
/-- picks and places that fit so many things -/
structure Fit (pk : List Nat) (f m e n : Nat) : Prop where
  fm : f ≤ m
  me : m ≤ e
  en : e ≤ n
  s1 : (ssum pk).1 = e - m
  s2 : (ssum pk).2 = m - f
variable {pk : List Nat} {f m e : Nat} {xs : List α}
theorem fwd_len (h : Fit pk f m e xs.length) : (fwd pk f m e xs).length = xs.length := by
  obtain ⟨h1, h2, h3, h4, h5⟩ := h
  unfold fwd
  rw [List.length_append, List.length_append, mix_len pk _ _ (by rw [List.length_drop]; omega) (by rw [List.length_drop]; omega), List.length_take, List.length_drop, h4, h5]
  omega
theorem bck_len (h : Fit pk f m e xs.length) : (bck pk f e xs).length = xs.length := by
  obtain ⟨h1, h2, h3, h4, h5⟩ := h
  obtain ⟨k1, k2⟩ := spl_len pk (xs.drop f) (by rw [List.length_drop]; omega)
  unfold bck
  rw [List.length_append, List.length_append, List.length_append, k1, k2, List.length_take, List.length_drop, h4, h5]
  omega
theorem parts (h : Fit pk f m e xs.length) : ∃ F A B C : List α, xs = F ++ (A ++ (B ++ C)) ∧ F.length = f ∧ A.length = m - f ∧ B.length = e - m := by
  obtain ⟨h1, h2, h3, h4, h5⟩ := h
  refine ⟨xs.take f, (xs.drop f).take (m - f), ((xs.drop f).drop (m - f)).take (e - m), ((xs.drop f).drop (m - f)).drop (e - m), ?_, ?_, ?_, ?_⟩
  · rw [List.take_append_drop, List.take_append_drop, List.take_append_drop]
  · rw [List.length_take]; omega
  · rw [List.length_take, List.length_drop]; omega
  · rw [List.length_take, List.length_drop, List.length_drop]; omega
theorem bck_fwd (h : Fit pk f m e xs.length) : bck pk f e (fwd pk f m e xs) = xs := by
  obtain ⟨F, A, B, C, rfl, hF, hA, hB⟩ := parts h
  obtain ⟨h1, h2, h3, h4, h5⟩ := h
  have d1 : (F ++ (A ++ (B ++ C))).drop f = A ++ (B ++ C) := List.drop_left' hF
  have d2 : (F ++ (A ++ (B ++ C))).drop m = B ++ C := by
    rw [show m = f + (m - f) by omega, ← List.drop_drop, d1, List.drop_left' hA]
  have d3 : (F ++ (A ++ (B ++ C))).drop e = C := by
    rw [show e = m + (e - m) by omega, ← List.drop_drop, d2, List.drop_left' hB]
  have t1 : (F ++ (A ++ (B ++ C))).take f = F := List.take_left' hF
  have lm : (mix pk (B ++ C) (A ++ (B ++ C))).length = e - f := by
    rw [mix_len pk _ _ (by rw [List.length_append]; omega) (by rw [List.length_append]; omega)]; omega
  have e1 : fwd pk f m e (F ++ (A ++ (B ++ C))) = F ++ (mix pk (B ++ C) (A ++ (B ++ C)) ++ C) := by
    unfold fwd
    rw [d1, d2, d3, t1, List.append_assoc]
  rw [e1]
  unfold bck
  rw [List.take_left' hF, List.drop_left' hF, spl_mix pk B A C (B ++ C) C (by omega) (by omega)]
  rw [show e = f + (e - f) by omega, ← List.drop_drop, List.drop_left' hF, List.drop_left' lm]
  simp only [List.append_assoc]
theorem fwd_bck (h : Fit pk f m e xs.length) : fwd pk f m e (bck pk f e xs) = xs := by
  obtain ⟨h1, h2, h3, h4, h5⟩ := h
  have hF : (xs.take f).length = f := by rw [List.length_take]; omega
  have hs : (ssum pk).1 + (ssum pk).2 ≤ (xs.drop f).length := by rw [List.length_drop]; omega
  obtain ⟨k1, k2⟩ := spl_len pk (xs.drop f) hs
  generalize hP : (spl pk (xs.drop f)).1 = P at k1
  generalize hQ : (spl pk (xs.drop f)).2 = Q at k2
  have e1 : bck pk f e xs = xs.take f ++ (Q ++ (P ++ xs.drop e)) := by
    unfold bck
    rw [hP, hQ]
    simp only [List.append_assoc]
  rw [e1]
  have d1 : (xs.take f ++ (Q ++ (P ++ xs.drop e))).drop f = Q ++ (P ++ xs.drop e) := List.drop_left' hF
  have d2 : (xs.take f ++ (Q ++ (P ++ xs.drop e))).drop m = P ++ xs.drop e := by
    rw [show m = f + (m - f) by omega, ← List.drop_drop, d1, List.drop_left' (by omega)]
  have d3 : (xs.take f ++ (Q ++ (P ++ xs.drop e))).drop e = xs.drop e := by
    rw [show (xs.take f ++ (Q ++ (P ++ xs.drop e))).drop e = ((xs.take f ++ (Q ++ (P ++ xs.drop e))).drop m).drop (e - m) by rw [List.drop_drop]; congr 1; omega, d2, List.drop_left' (by omega)]
  unfold fwd
  rw [d1, d2, d3, List.take_left' hF]
  have e2 : mix pk (P ++ xs.drop e) (Q ++ (P ++ xs.drop e)) = (xs.drop f).take ((ssum pk).1 + (ssum pk).2) := by
    rw [← hP, ← hQ]
    exact mix_spl pk (xs.drop f) _ _ hs
  rw [e2, show xs.drop e = (xs.drop f).drop ((ssum pk).1 + (ssum pk).2) by rw [List.drop_drop]; congr 1; omega, List.append_assoc, List.take_append_drop, List.take_append_drop]
theorem fwd_mem {x : α} (h : x ∈ fwd pk f m e xs) : x ∈ xs := by
  unfold fwd at h
  rcases List.mem_append.mp h with h | h
  · rcases List.mem_append.mp h with h | h
    · exact List.mem_of_mem_take h
    · rcases mix_mem pk _ _ x h with h | h <;> exact List.mem_of_mem_drop h
  · exact List.mem_of_mem_drop h
theorem bck_mem {x : α} (h : x ∈ bck pk f e xs) : x ∈ xs := by
  unfold bck at h
  rcases List.mem_append.mp h with h | h
  · rcases List.mem_append.mp h with h | h
    · exact List.mem_of_mem_take h
    · exact List.mem_of_mem_drop (spl_mem pk _ x (by rcases List.mem_append.mp h with h | h; exact .inr h; exact .inl h))
  · exact List.mem_of_mem_drop h
end
end K30

/-! K29n: a tuple's every second item -/
namespace K30
open PySem Rs
theorem ix_even (n : Nat) : ixT n none none 2 = (List.range ((n + 1) / 2)).map fun k => 2 * k := by
  have e : (Builtin.Slice.sliceAdjust none none 2 n).1 = 0 := by simp [Builtin.Slice.sliceAdjust]
  have e2 : Builtin.Slice.slicePlaces (Builtin.Slice.sliceAdjust none none 2 n).1 (Builtin.Slice.sliceAdjust none none 2 n).2 2 = (n + 1) / 2 := by
    simp [Builtin.Slice.sliceAdjust, Builtin.Slice.slicePlaces]
    split <;> omega
  unfold ixT
  rw [e2, e]
  refine List.map_congr_left fun k _ => ?_
  omega
theorem ix_odd (n : Nat) : ixT n (some 1) none 2 = (List.range (n / 2)).map fun k => min 1 n + 2 * k := by
  have e : (Builtin.Slice.sliceAdjust (some 1) none 2 n).1 = ((min 1 n : Nat) : Int) := by
    simp [Builtin.Slice.sliceAdjust]
    try omega
  have e2 : Builtin.Slice.slicePlaces (Builtin.Slice.sliceAdjust (some 1) none 2 n).1 (Builtin.Slice.sliceAdjust (some 1) none 2 n).2 2 = n / 2 := by
    simp [Builtin.Slice.sliceAdjust, Builtin.Slice.slicePlaces]
    split <;> omega
  unfold ixT
  rw [e2, e]
  refine List.map_congr_left fun k _ => ?_
  omega
theorem fm_congr {α β : Type} {f g : α → Option β} : ∀ l : List α, (∀ x ∈ l, f x = g x) → l.filterMap f = l.filterMap g
  | [], _ => rfl
  | x :: l, h => by
    have ih := fm_congr l fun y hy => h y (List.mem_cons_of_mem _ hy)
    simp only [List.filterMap_cons, h x List.mem_cons_self, ih]
theorem pick_even (z : Int) (r : List Int) : pickI (z :: r) none none 2 = z :: pickI r (some 1) none 2 := by
  unfold pickI
  rw [ix_even, ix_odd, List.length_cons, show (r.length + 1 + 1) / 2 = r.length / 2 + 1 by omega, List.range_succ_eq_map, List.map_cons, List.filterMap_cons_some (by rfl), List.map_map, List.filterMap_map, List.filterMap_map]
  congr 1
  refine fm_congr _ fun k hk => ?_
  have hk2 : k < r.length / 2 := List.mem_range.mp hk
  simp only [Function.comp]
  rw [show min 1 r.length = 1 by omega, show 2 * k.succ = (1 + 2 * k) + 1 by omega, List.getElem?_cons_succ]
theorem pick_odd (z : Int) (r : List Int) : pickI (z :: r) (some 1) none 2 = pickI r none none 2 := by
  unfold pickI
  rw [ix_even, ix_odd, List.length_cons, List.filterMap_map, List.filterMap_map]
  refine fm_congr _ fun k hk => ?_
  simp only [Function.comp]
  rw [show min 1 (r.length + 1) = 1 by omega, show 1 + 2 * k = 2 * k + 1 by omega, List.getElem?_cons_succ]
theorem pick_nil (lo : Option Int) : pickI [] lo none 2 = [] := by
  unfold pickI
  rw [List.filterMap_eq_nil_iff]
  intro k _
  simp
theorem ssum_pick : ∀ pk : List Int, (∀ z ∈ pk, 0 ≤ z) → ((ssum (pk.map Int.toNat)).1 : Int) = (pickI pk none none 2).sum ∧ ((ssum (pk.map Int.toNat)).2 : Int) = (pickI pk (some 1) none 2).sum
  | [], _ => by rw [pick_nil, pick_nil]; exact ⟨rfl, rfl⟩
  | z :: r, h => by
    obtain ⟨h1, h2⟩ := ssum_pick r fun y hy => h y (List.mem_cons_of_mem _ hy)
    have hz := h z List.mem_cons_self
    rw [pick_even, pick_odd]
    simp only [List.map_cons, ssum, List.sum_cons]
    exact ⟨by omega, h1⟩
end K30

local macro_rules | `(tactic| walk_at "mem") => `(tactic| repeat (with_reducible first | exact List.mem_cons_self | apply List.mem_cons_of_mem))
local macro_rules | `(tactic| walk_at "chg") => `(tactic| repeat (with_reducible first | exact Rs.Chg.here | apply Rs.Chg.there))
local macro_rules | `(tactic| walk_at "chgF") => `(tactic| (intro o'; walk_at "chg"))
local macro_rules | `(tactic| walk_at "own") => `(tactic| first | (apply Or.inl; assumption) | (apply Or.inr; simp))
local macro_rules | `(tactic| walk_at "size") => `(tactic| first | exact Rs.sz (Nat.le_of_ble_eq_true rfl) | (refine Rs.sz ?_; omega) | (refine Rs.sz ?_; simp; done) | (refine Rs.sz ?_; simp; omega))
local macro_rules | `(tactic| walk_at "size1") => `(tactic| first | exact Rs.sz' (Nat.le_of_ble_eq_true rfl) | (refine Rs.sz' ?_; omega) | (refine Rs.sz' ?_; simp; done) | (refine Rs.sz' ?_; simp; omega))
local macro_rules | `(tactic| walk_at "val") => `(tactic| first | assumption | rfl)
local macro_rules | `(tactic| walk_at "put") => `(tactic| first | assumption | rfl)
local macro_rules | `(tactic| walk_at "rd1") => `(tactic| first
  | with_reducible refine Rs.rd_seq ?_
  | with_reducible refine Rs.rd_asg ?_
  | ((with_reducible refine' Rs.rd_var ?e ?_); (case e => rfl))
  | with_reducible refine Rs.rd_c ?_
  | with_reducible refine Rs.rd_op ?_
  | with_reducible refine Rs.rd_I0 ?_
  | with_reducible refine Rs.rd_cons ?_
  | with_reducible refine Rs.rd_nil ?_
  | ((with_reducible refine' Rs.rd_name ?e ?_); (case e => (dsimp only [List.set]; try rfl)))
  | with_reducible refine Rs.rd_ifS ?_
  | with_reducible refine Rs.rd_test ?_
  | with_reducible refine Rs.rd_bl ?_
  | with_reducible refine Rs.rd_ret ?_
  | with_reducible refine Rs.rd_retN ?_
  | with_reducible refine Rs.rd_drop ?_
  | with_reducible refine Rs.rd_next ?_
  | with_reducible refine Rs.rd_eqI ?_
  | with_reducible refine Rs.rd_neI ?_
  | with_reducible refine Rs.rd_eqS ?_
  | with_reducible refine Rs.rd_neS ?_
  | with_reducible refine Rs.rd_eqB ?_
  | with_reducible refine Rs.rd_par ?_
  | with_reducible refine Rs.rd_par3 ?_
  | ((with_reducible refine Rs.rd_two ?_); dsimp only [List.set])
  | ((with_reducible refine Rs.rd_three ?_); dsimp only [List.set])
  | with_reducible refine Rs.rd_un ?_
  | with_reducible refine Rs.rd_U ?_
  | with_reducible refine Rs.rd_tB ?_
  | with_reducible refine Rs.rd_and ?_
  | with_reducible refine Rs.rd_or ?_
  | with_reducible refine Rs.rd_not ?_
  | with_reducible refine Rs.rd_andV ?_
  | with_reducible refine Rs.rd_orV ?_
  | with_reducible refine Rs.rd_notV ?_
  | with_reducible refine Rs.rd_if ?_
  | with_reducible refine Rs.rd_tup ?_
  | with_reducible refine Rs.rd_lst ?_
  | with_reducible refine Rs.rd_cb ?_
  | with_reducible refine Rs.rd_call0 ?_
  | with_reducible refine Rs.rd_call ?_
  | with_reducible refine Rs.rd_callN ?_
  | with_reducible refine Rs.rd_chain ?_
  | with_reducible refine Rs.rd_bits ?_
  | with_reducible refine Rs.rd_int1 ?_
  | with_reducible refine Rs.rd_int2 ?_
  | with_reducible refine Rs.rd_dget ?_
  | with_reducible refine Rs.rd_dput ?_
  | with_reducible refine Rs.rd_slice3 ?_
  | with_reducible refine Rs.rd_sl ?_
  | with_reducible refine Rs.rd_noPart ?_
  | with_reducible refine Rs.rd_part ?_
  | ((with_reducible refine' Rs.rd_mod ?c ?_); (case c => omega); intro r e h0 h1)
  | ((with_reducible refine' Rs.rd_div ?c ?d ?_); (case c => omega); (case d => omega))
  | ((with_reducible refine' Rs.rd_mulL ?c ?d ?_); (case c => omega); (case d => omega))
  | ((with_reducible refine' Rs.rd_mulR ?c ?d ?_); (case c => omega); (case d => omega))
  | ((with_reducible refine' Rs.rd_pow ?c ?d ?f ?_); (case c => omega); (case d => omega); (case f => omega))
  | ((with_reducible refine' Rs.rd_newL (by assumption) ?z ?_); (case z => walk_at "size"); intro p H hp S)
  | ((with_reducible refine' Rs.rd_newT (by assumption) ?z ?_); (case z => walk_at "size"); intro p H hp S)
  | ((with_reducible refine' Rs.rd_newO (by assumption) ?_); intro p H hp S)
  | ((with_reducible refine' Rs.rd_ixL (by assumption) ?m ?e ?_); (case m => (walk_at "mem"; done)); (case e => first | rfl | assumption))
  | ((with_reducible refine' Rs.rd_ixT (by assumption) ?m ?e ?_); (case m => (walk_at "mem"; done)); (case e => first | rfl | assumption))
  | ((with_reducible refine' Rs.rd_len (by assumption) ?m ?_); (case m => (walk_at "mem"; done)))
  | ((with_reducible refine' Rs.rd_lenT (by assumption) ?m ?_); (case m => (walk_at "mem"; done)))
  | ((with_reducible refine' Rs.rd_getS (by assumption) ?m ?e ?_); (case m => (walk_at "mem"; done)); (case e => walk_at "val"))
  | ((with_reducible refine' Rs.rd_putS (by assumption) ?c ?m ?z ?e ?_); (case c => (walk_at "chg"; done)); (case m => walk_at "own"); (case z => walk_at "size1"); (case e => walk_at "put"); intro H S)
  | ((with_reducible refine' Rs.gt_ref (by assumption) ?m ?e ?_); (case m => (walk_at "mem"; done)); (case e => rfl))
  | with_reducible refine Rs.gt_cons ?_
  | with_reducible refine Rs.gt_nil ?_
  | with_reducible refine Rs.rd_for ?_
  | with_reducible refine Rs.rd_rng1 ?_
  | with_reducible refine Rs.rd_rng2 ?_
  | ((with_reducible refine' Rs.rd_rng1v ?c ?d ?_); (case c => omega); (case d => omega))
  | with_reducible refine Rs.rd_iList ?_
  | with_reducible refine Rs.rd_iTup ?_
  | ((with_reducible refine' Rs.rd_lstI (by assumption) ?m ?_); (case m => (walk_at "mem"; done)))
  | ((with_reducible refine' Rs.rd_tupI (by assumption) ?m ?_); (case m => (walk_at "mem"; done)))
  | with_reducible refine Rs.rd_wl ?_
  | ((with_reducible refine' Rs.rd_disp (by assumption) ?_); intro p H hp S)
  | with_reducible refine Rs.rd_prs ?_
  | with_reducible refine Rs.rd_prs0 ?_
  | ((with_reducible refine' Rs.rd_dspEnd (by assumption) ?c ?m ?e ?z ?f ?_); (case c => (walk_at "chg"; done)); (case m => walk_at "own"); (case e => rfl); (case z => exact Nat.le_of_ble_eq_true rfl); (case f => walk_at "put"); intro H S)
  | ((with_reducible refine' Rs.rd_isi (by assumption) ?e ?_); (case e => first | exact Rs.kit_int _ | exact Rs.kit_bool _ | exact Rs.kit_list _ | exact Rs.kit_tuple _ | exact Rs.kit_str _))
  | with_reducible refine Rs.rd_iteT ?_
  | with_reducible refine Rs.rd_nT ?_
  | with_reducible refine Rs.rd_nF ?_
  | with_reducible refine Rs.rd_iteF ?_)
local macro_rules | `(tactic| walk_at "end") => `(tactic| first
  | assumption
  | omega
  | exact Rs.Hs.get (by assumption) (by walk_at "mem"; done)
  | exact Rs.Hs.same (by assumption)
  | (intro b o e hb; exact Rs.Hs.old1 (by assumption) e hb)
  | rfl)
local macro_rules | `(tactic| walk_at "rd") => `(tactic| repeat (walk_at "rd1"))
local macro_rules | `(tactic| walk_at "st") => `(tactic| (refine Rs.rd_start ?_; dsimp only [Rs.stV, List.head?, List.tail]))
local macro_rules | `(tactic| walk_at "noat") => `(tactic| assumption)
local macro_rules | `(tactic| walk_at "cls") => `(tactic| assumption)
local macro_rules | `(tactic| walk_at "fv") => `(tactic| rfl)
local macro_rules | `(tactic| walk_at "sub") => `(tactic| repeat (with_reducible first | exact List.Sublist.refl _ | exact List.nil_sublist _ | apply List.Sublist.cons_cons | apply List.Sublist.cons))
local macro_rules | `(tactic| walk_at "rd1") => `(tactic| first
  | with_reducible refine Rs.rd_fld ?_
  | ((with_reducible refine' Rs.rd_fldV (by assumption) ?m ?c ?n ?e ?_); (case m => (walk_at "mem"; done)); (case c => walk_at "cls"); (case n => walk_at "noat"); (case e => walk_at "fv"))
  | with_reducible refine Rs.rd_sfld ?_
  | ((with_reducible refine' Rs.rd_sfldV (by assumption) ?ch ?o ?c ?n ?z ?e ?_); (case ch => (walk_at "chg"; done)); (case o => walk_at "own"); (case c => walk_at "cls"); (case n => walk_at "noat"); (case z => walk_at "fvz"); (case e => walk_at "fput"); intro H S)
  | with_reducible refine Rs.rd_meth ?_
  | ((with_reducible refine' Rs.rd_methV (by assumption) ?m ?e ?_); (case m => (walk_at "mem"; done)); (case e => walk_at "fv"))
  | with_reducible refine Rs.rd_bm ?_
  | with_reducible refine Rs.rd_bm0 ?_
  | ((with_reducible refine' Rs.rd_tyL (by assumption) ?m ?_); (case m => (walk_at "mem"; done)))
  | ((with_reducible refine' Rs.rd_app (by assumption) ?c ?o ?z ?_); (case c => (walk_at "chg"; done)); (case o => walk_at "own"); (case z => walk_at "size1"); intro H S)
  | ((with_reducible refine' Rs.rd_sumI (by assumption) ?m ?e ?_); (case m => (walk_at "mem"; done)); (case e => rfl))
  | ((with_reducible refine' Rs.rd_slL (by assumption) ?m ?e ?_); (case m => (walk_at "mem"; done)); (case e => rfl); intro p H hp S)
  | ((with_reducible refine' Rs.rd_catL (by assumption) ?m ?n ?z ?_); (case m => (walk_at "mem"; done)); (case n => (walk_at "mem"; done)); (case z => walk_at "size"); intro p H hp S)
  | with_reducible refine Rs.rd_revL ?_
  | ((with_reducible refine' Rs.rd_revV (by assumption) ?m ?_); (case m => (walk_at "mem"; done)); intro p H hp S)
  | with_reducible refine Rs.rd_isN ?_
  | with_reducible refine Rs.rd_notN ?_
  | ((with_reducible refine' Rs.gt_unl (by assumption) ?m ?e ?_); (case m => (walk_at "mem"; done)); (case e => rfl))
  | with_reducible refine Rs.gt_sub ?_
  | with_reducible refine Rs.gt_slc ?_
  | with_reducible refine Rs.rd_lc ?_)
local macro_rules | `(tactic| walk_at "cut") => `(tactic| repeat' (first | walk_at "rd1" | (refine Rs.rd_dec ?_ ?_ <;> intro hc)))
local macro_rules | `(tactic| walk_at "fvz") => `(tactic| exact Nat.le_of_ble_eq_true rfl)
local macro_rules | `(tactic| walk_at "fput") => `(tactic| rfl)
local macro_rules | `(tactic| walk_at "rd1") => `(tactic| with_reducible refine Rs.rd_nn ?_)
local macro_rules | `(tactic| walk_at "rd1") => `(tactic| first
  | ((with_reducible refine' Rs.rd_aug ?e ?_); (case e => rfl))
  | ((with_reducible refine Rs.rd_ipI ?_); dsimp only [List.set]))
local macro_rules | `(tactic| walk_at "lc") => `(tactic| (walk_at "rd"; dsimp only [L2.wipe, List.map, List.set]; refine ⟨rfl, ?_⟩; walk_at "rd"))
local macro_rules | `(tactic| walk_at "rd1") => `(tactic| first
  | ((with_reducible refine' Rs.rd_sumT (by assumption) ?m ?e ?_); (case m => (walk_at "mem"; done)); (case e => rfl))
  | with_reducible refine Rs.rd_cbk ?_
  | ((with_reducible refine' Rs.rd_sumK (by assumption) ?m ?e ?_); (case m => (walk_at "mem"; done)); (case e => rfl))
  | ((with_reducible refine' Rs.rd_maxDT (by assumption) ?m ?e ?_); (case m => (walk_at "mem"; done)); (case e => rfl))
  | with_reducible refine Rs.rd_slT3 ?_)
local macro_rules | `(tactic| walk_at "rd1") => `(tactic| with_reducible refine Rs.rd_yes ?_)
local macro_rules | `(tactic| walk_at "if0") => `(tactic| (first | (show if false = true then _ else _) | skip); walk_at "rd")
local macro_rules | `(tactic| walk_at "if1") => `(tactic| (first | (show if true = true then _ else _) | skip); walk_at "rd")
local macro_rules | `(tactic| walk_at "rd1") => `(tactic| first
  | ((with_reducible refine' Rs.rd_clear (by assumption) ?c ?o ?_); (case c => (walk_at "chg"; done)); (case o => walk_at "own"); intro H S))
local macro_rules | `(tactic| walk_at "led") => `(tactic| (intro a'; simp only [Rs.cn_app, Rs.cn_cons, Rs.cn_nil, List.append_assoc, List.cons_append, List.nil_append, List.reverse_nil, List.map_nil]; omega))
local macro_rules | `(tactic| walk_at "mem1") => `(tactic| (with_reducible first | exact List.mem_cons_self | assumption | (apply List.mem_cons_of_mem; walk_at "mem1") | (apply List.mem_append_right; walk_at "mem1") | (apply List.mem_append_left; walk_at "mem1")))
local macro_rules | `(tactic| walk_at "mem") => `(tactic| walk_at "mem1")
local macro_rules | `(tactic| walk_at "rd1") => `(tactic| first
  | with_reducible refine Rs.rd_enum ?_
  | with_reducible refine Rs.rd_methK ?_
  | ((with_reducible refine' Rs.rd_enI (by assumption) ?m ?_); (case m => (walk_at "mem"; done))))
local macro_rules | `(tactic| walk_at "chg1") => `(tactic| (with_reducible first | exact Rs.Chg.here | (apply Rs.Chg.there; walk_at "chg1") | (apply Rs.Chg.appR; walk_at "chg1") | (apply Rs.Chg.appL; walk_at "chg1")))
local macro_rules | `(tactic| walk_at "chg") => `(tactic| walk_at "chg1")
namespace K30
open PySem L2 Rs Xc Xd
def topS (i : Nat) : Stmt := PySem.Challenge.pw_runsort_k30_merges_that_fit.main.body.getD i (.Pass ⟨0, 0, 0, 0⟩)
abbrev s_BadPaper___init__ : Stmt := inClass (topS 3) 0
theorem sc_BadPaper___init__ : FnScope ["self", "at"] ["self", "at"] (defScope s_BadPaper___init__) := ⟨rfl, rfl, rfl, by decide +kernel, rfl, by decide +kernel, by decide +kernel⟩
abbrev s_Order___init__ : Stmt := inClass (topS 21) 0
theorem sc_Order___init__ : FnScope ["self", "rule"] ["self", "rule"] (defScope s_Order___init__) := ⟨rfl, rfl, rfl, by decide +kernel, rfl, by decide +kernel, by decide +kernel⟩
abbrev s_Order_counted : Stmt := inClass (topS 21) 1
theorem sc_Order_counted : FnScope ["self"] ["self"] (defScope s_Order_counted) := ⟨rfl, rfl, rfl, by decide +kernel, rfl, by decide +kernel, by decide +kernel⟩
abbrev s_Order_ahead : Stmt := inClass (topS 21) 2
theorem sc_Order_ahead : FnScope ["self", "one", "other", "answer"] ["self", "one", "other"] (defScope s_Order_ahead) := ⟨rfl, rfl, rfl, by decide +kernel, rfl, by decide +kernel, by decide +kernel⟩
abbrev s_is_whole : Stmt := topS 17
theorem sc_is_whole : FnScope ["thing", "least", "most"] ["thing", "least", "most"] (defScope s_is_whole) := ⟨rfl, rfl, rfl, by decide +kernel, rfl, by decide +kernel, by decide +kernel⟩
abbrev s_bits : Stmt := topS 18
theorem sc_bits : FnScope ["number"] ["number"] (defScope s_bits) := ⟨rfl, rfl, rfl, by decide +kernel, rfl, by decide +kernel, by decide +kernel⟩
abbrev s_need_row : Stmt := topS 19
theorem sc_need_row : FnScope ["thing"] ["thing"] (defScope s_need_row) := ⟨rfl, rfl, rfl, by decide +kernel, rfl, by decide +kernel, by decide +kernel⟩
abbrev s_need_order : Stmt := topS 22
theorem sc_need_order : FnScope ["thing"] ["thing"] (defScope s_need_order) := ⟨rfl, rfl, rfl, by decide +kernel, rfl, by decide +kernel, by decide +kernel⟩
abbrev s_need_gallop : Stmt := topS 26
theorem sc_need_gallop : FnScope ["gallop"] ["gallop"] (defScope s_need_gallop) := ⟨rfl, rfl, rfl, by decide +kernel, rfl, by decide +kernel, by decide +kernel⟩
abbrev s_is_kept : Stmt := topS 27
theorem sc_is_kept : FnScope ["thing", "first", "second"] ["thing", "first", "second"] (defScope s_is_kept) := ⟨rfl, rfl, rfl, by decide +kernel, rfl, by decide +kernel, by decide +kernel⟩
abbrev s_are_picks : Stmt := topS 28
theorem sc_are_picks : FnScope ["thing", "first", "second", "many"] ["thing", "first", "second"] (defScope s_are_picks) := ⟨rfl, rfl, rfl, by decide +kernel, rfl, by decide +kernel, by decide +kernel⟩
abbrev s_is_merge : Stmt := topS 29
theorem sc_is_merge : FnScope ["thing", "most", "start", "middle", "end", "kept", "picks"] ["thing", "most"] (defScope s_is_merge) := ⟨rfl, rfl, rfl, by decide +kernel, rfl, by decide +kernel, by decide +kernel⟩
abbrev s_need_merge : Stmt := topS 30
theorem sc_need_merge : FnScope ["thing", "most"] ["thing", "most"] (defScope s_need_merge) := ⟨rfl, rfl, rfl, by decide +kernel, rfl, by decide +kernel, by decide +kernel⟩
abbrev s_pick_bound : Stmt := topS 31
theorem sc_pick_bound : FnScope ["many", "gallop"] ["many", "gallop"] (defScope s_pick_bound) := ⟨rfl, rfl, rfl, by decide +kernel, rfl, by decide +kernel, by decide +kernel⟩
abbrev s_merge_bound : Stmt := topS 32
theorem sc_merge_bound : FnScope ["merge", "gallop", "kept", "picks", "many"] ["merge", "gallop"] (defScope s_merge_bound) := ⟨rfl, rfl, rfl, by decide +kernel, rfl, by decide +kernel, by decide +kernel⟩
abbrev s_next_gallop : Stmt := topS 33
theorem sc_next_gallop : FnScope ["merge", "gallop", "longest"] ["merge", "gallop"] (defScope s_next_gallop) := ⟨rfl, rfl, rfl, by decide +kernel, rfl, by decide +kernel, by decide +kernel⟩
abbrev s_moved_things : Stmt := topS 34
theorem sc_moved_things : FnScope ["row", "merge", "at", "other", "found", "number", "many"] ["row", "merge"] (defScope s_moved_things) := ⟨rfl, rfl, rfl, by decide +kernel, rfl, by decide +kernel, by decide +kernel⟩
abbrev s_move_merge : Stmt := topS 36
theorem sc_move_merge : FnScope ["row", "merge", "start", "middle", "end", "kept", "picks"] ["row", "merge"] (defScope s_move_merge) := ⟨rfl, rfl, rfl, by decide +kernel, rfl, by decide +kernel, by decide +kernel⟩
abbrev s_move_back : Stmt := topS 37
theorem sc_move_back : FnScope ["row", "merge", "start", "middle", "end", "kept", "picks", "first", "at", "sides", "number", "many"] ["row", "merge"] (defScope s_move_back) := ⟨rfl, rfl, rfl, by decide +kernel, rfl, by decide +kernel, by decide +kernel⟩
abbrev s_fits_there : Stmt := topS 39
theorem sc_fits_there : FnScope ["thing", "many", "places", "kept", "picks", "one", "place"] ["thing", "many"] (defScope s_fits_there) := ⟨rfl, rfl, rfl, by decide +kernel, rfl, by decide +kernel, by decide +kernel⟩
abbrev s_comes_out : Stmt := topS 40
theorem sc_comes_out : FnScope ["merge", "start", "middle", "end", "kept", "picks", "second", "first"] ["merge"] (defScope s_comes_out) := ⟨rfl, rfl, rfl, by decide +kernel, rfl, by decide +kernel, by decide +kernel⟩
abbrev s_front_stays : Stmt := topS 41
theorem sc_front_stays : FnScope ["row", "order", "start", "middle", "many", "thing"] ["row", "order", "start", "middle", "many"] (defScope s_front_stays) := ⟨rfl, rfl, rfl, by decide +kernel, rfl, by decide +kernel, by decide +kernel⟩
abbrev s_end_stays : Stmt := topS 42
theorem sc_end_stays : FnScope ["row", "order", "middle", "end", "many", "thing", "spot"] ["row", "order", "middle", "end", "many"] (defScope s_end_stays) := ⟨rfl, rfl, rfl, by decide +kernel, rfl, by decide +kernel, by decide +kernel⟩
abbrev s_second_is_so : Stmt := topS 43
theorem sc_second_is_so : FnScope ["row", "order", "at", "other", "stop", "many"] ["row", "order", "at", "other", "stop", "many"] (defScope s_second_is_so) := ⟨rfl, rfl, rfl, by decide +kernel, rfl, by decide +kernel, by decide +kernel⟩
abbrev s_first_is_so : Stmt := topS 44
theorem sc_first_is_so : FnScope ["row", "order", "at", "other", "stop", "many"] ["row", "order", "at", "other", "stop", "many"] (defScope s_first_is_so) := ⟨rfl, rfl, rfl, by decide +kernel, rfl, by decide +kernel, by decide +kernel⟩
abbrev s_check_merge : Stmt := topS 45
theorem sc_check_merge : FnScope ["row", "order", "merge", "start", "middle", "end", "front", "back", "picks", "at", "other", "stop", "number", "many", "is_second", "is_so"] ["row", "order", "merge"] (defScope s_check_merge) := ⟨rfl, rfl, rfl, by decide +kernel, rfl, by decide +kernel, by decide +kernel⟩
abbrev s_l_begun : Stmt := topS 47
theorem sc_l_begun : FnScope ["_law_script", "_law_turn", "_law_folded", "_law_cell", "_law_own"] ["_law_script", "_law_turn"] (defScope s_l_begun) := ⟨rfl, rfl, rfl, by decide +kernel, rfl, by decide +kernel, by decide +kernel⟩
abbrev s_l_draw : Stmt := topS 48
theorem sc_l_draw : FnScope ["_law_state", "_law_many", "_law_found", "_law_at", "_law_prime", "_law_mixed"] ["_law_state", "_law_many"] (defScope s_l_draw) := ⟨rfl, rfl, rfl, by decide +kernel, rfl, by decide +kernel, by decide +kernel⟩
abbrev s_l_is_whole : Stmt := topS 49
theorem sc_l_is_whole : FnScope ["_law_thing", "_law_least", "_law_most"] ["_law_thing", "_law_least", "_law_most"] (defScope s_l_is_whole) := ⟨rfl, rfl, rfl, by decide +kernel, rfl, by decide +kernel, by decide +kernel⟩
abbrev s_l_fits : Stmt := topS 50
theorem sc_l_fits : FnScope ["_law_thing", "_law_many", "_law_begin", "_law_midst", "_law_stop", "_law_kept", "_law_picks", "_law_place", "_law_one"] ["_law_thing", "_law_many"] (defScope s_l_fits) := ⟨rfl, rfl, rfl, by decide +kernel, rfl, by decide +kernel, by decide +kernel⟩
abbrev s_l_merge : Stmt := topS 51
theorem sc_l_merge : FnScope ["_law_state", "_law_picks", "_law_kept", "_law_k", "_law_high", "_law_begin", "_law_midst"] ["_law_state"] (defScope s_l_merge) := ⟨rfl, rfl, rfl, by decide +kernel, rfl, by decide +kernel, by decide +kernel⟩
abbrev s_l_put : Stmt := topS 52
theorem sc_l_put : FnScope ["_law_some", "_law_at", "_law_thing"] ["_law_some", "_law_at", "_law_thing"] (defScope s_l_put) := ⟨rfl, rfl, rfl, by decide +kernel, rfl, by decide +kernel, by decide +kernel⟩
abbrev s_l_odd_list : Stmt := topS 53
theorem sc_l_odd_list : FnScope ["_law_state", "_law_some", "_law_odd", "_law_more"] ["_law_state", "_law_some", "_law_odd"] (defScope s_l_odd_list) := ⟨rfl, rfl, rfl, by decide +kernel, rfl, by decide +kernel, by decide +kernel⟩
abbrev s_l_spoilt : Stmt := topS 54
theorem sc_l_spoilt : FnScope ["_law_state", "_law_paper", "_law_way", "_law_at", "_law_by", "_law_odd", "_law_begin", "_law_midst", "_law_stop", "_law_kept", "_law_picks", "_law_side", "_law_more", "_law_other", "_law_place"] ["_law_state", "_law_paper"] (defScope s_l_spoilt) := ⟨rfl, rfl, rfl, by decide +kernel, rfl, by decide +kernel, by decide +kernel⟩
abbrev s_l_word : Stmt := topS 55
theorem sc_l_word : FnScope ["_law_e", "_law_some", "_law_words", "_law_word_here", "_law_fits_here"] ["_law_e"] (defScope s_l_word) := ⟨rfl, rfl, rfl, by decide +kernel, rfl, by decide +kernel, by decide +kernel⟩
abbrev s_l_said : Stmt := topS 56
theorem sc_l_said : FnScope ["_law_deed", "_law_found", "_law_caught", "_law_e"] ["_law_deed"] (defScope s_l_said) := ⟨rfl, rfl, rfl, by decide +kernel, rfl, by decide +kernel, by decide +kernel⟩
abbrev s_l_moved : Stmt := topS 57
theorem sc_l_moved : FnScope ["_law_things", "_law_paper", "_law_begin", "_law_midst", "_law_stop", "_law_kept", "_law_picks", "_law_at", "_law_found", "_law_k", "_law_many", "_law_side"] ["_law_things", "_law_paper"] (defScope s_l_moved) := ⟨rfl, rfl, rfl, by decide +kernel, rfl, by decide +kernel, by decide +kernel⟩
abbrev s_l_refused_right : Stmt := topS 58
theorem sc_l_refused_right : FnScope ["_law_things", "_law_thing", "_law_kept", "_law_shown", "_law_said_here", "_law_noted", "_law_rule"] ["_law_things", "_law_thing"] (defScope s_l_refused_right) := ⟨rfl, rfl, rfl, by decide +kernel, rfl, by decide +kernel, by decide +kernel⟩
abbrev s_l_moves_right : Stmt := topS 59
theorem sc_l_moves_right : FnScope ["_law_things", "_law_thing", "_law_due", "_law_kept", "_law_rule"] ["_law_things", "_law_thing"] (defScope s_l_moves_right) := ⟨rfl, rfl, rfl, by decide +kernel, rfl, by decide +kernel, by decide +kernel⟩
abbrev s_l_anywhere_right : Stmt := topS 60
theorem sc_l_anywhere_right : FnScope ["_law_thing", "_law_said_here", "_law_found"] ["_law_thing"] (defScope s_l_anywhere_right) := ⟨rfl, rfl, rfl, by decide +kernel, rfl, by decide +kernel, by decide +kernel⟩
abbrev s_l_right : Stmt := topS 61
theorem sc_l_right : FnScope ["_law_things", "_law_thing"] ["_law_things", "_law_thing"] (defScope s_l_right) := ⟨rfl, rfl, rfl, by decide +kernel, rfl, by decide +kernel, by decide +kernel⟩
abbrev s_law : Stmt := topS 62
theorem sc_law : FnScope ["_law_script", "_law_turn", "_law_state", "_law_paper", "_law_things", "_law_again", "_law_some", "_law_k"] ["_law_script"] (defScope s_law) := ⟨rfl, rfl, rfl, by decide +kernel, rfl, by decide +kernel, by decide +kernel⟩
structure Ad where
  (C_SortError C_BadPaper f_BadPaper___init__ C_BadNumber C_BadAnswer C_BadKind C_BadLine C_BadText C_Busy C_Flawed C_Gone C_NoSuch C_Stopped C_TooMany C_Order f_Order___init__ f_Order_counted f_Order_ahead f_is_whole f_bits f_need_row f_need_order f_need_gallop f_is_kept f_are_picks f_is_merge f_need_merge f_pick_bound f_merge_bound f_next_gallop f_moved_things f_move_merge f_move_back f_fits_there f_comes_out f_front_stays f_end_stays f_second_is_so f_first_is_so f_check_merge f__law_begun f__law_draw f__law_is_whole f__law_fits f__law_merge f__law_put f__law_odd_list f__law_spoilt f__law_word f__law_said f__law_moved f__law_refused_right cc__law_refused_right f__law_moves_right cc__law_moves_right f__law_anywhere_right cc__law_anywhere_right f__law_right f_law : Addr)
  (d_BadPaper___init__ d_Order___init__ d_Order_counted d_Order_ahead d_is_whole d_bits d_need_row d_need_order d_need_gallop d_is_kept d_are_picks d_is_merge d_need_merge d_pick_bound d_merge_bound d_next_gallop d_moved_things d_move_merge d_move_back d_fits_there d_comes_out d_front_stays d_end_stays d_second_is_so d_first_is_so d_check_merge d__law_begun d__law_draw d__law_is_whole d__law_fits d__law_merge d__law_put d__law_odd_list d__law_spoilt d__law_word d__law_said d__law_moved d__law_refused_right d__law_moves_right d__law_anywhere_right d__law_right d_law : FuncData)
structure Txt (K : PySem.W.Frag) (mg : Str → Option Value) (w : World) (A : Ad) : Prop where
  m_SortError : mg "SortError" = some (.ref A.C_SortError)
  q_SortError : PySem.W.excIn K A.C_SortError [.type "Exception", .type "BaseException", .type "object"] "Exception.__new__" = true
  p_SortError : PySem.W.keepIn K (.ref A.C_SortError) = true
  k_SortError : Xc.Lk K A.C_SortError
  r_SortError : ClX.CRead K A.C_SortError (.type "type")
  m_BadPaper : mg "BadPaper" = some (.ref A.C_BadPaper)
  o_BadPaper : Xc.Own K A.C_BadPaper "Exception" "Exception.__new__" "Exception.__init__" [.type "Exception", .type "BaseException", .type "object"]
  k_BadPaper : Xc.Lk K A.C_BadPaper
  t_BadPaper_at : PySem.W.takerIn K A.C_BadPaper "at" = some none
  na_BadPaper_at : PySem.W.findIn K (.ref A.C_BadPaper) "at" = some none
  i_BadPaper : PySem.W.findIn K (.ref A.C_BadPaper) "__init__" = some (some (.ref A.f_BadPaper___init__))
  y_BadPaper : PySem.W.typeIn K (.ref A.f_BadPaper___init__) = some (.type "function")
  c_BadPaper___init__ : CalM K "__init__" "BadPaper.__init__" s_BadPaper___init__ ["self", "at"] A.f_BadPaper___init__ A.d_BadPaper___init__
  v_BadPaper : PySem.W.findCls K (.ref A.C_SortError) (.type "type") "__init__" = some (.val (.builtin "Exception.__init__"))
  m_BadNumber : mg "BadNumber" = some (.ref A.C_BadNumber)
  m_BadAnswer : mg "BadAnswer" = some (.ref A.C_BadAnswer)
  m_BadKind : mg "BadKind" = some (.ref A.C_BadKind)
  m_BadLine : mg "BadLine" = some (.ref A.C_BadLine)
  m_BadText : mg "BadText" = some (.ref A.C_BadText)
  m_Busy : mg "Busy" = some (.ref A.C_Busy)
  m_Flawed : mg "Flawed" = some (.ref A.C_Flawed)
  m_Gone : mg "Gone" = some (.ref A.C_Gone)
  m_NoSuch : mg "NoSuch" = some (.ref A.C_NoSuch)
  m_Stopped : mg "Stopped" = some (.ref A.C_Stopped)
  m_TooMany : mg "TooMany" = some (.ref A.C_TooMany)
  m_Order : mg "Order" = some (.ref A.C_Order)
  cl_Order : Cls K A.C_Order
  na_Order_own_rule : NoAttr K A.C_Order "own_rule"
  na_Order_times_asked : NoAttr K A.C_Order "times_asked"
  i_Order : Mk K A.C_Order A.f_Order___init__
  c_Order___init__ : CalM K "__init__" "Order.__init__" s_Order___init__ ["self", "rule"] A.f_Order___init__ A.d_Order___init__
  h_Order_counted : Meth K A.C_Order "counted" A.f_Order_counted
  c_Order_counted : CalM K "counted" "Order.counted" s_Order_counted ["self"] A.f_Order_counted A.d_Order_counted
  h_Order_ahead : Meth K A.C_Order "ahead" A.f_Order_ahead
  c_Order_ahead : CalM K "ahead" "Order.ahead" s_Order_ahead ["self", "one", "other"] A.f_Order_ahead A.d_Order_ahead
  c_is_whole : CalD K mg "is_whole" s_is_whole [("least", .int 0),("most", .int 4096)] A.f_is_whole A.d_is_whole
  c_bits : Cal K mg "bits" s_bits ["number"] A.f_bits A.d_bits
  c_need_row : Cal K mg "need_row" s_need_row ["thing"] A.f_need_row A.d_need_row
  c_need_order : Cal K mg "need_order" s_need_order ["thing"] A.f_need_order A.d_need_order
  c_need_gallop : Cal K mg "need_gallop" s_need_gallop ["gallop"] A.f_need_gallop A.d_need_gallop
  c_is_kept : Cal K mg "is_kept" s_is_kept ["thing", "first", "second"] A.f_is_kept A.d_is_kept
  c_are_picks : Cal K mg "are_picks" s_are_picks ["thing", "first", "second"] A.f_are_picks A.d_are_picks
  c_is_merge : CalD K mg "is_merge" s_is_merge [("most", .int 4096)] A.f_is_merge A.d_is_merge
  c_need_merge : CalD K mg "need_merge" s_need_merge [("most", .int 4096)] A.f_need_merge A.d_need_merge
  c_pick_bound : Cal K mg "pick_bound" s_pick_bound ["many", "gallop"] A.f_pick_bound A.d_pick_bound
  c_merge_bound : CalD K mg "merge_bound" s_merge_bound [("gallop", .int 3)] A.f_merge_bound A.d_merge_bound
  c_next_gallop : CalD K mg "next_gallop" s_next_gallop [("gallop", .int 3)] A.f_next_gallop A.d_next_gallop
  c_moved_things : Cal K mg "moved_things" s_moved_things ["row", "merge"] A.f_moved_things A.d_moved_things
  c_move_merge : Cal K mg "move_merge" s_move_merge ["row", "merge"] A.f_move_merge A.d_move_merge
  c_move_back : Cal K mg "move_back" s_move_back ["row", "merge"] A.f_move_back A.d_move_back
  c_fits_there : Cal K mg "fits_there" s_fits_there ["thing", "many"] A.f_fits_there A.d_fits_there
  c_comes_out : Cal K mg "comes_out" s_comes_out ["merge"] A.f_comes_out A.d_comes_out
  c_front_stays : Cal K mg "front_stays" s_front_stays ["row", "order", "start", "middle", "many"] A.f_front_stays A.d_front_stays
  c_end_stays : Cal K mg "end_stays" s_end_stays ["row", "order", "middle", "end", "many"] A.f_end_stays A.d_end_stays
  c_second_is_so : Cal K mg "second_is_so" s_second_is_so ["row", "order", "at", "other", "stop", "many"] A.f_second_is_so A.d_second_is_so
  c_first_is_so : Cal K mg "first_is_so" s_first_is_so ["row", "order", "at", "other", "stop", "many"] A.f_first_is_so A.d_first_is_so
  c_check_merge : Cal K mg "check_merge" s_check_merge ["row", "order", "merge"] A.f_check_merge A.d_check_merge
  c__law_begun : Cal K mg "_law_begun" s_l_begun ["_law_script", "_law_turn"] A.f__law_begun A.d__law_begun
  c__law_draw : Cal K mg "_law_draw" s_l_draw ["_law_state", "_law_many"] A.f__law_draw A.d__law_draw
  c__law_is_whole : Cal K mg "_law_is_whole" s_l_is_whole ["_law_thing", "_law_least", "_law_most"] A.f__law_is_whole A.d__law_is_whole
  c__law_fits : Cal K mg "_law_fits" s_l_fits ["_law_thing", "_law_many"] A.f__law_fits A.d__law_fits
  c__law_merge : Cal K mg "_law_merge" s_l_merge ["_law_state"] A.f__law_merge A.d__law_merge
  c__law_put : Cal K mg "_law_put" s_l_put ["_law_some", "_law_at", "_law_thing"] A.f__law_put A.d__law_put
  c__law_odd_list : Cal K mg "_law_odd_list" s_l_odd_list ["_law_state", "_law_some", "_law_odd"] A.f__law_odd_list A.d__law_odd_list
  c__law_spoilt : Cal K mg "_law_spoilt" s_l_spoilt ["_law_state", "_law_paper"] A.f__law_spoilt A.d__law_spoilt
  c__law_word : Cal K mg "_law_word" s_l_word ["_law_e"] A.f__law_word A.d__law_word
  c__law_said : Cal K mg "_law_said" s_l_said ["_law_deed"] A.f__law_said A.d__law_said
  c__law_moved : Cal K mg "_law_moved" s_l_moved ["_law_things", "_law_paper"] A.f__law_moved A.d__law_moved
  cx__law_refused_right : Xc.FunC K "_law_refused_right" "_law_refused_right" s_l_refused_right A.f__law_refused_right A.d__law_refused_right A.cc__law_refused_right
  nt__law_refused_right : K.lookup 523 = none
  ht__law_refused_right : PySem.W.codeHdIn K A.cc__law_refused_right 523 = true
  c__law_refused_right : Cal K mg "_law_refused_right" s_l_refused_right ["_law_things", "_law_thing"] A.f__law_refused_right A.d__law_refused_right
  cx__law_moves_right : Xc.FunC K "_law_moves_right" "_law_moves_right" s_l_moves_right A.f__law_moves_right A.d__law_moves_right A.cc__law_moves_right
  nt__law_moves_right : K.lookup 530 = none
  ht__law_moves_right : PySem.W.codeHdIn K A.cc__law_moves_right 530 = true
  c__law_moves_right : Cal K mg "_law_moves_right" s_l_moves_right ["_law_things", "_law_thing"] A.f__law_moves_right A.d__law_moves_right
  cx__law_anywhere_right : Xc.FunC K "_law_anywhere_right" "_law_anywhere_right" s_l_anywhere_right A.f__law_anywhere_right A.d__law_anywhere_right A.cc__law_anywhere_right
  nt__law_anywhere_right : K.lookup 537 = none
  ht__law_anywhere_right : PySem.W.codeHdIn K A.cc__law_anywhere_right 537 = true
  c__law_anywhere_right : Cal K mg "_law_anywhere_right" s_l_anywhere_right ["_law_thing"] A.f__law_anywhere_right A.d__law_anywhere_right
  c__law_right : Cal K mg "_law_right" s_l_right ["_law_things", "_law_thing"] A.f__law_right A.d__law_right
  c_law : Cal K mg "law" s_law ["_law_script"] A.f_law A.d_law
  g_MOST_THINGS : ∃ u, mg "MOST_THINGS" = some u ∧ RelV (.int 4096) u
  g_GALLOP : ∃ u, mg "GALLOP" = some u ∧ RelV (.int 3) u
  g_MOST_GALLOP : ∃ u, mg "MOST_GALLOP" = some u ∧ RelV (.int 64) u
  x_stat : PySem.W.nsIn K cStatics "sys.int_max_str_digits" = some none
  x_any : PySem.W.exmAny K (.ref A.C_BadPaper) [.ref A.C_SortError, .ref A.C_BadNumber, .ref A.C_BadAnswer, .ref A.C_BadKind, .ref A.C_BadText, .ref A.C_NoSuch, .ref A.C_Stopped, .ref A.C_TooMany] = some true
  x_kit : ([.ref A.C_BadPaper, .ref A.C_BadNumber, .ref A.C_BadAnswer, .ref A.C_BadKind, .ref A.C_BadLine, .ref A.C_BadText, .ref A.C_Busy, .ref A.C_Flawed, .ref A.C_Gone, .ref A.C_NoSuch, .ref A.C_Stopped, .ref A.C_TooMany, .ref A.C_SortError] : List Value).map (fun c => PySem.W.kitOne K (.ref A.C_BadPaper) c) = [some true, some false, some false, some false, some false, some false, some false, some false, some false, some false, some false, some false, some true]
  x_i_Order : PySem.W.kitOne K (.ref A.C_Order) (.ref A.C_Order) = some true
  x_oha : PySem.W.findIn K (.ref A.C_Order) "__class__" = some (some (.builtin "object.__class__"))
  x_ohn : PySem.W.specialIn K (.builtin "object.__class__") "__get__" = some (some (.builtin "getset_descriptor.__get__"))
  x_oht : PySem.W.takesIn K (.builtin "object.__class__") = some true
  x_ohm : PySem.W.mroIn K A.C_Order (.type "object") = some true
  n_len : mg "len" = none
  n_min : mg "min" = none
  n_max : mg "max" = none
  n_range : mg "range" = none
  n_repr : mg "repr" = none
  n_isinstance : mg "isinstance" = none
  n_int : mg "int" = none
  n_bool : mg "bool" = none
  n_tuple : mg "tuple" = none
  n_list : mg "list" = none
  n_enumerate : mg "enumerate" = none
  n_sum : mg "sum" = none
  n_all : mg "all" = none
set_option maxHeartbeats 0 in
theorem all_mk {K : PySem.W.Frag} {mg : Str → Option Value} {w : World} {h : Heap} {C_SortError : Addr} {C_BadPaper : Addr} {f_BadPaper___init__ : Addr} {oc_BadPaper___init__ doc_BadPaper___init__ pm_BadPaper___init__ cd_BadPaper___init__ ct_BadPaper___init__ kV_BadPaper___init__ : Value} {od_BadPaper___init__ an_BadPaper___init__ : Option Addr} {osl_BadPaper___init__ : Array (Option Value)} {C_BadNumber : Addr} {C_BadAnswer : Addr} {C_BadKind : Addr} {C_BadLine : Addr} {C_BadText : Addr} {C_Busy : Addr} {C_Flawed : Addr} {C_Gone : Addr} {C_NoSuch : Addr} {C_Stopped : Addr} {C_TooMany : Addr} {C_Order : Addr} {f_Order___init__ : Addr} {oc_Order___init__ doc_Order___init__ pm_Order___init__ cd_Order___init__ ct_Order___init__ kV_Order___init__ : Value} {od_Order___init__ an_Order___init__ : Option Addr} {osl_Order___init__ : Array (Option Value)} {f_Order_counted : Addr} {oc_Order_counted doc_Order_counted pm_Order_counted cd_Order_counted ct_Order_counted kV_Order_counted : Value} {od_Order_counted an_Order_counted : Option Addr} {osl_Order_counted : Array (Option Value)} {f_Order_ahead : Addr} {oc_Order_ahead doc_Order_ahead pm_Order_ahead cd_Order_ahead ct_Order_ahead kV_Order_ahead : Value} {od_Order_ahead an_Order_ahead : Option Addr} {osl_Order_ahead : Array (Option Value)} {f_is_whole : Addr} {D_is_whole : Addr} {oc_is_whole doc_is_whole pm_is_whole cd_is_whole ct_is_whole : Value} {od_is_whole an_is_whole : Option Addr} {osl_is_whole : Array (Option Value)} {f_bits : Addr} {oc_bits doc_bits pm_bits cd_bits ct_bits kV_bits : Value} {od_bits an_bits : Option Addr} {osl_bits : Array (Option Value)} {f_need_row : Addr} {oc_need_row doc_need_row pm_need_row cd_need_row ct_need_row kV_need_row : Value} {od_need_row an_need_row : Option Addr} {osl_need_row : Array (Option Value)} {f_need_order : Addr} {oc_need_order doc_need_order pm_need_order cd_need_order ct_need_order kV_need_order : Value} {od_need_order an_need_order : Option Addr} {osl_need_order : Array (Option Value)} {f_need_gallop : Addr} {oc_need_gallop doc_need_gallop pm_need_gallop cd_need_gallop ct_need_gallop kV_need_gallop : Value} {od_need_gallop an_need_gallop : Option Addr} {osl_need_gallop : Array (Option Value)} {f_is_kept : Addr} {oc_is_kept doc_is_kept pm_is_kept cd_is_kept ct_is_kept kV_is_kept : Value} {od_is_kept an_is_kept : Option Addr} {osl_is_kept : Array (Option Value)} {f_are_picks : Addr} {oc_are_picks doc_are_picks pm_are_picks cd_are_picks ct_are_picks kV_are_picks : Value} {od_are_picks an_are_picks : Option Addr} {osl_are_picks : Array (Option Value)} {f_is_merge : Addr} {D_is_merge : Addr} {oc_is_merge doc_is_merge pm_is_merge cd_is_merge ct_is_merge : Value} {od_is_merge an_is_merge : Option Addr} {osl_is_merge : Array (Option Value)} {f_need_merge : Addr} {D_need_merge : Addr} {oc_need_merge doc_need_merge pm_need_merge cd_need_merge ct_need_merge : Value} {od_need_merge an_need_merge : Option Addr} {osl_need_merge : Array (Option Value)} {f_pick_bound : Addr} {oc_pick_bound doc_pick_bound pm_pick_bound cd_pick_bound ct_pick_bound kV_pick_bound : Value} {od_pick_bound an_pick_bound : Option Addr} {osl_pick_bound : Array (Option Value)} {f_merge_bound : Addr} {D_merge_bound : Addr} {oc_merge_bound doc_merge_bound pm_merge_bound cd_merge_bound ct_merge_bound : Value} {od_merge_bound an_merge_bound : Option Addr} {osl_merge_bound : Array (Option Value)} {f_next_gallop : Addr} {D_next_gallop : Addr} {oc_next_gallop doc_next_gallop pm_next_gallop cd_next_gallop ct_next_gallop : Value} {od_next_gallop an_next_gallop : Option Addr} {osl_next_gallop : Array (Option Value)} {f_moved_things : Addr} {oc_moved_things doc_moved_things pm_moved_things cd_moved_things ct_moved_things kV_moved_things : Value} {od_moved_things an_moved_things : Option Addr} {osl_moved_things : Array (Option Value)} {f_move_merge : Addr} {oc_move_merge doc_move_merge pm_move_merge cd_move_merge ct_move_merge kV_move_merge : Value} {od_move_merge an_move_merge : Option Addr} {osl_move_merge : Array (Option Value)} {f_move_back : Addr} {oc_move_back doc_move_back pm_move_back cd_move_back ct_move_back kV_move_back : Value} {od_move_back an_move_back : Option Addr} {osl_move_back : Array (Option Value)} {f_fits_there : Addr} {oc_fits_there doc_fits_there pm_fits_there cd_fits_there ct_fits_there kV_fits_there : Value} {od_fits_there an_fits_there : Option Addr} {osl_fits_there : Array (Option Value)} {f_comes_out : Addr} {oc_comes_out doc_comes_out pm_comes_out cd_comes_out ct_comes_out kV_comes_out : Value} {od_comes_out an_comes_out : Option Addr} {osl_comes_out : Array (Option Value)} {f_front_stays : Addr} {oc_front_stays doc_front_stays pm_front_stays cd_front_stays ct_front_stays kV_front_stays : Value} {od_front_stays an_front_stays : Option Addr} {osl_front_stays : Array (Option Value)} {f_end_stays : Addr} {oc_end_stays doc_end_stays pm_end_stays cd_end_stays ct_end_stays kV_end_stays : Value} {od_end_stays an_end_stays : Option Addr} {osl_end_stays : Array (Option Value)} {f_second_is_so : Addr} {oc_second_is_so doc_second_is_so pm_second_is_so cd_second_is_so ct_second_is_so kV_second_is_so : Value} {od_second_is_so an_second_is_so : Option Addr} {osl_second_is_so : Array (Option Value)} {f_first_is_so : Addr} {oc_first_is_so doc_first_is_so pm_first_is_so cd_first_is_so ct_first_is_so kV_first_is_so : Value} {od_first_is_so an_first_is_so : Option Addr} {osl_first_is_so : Array (Option Value)} {f_check_merge : Addr} {oc_check_merge doc_check_merge pm_check_merge cd_check_merge ct_check_merge kV_check_merge : Value} {od_check_merge an_check_merge : Option Addr} {osl_check_merge : Array (Option Value)} {f__law_begun : Addr} {oc__law_begun doc__law_begun pm__law_begun cd__law_begun ct__law_begun kV__law_begun : Value} {od__law_begun an__law_begun : Option Addr} {osl__law_begun : Array (Option Value)} {f__law_draw : Addr} {oc__law_draw doc__law_draw pm__law_draw cd__law_draw ct__law_draw kV__law_draw : Value} {od__law_draw an__law_draw : Option Addr} {osl__law_draw : Array (Option Value)} {f__law_is_whole : Addr} {oc__law_is_whole doc__law_is_whole pm__law_is_whole cd__law_is_whole ct__law_is_whole kV__law_is_whole : Value} {od__law_is_whole an__law_is_whole : Option Addr} {osl__law_is_whole : Array (Option Value)} {f__law_fits : Addr} {oc__law_fits doc__law_fits pm__law_fits cd__law_fits ct__law_fits kV__law_fits : Value} {od__law_fits an__law_fits : Option Addr} {osl__law_fits : Array (Option Value)} {f__law_merge : Addr} {oc__law_merge doc__law_merge pm__law_merge cd__law_merge ct__law_merge kV__law_merge : Value} {od__law_merge an__law_merge : Option Addr} {osl__law_merge : Array (Option Value)} {f__law_put : Addr} {oc__law_put doc__law_put pm__law_put cd__law_put ct__law_put kV__law_put : Value} {od__law_put an__law_put : Option Addr} {osl__law_put : Array (Option Value)} {f__law_odd_list : Addr} {oc__law_odd_list doc__law_odd_list pm__law_odd_list cd__law_odd_list ct__law_odd_list kV__law_odd_list : Value} {od__law_odd_list an__law_odd_list : Option Addr} {osl__law_odd_list : Array (Option Value)} {f__law_spoilt : Addr} {oc__law_spoilt doc__law_spoilt pm__law_spoilt cd__law_spoilt ct__law_spoilt kV__law_spoilt : Value} {od__law_spoilt an__law_spoilt : Option Addr} {osl__law_spoilt : Array (Option Value)} {f__law_word : Addr} {oc__law_word doc__law_word pm__law_word cd__law_word ct__law_word kV__law_word : Value} {od__law_word an__law_word : Option Addr} {osl__law_word : Array (Option Value)} {f__law_said : Addr} {oc__law_said doc__law_said pm__law_said cd__law_said ct__law_said kV__law_said : Value} {od__law_said an__law_said : Option Addr} {osl__law_said : Array (Option Value)} {f__law_moved : Addr} {oc__law_moved doc__law_moved pm__law_moved cd__law_moved ct__law_moved kV__law_moved : Value} {od__law_moved an__law_moved : Option Addr} {osl__law_moved : Array (Option Value)} {f__law_refused_right : Addr} {oc__law_refused_right doc__law_refused_right pm__law_refused_right  ct__law_refused_right kV__law_refused_right : Value} {od__law_refused_right an__law_refused_right : Option Addr} {osl__law_refused_right : Array (Option Value)} {cc__law_refused_right : Addr} {f__law_moves_right : Addr} {oc__law_moves_right doc__law_moves_right pm__law_moves_right  ct__law_moves_right kV__law_moves_right : Value} {od__law_moves_right an__law_moves_right : Option Addr} {osl__law_moves_right : Array (Option Value)} {cc__law_moves_right : Addr} {f__law_anywhere_right : Addr} {oc__law_anywhere_right doc__law_anywhere_right pm__law_anywhere_right  ct__law_anywhere_right kV__law_anywhere_right : Value} {od__law_anywhere_right an__law_anywhere_right : Option Addr} {osl__law_anywhere_right : Array (Option Value)} {cc__law_anywhere_right : Addr} {f__law_right : Addr} {oc__law_right doc__law_right pm__law_right cd__law_right ct__law_right kV__law_right : Value} {od__law_right an__law_right : Option Addr} {osl__law_right : Array (Option Value)} {f_law : Addr} {oc_law doc_law pm_law cd_law ct_law kV_law : Value} {od_law an_law : Option Addr} {osl_law : Array (Option Value)} {u_MOST_THINGS : Value} {u_GALLOP : Value} {u_MOST_GALLOP : Value} (X : K.In h) (G : h.Ns mainGlobals mg)
    (a_SortError : PySem.W.nsIn K mainGlobals "SortError" = some (some (.ref C_SortError)))
    (ini_SortError : PySem.W.excIn K C_SortError [.type "Exception", .type "BaseException", .type "object"] "Exception.__new__" = true)
    (dic_SortError : PySem.W.hasDictIn K C_SortError = true)
    (bex_SortError : PySem.W.subIn K (.ref C_SortError) (.type "BaseException") = some true)
    (kpc_SortError : PySem.W.keepIn K (.ref C_SortError) = true)
    (xcl_SortError : (PySem.W.clsIn K C_SortError).isSome = true)
    (xga_SortError : PySem.W.findIn K (.ref C_SortError) "__getattribute__" = some (some (.builtin "BaseException.__getattribute__")))
    (xgg_SortError : PySem.W.findIn K (.ref C_SortError) "__getattr__" = some none)
    (xha_SortError : PySem.W.findIn K (.ref C_SortError) "__class__" = some (some (.builtin "object.__class__")))
    (xhn_SortError : PySem.W.specialIn K (.builtin "object.__class__") "__get__" = some (some (.builtin "getset_descriptor.__get__")))
    (xht_SortError : PySem.W.takesIn K (.builtin "object.__class__") = some true)
    (xhm_SortError : PySem.W.mroIn K C_SortError (.type "object") = some true)
    (rd_SortError : PySem.W.readsIn K C_SortError (.type "type") = true)
    (rg_SortError : PySem.W.specialIn K (.ref C_SortError) "__getattribute__" = some (some (.builtin "type.__getattribute__")))
    (a_BadPaper : PySem.W.nsIn K mainGlobals "BadPaper" = some (some (.ref C_BadPaper)))
    (ini_BadPaper : PySem.W.excInitIn K C_BadPaper [.type "Exception", .type "BaseException", .type "object"] "Exception.__new__" = true)
    (ovr_BadPaper : PySem.W.excOver K C_BadPaper [.type "Exception", .type "BaseException", .type "object"] = true)
    (dic_BadPaper : PySem.W.hasDictIn K C_BadPaper = true)
    (sav_BadPaper : PySem.W.findIn K (.ref C_BadPaper) "__setattr__" = some (some (.builtin "object.__setattr__")))
    (bex_BadPaper : PySem.W.subIn K (.ref C_BadPaper) (.type "BaseException") = some true)
    (tyc_BadPaper : PySem.W.typeIn K (.ref C_BadPaper) = some (.type "type"))
    (kpc_BadPaper : PySem.W.keepIn K (.ref C_BadPaper) = true)
    (xcl_BadPaper : (PySem.W.clsIn K C_BadPaper).isSome = true)
    (xga_BadPaper : PySem.W.findIn K (.ref C_BadPaper) "__getattribute__" = some (some (.builtin "BaseException.__getattribute__")))
    (xgg_BadPaper : PySem.W.findIn K (.ref C_BadPaper) "__getattr__" = some none)
    (xha_BadPaper : PySem.W.findIn K (.ref C_BadPaper) "__class__" = some (some (.builtin "object.__class__")))
    (xhn_BadPaper : PySem.W.specialIn K (.builtin "object.__class__") "__get__" = some (some (.builtin "getset_descriptor.__get__")))
    (xht_BadPaper : PySem.W.takesIn K (.builtin "object.__class__") = some true)
    (xhm_BadPaper : PySem.W.mroIn K C_BadPaper (.type "object") = some true)
    (tk_BadPaper_at : PySem.W.takerIn K C_BadPaper "at" = some none)
    (na_BadPaper_at : PySem.W.findIn K (.ref C_BadPaper) "at" = some none)
    (a_BadPaper___init__ : PySem.W.findIn K (.ref C_BadPaper) "__init__" = some (some (.ref f_BadPaper___init__)))
    (y_BadPaper___init__ : PySem.W.typeIn K (.ref f_BadPaper___init__) = some (.type "function"))
    (l_BadPaper___init__ : K.lookup f_BadPaper___init__ = some ⟨oc_BadPaper___init__, od_BadPaper___init__, .func (PySem.W.fnOf "__init__" "BadPaper.__init__" (defArgs s_BadPaper___init__) (defBody s_BadPaper___init__) (defScope s_BadPaper___init__) .none kV_BadPaper___init__ doc_BadPaper___init__ pm_BadPaper___init__ an_BadPaper___init__ cd_BadPaper___init__ ct_BadPaper___init__), osl_BadPaper___init__⟩)
    (e_BadPaper___init__ : PySem.W.codeIn K cd_BadPaper___init__ "BadPaper.__init__" = true)
    (k_BadPaper___init__ : PySem.W.keepIn K (.ref f_BadPaper___init__) = true)
    (v_BadPaper : PySem.W.findCls K (.ref C_SortError) (.type "type") "__init__" = some (.val (.builtin "Exception.__init__")))
    (a_BadNumber : PySem.W.nsIn K mainGlobals "BadNumber" = some (some (.ref C_BadNumber)))
    (a_BadAnswer : PySem.W.nsIn K mainGlobals "BadAnswer" = some (some (.ref C_BadAnswer)))
    (a_BadKind : PySem.W.nsIn K mainGlobals "BadKind" = some (some (.ref C_BadKind)))
    (a_BadLine : PySem.W.nsIn K mainGlobals "BadLine" = some (some (.ref C_BadLine)))
    (a_BadText : PySem.W.nsIn K mainGlobals "BadText" = some (some (.ref C_BadText)))
    (a_Busy : PySem.W.nsIn K mainGlobals "Busy" = some (some (.ref C_Busy)))
    (a_Flawed : PySem.W.nsIn K mainGlobals "Flawed" = some (some (.ref C_Flawed)))
    (a_Gone : PySem.W.nsIn K mainGlobals "Gone" = some (some (.ref C_Gone)))
    (a_NoSuch : PySem.W.nsIn K mainGlobals "NoSuch" = some (some (.ref C_NoSuch)))
    (a_Stopped : PySem.W.nsIn K mainGlobals "Stopped" = some (some (.ref C_Stopped)))
    (a_TooMany : PySem.W.nsIn K mainGlobals "TooMany" = some (some (.ref C_TooMany)))
    (a_Order : PySem.W.nsIn K mainGlobals "Order" = some (some (.ref C_Order)))
    (pg_Order : PySem.W.plainGet K C_Order Str.empty = true)
    (hd_Order : PySem.W.hasDictIn K C_Order = true)
    (po_Order : PySem.W.plainOver K C_Order = true)
    (sa_Order : PySem.W.findIn K (.ref C_Order) "__setattr__" = some (some (.builtin "object.__setattr__")))
    (mk_Order : PySem.W.makesIn K C_Order = true)
    (kc_Order : PySem.W.keepIn K (.ref C_Order) = true)
    (na_Order_own_rule : PySem.W.findIn K (.ref C_Order) "own_rule" = some none)
    (na_Order_times_asked : PySem.W.findIn K (.ref C_Order) "times_asked" = some none)
    (a_Order___init__ : PySem.W.findIn K (.ref C_Order) "__init__" = some (some (.ref f_Order___init__)))
    (i_Order___init__ : PySem.W.isFn K (.ref f_Order___init__) = true)
    (l_Order___init__ : K.lookup f_Order___init__ = some ⟨oc_Order___init__, od_Order___init__, .func (PySem.W.fnOf "__init__" "Order.__init__" (defArgs s_Order___init__) (defBody s_Order___init__) (defScope s_Order___init__) .none kV_Order___init__ doc_Order___init__ pm_Order___init__ an_Order___init__ cd_Order___init__ ct_Order___init__), osl_Order___init__⟩)
    (e_Order___init__ : PySem.W.codeIn K cd_Order___init__ "Order.__init__" = true)
    (k_Order___init__ : PySem.W.keepIn K (.ref f_Order___init__) = true)
    (a_Order_counted : PySem.W.findIn K (.ref C_Order) "counted" = some (some (.ref f_Order_counted)))
    (i_Order_counted : PySem.W.isFn K (.ref f_Order_counted) = true)
    (l_Order_counted : K.lookup f_Order_counted = some ⟨oc_Order_counted, od_Order_counted, .func (PySem.W.fnOf "counted" "Order.counted" (defArgs s_Order_counted) (defBody s_Order_counted) (defScope s_Order_counted) .none kV_Order_counted doc_Order_counted pm_Order_counted an_Order_counted cd_Order_counted ct_Order_counted), osl_Order_counted⟩)
    (e_Order_counted : PySem.W.codeIn K cd_Order_counted "Order.counted" = true)
    (k_Order_counted : PySem.W.keepIn K (.ref f_Order_counted) = true)
    (a_Order_ahead : PySem.W.findIn K (.ref C_Order) "ahead" = some (some (.ref f_Order_ahead)))
    (i_Order_ahead : PySem.W.isFn K (.ref f_Order_ahead) = true)
    (l_Order_ahead : K.lookup f_Order_ahead = some ⟨oc_Order_ahead, od_Order_ahead, .func (PySem.W.fnOf "ahead" "Order.ahead" (defArgs s_Order_ahead) (defBody s_Order_ahead) (defScope s_Order_ahead) .none kV_Order_ahead doc_Order_ahead pm_Order_ahead an_Order_ahead cd_Order_ahead ct_Order_ahead), osl_Order_ahead⟩)
    (e_Order_ahead : PySem.W.codeIn K cd_Order_ahead "Order.ahead" = true)
    (k_Order_ahead : PySem.W.keepIn K (.ref f_Order_ahead) = true)
    (a_is_whole : PySem.W.nsIn K mainGlobals "is_whole" = some (some (.ref f_is_whole)))
    (l_is_whole : K.lookup f_is_whole = some ⟨oc_is_whole, od_is_whole, .func (PySem.W.fnOf "is_whole" "is_whole" (defArgs s_is_whole) (defBody s_is_whole) (defScope s_is_whole) .none (.ref D_is_whole) doc_is_whole pm_is_whole an_is_whole cd_is_whole ct_is_whole), osl_is_whole⟩)
    (e_is_whole : PySem.W.codeIn K cd_is_whole "is_whole" = true)
    (k_is_whole : PySem.W.keepIn K (.ref f_is_whole) = true)
    (dd_is_whole : ∀ q ∈ ([("least", .int 0),("most", .int 4096)] : List (Str × V)), ∃ u, PySem.W.nsIn K D_is_whole q.1 = some (some u) ∧ RelV q.2 u)
    (a_bits : PySem.W.nsIn K mainGlobals "bits" = some (some (.ref f_bits)))
    (l_bits : K.lookup f_bits = some ⟨oc_bits, od_bits, .func (PySem.W.fnOf "bits" "bits" (defArgs s_bits) (defBody s_bits) (defScope s_bits) .none kV_bits doc_bits pm_bits an_bits cd_bits ct_bits), osl_bits⟩)
    (e_bits : PySem.W.codeIn K cd_bits "bits" = true)
    (k_bits : PySem.W.keepIn K (.ref f_bits) = true)
    (a_need_row : PySem.W.nsIn K mainGlobals "need_row" = some (some (.ref f_need_row)))
    (l_need_row : K.lookup f_need_row = some ⟨oc_need_row, od_need_row, .func (PySem.W.fnOf "need_row" "need_row" (defArgs s_need_row) (defBody s_need_row) (defScope s_need_row) .none kV_need_row doc_need_row pm_need_row an_need_row cd_need_row ct_need_row), osl_need_row⟩)
    (e_need_row : PySem.W.codeIn K cd_need_row "need_row" = true)
    (k_need_row : PySem.W.keepIn K (.ref f_need_row) = true)
    (a_need_order : PySem.W.nsIn K mainGlobals "need_order" = some (some (.ref f_need_order)))
    (l_need_order : K.lookup f_need_order = some ⟨oc_need_order, od_need_order, .func (PySem.W.fnOf "need_order" "need_order" (defArgs s_need_order) (defBody s_need_order) (defScope s_need_order) .none kV_need_order doc_need_order pm_need_order an_need_order cd_need_order ct_need_order), osl_need_order⟩)
    (e_need_order : PySem.W.codeIn K cd_need_order "need_order" = true)
    (k_need_order : PySem.W.keepIn K (.ref f_need_order) = true)
    (a_need_gallop : PySem.W.nsIn K mainGlobals "need_gallop" = some (some (.ref f_need_gallop)))
    (l_need_gallop : K.lookup f_need_gallop = some ⟨oc_need_gallop, od_need_gallop, .func (PySem.W.fnOf "need_gallop" "need_gallop" (defArgs s_need_gallop) (defBody s_need_gallop) (defScope s_need_gallop) .none kV_need_gallop doc_need_gallop pm_need_gallop an_need_gallop cd_need_gallop ct_need_gallop), osl_need_gallop⟩)
    (e_need_gallop : PySem.W.codeIn K cd_need_gallop "need_gallop" = true)
    (k_need_gallop : PySem.W.keepIn K (.ref f_need_gallop) = true)
    (a_is_kept : PySem.W.nsIn K mainGlobals "is_kept" = some (some (.ref f_is_kept)))
    (l_is_kept : K.lookup f_is_kept = some ⟨oc_is_kept, od_is_kept, .func (PySem.W.fnOf "is_kept" "is_kept" (defArgs s_is_kept) (defBody s_is_kept) (defScope s_is_kept) .none kV_is_kept doc_is_kept pm_is_kept an_is_kept cd_is_kept ct_is_kept), osl_is_kept⟩)
    (e_is_kept : PySem.W.codeIn K cd_is_kept "is_kept" = true)
    (k_is_kept : PySem.W.keepIn K (.ref f_is_kept) = true)
    (a_are_picks : PySem.W.nsIn K mainGlobals "are_picks" = some (some (.ref f_are_picks)))
    (l_are_picks : K.lookup f_are_picks = some ⟨oc_are_picks, od_are_picks, .func (PySem.W.fnOf "are_picks" "are_picks" (defArgs s_are_picks) (defBody s_are_picks) (defScope s_are_picks) .none kV_are_picks doc_are_picks pm_are_picks an_are_picks cd_are_picks ct_are_picks), osl_are_picks⟩)
    (e_are_picks : PySem.W.codeIn K cd_are_picks "are_picks" = true)
    (k_are_picks : PySem.W.keepIn K (.ref f_are_picks) = true)
    (a_is_merge : PySem.W.nsIn K mainGlobals "is_merge" = some (some (.ref f_is_merge)))
    (l_is_merge : K.lookup f_is_merge = some ⟨oc_is_merge, od_is_merge, .func (PySem.W.fnOf "is_merge" "is_merge" (defArgs s_is_merge) (defBody s_is_merge) (defScope s_is_merge) .none (.ref D_is_merge) doc_is_merge pm_is_merge an_is_merge cd_is_merge ct_is_merge), osl_is_merge⟩)
    (e_is_merge : PySem.W.codeIn K cd_is_merge "is_merge" = true)
    (k_is_merge : PySem.W.keepIn K (.ref f_is_merge) = true)
    (dd_is_merge : ∀ q ∈ ([("most", .int 4096)] : List (Str × V)), ∃ u, PySem.W.nsIn K D_is_merge q.1 = some (some u) ∧ RelV q.2 u)
    (a_need_merge : PySem.W.nsIn K mainGlobals "need_merge" = some (some (.ref f_need_merge)))
    (l_need_merge : K.lookup f_need_merge = some ⟨oc_need_merge, od_need_merge, .func (PySem.W.fnOf "need_merge" "need_merge" (defArgs s_need_merge) (defBody s_need_merge) (defScope s_need_merge) .none (.ref D_need_merge) doc_need_merge pm_need_merge an_need_merge cd_need_merge ct_need_merge), osl_need_merge⟩)
    (e_need_merge : PySem.W.codeIn K cd_need_merge "need_merge" = true)
    (k_need_merge : PySem.W.keepIn K (.ref f_need_merge) = true)
    (dd_need_merge : ∀ q ∈ ([("most", .int 4096)] : List (Str × V)), ∃ u, PySem.W.nsIn K D_need_merge q.1 = some (some u) ∧ RelV q.2 u)
    (a_pick_bound : PySem.W.nsIn K mainGlobals "pick_bound" = some (some (.ref f_pick_bound)))
    (l_pick_bound : K.lookup f_pick_bound = some ⟨oc_pick_bound, od_pick_bound, .func (PySem.W.fnOf "pick_bound" "pick_bound" (defArgs s_pick_bound) (defBody s_pick_bound) (defScope s_pick_bound) .none kV_pick_bound doc_pick_bound pm_pick_bound an_pick_bound cd_pick_bound ct_pick_bound), osl_pick_bound⟩)
    (e_pick_bound : PySem.W.codeIn K cd_pick_bound "pick_bound" = true)
    (k_pick_bound : PySem.W.keepIn K (.ref f_pick_bound) = true)
    (a_merge_bound : PySem.W.nsIn K mainGlobals "merge_bound" = some (some (.ref f_merge_bound)))
    (l_merge_bound : K.lookup f_merge_bound = some ⟨oc_merge_bound, od_merge_bound, .func (PySem.W.fnOf "merge_bound" "merge_bound" (defArgs s_merge_bound) (defBody s_merge_bound) (defScope s_merge_bound) .none (.ref D_merge_bound) doc_merge_bound pm_merge_bound an_merge_bound cd_merge_bound ct_merge_bound), osl_merge_bound⟩)
    (e_merge_bound : PySem.W.codeIn K cd_merge_bound "merge_bound" = true)
    (k_merge_bound : PySem.W.keepIn K (.ref f_merge_bound) = true)
    (dd_merge_bound : ∀ q ∈ ([("gallop", .int 3)] : List (Str × V)), ∃ u, PySem.W.nsIn K D_merge_bound q.1 = some (some u) ∧ RelV q.2 u)
    (a_next_gallop : PySem.W.nsIn K mainGlobals "next_gallop" = some (some (.ref f_next_gallop)))
    (l_next_gallop : K.lookup f_next_gallop = some ⟨oc_next_gallop, od_next_gallop, .func (PySem.W.fnOf "next_gallop" "next_gallop" (defArgs s_next_gallop) (defBody s_next_gallop) (defScope s_next_gallop) .none (.ref D_next_gallop) doc_next_gallop pm_next_gallop an_next_gallop cd_next_gallop ct_next_gallop), osl_next_gallop⟩)
    (e_next_gallop : PySem.W.codeIn K cd_next_gallop "next_gallop" = true)
    (k_next_gallop : PySem.W.keepIn K (.ref f_next_gallop) = true)
    (dd_next_gallop : ∀ q ∈ ([("gallop", .int 3)] : List (Str × V)), ∃ u, PySem.W.nsIn K D_next_gallop q.1 = some (some u) ∧ RelV q.2 u)
    (a_moved_things : PySem.W.nsIn K mainGlobals "moved_things" = some (some (.ref f_moved_things)))
    (l_moved_things : K.lookup f_moved_things = some ⟨oc_moved_things, od_moved_things, .func (PySem.W.fnOf "moved_things" "moved_things" (defArgs s_moved_things) (defBody s_moved_things) (defScope s_moved_things) .none kV_moved_things doc_moved_things pm_moved_things an_moved_things cd_moved_things ct_moved_things), osl_moved_things⟩)
    (e_moved_things : PySem.W.codeIn K cd_moved_things "moved_things" = true)
    (k_moved_things : PySem.W.keepIn K (.ref f_moved_things) = true)
    (a_move_merge : PySem.W.nsIn K mainGlobals "move_merge" = some (some (.ref f_move_merge)))
    (l_move_merge : K.lookup f_move_merge = some ⟨oc_move_merge, od_move_merge, .func (PySem.W.fnOf "move_merge" "move_merge" (defArgs s_move_merge) (defBody s_move_merge) (defScope s_move_merge) .none kV_move_merge doc_move_merge pm_move_merge an_move_merge cd_move_merge ct_move_merge), osl_move_merge⟩)
    (e_move_merge : PySem.W.codeIn K cd_move_merge "move_merge" = true)
    (k_move_merge : PySem.W.keepIn K (.ref f_move_merge) = true)
    (a_move_back : PySem.W.nsIn K mainGlobals "move_back" = some (some (.ref f_move_back)))
    (l_move_back : K.lookup f_move_back = some ⟨oc_move_back, od_move_back, .func (PySem.W.fnOf "move_back" "move_back" (defArgs s_move_back) (defBody s_move_back) (defScope s_move_back) .none kV_move_back doc_move_back pm_move_back an_move_back cd_move_back ct_move_back), osl_move_back⟩)
    (e_move_back : PySem.W.codeIn K cd_move_back "move_back" = true)
    (k_move_back : PySem.W.keepIn K (.ref f_move_back) = true)
    (a_fits_there : PySem.W.nsIn K mainGlobals "fits_there" = some (some (.ref f_fits_there)))
    (l_fits_there : K.lookup f_fits_there = some ⟨oc_fits_there, od_fits_there, .func (PySem.W.fnOf "fits_there" "fits_there" (defArgs s_fits_there) (defBody s_fits_there) (defScope s_fits_there) .none kV_fits_there doc_fits_there pm_fits_there an_fits_there cd_fits_there ct_fits_there), osl_fits_there⟩)
    (e_fits_there : PySem.W.codeIn K cd_fits_there "fits_there" = true)
    (k_fits_there : PySem.W.keepIn K (.ref f_fits_there) = true)
    (a_comes_out : PySem.W.nsIn K mainGlobals "comes_out" = some (some (.ref f_comes_out)))
    (l_comes_out : K.lookup f_comes_out = some ⟨oc_comes_out, od_comes_out, .func (PySem.W.fnOf "comes_out" "comes_out" (defArgs s_comes_out) (defBody s_comes_out) (defScope s_comes_out) .none kV_comes_out doc_comes_out pm_comes_out an_comes_out cd_comes_out ct_comes_out), osl_comes_out⟩)
    (e_comes_out : PySem.W.codeIn K cd_comes_out "comes_out" = true)
    (k_comes_out : PySem.W.keepIn K (.ref f_comes_out) = true)
    (a_front_stays : PySem.W.nsIn K mainGlobals "front_stays" = some (some (.ref f_front_stays)))
    (l_front_stays : K.lookup f_front_stays = some ⟨oc_front_stays, od_front_stays, .func (PySem.W.fnOf "front_stays" "front_stays" (defArgs s_front_stays) (defBody s_front_stays) (defScope s_front_stays) .none kV_front_stays doc_front_stays pm_front_stays an_front_stays cd_front_stays ct_front_stays), osl_front_stays⟩)
    (e_front_stays : PySem.W.codeIn K cd_front_stays "front_stays" = true)
    (k_front_stays : PySem.W.keepIn K (.ref f_front_stays) = true)
    (a_end_stays : PySem.W.nsIn K mainGlobals "end_stays" = some (some (.ref f_end_stays)))
    (l_end_stays : K.lookup f_end_stays = some ⟨oc_end_stays, od_end_stays, .func (PySem.W.fnOf "end_stays" "end_stays" (defArgs s_end_stays) (defBody s_end_stays) (defScope s_end_stays) .none kV_end_stays doc_end_stays pm_end_stays an_end_stays cd_end_stays ct_end_stays), osl_end_stays⟩)
    (e_end_stays : PySem.W.codeIn K cd_end_stays "end_stays" = true)
    (k_end_stays : PySem.W.keepIn K (.ref f_end_stays) = true)
    (a_second_is_so : PySem.W.nsIn K mainGlobals "second_is_so" = some (some (.ref f_second_is_so)))
    (l_second_is_so : K.lookup f_second_is_so = some ⟨oc_second_is_so, od_second_is_so, .func (PySem.W.fnOf "second_is_so" "second_is_so" (defArgs s_second_is_so) (defBody s_second_is_so) (defScope s_second_is_so) .none kV_second_is_so doc_second_is_so pm_second_is_so an_second_is_so cd_second_is_so ct_second_is_so), osl_second_is_so⟩)
    (e_second_is_so : PySem.W.codeIn K cd_second_is_so "second_is_so" = true)
    (k_second_is_so : PySem.W.keepIn K (.ref f_second_is_so) = true)
    (a_first_is_so : PySem.W.nsIn K mainGlobals "first_is_so" = some (some (.ref f_first_is_so)))
    (l_first_is_so : K.lookup f_first_is_so = some ⟨oc_first_is_so, od_first_is_so, .func (PySem.W.fnOf "first_is_so" "first_is_so" (defArgs s_first_is_so) (defBody s_first_is_so) (defScope s_first_is_so) .none kV_first_is_so doc_first_is_so pm_first_is_so an_first_is_so cd_first_is_so ct_first_is_so), osl_first_is_so⟩)
    (e_first_is_so : PySem.W.codeIn K cd_first_is_so "first_is_so" = true)
    (k_first_is_so : PySem.W.keepIn K (.ref f_first_is_so) = true)
    (a_check_merge : PySem.W.nsIn K mainGlobals "check_merge" = some (some (.ref f_check_merge)))
    (l_check_merge : K.lookup f_check_merge = some ⟨oc_check_merge, od_check_merge, .func (PySem.W.fnOf "check_merge" "check_merge" (defArgs s_check_merge) (defBody s_check_merge) (defScope s_check_merge) .none kV_check_merge doc_check_merge pm_check_merge an_check_merge cd_check_merge ct_check_merge), osl_check_merge⟩)
    (e_check_merge : PySem.W.codeIn K cd_check_merge "check_merge" = true)
    (k_check_merge : PySem.W.keepIn K (.ref f_check_merge) = true)
    (a__law_begun : PySem.W.nsIn K mainGlobals "_law_begun" = some (some (.ref f__law_begun)))
    (l__law_begun : K.lookup f__law_begun = some ⟨oc__law_begun, od__law_begun, .func (PySem.W.fnOf "_law_begun" "_law_begun" (defArgs s_l_begun) (defBody s_l_begun) (defScope s_l_begun) .none kV__law_begun doc__law_begun pm__law_begun an__law_begun cd__law_begun ct__law_begun), osl__law_begun⟩)
    (e__law_begun : PySem.W.codeIn K cd__law_begun "_law_begun" = true)
    (k__law_begun : PySem.W.keepIn K (.ref f__law_begun) = true)
    (a__law_draw : PySem.W.nsIn K mainGlobals "_law_draw" = some (some (.ref f__law_draw)))
    (l__law_draw : K.lookup f__law_draw = some ⟨oc__law_draw, od__law_draw, .func (PySem.W.fnOf "_law_draw" "_law_draw" (defArgs s_l_draw) (defBody s_l_draw) (defScope s_l_draw) .none kV__law_draw doc__law_draw pm__law_draw an__law_draw cd__law_draw ct__law_draw), osl__law_draw⟩)
    (e__law_draw : PySem.W.codeIn K cd__law_draw "_law_draw" = true)
    (k__law_draw : PySem.W.keepIn K (.ref f__law_draw) = true)
    (a__law_is_whole : PySem.W.nsIn K mainGlobals "_law_is_whole" = some (some (.ref f__law_is_whole)))
    (l__law_is_whole : K.lookup f__law_is_whole = some ⟨oc__law_is_whole, od__law_is_whole, .func (PySem.W.fnOf "_law_is_whole" "_law_is_whole" (defArgs s_l_is_whole) (defBody s_l_is_whole) (defScope s_l_is_whole) .none kV__law_is_whole doc__law_is_whole pm__law_is_whole an__law_is_whole cd__law_is_whole ct__law_is_whole), osl__law_is_whole⟩)
    (e__law_is_whole : PySem.W.codeIn K cd__law_is_whole "_law_is_whole" = true)
    (k__law_is_whole : PySem.W.keepIn K (.ref f__law_is_whole) = true)
    (a__law_fits : PySem.W.nsIn K mainGlobals "_law_fits" = some (some (.ref f__law_fits)))
    (l__law_fits : K.lookup f__law_fits = some ⟨oc__law_fits, od__law_fits, .func (PySem.W.fnOf "_law_fits" "_law_fits" (defArgs s_l_fits) (defBody s_l_fits) (defScope s_l_fits) .none kV__law_fits doc__law_fits pm__law_fits an__law_fits cd__law_fits ct__law_fits), osl__law_fits⟩)
    (e__law_fits : PySem.W.codeIn K cd__law_fits "_law_fits" = true)
    (k__law_fits : PySem.W.keepIn K (.ref f__law_fits) = true)
    (a__law_merge : PySem.W.nsIn K mainGlobals "_law_merge" = some (some (.ref f__law_merge)))
    (l__law_merge : K.lookup f__law_merge = some ⟨oc__law_merge, od__law_merge, .func (PySem.W.fnOf "_law_merge" "_law_merge" (defArgs s_l_merge) (defBody s_l_merge) (defScope s_l_merge) .none kV__law_merge doc__law_merge pm__law_merge an__law_merge cd__law_merge ct__law_merge), osl__law_merge⟩)
    (e__law_merge : PySem.W.codeIn K cd__law_merge "_law_merge" = true)
    (k__law_merge : PySem.W.keepIn K (.ref f__law_merge) = true)
    (a__law_put : PySem.W.nsIn K mainGlobals "_law_put" = some (some (.ref f__law_put)))
    (l__law_put : K.lookup f__law_put = some ⟨oc__law_put, od__law_put, .func (PySem.W.fnOf "_law_put" "_law_put" (defArgs s_l_put) (defBody s_l_put) (defScope s_l_put) .none kV__law_put doc__law_put pm__law_put an__law_put cd__law_put ct__law_put), osl__law_put⟩)
    (e__law_put : PySem.W.codeIn K cd__law_put "_law_put" = true)
    (k__law_put : PySem.W.keepIn K (.ref f__law_put) = true)
    (a__law_odd_list : PySem.W.nsIn K mainGlobals "_law_odd_list" = some (some (.ref f__law_odd_list)))
    (l__law_odd_list : K.lookup f__law_odd_list = some ⟨oc__law_odd_list, od__law_odd_list, .func (PySem.W.fnOf "_law_odd_list" "_law_odd_list" (defArgs s_l_odd_list) (defBody s_l_odd_list) (defScope s_l_odd_list) .none kV__law_odd_list doc__law_odd_list pm__law_odd_list an__law_odd_list cd__law_odd_list ct__law_odd_list), osl__law_odd_list⟩)
    (e__law_odd_list : PySem.W.codeIn K cd__law_odd_list "_law_odd_list" = true)
    (k__law_odd_list : PySem.W.keepIn K (.ref f__law_odd_list) = true)
    (a__law_spoilt : PySem.W.nsIn K mainGlobals "_law_spoilt" = some (some (.ref f__law_spoilt)))
    (l__law_spoilt : K.lookup f__law_spoilt = some ⟨oc__law_spoilt, od__law_spoilt, .func (PySem.W.fnOf "_law_spoilt" "_law_spoilt" (defArgs s_l_spoilt) (defBody s_l_spoilt) (defScope s_l_spoilt) .none kV__law_spoilt doc__law_spoilt pm__law_spoilt an__law_spoilt cd__law_spoilt ct__law_spoilt), osl__law_spoilt⟩)
    (e__law_spoilt : PySem.W.codeIn K cd__law_spoilt "_law_spoilt" = true)
    (k__law_spoilt : PySem.W.keepIn K (.ref f__law_spoilt) = true)
    (a__law_word : PySem.W.nsIn K mainGlobals "_law_word" = some (some (.ref f__law_word)))
    (l__law_word : K.lookup f__law_word = some ⟨oc__law_word, od__law_word, .func (PySem.W.fnOf "_law_word" "_law_word" (defArgs s_l_word) (defBody s_l_word) (defScope s_l_word) .none kV__law_word doc__law_word pm__law_word an__law_word cd__law_word ct__law_word), osl__law_word⟩)
    (e__law_word : PySem.W.codeIn K cd__law_word "_law_word" = true)
    (k__law_word : PySem.W.keepIn K (.ref f__law_word) = true)
    (a__law_said : PySem.W.nsIn K mainGlobals "_law_said" = some (some (.ref f__law_said)))
    (l__law_said : K.lookup f__law_said = some ⟨oc__law_said, od__law_said, .func (PySem.W.fnOf "_law_said" "_law_said" (defArgs s_l_said) (defBody s_l_said) (defScope s_l_said) .none kV__law_said doc__law_said pm__law_said an__law_said cd__law_said ct__law_said), osl__law_said⟩)
    (e__law_said : PySem.W.codeIn K cd__law_said "_law_said" = true)
    (k__law_said : PySem.W.keepIn K (.ref f__law_said) = true)
    (a__law_moved : PySem.W.nsIn K mainGlobals "_law_moved" = some (some (.ref f__law_moved)))
    (l__law_moved : K.lookup f__law_moved = some ⟨oc__law_moved, od__law_moved, .func (PySem.W.fnOf "_law_moved" "_law_moved" (defArgs s_l_moved) (defBody s_l_moved) (defScope s_l_moved) .none kV__law_moved doc__law_moved pm__law_moved an__law_moved cd__law_moved ct__law_moved), osl__law_moved⟩)
    (e__law_moved : PySem.W.codeIn K cd__law_moved "_law_moved" = true)
    (k__law_moved : PySem.W.keepIn K (.ref f__law_moved) = true)
    (a__law_refused_right : PySem.W.nsIn K mainGlobals "_law_refused_right" = some (some (.ref f__law_refused_right)))
    (l__law_refused_right : K.lookup f__law_refused_right = some ⟨oc__law_refused_right, od__law_refused_right, .func (PySem.W.fnOf "_law_refused_right" "_law_refused_right" (defArgs s_l_refused_right) (defBody s_l_refused_right) (defScope s_l_refused_right) .none kV__law_refused_right doc__law_refused_right pm__law_refused_right an__law_refused_right (.ref cc__law_refused_right) ct__law_refused_right), osl__law_refused_right⟩)
    (e__law_refused_right : PySem.W.codeIn K (.ref cc__law_refused_right) "_law_refused_right" = true)
    (nt__law_refused_right : K.lookup 523 = none)
    (ht__law_refused_right : PySem.W.codeHdIn K cc__law_refused_right 523 = true)
    (k__law_refused_right : PySem.W.keepIn K (.ref f__law_refused_right) = true)
    (a__law_moves_right : PySem.W.nsIn K mainGlobals "_law_moves_right" = some (some (.ref f__law_moves_right)))
    (l__law_moves_right : K.lookup f__law_moves_right = some ⟨oc__law_moves_right, od__law_moves_right, .func (PySem.W.fnOf "_law_moves_right" "_law_moves_right" (defArgs s_l_moves_right) (defBody s_l_moves_right) (defScope s_l_moves_right) .none kV__law_moves_right doc__law_moves_right pm__law_moves_right an__law_moves_right (.ref cc__law_moves_right) ct__law_moves_right), osl__law_moves_right⟩)
    (e__law_moves_right : PySem.W.codeIn K (.ref cc__law_moves_right) "_law_moves_right" = true)
    (nt__law_moves_right : K.lookup 530 = none)
    (ht__law_moves_right : PySem.W.codeHdIn K cc__law_moves_right 530 = true)
    (k__law_moves_right : PySem.W.keepIn K (.ref f__law_moves_right) = true)
    (a__law_anywhere_right : PySem.W.nsIn K mainGlobals "_law_anywhere_right" = some (some (.ref f__law_anywhere_right)))
    (l__law_anywhere_right : K.lookup f__law_anywhere_right = some ⟨oc__law_anywhere_right, od__law_anywhere_right, .func (PySem.W.fnOf "_law_anywhere_right" "_law_anywhere_right" (defArgs s_l_anywhere_right) (defBody s_l_anywhere_right) (defScope s_l_anywhere_right) .none kV__law_anywhere_right doc__law_anywhere_right pm__law_anywhere_right an__law_anywhere_right (.ref cc__law_anywhere_right) ct__law_anywhere_right), osl__law_anywhere_right⟩)
    (e__law_anywhere_right : PySem.W.codeIn K (.ref cc__law_anywhere_right) "_law_anywhere_right" = true)
    (nt__law_anywhere_right : K.lookup 537 = none)
    (ht__law_anywhere_right : PySem.W.codeHdIn K cc__law_anywhere_right 537 = true)
    (k__law_anywhere_right : PySem.W.keepIn K (.ref f__law_anywhere_right) = true)
    (a__law_right : PySem.W.nsIn K mainGlobals "_law_right" = some (some (.ref f__law_right)))
    (l__law_right : K.lookup f__law_right = some ⟨oc__law_right, od__law_right, .func (PySem.W.fnOf "_law_right" "_law_right" (defArgs s_l_right) (defBody s_l_right) (defScope s_l_right) .none kV__law_right doc__law_right pm__law_right an__law_right cd__law_right ct__law_right), osl__law_right⟩)
    (e__law_right : PySem.W.codeIn K cd__law_right "_law_right" = true)
    (k__law_right : PySem.W.keepIn K (.ref f__law_right) = true)
    (a_law : PySem.W.nsIn K mainGlobals "law" = some (some (.ref f_law)))
    (l_law : K.lookup f_law = some ⟨oc_law, od_law, .func (PySem.W.fnOf "law" "law" (defArgs s_law) (defBody s_law) (defScope s_law) .none kV_law doc_law pm_law an_law cd_law ct_law), osl_law⟩)
    (e_law : PySem.W.codeIn K cd_law "law" = true)
    (k_law : PySem.W.keepIn K (.ref f_law) = true)
    (g_MOST_THINGS : PySem.W.nsIn K mainGlobals "MOST_THINGS" = some (some u_MOST_THINGS))
    (r_MOST_THINGS : RelV (.int 4096) u_MOST_THINGS)
    (g_GALLOP : PySem.W.nsIn K mainGlobals "GALLOP" = some (some u_GALLOP))
    (r_GALLOP : RelV (.int 3) u_GALLOP)
    (g_MOST_GALLOP : PySem.W.nsIn K mainGlobals "MOST_GALLOP" = some (some u_MOST_GALLOP))
    (r_MOST_GALLOP : RelV (.int 64) u_MOST_GALLOP)
    (x_stat : PySem.W.nsIn K cStatics "sys.int_max_str_digits" = some none)
    (x_any : PySem.W.exmAny K (.ref C_BadPaper) [.ref C_SortError, .ref C_BadNumber, .ref C_BadAnswer, .ref C_BadKind, .ref C_BadText, .ref C_NoSuch, .ref C_Stopped, .ref C_TooMany] = some true)
    (x_kit : ([.ref C_BadPaper, .ref C_BadNumber, .ref C_BadAnswer, .ref C_BadKind, .ref C_BadLine, .ref C_BadText, .ref C_Busy, .ref C_Flawed, .ref C_Gone, .ref C_NoSuch, .ref C_Stopped, .ref C_TooMany, .ref C_SortError] : List Value).map (fun c => PySem.W.kitOne K (.ref C_BadPaper) c) = [some true, some false, some false, some false, some false, some false, some false, some false, some false, some false, some false, some false, some true])
    (x_i_Order : PySem.W.kitOne K (.ref C_Order) (.ref C_Order) = some true)
    (x_oha : PySem.W.findIn K (.ref C_Order) "__class__" = some (some (.builtin "object.__class__")))
    (x_ohn : PySem.W.specialIn K (.builtin "object.__class__") "__get__" = some (some (.builtin "getset_descriptor.__get__")))
    (x_oht : PySem.W.takesIn K (.builtin "object.__class__") = some true)
    (x_ohm : PySem.W.mroIn K C_Order (.type "object") = some true)
    (z_len : PySem.W.nsIn K mainGlobals "len" = some none)
    (z_min : PySem.W.nsIn K mainGlobals "min" = some none)
    (z_max : PySem.W.nsIn K mainGlobals "max" = some none)
    (z_range : PySem.W.nsIn K mainGlobals "range" = some none)
    (z_repr : PySem.W.nsIn K mainGlobals "repr" = some none)
    (z_isinstance : PySem.W.nsIn K mainGlobals "isinstance" = some none)
    (z_int : PySem.W.nsIn K mainGlobals "int" = some none)
    (z_bool : PySem.W.nsIn K mainGlobals "bool" = some none)
    (z_tuple : PySem.W.nsIn K mainGlobals "tuple" = some none)
    (z_list : PySem.W.nsIn K mainGlobals "list" = some none)
    (z_enumerate : PySem.W.nsIn K mainGlobals "enumerate" = some none)
    (z_sum : PySem.W.nsIn K mainGlobals "sum" = some none)
    (z_all : PySem.W.nsIn K mainGlobals "all" = some none)
    : ∃ A, Txt K mg w A :=
  ⟨⟨C_SortError, C_BadPaper, f_BadPaper___init__, C_BadNumber, C_BadAnswer, C_BadKind, C_BadLine, C_BadText, C_Busy, C_Flawed, C_Gone, C_NoSuch, C_Stopped, C_TooMany, C_Order, f_Order___init__, f_Order_counted, f_Order_ahead, f_is_whole, f_bits, f_need_row, f_need_order, f_need_gallop, f_is_kept, f_are_picks, f_is_merge, f_need_merge, f_pick_bound, f_merge_bound, f_next_gallop, f_moved_things, f_move_merge, f_move_back, f_fits_there, f_comes_out, f_front_stays, f_end_stays, f_second_is_so, f_first_is_so, f_check_merge, f__law_begun, f__law_draw, f__law_is_whole, f__law_fits, f__law_merge, f__law_put, f__law_odd_list, f__law_spoilt, f__law_word, f__law_said, f__law_moved, f__law_refused_right, cc__law_refused_right, f__law_moves_right, cc__law_moves_right, f__law_anywhere_right, cc__law_anywhere_right, f__law_right, f_law, (PySem.W.fnOf "__init__" "BadPaper.__init__" (defArgs s_BadPaper___init__) (defBody s_BadPaper___init__) (defScope s_BadPaper___init__) .none kV_BadPaper___init__ doc_BadPaper___init__ pm_BadPaper___init__ an_BadPaper___init__ cd_BadPaper___init__ ct_BadPaper___init__), (PySem.W.fnOf "__init__" "Order.__init__" (defArgs s_Order___init__) (defBody s_Order___init__) (defScope s_Order___init__) .none kV_Order___init__ doc_Order___init__ pm_Order___init__ an_Order___init__ cd_Order___init__ ct_Order___init__), (PySem.W.fnOf "counted" "Order.counted" (defArgs s_Order_counted) (defBody s_Order_counted) (defScope s_Order_counted) .none kV_Order_counted doc_Order_counted pm_Order_counted an_Order_counted cd_Order_counted ct_Order_counted), (PySem.W.fnOf "ahead" "Order.ahead" (defArgs s_Order_ahead) (defBody s_Order_ahead) (defScope s_Order_ahead) .none kV_Order_ahead doc_Order_ahead pm_Order_ahead an_Order_ahead cd_Order_ahead ct_Order_ahead), (PySem.W.fnOf "is_whole" "is_whole" (defArgs s_is_whole) (defBody s_is_whole) (defScope s_is_whole) .none (.ref D_is_whole) doc_is_whole pm_is_whole an_is_whole cd_is_whole ct_is_whole), (PySem.W.fnOf "bits" "bits" (defArgs s_bits) (defBody s_bits) (defScope s_bits) .none kV_bits doc_bits pm_bits an_bits cd_bits ct_bits), (PySem.W.fnOf "need_row" "need_row" (defArgs s_need_row) (defBody s_need_row) (defScope s_need_row) .none kV_need_row doc_need_row pm_need_row an_need_row cd_need_row ct_need_row), (PySem.W.fnOf "need_order" "need_order" (defArgs s_need_order) (defBody s_need_order) (defScope s_need_order) .none kV_need_order doc_need_order pm_need_order an_need_order cd_need_order ct_need_order), (PySem.W.fnOf "need_gallop" "need_gallop" (defArgs s_need_gallop) (defBody s_need_gallop) (defScope s_need_gallop) .none kV_need_gallop doc_need_gallop pm_need_gallop an_need_gallop cd_need_gallop ct_need_gallop), (PySem.W.fnOf "is_kept" "is_kept" (defArgs s_is_kept) (defBody s_is_kept) (defScope s_is_kept) .none kV_is_kept doc_is_kept pm_is_kept an_is_kept cd_is_kept ct_is_kept), (PySem.W.fnOf "are_picks" "are_picks" (defArgs s_are_picks) (defBody s_are_picks) (defScope s_are_picks) .none kV_are_picks doc_are_picks pm_are_picks an_are_picks cd_are_picks ct_are_picks), (PySem.W.fnOf "is_merge" "is_merge" (defArgs s_is_merge) (defBody s_is_merge) (defScope s_is_merge) .none (.ref D_is_merge) doc_is_merge pm_is_merge an_is_merge cd_is_merge ct_is_merge), (PySem.W.fnOf "need_merge" "need_merge" (defArgs s_need_merge) (defBody s_need_merge) (defScope s_need_merge) .none (.ref D_need_merge) doc_need_merge pm_need_merge an_need_merge cd_need_merge ct_need_merge), (PySem.W.fnOf "pick_bound" "pick_bound" (defArgs s_pick_bound) (defBody s_pick_bound) (defScope s_pick_bound) .none kV_pick_bound doc_pick_bound pm_pick_bound an_pick_bound cd_pick_bound ct_pick_bound), (PySem.W.fnOf "merge_bound" "merge_bound" (defArgs s_merge_bound) (defBody s_merge_bound) (defScope s_merge_bound) .none (.ref D_merge_bound) doc_merge_bound pm_merge_bound an_merge_bound cd_merge_bound ct_merge_bound), (PySem.W.fnOf "next_gallop" "next_gallop" (defArgs s_next_gallop) (defBody s_next_gallop) (defScope s_next_gallop) .none (.ref D_next_gallop) doc_next_gallop pm_next_gallop an_next_gallop cd_next_gallop ct_next_gallop), (PySem.W.fnOf "moved_things" "moved_things" (defArgs s_moved_things) (defBody s_moved_things) (defScope s_moved_things) .none kV_moved_things doc_moved_things pm_moved_things an_moved_things cd_moved_things ct_moved_things), (PySem.W.fnOf "move_merge" "move_merge" (defArgs s_move_merge) (defBody s_move_merge) (defScope s_move_merge) .none kV_move_merge doc_move_merge pm_move_merge an_move_merge cd_move_merge ct_move_merge), (PySem.W.fnOf "move_back" "move_back" (defArgs s_move_back) (defBody s_move_back) (defScope s_move_back) .none kV_move_back doc_move_back pm_move_back an_move_back cd_move_back ct_move_back), (PySem.W.fnOf "fits_there" "fits_there" (defArgs s_fits_there) (defBody s_fits_there) (defScope s_fits_there) .none kV_fits_there doc_fits_there pm_fits_there an_fits_there cd_fits_there ct_fits_there), (PySem.W.fnOf "comes_out" "comes_out" (defArgs s_comes_out) (defBody s_comes_out) (defScope s_comes_out) .none kV_comes_out doc_comes_out pm_comes_out an_comes_out cd_comes_out ct_comes_out), (PySem.W.fnOf "front_stays" "front_stays" (defArgs s_front_stays) (defBody s_front_stays) (defScope s_front_stays) .none kV_front_stays doc_front_stays pm_front_stays an_front_stays cd_front_stays ct_front_stays), (PySem.W.fnOf "end_stays" "end_stays" (defArgs s_end_stays) (defBody s_end_stays) (defScope s_end_stays) .none kV_end_stays doc_end_stays pm_end_stays an_end_stays cd_end_stays ct_end_stays), (PySem.W.fnOf "second_is_so" "second_is_so" (defArgs s_second_is_so) (defBody s_second_is_so) (defScope s_second_is_so) .none kV_second_is_so doc_second_is_so pm_second_is_so an_second_is_so cd_second_is_so ct_second_is_so), (PySem.W.fnOf "first_is_so" "first_is_so" (defArgs s_first_is_so) (defBody s_first_is_so) (defScope s_first_is_so) .none kV_first_is_so doc_first_is_so pm_first_is_so an_first_is_so cd_first_is_so ct_first_is_so), (PySem.W.fnOf "check_merge" "check_merge" (defArgs s_check_merge) (defBody s_check_merge) (defScope s_check_merge) .none kV_check_merge doc_check_merge pm_check_merge an_check_merge cd_check_merge ct_check_merge), (PySem.W.fnOf "_law_begun" "_law_begun" (defArgs s_l_begun) (defBody s_l_begun) (defScope s_l_begun) .none kV__law_begun doc__law_begun pm__law_begun an__law_begun cd__law_begun ct__law_begun), (PySem.W.fnOf "_law_draw" "_law_draw" (defArgs s_l_draw) (defBody s_l_draw) (defScope s_l_draw) .none kV__law_draw doc__law_draw pm__law_draw an__law_draw cd__law_draw ct__law_draw), (PySem.W.fnOf "_law_is_whole" "_law_is_whole" (defArgs s_l_is_whole) (defBody s_l_is_whole) (defScope s_l_is_whole) .none kV__law_is_whole doc__law_is_whole pm__law_is_whole an__law_is_whole cd__law_is_whole ct__law_is_whole), (PySem.W.fnOf "_law_fits" "_law_fits" (defArgs s_l_fits) (defBody s_l_fits) (defScope s_l_fits) .none kV__law_fits doc__law_fits pm__law_fits an__law_fits cd__law_fits ct__law_fits), (PySem.W.fnOf "_law_merge" "_law_merge" (defArgs s_l_merge) (defBody s_l_merge) (defScope s_l_merge) .none kV__law_merge doc__law_merge pm__law_merge an__law_merge cd__law_merge ct__law_merge), (PySem.W.fnOf "_law_put" "_law_put" (defArgs s_l_put) (defBody s_l_put) (defScope s_l_put) .none kV__law_put doc__law_put pm__law_put an__law_put cd__law_put ct__law_put), (PySem.W.fnOf "_law_odd_list" "_law_odd_list" (defArgs s_l_odd_list) (defBody s_l_odd_list) (defScope s_l_odd_list) .none kV__law_odd_list doc__law_odd_list pm__law_odd_list an__law_odd_list cd__law_odd_list ct__law_odd_list), (PySem.W.fnOf "_law_spoilt" "_law_spoilt" (defArgs s_l_spoilt) (defBody s_l_spoilt) (defScope s_l_spoilt) .none kV__law_spoilt doc__law_spoilt pm__law_spoilt an__law_spoilt cd__law_spoilt ct__law_spoilt), (PySem.W.fnOf "_law_word" "_law_word" (defArgs s_l_word) (defBody s_l_word) (defScope s_l_word) .none kV__law_word doc__law_word pm__law_word an__law_word cd__law_word ct__law_word), (PySem.W.fnOf "_law_said" "_law_said" (defArgs s_l_said) (defBody s_l_said) (defScope s_l_said) .none kV__law_said doc__law_said pm__law_said an__law_said cd__law_said ct__law_said), (PySem.W.fnOf "_law_moved" "_law_moved" (defArgs s_l_moved) (defBody s_l_moved) (defScope s_l_moved) .none kV__law_moved doc__law_moved pm__law_moved an__law_moved cd__law_moved ct__law_moved), (PySem.W.fnOf "_law_refused_right" "_law_refused_right" (defArgs s_l_refused_right) (defBody s_l_refused_right) (defScope s_l_refused_right) .none kV__law_refused_right doc__law_refused_right pm__law_refused_right an__law_refused_right (.ref cc__law_refused_right) ct__law_refused_right), (PySem.W.fnOf "_law_moves_right" "_law_moves_right" (defArgs s_l_moves_right) (defBody s_l_moves_right) (defScope s_l_moves_right) .none kV__law_moves_right doc__law_moves_right pm__law_moves_right an__law_moves_right (.ref cc__law_moves_right) ct__law_moves_right), (PySem.W.fnOf "_law_anywhere_right" "_law_anywhere_right" (defArgs s_l_anywhere_right) (defBody s_l_anywhere_right) (defScope s_l_anywhere_right) .none kV__law_anywhere_right doc__law_anywhere_right pm__law_anywhere_right an__law_anywhere_right (.ref cc__law_anywhere_right) ct__law_anywhere_right), (PySem.W.fnOf "_law_right" "_law_right" (defArgs s_l_right) (defBody s_l_right) (defScope s_l_right) .none kV__law_right doc__law_right pm__law_right an__law_right cd__law_right ct__law_right), (PySem.W.fnOf "law" "law" (defArgs s_law) (defBody s_law) (defScope s_law) .none kV_law doc_law pm_law an_law cd_law ct_law)⟩,
    { m_SortError := PySem.W.mg_of X G a_SortError
      q_SortError := ini_SortError
      p_SortError := kpc_SortError
      k_SortError := ⟨xcl_SortError, xga_SortError, xgg_SortError, bex_SortError, dic_SortError, xha_SortError, xhn_SortError, xht_SortError, xhm_SortError⟩
      r_SortError := ⟨rd_SortError, rg_SortError⟩
      m_BadPaper := PySem.W.mg_of X G a_BadPaper
      o_BadPaper := ⟨⟨_, Xc.XB.of PySem.F.excBase_Exception⟩, PySem.F.store_Exception, ini_BadPaper, ovr_BadPaper, dic_BadPaper, sav_BadPaper, bex_BadPaper, tyc_BadPaper, kpc_BadPaper⟩
      k_BadPaper := ⟨xcl_BadPaper, xga_BadPaper, xgg_BadPaper, bex_BadPaper, dic_BadPaper, xha_BadPaper, xhn_BadPaper, xht_BadPaper, xhm_BadPaper⟩
      t_BadPaper_at := tk_BadPaper_at
      na_BadPaper_at := na_BadPaper_at
      i_BadPaper := a_BadPaper___init__
      y_BadPaper := y_BadPaper___init__
      c_BadPaper___init__ := ⟨fun_mk l_BadPaper___init__ e_BadPaper___init__ k_BadPaper___init__, (fun_mk (st := s_BadPaper___init__) l_BadPaper___init__ e_BadPaper___init__ k_BadPaper___init__).binds (ps := ["self", "at"]) (fun _ _ _ _ _ _ us hl => match us, hl with | [_, _], _ => rfl)⟩
      v_BadPaper := v_BadPaper
      m_BadNumber := PySem.W.mg_of X G a_BadNumber
      m_BadAnswer := PySem.W.mg_of X G a_BadAnswer
      m_BadKind := PySem.W.mg_of X G a_BadKind
      m_BadLine := PySem.W.mg_of X G a_BadLine
      m_BadText := PySem.W.mg_of X G a_BadText
      m_Busy := PySem.W.mg_of X G a_Busy
      m_Flawed := PySem.W.mg_of X G a_Flawed
      m_Gone := PySem.W.mg_of X G a_Gone
      m_NoSuch := PySem.W.mg_of X G a_NoSuch
      m_Stopped := PySem.W.mg_of X G a_Stopped
      m_TooMany := PySem.W.mg_of X G a_TooMany
      m_Order := PySem.W.mg_of X G a_Order
      cl_Order := ⟨pg_Order, hd_Order, po_Order, sa_Order⟩
      na_Order_own_rule := na_Order_own_rule
      na_Order_times_asked := na_Order_times_asked
      i_Order := ⟨mk_Order, a_Order___init__, i_Order___init__, kc_Order⟩
      c_Order___init__ := ⟨fun_mk l_Order___init__ e_Order___init__ k_Order___init__, (fun_mk (st := s_Order___init__) l_Order___init__ e_Order___init__ k_Order___init__).binds (ps := ["self", "rule"]) (fun _ _ _ _ _ _ us hl => match us, hl with | [_, _], _ => rfl)⟩
      h_Order_counted := ⟨a_Order_counted, i_Order_counted, k_Order_counted⟩
      c_Order_counted := ⟨fun_mk l_Order_counted e_Order_counted k_Order_counted, (fun_mk (st := s_Order_counted) l_Order_counted e_Order_counted k_Order_counted).binds (ps := ["self"]) (fun _ _ _ _ _ _ us hl => match us, hl with | [_], _ => rfl)⟩
      h_Order_ahead := ⟨a_Order_ahead, i_Order_ahead, k_Order_ahead⟩
      c_Order_ahead := ⟨fun_mk l_Order_ahead e_Order_ahead k_Order_ahead, (fun_mk (st := s_Order_ahead) l_Order_ahead e_Order_ahead k_Order_ahead).binds (ps := ["self", "one", "other"]) (fun _ _ _ _ _ _ us hl => match us, hl with | [_, _, _], _ => rfl)⟩
      c_is_whole := ⟨⟨⟨_, _, .none, .ref D_is_whole, _, _, _, _, _, _, rfl, l_is_whole, e_is_whole, Or.inl ⟨rfl, rfl⟩, Or.inr ⟨D_is_whole, rfl, dd_is_whole⟩⟩, k_is_whole⟩, PySem.W.mg_of X G a_is_whole⟩
      c_bits := ⟨fun_mk l_bits e_bits k_bits, (fun_mk (st := s_bits) l_bits e_bits k_bits).binds (ps := ["number"]) (fun _ _ _ _ _ _ us hl => match us, hl with | [_], _ => rfl), PySem.W.mg_of X G a_bits⟩
      c_need_row := ⟨fun_mk l_need_row e_need_row k_need_row, (fun_mk (st := s_need_row) l_need_row e_need_row k_need_row).binds (ps := ["thing"]) (fun _ _ _ _ _ _ us hl => match us, hl with | [_], _ => rfl), PySem.W.mg_of X G a_need_row⟩
      c_need_order := ⟨fun_mk l_need_order e_need_order k_need_order, (fun_mk (st := s_need_order) l_need_order e_need_order k_need_order).binds (ps := ["thing"]) (fun _ _ _ _ _ _ us hl => match us, hl with | [_], _ => rfl), PySem.W.mg_of X G a_need_order⟩
      c_need_gallop := ⟨fun_mk l_need_gallop e_need_gallop k_need_gallop, (fun_mk (st := s_need_gallop) l_need_gallop e_need_gallop k_need_gallop).binds (ps := ["gallop"]) (fun _ _ _ _ _ _ us hl => match us, hl with | [_], _ => rfl), PySem.W.mg_of X G a_need_gallop⟩
      c_is_kept := ⟨fun_mk l_is_kept e_is_kept k_is_kept, (fun_mk (st := s_is_kept) l_is_kept e_is_kept k_is_kept).binds (ps := ["thing", "first", "second"]) (fun _ _ _ _ _ _ us hl => match us, hl with | [_, _, _], _ => rfl), PySem.W.mg_of X G a_is_kept⟩
      c_are_picks := ⟨fun_mk l_are_picks e_are_picks k_are_picks, (fun_mk (st := s_are_picks) l_are_picks e_are_picks k_are_picks).binds (ps := ["thing", "first", "second"]) (fun _ _ _ _ _ _ us hl => match us, hl with | [_, _, _], _ => rfl), PySem.W.mg_of X G a_are_picks⟩
      c_is_merge := ⟨⟨⟨_, _, .none, .ref D_is_merge, _, _, _, _, _, _, rfl, l_is_merge, e_is_merge, Or.inl ⟨rfl, rfl⟩, Or.inr ⟨D_is_merge, rfl, dd_is_merge⟩⟩, k_is_merge⟩, PySem.W.mg_of X G a_is_merge⟩
      c_need_merge := ⟨⟨⟨_, _, .none, .ref D_need_merge, _, _, _, _, _, _, rfl, l_need_merge, e_need_merge, Or.inl ⟨rfl, rfl⟩, Or.inr ⟨D_need_merge, rfl, dd_need_merge⟩⟩, k_need_merge⟩, PySem.W.mg_of X G a_need_merge⟩
      c_pick_bound := ⟨fun_mk l_pick_bound e_pick_bound k_pick_bound, (fun_mk (st := s_pick_bound) l_pick_bound e_pick_bound k_pick_bound).binds (ps := ["many", "gallop"]) (fun _ _ _ _ _ _ us hl => match us, hl with | [_, _], _ => rfl), PySem.W.mg_of X G a_pick_bound⟩
      c_merge_bound := ⟨⟨⟨_, _, .none, .ref D_merge_bound, _, _, _, _, _, _, rfl, l_merge_bound, e_merge_bound, Or.inl ⟨rfl, rfl⟩, Or.inr ⟨D_merge_bound, rfl, dd_merge_bound⟩⟩, k_merge_bound⟩, PySem.W.mg_of X G a_merge_bound⟩
      c_next_gallop := ⟨⟨⟨_, _, .none, .ref D_next_gallop, _, _, _, _, _, _, rfl, l_next_gallop, e_next_gallop, Or.inl ⟨rfl, rfl⟩, Or.inr ⟨D_next_gallop, rfl, dd_next_gallop⟩⟩, k_next_gallop⟩, PySem.W.mg_of X G a_next_gallop⟩
      c_moved_things := ⟨fun_mk l_moved_things e_moved_things k_moved_things, (fun_mk (st := s_moved_things) l_moved_things e_moved_things k_moved_things).binds (ps := ["row", "merge"]) (fun _ _ _ _ _ _ us hl => match us, hl with | [_, _], _ => rfl), PySem.W.mg_of X G a_moved_things⟩
      c_move_merge := ⟨fun_mk l_move_merge e_move_merge k_move_merge, (fun_mk (st := s_move_merge) l_move_merge e_move_merge k_move_merge).binds (ps := ["row", "merge"]) (fun _ _ _ _ _ _ us hl => match us, hl with | [_, _], _ => rfl), PySem.W.mg_of X G a_move_merge⟩
      c_move_back := ⟨fun_mk l_move_back e_move_back k_move_back, (fun_mk (st := s_move_back) l_move_back e_move_back k_move_back).binds (ps := ["row", "merge"]) (fun _ _ _ _ _ _ us hl => match us, hl with | [_, _], _ => rfl), PySem.W.mg_of X G a_move_back⟩
      c_fits_there := ⟨fun_mk l_fits_there e_fits_there k_fits_there, (fun_mk (st := s_fits_there) l_fits_there e_fits_there k_fits_there).binds (ps := ["thing", "many"]) (fun _ _ _ _ _ _ us hl => match us, hl with | [_, _], _ => rfl), PySem.W.mg_of X G a_fits_there⟩
      c_comes_out := ⟨fun_mk l_comes_out e_comes_out k_comes_out, (fun_mk (st := s_comes_out) l_comes_out e_comes_out k_comes_out).binds (ps := ["merge"]) (fun _ _ _ _ _ _ us hl => match us, hl with | [_], _ => rfl), PySem.W.mg_of X G a_comes_out⟩
      c_front_stays := ⟨fun_mk l_front_stays e_front_stays k_front_stays, (fun_mk (st := s_front_stays) l_front_stays e_front_stays k_front_stays).binds (ps := ["row", "order", "start", "middle", "many"]) (fun _ _ _ _ _ _ us hl => match us, hl with | [_, _, _, _, _], _ => rfl), PySem.W.mg_of X G a_front_stays⟩
      c_end_stays := ⟨fun_mk l_end_stays e_end_stays k_end_stays, (fun_mk (st := s_end_stays) l_end_stays e_end_stays k_end_stays).binds (ps := ["row", "order", "middle", "end", "many"]) (fun _ _ _ _ _ _ us hl => match us, hl with | [_, _, _, _, _], _ => rfl), PySem.W.mg_of X G a_end_stays⟩
      c_second_is_so := ⟨fun_mk l_second_is_so e_second_is_so k_second_is_so, (fun_mk (st := s_second_is_so) l_second_is_so e_second_is_so k_second_is_so).binds (ps := ["row", "order", "at", "other", "stop", "many"]) (fun _ _ _ _ _ _ us hl => match us, hl with | [_, _, _, _, _, _], _ => rfl), PySem.W.mg_of X G a_second_is_so⟩
      c_first_is_so := ⟨fun_mk l_first_is_so e_first_is_so k_first_is_so, (fun_mk (st := s_first_is_so) l_first_is_so e_first_is_so k_first_is_so).binds (ps := ["row", "order", "at", "other", "stop", "many"]) (fun _ _ _ _ _ _ us hl => match us, hl with | [_, _, _, _, _, _], _ => rfl), PySem.W.mg_of X G a_first_is_so⟩
      c_check_merge := ⟨fun_mk l_check_merge e_check_merge k_check_merge, (fun_mk (st := s_check_merge) l_check_merge e_check_merge k_check_merge).binds (ps := ["row", "order", "merge"]) (fun _ _ _ _ _ _ us hl => match us, hl with | [_, _, _], _ => rfl), PySem.W.mg_of X G a_check_merge⟩
      c__law_begun := ⟨fun_mk l__law_begun e__law_begun k__law_begun, (fun_mk (st := s_l_begun) l__law_begun e__law_begun k__law_begun).binds (ps := ["_law_script", "_law_turn"]) (fun _ _ _ _ _ _ us hl => match us, hl with | [_, _], _ => rfl), PySem.W.mg_of X G a__law_begun⟩
      c__law_draw := ⟨fun_mk l__law_draw e__law_draw k__law_draw, (fun_mk (st := s_l_draw) l__law_draw e__law_draw k__law_draw).binds (ps := ["_law_state", "_law_many"]) (fun _ _ _ _ _ _ us hl => match us, hl with | [_, _], _ => rfl), PySem.W.mg_of X G a__law_draw⟩
      c__law_is_whole := ⟨fun_mk l__law_is_whole e__law_is_whole k__law_is_whole, (fun_mk (st := s_l_is_whole) l__law_is_whole e__law_is_whole k__law_is_whole).binds (ps := ["_law_thing", "_law_least", "_law_most"]) (fun _ _ _ _ _ _ us hl => match us, hl with | [_, _, _], _ => rfl), PySem.W.mg_of X G a__law_is_whole⟩
      c__law_fits := ⟨fun_mk l__law_fits e__law_fits k__law_fits, (fun_mk (st := s_l_fits) l__law_fits e__law_fits k__law_fits).binds (ps := ["_law_thing", "_law_many"]) (fun _ _ _ _ _ _ us hl => match us, hl with | [_, _], _ => rfl), PySem.W.mg_of X G a__law_fits⟩
      c__law_merge := ⟨fun_mk l__law_merge e__law_merge k__law_merge, (fun_mk (st := s_l_merge) l__law_merge e__law_merge k__law_merge).binds (ps := ["_law_state"]) (fun _ _ _ _ _ _ us hl => match us, hl with | [_], _ => rfl), PySem.W.mg_of X G a__law_merge⟩
      c__law_put := ⟨fun_mk l__law_put e__law_put k__law_put, (fun_mk (st := s_l_put) l__law_put e__law_put k__law_put).binds (ps := ["_law_some", "_law_at", "_law_thing"]) (fun _ _ _ _ _ _ us hl => match us, hl with | [_, _, _], _ => rfl), PySem.W.mg_of X G a__law_put⟩
      c__law_odd_list := ⟨fun_mk l__law_odd_list e__law_odd_list k__law_odd_list, (fun_mk (st := s_l_odd_list) l__law_odd_list e__law_odd_list k__law_odd_list).binds (ps := ["_law_state", "_law_some", "_law_odd"]) (fun _ _ _ _ _ _ us hl => match us, hl with | [_, _, _], _ => rfl), PySem.W.mg_of X G a__law_odd_list⟩
      c__law_spoilt := ⟨fun_mk l__law_spoilt e__law_spoilt k__law_spoilt, (fun_mk (st := s_l_spoilt) l__law_spoilt e__law_spoilt k__law_spoilt).binds (ps := ["_law_state", "_law_paper"]) (fun _ _ _ _ _ _ us hl => match us, hl with | [_, _], _ => rfl), PySem.W.mg_of X G a__law_spoilt⟩
      c__law_word := ⟨fun_mk l__law_word e__law_word k__law_word, (fun_mk (st := s_l_word) l__law_word e__law_word k__law_word).binds (ps := ["_law_e"]) (fun _ _ _ _ _ _ us hl => match us, hl with | [_], _ => rfl), PySem.W.mg_of X G a__law_word⟩
      c__law_said := ⟨fun_mk l__law_said e__law_said k__law_said, (fun_mk (st := s_l_said) l__law_said e__law_said k__law_said).binds (ps := ["_law_deed"]) (fun _ _ _ _ _ _ us hl => match us, hl with | [_], _ => rfl), PySem.W.mg_of X G a__law_said⟩
      c__law_moved := ⟨fun_mk l__law_moved e__law_moved k__law_moved, (fun_mk (st := s_l_moved) l__law_moved e__law_moved k__law_moved).binds (ps := ["_law_things", "_law_paper"]) (fun _ _ _ _ _ _ us hl => match us, hl with | [_, _], _ => rfl), PySem.W.mg_of X G a__law_moved⟩
      cx__law_refused_right := ⟨_, _, _, _, _, _, _, _, rfl, l__law_refused_right, e__law_refused_right⟩
      nt__law_refused_right := nt__law_refused_right
      ht__law_refused_right := ht__law_refused_right
      c__law_refused_right := ⟨fun_mk l__law_refused_right e__law_refused_right k__law_refused_right, (fun_mk (st := s_l_refused_right) l__law_refused_right e__law_refused_right k__law_refused_right).binds (ps := ["_law_things", "_law_thing"]) (fun _ _ _ _ _ _ us hl => match us, hl with | [_, _], _ => rfl), PySem.W.mg_of X G a__law_refused_right⟩
      cx__law_moves_right := ⟨_, _, _, _, _, _, _, _, rfl, l__law_moves_right, e__law_moves_right⟩
      nt__law_moves_right := nt__law_moves_right
      ht__law_moves_right := ht__law_moves_right
      c__law_moves_right := ⟨fun_mk l__law_moves_right e__law_moves_right k__law_moves_right, (fun_mk (st := s_l_moves_right) l__law_moves_right e__law_moves_right k__law_moves_right).binds (ps := ["_law_things", "_law_thing"]) (fun _ _ _ _ _ _ us hl => match us, hl with | [_, _], _ => rfl), PySem.W.mg_of X G a__law_moves_right⟩
      cx__law_anywhere_right := ⟨_, _, _, _, _, _, _, _, rfl, l__law_anywhere_right, e__law_anywhere_right⟩
      nt__law_anywhere_right := nt__law_anywhere_right
      ht__law_anywhere_right := ht__law_anywhere_right
      c__law_anywhere_right := ⟨fun_mk l__law_anywhere_right e__law_anywhere_right k__law_anywhere_right, (fun_mk (st := s_l_anywhere_right) l__law_anywhere_right e__law_anywhere_right k__law_anywhere_right).binds (ps := ["_law_thing"]) (fun _ _ _ _ _ _ us hl => match us, hl with | [_], _ => rfl), PySem.W.mg_of X G a__law_anywhere_right⟩
      c__law_right := ⟨fun_mk l__law_right e__law_right k__law_right, (fun_mk (st := s_l_right) l__law_right e__law_right k__law_right).binds (ps := ["_law_things", "_law_thing"]) (fun _ _ _ _ _ _ us hl => match us, hl with | [_, _], _ => rfl), PySem.W.mg_of X G a__law_right⟩
      c_law := ⟨fun_mk l_law e_law k_law, (fun_mk (st := s_law) l_law e_law k_law).binds (ps := ["_law_script"]) (fun _ _ _ _ _ _ us hl => match us, hl with | [_], _ => rfl), PySem.W.mg_of X G a_law⟩
      g_MOST_THINGS := ⟨_, PySem.W.mg_of X G g_MOST_THINGS, r_MOST_THINGS⟩
      g_GALLOP := ⟨_, PySem.W.mg_of X G g_GALLOP, r_GALLOP⟩
      g_MOST_GALLOP := ⟨_, PySem.W.mg_of X G g_MOST_GALLOP, r_MOST_GALLOP⟩
      x_stat := x_stat
      x_any := x_any
      x_kit := x_kit
      x_i_Order := x_i_Order
      x_oha := x_oha
      x_ohn := x_ohn
      x_oht := x_oht
      x_ohm := x_ohm
      n_len := PySem.W.mg_none_of X G z_len
      n_min := PySem.W.mg_none_of X G z_min
      n_max := PySem.W.mg_none_of X G z_max
      n_range := PySem.W.mg_none_of X G z_range
      n_repr := PySem.W.mg_none_of X G z_repr
      n_isinstance := PySem.W.mg_none_of X G z_isinstance
      n_int := PySem.W.mg_none_of X G z_int
      n_bool := PySem.W.mg_none_of X G z_bool
      n_tuple := PySem.W.mg_none_of X G z_tuple
      n_list := PySem.W.mg_none_of X G z_list
      n_enumerate := PySem.W.mg_none_of X G z_enumerate
      n_sum := PySem.W.mg_none_of X G z_sum
      n_all := PySem.W.mg_none_of X G z_all }⟩

/-! what a paper may be made of -/
inductive Th (H : Hp) : Nat → V → Prop
  | int (k : Nat) (i : Int) (h : i.natAbs < 10 ^ 31) : Th H k (.int i)
  | bl (k : Nat) (b : Bool) : Th H k (.bl b)
  | str (k : Nat) : Th H k (.str ("1" : Str))
  | non (k : Nat) : Th H k .non
  | tup (k : Nat) (a : Addr) (xs : List V) (h : H a = some (.tup xs)) (l : xs.length ≤ 20) (e : ∀ x ∈ xs, Th H k x) : Th H (k + 1) (.ref a)
  | lst (k : Nat) (a : Addr) (xs : List V) (h : H a = some (.lst xs)) (l : xs.length ≤ 20) (e : ∀ x ∈ xs, Th H k x) : Th H (k + 1) (.ref a)
/-- tuples and lists stay -/
def TL (H H' : Hp) : Prop := ∀ a xs, (H a = some (.tup xs) → H' a = some (.tup xs)) ∧ (H a = some (.lst xs) → H' a = some (.lst xs))
theorem same_trans {H H1 H2 : Hp} (a : Same H H1) (b : Same H1 H2) : Same H H2 := fun c o e => b c o (a c o e)
theorem TL.same {H H' : Hp} (k : Same H H') : TL H H' := fun a xs => ⟨k _ _, k _ _⟩
theorem TL.trans {H H1 H2 : Hp} (a : TL H H1) (b : TL H1 H2) : TL H H2 := fun c xs => ⟨fun e => (b c xs).1 ((a c xs).1 e), fun e => (b c xs).2 ((a c xs).2 e)⟩
theorem TL.but {H H' : Hp} {d : Addr} {kv : List (Key × V)} (hd : H d = some (.dK kv)) (k : ∀ b o, H b = some o → b ≠ d → H' b = some o) : TL H H' := fun a xs => ⟨fun e => k _ _ e (ne_of e hd (by intro z; cases z)), fun e => k _ _ e (ne_of e hd (by intro z; cases z))⟩
theorem Th.more {H H' : Hp} {k : Nat} {v : V} (h : Th H k v) (t : TL H H') : Th H' k v := by
  induction h with
  | int k i h => exact .int k i h
  | bl k b => exact .bl k b
  | str k => exact .str k
  | non k => exact .non k
  | tup k a xs h l e ih => exact .tup k a xs ((t a xs).1 h) l ih
  | lst k a xs h l e ih => exact .lst k a xs ((t a xs).2 h) l ih
theorem Th.up {H : Hp} {k : Nat} {v : V} (h : Th H k v) : Th H (k + 1) v := by
  induction h with
  | int k i h => exact .int _ i h
  | bl k b => exact .bl _ b
  | str k => exact .str _
  | non k => exact .non _
  | tup k a xs h l e ih => exact .tup _ a xs h l ih
  | lst k a xs h l e ih => exact .lst _ a xs h l ih
theorem Th.upn {H : Hp} {k m : Nat} {v : V} (h : Th H k v) (l : k ≤ m) : Th H m v := by
  induction l with
  | refl => exact h
  | step _ ih => exact ih.up
theorem Th.there {H : Hp} {k : Nat} {a : Addr} (h : Th H k (.ref a)) : H a ≠ none := by
  cases h with
  | tup k a xs h l e => rw [h]; simp
  | lst k a xs h l e => rw [h]; simp
theorem Th.kin {K : PySem.W.Frag} {H : Hp} {k : Nat} {v : V} (o : Th H k v) : ∃ kd, Kin K H v kd ∧ ((kd = .tup ∧ ∃ a xs, v = .ref a ∧ H a = some (.tup xs) ∧ xs.length ≤ 20 ∧ ∀ x ∈ xs, Th H k x) ∨ ((kd == .tup) = false ∧ ∀ a xs, v = .ref a → H a ≠ some (.tup xs))) := by
  cases o with
  | int k i h => exact ⟨_, .int i, .inr ⟨rfl, fun _ _ z => nomatch z⟩⟩
  | bl k b => exact ⟨_, .bl b, .inr ⟨rfl, fun _ _ z => nomatch z⟩⟩
  | str k => exact ⟨_, .str _, .inr ⟨rfl, fun _ _ z => nomatch z⟩⟩
  | non k => exact ⟨_, .non, .inr ⟨rfl, fun _ _ z => nomatch z⟩⟩
  | tup k a xs h l e => exact ⟨_, Kin.tup h, .inl ⟨rfl, a, xs, rfl, h, l, fun x hx => (e x hx).up⟩⟩
  | lst k a xs h l e => exact ⟨_, Kin.lst h, .inr ⟨rfl, fun b ys z y => by
      cases z
      rw [h] at y; cases y⟩⟩
theorem Th.whole {K : PySem.W.Frag} {H : Hp} {k : Nat} {v : V} (o : Th H k v) : ∃ kd, Kin K H v kd := let ⟨kd, h, _⟩ := o.kin (K := K); ⟨kd, h⟩
theorem isWh_val {v : V} {l m : Int} (h : isWh v l m = true) : ∃ i : Int, v = .int i ∧ l ≤ i ∧ i ≤ m := by
  cases v with
  | int i =>
    rw [isWh_int, Bool.and_eq_true, decide_eq_true_eq, decide_eq_true_eq] at h
    exact ⟨i, rfl, h⟩
  | _ => exact Bool.noConfusion h
theorem isWh_not {i l m : Int} (h : isWh (.int i) l m = false) : ¬ (l ≤ i ∧ i ≤ m) := fun ⟨a, b⟩ => by
  rw [isWh_int, decide_eq_true a, decide_eq_true b] at h
  cases h
/-! what fits -/
structure VM (s m e a b : Int) (pk : List Int) : Prop where
  s0 : 0 ≤ s
  sm : s < m
  me : m < e
  e1 : e ≤ 4096
  a0 : 0 ≤ a
  b0 : 0 ≤ b
  am : a ≤ m - s
  bm : b ≤ e - m
  ev : pk.length % 2 = 0
  pos : ∀ x ∈ pk, 1 ≤ x ∧ x ≤ 4096
  len : pk.length ≤ 1000
  sec : (pickI pk none none 2).sum = e - m - b
  fst : (pickI pk (some 1) none 2).sum = m - s - a
structure MA (H : Hp) (p kq pq : Addr) (s m e a b : Int) (pk : List Int) : Prop where
  hp : H p = some (.tup [.int s, .int m, .int e, .ref kq, .ref pq])
  hk : H kq = some (.tup [.int a, .int b])
  hq : H pq = some (.tup (pk.map V.int))
  ne : kq ≠ pq
def Good (H : Hp) (v : V) (n : Int) : Prop := ∃ p kq pq s m e a b pk, v = .ref p ∧ MA H p kq pq s m e a b pk ∧ VM s m e a b pk ∧ e ≤ n
/-- what is kept and the picks are not one thing -/
def Apart (H : Hp) (v : V) : Prop := ∀ p x y z k q, v = .ref p → H p = some (.tup [x, y, z, .ref k, .ref q]) → k ≠ q
def Kept (H : Hp) (v : V) (f g : Int) : Prop := ∃ k a b, v = .ref k ∧ H k = some (.tup [.int a, .int b]) ∧ 0 ≤ a ∧ a ≤ f ∧ 0 ≤ b ∧ b ≤ g
def Picks (H : Hp) (v : V) (f g : Int) : Prop := ∃ q pk, v = .ref q ∧ H q = some (.tup (pk.map V.int)) ∧ pk.length % 2 = 0 ∧ (∀ x ∈ pk, 1 ≤ x ∧ x ≤ 4096) ∧ (pickI pk none none 2).sum = g ∧ (pickI pk (some 1) none 2).sum = f
theorem MA.led {H : Hp} {p kq pq : Addr} {s m e a b : Int} {pk : List Int} (R : MA H p kq pq s m e a b pk) : Hs H [] H [(p, .tup [.int s, .int m, .int e, .ref kq, .ref pq]), (kq, .tup [.int a, .int b]), (pq, .tup (pk.map V.int))] := by
  have h1 : p ≠ kq := ne_of R.hp R.hk (by intro z; cases z)
  have h2 : p ≠ pq := ne_of R.hp R.hq (by
    intro z
    injection z with z
    have z1 := congrArg (fun l => l[3]?) z
    simp only [List.getElem?_map] at z1
    cases hx : pk[3]? <;> simp [hx] at z1)
  refine Hs.start H [] _ (by simp [h1, h2, R.ne]) ?_ (fun b hb => nomatch hb)
  intro q hq
  simp only [List.mem_cons, List.not_mem_nil, or_false] at hq
  rcases hq with rfl | rfl | rfl
  · exact R.hp
  · exact R.hk
  · exact R.hq
theorem MA.more {H H' : Hp} {p kq pq : Addr} {s m e a b : Int} {pk : List Int} (R : MA H p kq pq s m e a b pk) (k : TL H H') : MA H' p kq pq s m e a b pk := ⟨(k _ _).1 R.hp, (k _ _).1 R.hk, (k _ _).1 R.hq, R.ne⟩
theorem Good.more {H H' : Hp} {v : V} {n : Int} (g : Good H v n) (k : TL H H') : Good H' v n := by
  obtain ⟨p, kq, pq, s, m, e, a, b, pk, h1, h2, h3, h4⟩ := g
  exact ⟨p, kq, pq, s, m, e, a, b, pk, h1, h2.more k, h3, h4⟩
/-- a thing keeps its parts in a grown heap, so it fits then just where it fitted -/
theorem Th.back {H H' : Hp} {k : Nat} {a : Addr} {xs : List V} (h : Th H k (.ref a)) (t : TL H H') (e : H' a = some (.tup xs)) : H a = some (.tup xs) := by
  cases h with
  | tup k a ys h l z =>
    have := (t a ys).1 h
    rw [e] at this
    cases this
    exact h
  | lst k a ys h l z =>
    have := (t a ys).2 h
    rw [e] at this
    cases this
theorem Th.part {H : Hp} {k : Nat} {a : Addr} {xs : List V} (h : Th H (k + 1) (.ref a)) (e : H a = some (.tup xs)) : ∀ x ∈ xs, Th H k x := by
  cases h with
  | tup k a ys h l z => rw [e] at h; cases h; exact z
  | lst k a ys h l z => rw [e] at h; cases h
theorem Good.less {H H' : Hp} {v : V} {n : Int} (g : Good H' v n) (h : Th H 4 v) (k : TL H H') : Good H v n := by
  obtain ⟨p, kq, pq, s, m, e, a, b, pk, rfl, R, h3, h4⟩ := g
  have h1 := h.back k R.hp
  have t := h.part h1
  exact ⟨p, kq, pq, s, m, e, a, b, pk, rfl, ⟨h1, (t (.ref kq) (by simp)).back k R.hk, (t (.ref pq) (by simp)).back k R.hq, R.ne⟩, h3, h4⟩
theorem Apart.more {H H' : Hp} {v : V} (a : Apart H v) (h : Th H 4 v) (k : TL H H') : Apart H' v := fun p x y z c q e1 e2 => a p x y z c q e1 (by
  subst e1
  exact h.back k e2)
theorem bF {p : Prop} (h : ¬ p) : (false = true ↔ p) := ⟨fun z => Bool.noConfusion z, fun z => absurd z h⟩
theorem bT {p : Prop} (h : p) : (true = true ↔ p) := ⟨fun _ => h, fun _ => rfl⟩
/-! the promises -/
def sp_whole (K : PySem.W.Frag) : Sp := fun vs H Q _ => ∃ (x : V) (l m : Int) (k : Nat), vs = [x, .int l, .int m] ∧ Th H k x ∧ Q (.bl (isWh x l m)) H
def sp_bits : Sp := fun vs H Q _ => ∃ n : Int, vs = [.int n] ∧ 0 ≤ n ∧ Q (.int (Builtin.Int.intBits n : Nat)) H
def sp_row : Sp := fun vs H Q _ => ∃ (a : Addr) (xs : List V), vs = [.ref a] ∧ H a = some (.lst xs) ∧ xs.length ≤ 4096 ∧ Q .non H
def sp_gallop : Sp := fun vs H Q _ => ∃ g : Int, vs = [.int g] ∧ 1 ≤ g ∧ g ≤ 64 ∧ Q .non H
def sp_kept : Sp := fun vs H Q _ => ∃ (x : V) (f g : Int) (k : Nat), vs = [x, .int f, .int g] ∧ Th H k x ∧ ∀ b : Bool, (b = true ↔ Kept H x f g) → Q (.bl b) H
def sp_picks : Sp := fun vs H Q _ => ∃ (x : V) (f g : Int) (k : Nat), vs = [x, .int f, .int g] ∧ Th H k x ∧ ∀ (b : Bool) (H' : Hp), (b = true ↔ Picks H x f g) → Same H H' → Q (.bl b) H'
def sp_ismerge : Sp := fun vs H Q _ => ∃ (x : V) (M : Int), vs = [x, .int M] ∧ Th H 4 x ∧ Apart H x ∧ 0 ≤ M ∧ M ≤ 4096 ∧ ∀ (b : Bool) (H' : Hp), (b = true ↔ Good H x M) → Same H H' → Q (.bl b) H'
def sp_needmerge (C : Addr) : Sp := fun vs H Q E => ∃ (x : V) (M : Int), vs = [x, .int M] ∧ Th H 4 x ∧ Apart H x ∧ 0 ≤ M ∧ M ≤ 4096 ∧ (Good H x M → ∀ H', Same H H' → Q .non H') ∧ (¬ Good H x M → ∀ H' d, Same H H' → H' d = none → E (.ref C) (some d) (upd H' d (.xd [("at", .str "merge")])))
section
variable {P : Program} {w : World} {K : PySem.W.Frag} {mg : Str → Option Value} {base : Heap} {A : Ad} {H H0 : Hp} {MM : List Addr} {L L' F : Led} {Q : VK} {E : XK}
local macro_rules | `(tactic| walk_at "rd1") => `(tactic| first
  | with_reducible refine Xc.rd_bi ?_
  | with_reducible refine Xc.rd_put1 ?_
  | with_reducible refine Xc.rd_tmk ?_
  | with_reducible refine Xc.rd_xv ?_)
theorem ok_xBadPaper (T : Txt K mg w A) : FnOk P w K mg base CX0 1 A.f_BadPaper___init__ A.d_BadPaper___init__ ["self", "at"] (Xc.spInit1 A.C_BadPaper "at") := by
  refine T.c_BadPaper___init__.F.ok sc_BadPaper___init__ (fun vs H Q E h => ?_) (fun cdv Ar outer s H vs Q E hr h => ?_)
  · obtain ⟨a, v, rfl, _⟩ := h; rfl
  · obtain ⟨a, v, rfl, ha, k⟩ := h
    refine ⟨_, (pss_cons (ps_expr (Xc.pe_binitS T.o_BadPaper rfl T.m_SortError T.r_SortError T.v_BadPaper rfl (pa_cons (pv 0) (pa_cons (pv 1) pa_nil))))
      (pss_one (Xc.ps_put T.o_BadPaper (pv 0) (pv 1) rfl))), ?_⟩
    walk_at "st"
    walk_at "rd"
    refine ⟨a, _, [v], rfl, by simp, T.o_BadPaper, ha, ?_⟩
    walk_at "rd"
    refine ⟨a, _, rfl, T.o_BadPaper, T.t_BadPaper_at, Or.inl ⟨ha, fun dx n1 n2 => ?_⟩⟩
    exact k dx n1 n2
theorem ok_is_whole (T : Txt K mg w A) : FnOk P w K mg base CX0 1 A.f_is_whole A.d_is_whole ["thing", "least", "most"] (sp_whole K) := by
  refine T.c_is_whole.F.ok sc_is_whole (fun vs H Q E h => ?_) (fun cdv Ar outer s H vs Q E hr h => ?_)
  · obtain ⟨x, l, m, k, rfl, _⟩ := h; rfl
  · obtain ⟨x, l, m, kk, rfl, ho, q⟩ := h
    refine ⟨_, (pss_one (ps_ret (pe_and (pe_callB call_isi (by rfl) T.n_isinstance PyProof.Rows.boot_isinstance (pa_cons (pv 0) (pa_cons (pe_bltn (v := .ty "int") rfl T.n_int PyProof.Rows.boot_int rfl) pa_nil))) (pe_and (pe_not (pe_callB call_isi (by rfl) T.n_isinstance PyProof.Rows.boot_isinstance (pa_cons (pv 0) (pa_cons (pe_bltn (v := .ty "bool") rfl T.n_bool PyProof.Rows.boot_bool rfl) pa_nil)))) (pe_one (pe_chain op_le op_le (pv 1) (pv 0) (pv 2))))))), ?_⟩
    obtain ⟨k, hk, _⟩ := ho.kin (K := K)
    walk_at "st"
    walk_at "rd"
    refine rd_isi hk (kit_int _) ?_
    walk_at "rd"
    cases hk with
    | int i =>
      walk_at "if1"
      refine rd_isi (Kin.int i) (kit_bool _) ?_
      walk_at "rd"
      walk_at "if1"
      rw [isWh_int] at q
      refine rd_dec ?_ ?_ <;> intro h1
      · walk_at "rd"
        rw [decide_eq_true h1, Bool.true_and] at q
        exact q
      · rw [decide_eq_false h1, Bool.false_and] at q
        exact q
    | bl b =>
      walk_at "if1"
      refine rd_isi (Kin.bl b) (kit_bool _) ?_
      walk_at "rd"
      exact q
    | str x => exact q
    | non => exact q
    | ref h n => rcases n with rfl | rfl | rfl <;> exact q
theorem ok_bits (T : Txt K mg w A) : FnOk P w K mg base CX0 1 A.f_bits A.d_bits ["number"] sp_bits := by
  refine T.c_bits.F.ok sc_bits (fun vs H Q E h => ?_) (fun cdv Ar outer s H vs Q E hr h => ?_)
  · obtain ⟨n, rfl, _⟩ := h; rfl
  · obtain ⟨n, rfl, hn, k⟩ := h
    refine ⟨_, (pss_cons (ps_if (PW.pt (pw_or (pt_not (pt_val (pe_callB call_isi (by rfl) T.n_isinstance PyProof.Rows.boot_isinstance (pa_cons (pv 0) (pa_cons (pe_bltn (v := .ty "int") rfl T.n_int PyProof.Rows.boot_int rfl) pa_nil))))) (pw_or (pt_val (pe_callB call_isi (by rfl) T.n_isinstance PyProof.Rows.boot_isinstance (pa_cons (pv 0) (pa_cons (pe_bltn (v := .ty "bool") rfl T.n_bool PyProof.Rows.boot_bool rfl) pa_nil)))) (pw_or1 (pt_cmpR op_lt (pv 0) pe_int (nomark _))))))
        (pss_one ps_never)
        pss_nil)
      (pss_one (ps_ret (pe_bits (pv 0))))), ?_⟩
    walk_at "st"
    have ki := Kin.int (K := K) (H := H) n
    walk_at "rd"
    refine rd_isi ki (kit_int _) ?_
    walk_at "rd"
    walk_at "if0"
    refine rd_isi ki (kit_bool _) ?_
    walk_at "rd"
    walk_at "if0"
    refine rd_decF (by omega) ?_
    walk_at "rd"
    exact k
theorem ok_row (T : Txt K mg w A) : FnOk P w K mg base CX0 1 A.f_need_row A.d_need_row ["thing"] sp_row := by
  refine T.c_need_row.F.ok sc_need_row (fun vs H Q E h => ?_) (fun cdv Ar outer s H vs Q E hr h => ?_)
  · obtain ⟨a, xs, rfl, _⟩ := h; rfl
  · obtain ⟨a, xs, rfl, ha, hl, q⟩ := h
    refine ⟨_, (pss_cons (ps_if (pt_not (pt_val (pe_callB call_isi (by rfl) T.n_isinstance PyProof.Rows.boot_isinstance (pa_cons (pv 0) (pa_cons (pe_bltn (v := .ty "list") rfl T.n_list PyProof.Rows.boot_list rfl) pa_nil)))))
        (pss_one ps_never)
        pss_nil)
      (pss_one (ps_if (pt_cmpR op_gt (pe_callB call_len_seq (by rfl) T.n_len PySem.boot_len (pa_cons (pv 0) pa_nil)) (pe_gl rfl T.g_MOST_THINGS) (nomark _))
        (pss_one ps_never)
        pss_nil))), ?_⟩
    have S := Hs.start1 ha [] (.inl rfl)
    walk_at "st"
    walk_at "rd"
    refine rd_isi (Kin.lst ha) (kit_list _) ?_
    walk_at "rd"
    walk_at "if0"
    refine rd_decF (by omega) ?_
    walk_at "rd"
    exact q
theorem kb_lm (T : Txt K mg w A) : ∃ mv : List Value, KBn K A.d_is_whole ["thing", "least", "most"] 1 ["least", "most"] (fun us ws => us ++ ws ++ mv) (fun vs zs => vs ++ zs ++ []) := by
  refine T.c_is_whole.F.kbinds0 1 ["least", "most"] [] (fun us mv ws => us ++ ws ++ mv) (by simp) (by simp) (fun r1 r2 r3 => (r1.append r3).append r2) ?_
  intro D doc pm an cdv ct us mv ws h1 h2 h3
  match us, h1, mv, h2, ws, h3 with
  | [u], _, [], _, [y, z], _ => rfl
theorem kb_l (T : Txt K mg w A) : ∃ mv : List Value, KBn K A.d_is_whole ["thing", "least", "most"] 1 ["least"] (fun us ws => us ++ ws ++ mv) (fun vs zs => vs ++ zs ++ [.int 4096]) := by
  refine T.c_is_whole.F.kbinds0 1 ["least"] [("most", .int 4096)] (fun us mv ws => us ++ ws ++ mv) (by simp) (by simp) (fun r1 r2 r3 => (r1.append r3).append r2) ?_
  intro D doc pm an cdv ct us mv ws h1 h2 h3
  match us, h1, mv, h2, ws, h3 with
  | [u], _, [m], _, [y], _ => exact ⟨_, _, _, _, _, _, rfl, rfl, rfl⟩
theorem kb_m (T : Txt K mg w A) : ∃ mv : List Value, KBn K A.d_is_whole ["thing", "least", "most"] 1 ["most"] (fun us ws => us ++ mv ++ ws) (fun vs zs => vs ++ [.int 0] ++ zs) := by
  refine T.c_is_whole.F.kbinds0 1 ["most"] [("least", .int 0)] (fun us mv ws => us ++ mv ++ ws) (by simp) (by simp) (fun r1 r2 r3 => (r1.append r2).append r3) ?_
  intro D doc pm an cdv ct us mv ws h1 h2 h3
  match us, h1, mv, h2, ws, h3 with
  | [u], _, [m], _, [y], _ => exact ⟨_, _, _, _, _, _, rfl, rfl, rfl⟩
theorem ok_gallop (T : Txt K mg w A) : FnOk P w K mg base CX0 2 A.f_need_gallop A.d_need_gallop ["gallop"] sp_gallop := by
  have G_is_whole : FnOk P w K mg base CX0 1 A.f_is_whole A.d_is_whole ["thing", "least", "most"] (sp_whole K) := ok_is_whole T
  obtain ⟨mv, kb_is_whole_least_most⟩ := kb_lm T
  refine T.c_need_gallop.F.ok sc_need_gallop (fun vs H Q E h => ?_) (fun cdv Ar outer s H vs Q E hr h => ?_)
  · obtain ⟨g, rfl, _⟩ := h; rfl
  · obtain ⟨g, rfl, h1, h2, k⟩ := h
    refine ⟨_, (pss_one (ps_if (pt_not (pt_val (pe_callN G_is_whole (hr.mono (by decide)) rfl T.c_is_whole.m T.c_is_whole.F.kp kb_is_whole_least_most pass0 (pa_cons (pv 0) pa_nil) (pk_cons pe_int (pk_cons (pe_gl rfl T.g_MOST_GALLOP) pk_nil)))))
        (pss_one ps_never)
        pss_nil)), ?_⟩
    walk_at "st"
    walk_at "rd"
    refine ⟨rfl, rfl, .int g, 1, 64, 0, rfl, .int _ _ (by omega), ?_⟩
    rw [isWh_int, decide_eq_true h1, decide_eq_true h2]
    walk_at "rd"
    walk_at "if0"
    exact k
theorem ok_kept (T : Txt K mg w A) : FnOk P w K mg base CX0 2 A.f_is_kept A.d_is_kept ["thing", "first", "second"] sp_kept := by
  have G_is_whole : FnOk P w K mg base CX0 1 A.f_is_whole A.d_is_whole ["thing", "least", "most"] (sp_whole K) := ok_is_whole T
  obtain ⟨mv, kb_is_whole_most⟩ := kb_m T
  refine T.c_is_kept.F.ok sc_is_kept (fun vs H Q E h => ?_) (fun cdv Ar outer s H vs Q E hr h => ?_)
  · obtain ⟨x, f, g, k, rfl, _⟩ := h; rfl
  · obtain ⟨x, f, g, kk, rfl, t, k⟩ := h
    refine ⟨_, (pss_cons (ps_if (PW.pt (pw_or (pt_not (pt_val (pe_callB call_isi (by rfl) T.n_isinstance PyProof.Rows.boot_isinstance (pa_cons (pv 0) (pa_cons (pe_bltn (v := .ty "tuple") rfl T.n_tuple PyProof.Rows.boot_tuple rfl) pa_nil))))) (pw_or1 (pt_cmpR op_ne (pe_callB call_len_seq (by rfl) T.n_len PySem.boot_len (pa_cons (pv 0) pa_nil)) pe_int (nomark _)))))
        (pss_one (ps_ret pe_bl))
        pss_nil)
      (pss_one (ps_ret (pe_and (pe_callN G_is_whole (hr.mono (by decide)) rfl T.c_is_whole.m T.c_is_whole.F.kp kb_is_whole_most pass0 (pa_cons (pe_ix ix_tup (pv 0) pe_int (fun _ _ => rfl)) pa_nil) (pk_cons (pv 1) pk_nil)) (pe_one (pe_callN G_is_whole (hr.mono (by decide)) rfl T.c_is_whole.m T.c_is_whole.F.kp kb_is_whole_most pass0 (pa_cons (pe_ix ix_tup (pv 0) pe_int (fun _ _ => rfl)) pa_nil) (pk_cons (pv 2) pk_nil))))))), ?_⟩
    obtain ⟨kd, hk, hc⟩ := t.kin (K := K)
    walk_at "st"
    walk_at "rd"
    refine rd_isi hk (kit_tuple _) ?_
    rcases hc with ⟨rfl, a, xs, rfl, ha, hl, he⟩ | ⟨e1, n1⟩
    · have S := Hs.start1 ha [] (.inl rfl)
      walk_at "rd"
      walk_at "if0"
      refine rd_dec ?_ ?_ <;> intro h1
      · walk_at "rd"
        refine k false (bF ?_)
        rintro ⟨_, x, y, e, h2, _⟩
        cases e
        rw [ha] at h2
        cases h2
        simp at h1
      · obtain ⟨x, y, rfl⟩ : ∃ x y, xs = [x, y] := by
          match xs, h1 with
          | [x, y], _ => exact ⟨x, y, rfl⟩
          | [], h => simp at h
          | [_], h => simp at h
          | _ :: _ :: _ :: _, h => simp at h; omega
        walk_at "rd"
        refine ⟨rfl, rfl, x, 0, f, kk, rfl, he x (by simp), ?_⟩
        cases h2 : isWh x 0 f with
        | false =>
          walk_at "rd"
          refine k false (bF ?_)
          rintro ⟨_, x, y, e, h3, z1, z2, _⟩
          cases e
          rw [ha] at h3
          cases h3
          exact absurd ⟨z1, z2⟩ (isWh_not h2)
        | true =>
          walk_at "rd"
          walk_at "if1"
          refine ⟨rfl, rfl, y, 0, g, kk, rfl, he y (by simp), ?_⟩
          refine k _ ⟨fun h3 => ?_, ?_⟩
          · obtain ⟨i, rfl, i0, i1⟩ := isWh_val h2
            obtain ⟨j, rfl, j0, j1⟩ := isWh_val h3
            exact ⟨a, i, j, rfl, ha, i0, i1, j0, j1⟩
          · rintro ⟨_, x, y, e, h3, z1, z2, z3, z4⟩
            cases e
            rw [ha] at h3
            cases h3
            rw [isWh_int, decide_eq_true z3, decide_eq_true z4]
            rfl
    · rw [e1]
      walk_at "rd"
      refine k false (bF ?_)
      rintro ⟨a, _, _, e, h2, _⟩
      exact absurd h2 (n1 a _ e)
theorem whs : ∀ (ys : List V) (l m : Int), ∃ bs : List Bool, bs.length = ys.length ∧ (∀ (i : Nat) (y : V), ys[i]? = some y → bs[i]? = some (isWh y l m)) ∧ (bs.all id = true ↔ ∃ ns : List Int, ys = ns.map V.int ∧ ∀ n ∈ ns, l ≤ n ∧ n ≤ m)
  | [], l, m => ⟨[], rfl, fun i y h => by simp at h, ⟨fun _ => ⟨[], rfl, by simp⟩, fun _ => rfl⟩⟩
  | y :: ys, l, m => by
    obtain ⟨bs, h1, h2, h3⟩ := whs ys l m
    refine ⟨isWh y l m :: bs, by simp [h1], fun i z hi => ?_, ?_⟩
    · cases i with
      | zero => simp at hi; subst hi; simp
      | succ i => simpa using h2 i z (by simpa using hi)
    · rw [List.all_cons, Bool.and_eq_true, h3]
      constructor
      · rintro ⟨a, ns, rfl, b⟩
        obtain ⟨i, rfl, i0, i1⟩ := isWh_val a
        exact ⟨i :: ns, rfl, fun n hn => (List.mem_cons.mp hn).elim (fun z => by rw [z]; exact ⟨i0, i1⟩) (b n)⟩
      · rintro ⟨ns, e, b⟩
        match ns, e, b with
        | i :: ns, e, b =>
          simp only [List.map_cons, List.cons.injEq] at e
          obtain ⟨rfl, rfl⟩ := e
          obtain ⟨b0, b1⟩ := b i List.mem_cons_self
          exact ⟨by rw [id, isWh_int, decide_eq_true b0, decide_eq_true b1]; rfl, ns, rfl, fun n hn => b n (List.mem_cons_of_mem _ hn)⟩
theorem ints_inj : ∀ {ns ms : List Int}, ns.map V.int = ms.map V.int → ns = ms
  | [], [], _ => rfl
  | [], _ :: _, h => by simp at h
  | _ :: _, [], h => by simp at h
  | n :: ns, m :: ms, h => by
    simp only [List.map_cons, List.cons.injEq, V.int.injEq] at h
    rw [h.1, ints_inj h.2]
theorem ok_picks (T : Txt K mg w A) : FnOk P w K mg base CX0 2 A.f_are_picks A.d_are_picks ["thing", "first", "second"] sp_picks := by
  have G_is_whole : FnOk P w K mg base CX0 1 A.f_is_whole A.d_is_whole ["thing", "least", "most"] (sp_whole K) := ok_is_whole T
  obtain ⟨mv, kb_is_whole_least⟩ := kb_l T
  refine T.c_are_picks.F.ok sc_are_picks (fun vs H Q E h => ?_) (fun cdv Ar outer s H vs Q E hr h => ?_)
  · obtain ⟨x, f, g, k, rfl, _⟩ := h; rfl
  · obtain ⟨x, f, g, kk, rfl, t, k⟩ := h
    refine ⟨_, (pss_cons (ps_if (PW.pt (pw_or (pt_not (pt_val (pe_callB call_isi (by rfl) T.n_isinstance PyProof.Rows.boot_isinstance (pa_cons (pv 0) (pa_cons (pe_bltn (v := .ty "tuple") rfl T.n_tuple PyProof.Rows.boot_tuple rfl) pa_nil))))) (pw_or1 (pt_cmpR op_ne (pe_op op_mod (pe_callB call_len_seq (by rfl) T.n_len PySem.boot_len (pa_cons (pv 0) pa_nil)) pe_int) pe_int (nomark _)))))
        (pss_one (ps_ret pe_bl))
        pss_nil)
      (pss_cons (ps_if (pt_not (pt_val (pe_callB (cr_all rfl) (by rfl) T.n_all PyProof.Rows.boot_all (pa_cons (pe_lc (own := [("many", 3)]) (g := gName 3) (tt := tYes) rfl sc_are_picks.nd (pi_tup (pv 0)) (blkOk_by (N := ["thing", "first", "second", "many"]) (sc := defScope s_are_picks) (by decide +kernel)) (fun _ _ _ _ _ => (pg_name (i := 3) sc_are_picks.nd rfl (Or.inl rfl))) (fun _ _ _ _ _ => pts_nil) (fun _ _ _ _ _ => (pe_callN G_is_whole (hr.mono (by decide)) rfl T.c_is_whole.m T.c_is_whole.F.kp kb_is_whole_least pass0 (pa_cons (pv 3) pa_nil) (pk_cons pe_int pk_nil)))) pa_nil))))
        (pss_one (ps_ret pe_bl))
        pss_nil)
      (pss_one (ps_ret (pe_and (pe_cmpR op_eq (pe_callB (cr_sumT rfl) (by rfl) T.n_sum PyProof.Rows.boot_sum (pa_cons (pe_slT3 (pv 0) po_none po_none (po_some pe_int)) pa_nil)) (pv 2) (nomark _)) (pe_one (pe_cmpR op_eq (pe_callB (cr_sumT rfl) (by rfl) T.n_sum PyProof.Rows.boot_sum (pa_cons (pe_slT3 (pv 0) (po_some pe_int) po_none (po_some pe_int)) pa_nil)) (pv 1) (nomark _)))))))), ?_⟩
    obtain ⟨kd, hk, hc⟩ := t.kin (K := K)
    walk_at "st"
    walk_at "rd"
    refine rd_isi hk (kit_tuple _) ?_
    rcases hc with ⟨rfl, q, xs, rfl, hq, hl, he⟩ | ⟨e1, n1⟩
    · have S := Hs.start1 hq [] (.inl rfl)
      walk_at "rd"
      walk_at "if0"
      rename_i r hr1 hr2 hr3
      refine rd_dec ?_ ?_ <;> intro h1
      · walk_at "rd"
        refine k false _ (bF ?_) (fun _ _ e => e)
        rintro ⟨_, pk, e, h2, h3, _⟩
        cases e
        rw [hq] at h2
        cases h2
        rw [List.length_map] at hr1
        omega
      · have ev : xs.length % 2 = 0 := by omega
        walk_at "rd"
        obtain ⟨bs, b1, b2, b3⟩ := whs xs 1 4096
        refine lcw_tup (xs := xs) S (fun i acc => acc = (bs.take i).map V.bl) (by simp) (fun H' acc D S => S.tup (by walk_at "mem")) ?_ ?_
        · rintro D i x acc H1 hi rfl hD S
          have hil : i < xs.length := (List.getElem?_eq_some_iff.mp hi).1
          walk_at "lc"
          refine ⟨rfl, rfl, x, 1, 4096, kk, rfl, (he x (List.mem_of_getElem? hi)).more (.same fun b o e => S.old b o e (by simp)), ?_⟩
          refine rd_lcPut S (by walk_at "chg") hD (Rs.sz' (by simp only [List.length_map, List.length_take]; omega)) (by walk_at "sub") ?_
          rw [List.take_succ, b2 i x hi]
          simp
        · rintro D acc H1 rfl hD S
          rw [← b1, List.take_length] at S
          walk_at "rd"
          refine rd_all S (by walk_at "mem") rfl ?_
          cases hb : bs.all id with
          | false =>
            walk_at "rd"
            refine k false _ (bF ?_) S.same
            rintro ⟨_, pk, e, h2, h3, h4, _⟩
            cases e
            rw [hq] at h2
            cases h2
            have := b3.mpr ⟨pk, rfl, h4⟩
            rw [hb] at this
            cases this
          | true =>
            obtain ⟨pk, rfl, hp⟩ := b3.mp hb
            rw [List.length_map] at hl ev
            walk_at "rd"
            walk_at "if0"
            refine rd_slR3 S (by walk_at "mem") rfl (by decide) (by decide) (Rs.sz (by have := pick_le pk none (Or.inl rfl); omega)) fun p H2 hp S2 => ?_
            walk_at "rd"
            refine rd_dec ?_ ?_ <;> intro h4
            · walk_at "rd"
              refine rd_slR3 S2 (by walk_at "mem") rfl (by decide) (by decide) (Rs.sz (by have := pick_le pk (some 1) (Or.inr rfl); omega)) fun p H2 hp2 S2 => ?_
              walk_at "rd"
              refine k _ _ ⟨fun z => ⟨q, pk, rfl, hq, ev, by assumption, h4, of_decide_eq_true z⟩, ?_⟩ (by walk_at "end")
              rintro ⟨_, pk2, e, h5, _, _, _, h6⟩
              cases e
              rw [hq] at h5
              have e7 := ints_inj (by simpa using h5)
              subst e7
              exact decide_eq_true h6
            · walk_at "rd"
              refine k false _ (bF ?_) (by walk_at "end")
              rintro ⟨_, pk2, e, h5, _, _, h6, _⟩
              cases e
              rw [hq] at h5
              have e7 := ints_inj (by simpa using h5)
              subst e7
              exact h4 h6
    · rw [e1]
      walk_at "rd"
      refine k false _ (bF ?_) (fun _ _ e => e)
      rintro ⟨a, _, e, h2, _⟩
      exact absurd h2 (n1 a _ e)
end
end K30

namespace K30
open PySem L2 Rs Xc Xd
theorem ssum2 : ∀ {l : List Int}, (∀ x ∈ l, 1 ≤ x) → 0 ≤ l.sum
  | [], _ => by simp
  | x :: l, h => by
    have := ssum2 (l := l) fun z hz => h z (List.mem_cons_of_mem _ hz)
    have := h x List.mem_cons_self
    rw [List.sum_cons]
    omega
theorem len5 {xs : List V} (h : ¬ ¬ (xs.length : Int) = 5) : ∃ a b c d e, xs = [a, b, c, d, e] := by
  match xs, h with
  | [a, b, c, d, e], _ => exact ⟨a, b, c, d, e, rfl⟩
  | [], h => exact absurd (by simp) h
  | [_], h => exact absurd (by simp) h
  | [_, _], h => exact absurd (by simp) h
  | [_, _, _], h => exact absurd (by simp) h
  | [_, _, _, _], h => exact absurd (by simp) h
  | _ :: _ :: _ :: _ :: _ :: _ :: r, h => exact absurd (by simp; omega) h
theorem tup_inj {H : Hp} {a : Addr} {xs ys : List V} (h1 : H a = some (.tup xs)) (h2 : H a = some (.tup ys)) : xs = ys := by
  rw [h1] at h2
  injection h2 with h2
  injection h2
theorem Good.five {H : Hp} {p : Addr} {x1 x2 x3 x4 x5 : V} {n : Int} (hp : H p = some (.tup [x1, x2, x3, x4, x5])) (g : Good H (.ref p) n) : ∃ kq pq s m e a b pk, x1 = .int s ∧ x2 = .int m ∧ x3 = .int e ∧ x4 = .ref kq ∧ x5 = .ref pq ∧ MA H p kq pq s m e a b pk ∧ VM s m e a b pk ∧ e ≤ n := by
  obtain ⟨p', kq, pq, s, m, e, a, b, pk, e1, R, W, hn⟩ := g
  cases e1
  have := tup_inj hp R.hp
  simp only [List.cons.injEq, and_true] at this
  obtain ⟨z1, z2, z3, z4, z5⟩ := this
  exact ⟨kq, pq, s, m, e, a, b, pk, z1, z2, z3, z4, z5, R, W, hn⟩
def clampI (z : Int) : Prop := 1 ≤ z ∧ z ≤ 999999
def sp_pb : Sp := fun vs H Q _ => ∃ (n g : Int), vs = [.int n, .int g] ∧ 1 ≤ n ∧ n ≤ 4096 ∧ 1 ≤ g ∧ g ≤ 64 ∧ ∀ z : Int, 0 ≤ z → z ≤ 90 → Q (.int z) H
def sp_mb (C : Addr) : Sp := fun vs H Q E => ∃ (x : V) (g : Int), vs = [x, .int g] ∧ Th H 4 x ∧ Apart H x ∧ 1 ≤ g ∧ g ≤ 64 ∧ (Good H x 4096 → ∀ z H', clampI z → Same H H' → Q (.int z) H') ∧ (¬ Good H x 4096 → ∀ H' d, Same H H' → H' d = none → E (.ref C) (some d) (upd H' d (.xd [("at", .str "merge")])))
section
variable {P : Program} {w : World} {K : PySem.W.Frag} {mg : Str → Option Value} {base : Heap} {A : Ad} {H H0 : Hp} {MM : List Addr} {L L' F : Led} {Q : VK} {E : XK}
theorem ok_ismerge (T : Txt K mg w A) : FnOk P w K mg base CX0 3 A.f_is_merge A.d_is_merge ["thing", "most"] sp_ismerge := by
  have G_is_whole : FnOk P w K mg base CX0 1 A.f_is_whole A.d_is_whole ["thing", "least", "most"] (sp_whole K) := ok_is_whole T
  have G_is_kept : FnOk P w K mg base CX0 2 A.f_is_kept A.d_is_kept ["thing", "first", "second"] sp_kept := ok_kept T
  have G_are_picks : FnOk P w K mg base CX0 2 A.f_are_picks A.d_are_picks ["thing", "first", "second"] sp_picks := ok_picks T
  obtain ⟨mv, kb_is_whole_least_most⟩ := kb_lm T
  obtain ⟨mv2, kb_is_whole_most⟩ := kb_m T
  refine T.c_is_merge.F.ok sc_is_merge (fun vs H Q E h => ?_) (fun cdv Ar outer s H vs Q E hr h => ?_)
  · obtain ⟨x, M, rfl, _⟩ := h; rfl
  · obtain ⟨x, M, rfl, t, ap, hM0, hM, k⟩ := h
    refine ⟨_, (pss_cons (ps_if (PW.pt (pw_or (pt_not (pt_val (pe_callB call_isi (by rfl) T.n_isinstance PyProof.Rows.boot_isinstance (pa_cons (pv 0) (pa_cons (pe_bltn (v := .ty "tuple") rfl T.n_tuple PyProof.Rows.boot_tuple rfl) pa_nil))))) (pw_or1 (pt_cmpR op_ne (pe_callB call_len_seq (by rfl) T.n_len PySem.boot_len (pa_cons (pv 0) pa_nil)) pe_int (nomark _)))))
        (pss_one (ps_ret pe_bl))
        pss_nil)
      (pss_cons (ps_asg (pv 0) (pg_tup rfl (pgs_cons (pg_name (i := 2) sc_is_merge.nd rfl (Or.inl rfl)) (pgs_cons (pg_name (i := 3) sc_is_merge.nd rfl (Or.inl rfl)) (pgs_cons (pg_name (i := 4) sc_is_merge.nd rfl (Or.inl rfl)) (pgs_cons (pg_name (i := 5) sc_is_merge.nd rfl (Or.inl rfl)) (pgs_cons (pg_name (i := 6) sc_is_merge.nd rfl (Or.inl rfl)) pgs_nil)))))))
      (pss_cons (ps_if (PW.pt (pw_or (pt_not (pt_val (pe_callN G_is_whole (hr.mono (by decide)) rfl T.c_is_whole.m T.c_is_whole.F.kp kb_is_whole_least_most pass0 (pa_cons (pv 4) pa_nil) (pk_cons pe_int (pk_cons (pv 1) pk_nil))))) (pw_or1 (pt_not (pt_val (pe_callN G_is_whole (hr.mono (by decide)) rfl T.c_is_whole.m T.c_is_whole.F.kp kb_is_whole_least_most pass0 (pa_cons (pv 3) pa_nil) (pk_cons pe_int (pk_cons (pe_op op_sub (pv 4) pe_int) pk_nil))))))))
        (pss_one (ps_ret pe_bl))
        pss_nil)
      (pss_cons (ps_if (PW.pt (pw_or (pt_not (pt_val (pe_callN G_is_whole (hr.mono (by decide)) rfl T.c_is_whole.m T.c_is_whole.F.kp kb_is_whole_most pass0 (pa_cons (pv 2) pa_nil) (pk_cons (pe_op op_sub (pv 3) pe_int) pk_nil)))) (pw_or1 (pt_not (pt_val (pe_call G_is_kept (hr.mono (by decide)) rfl T.c_is_kept.m T.c_is_kept.F.kp T.c_is_kept.b .nil pass0 (pa_cons (pv 5) (pa_cons (pe_op op_sub (pv 3) (pv 2)) (pa_cons (pe_op op_sub (pv 4) (pv 3)) pa_nil)))))))))
        (pss_one (ps_ret pe_bl))
        pss_nil)
      (pss_one (ps_ret (pe_call G_are_picks (hr.mono (by decide)) rfl T.c_are_picks.m T.c_are_picks.F.kp T.c_are_picks.b .nil pass0 (pa_cons (pv 6) (pa_cons (pe_op op_sub (pe_op op_sub (pv 3) (pv 2)) (pe_ix ix_tup (pv 5) pe_int (fun _ _ => rfl))) (pa_cons (pe_op op_sub (pe_op op_sub (pv 4) (pv 3)) (pe_ix ix_tup (pv 5) pe_int (fun _ _ => rfl))) pa_nil)))))))))), ?_⟩
    obtain ⟨kd, hk, hc⟩ := t.kin (K := K)
    walk_at "st"
    walk_at "rd"
    refine rd_isi hk (kit_tuple _) ?_
    rcases hc with ⟨rfl, p, xs, rfl, hp, hl, _⟩ | ⟨e1, n1⟩
    · have S := Hs.start1 hp [] (.inl rfl)
      have he := t.part hp
      walk_at "rd"
      walk_at "if0"
      refine rd_dec ?_ ?_ <;> intro h1
      · walk_at "rd"
        refine k false _ (bF ?_) (fun _ _ e => e)
        rintro ⟨_, _, _, _, _, _, _, _, _, e, R, _⟩
        cases e
        have := tup_inj hp R.hp
        subst this
        simp at h1
      · obtain ⟨x1, x2, x3, x4, x5, rfl⟩ := len5 h1
        walk_at "rd"
        refine ⟨rfl, rfl, x3, 2, M, _, rfl, he x3 (by simp), ?_⟩
        cases h3 : isWh x3 2 M with
        | false =>
          walk_at "rd"
          refine k false _ (bF fun g => ?_) (fun _ _ e => e)
          obtain ⟨kq, pq, s, m, e, a, b, pk, rfl, rfl, rfl, rfl, rfl, R, W, hn⟩ := g.five hp
          have := W.sm; have := W.me; have := W.s0
          exact isWh_not h3 ⟨by omega, hn⟩
        | true =>
          obtain ⟨e, rfl, e0, e1⟩ := isWh_val h3
          walk_at "rd"
          walk_at "if0"
          refine ⟨rfl, rfl, x2, 1, e - 1, _, rfl, he x2 (by simp), ?_⟩
          cases h2 : isWh x2 1 (e - 1) with
          | false =>
            walk_at "rd"
            refine k false _ (bF fun g => ?_) (fun _ _ e => e)
            obtain ⟨kq, pq, s, m, e', a, b, pk, rfl, rfl, q, rfl, rfl, R, W, hn⟩ := g.five hp
            cases q
            have := W.sm; have := W.me; have := W.s0
            exact isWh_not h2 ⟨by omega, by omega⟩
          | true =>
            obtain ⟨m, rfl, m0, m1⟩ := isWh_val h2
            walk_at "rd"
            walk_at "if0"
            refine ⟨rfl, rfl, x1, 0, m - 1, _, rfl, he x1 (by simp), ?_⟩
            cases h5 : isWh x1 0 (m - 1) with
            | false =>
              walk_at "rd"
              refine k false _ (bF fun g => ?_) (fun _ _ e => e)
              obtain ⟨kq, pq, s, m', e', a, b, pk, rfl, q2, q, rfl, rfl, R, W, hn⟩ := g.five hp
              cases q
              cases q2
              have := W.sm; have := W.me; have := W.s0
              exact isWh_not h5 ⟨by omega, by omega⟩
            | true =>
              obtain ⟨s, rfl, s0, s1⟩ := isWh_val h5
              walk_at "rd"
              walk_at "if0"
              refine ⟨x4, m - s, e - m, _, rfl, he x4 (by simp), fun bk hbk => ?_⟩
              cases bk with
              | false =>
                walk_at "rd"
                refine k false _ (bF fun g => ?_) (fun _ _ e => e)
                obtain ⟨kq, pq, s', m', e', a, b, pk, q3, q2, q, rfl, rfl, R, W, hn⟩ := g.five hp
                cases q
                cases q2
                cases q3
                have := hbk.mpr ⟨kq, a, b, rfl, R.hk, W.a0, W.am, W.b0, W.bm⟩
                cases this
              | true =>
                obtain ⟨kq, a, b, rfl, hkq, a0, a1, b0, b1⟩ := hbk.mp rfl
                have npk : p ≠ kq := ne_of hp hkq (by intro z; cases z)
                have S2 : Hs H [] H [(p, .tup [.int s, .int m, .int e, .ref kq, x5]), (kq, .tup [.int a, .int b])] := by
                  refine Hs.start H [] _ (by simp [npk]) ?_ (fun b hb => nomatch hb)
                  intro q hq
                  simp only [List.mem_cons, List.not_mem_nil, or_false] at hq
                  rcases hq with rfl | rfl
                  · exact hp
                  · exact hkq
                clear S
                walk_at "rd"
                walk_at "if0"
                refine ⟨x5, m - s - a, e - m - b, _, rfl, he x5 (by simp), fun bp H' hbp sm => ?_⟩
                refine k bp H' ⟨fun z => ?_, fun g => ?_⟩ sm
                · obtain ⟨pq, pk, rfl, hpq, c1, c2, c3, c4⟩ := hbp.mp z
                  have hl2 : pk.length ≤ 20 := by
                    have h7 := he (.ref pq) (by simp)
                    cases h7 with
                    | tup _ _ ys h l _ =>
                      have := tup_inj h hpq
                      subst this
                      simpa using l
                    | lst _ _ ys h l _ => rw [h] at hpq; cases hpq
                  exact ⟨p, kq, pq, s, m, e, a, b, pk, rfl, ⟨hp, hkq, hpq, ap p _ _ _ kq pq rfl hp⟩, ⟨s0, by omega, by omega, by omega, a0, b0, a1, b1, c1, c2, by omega, c3, c4⟩, e1⟩
                · obtain ⟨kq', pq, s', m', e', a', b', pk, q3, q2, q, q4, rfl, R, W, hn⟩ := g.five hp
                  cases q
                  cases q2
                  cases q3
                  cases q4
                  have h8 := tup_inj hkq R.hk
                  simp only [List.cons.injEq, V.int.injEq, and_true] at h8
                  obtain ⟨rfl, rfl⟩ := h8
                  exact hbp.mpr ⟨pq, pk, rfl, R.hq, W.ev, W.pos, W.sec, W.fst⟩
    · rw [e1]
      walk_at "rd"
      refine k false _ (bF ?_) (fun _ _ e => e)
      rintro ⟨a, _, _, _, _, _, _, _, _, e, R, _⟩
      exact absurd R.hp (n1 a _ e)
theorem kb_mm (T : Txt K mg w A) : ∃ mv : List Value, KBn K A.d_is_merge ["thing", "most"] 1 ["most"] (fun us ws => us ++ ws ++ mv) (fun vs zs => vs ++ zs ++ []) := by
  refine T.c_is_merge.F.kbinds0 1 ["most"] [] (fun us mv ws => us ++ ws ++ mv) (by simp) (by simp) (fun r1 r2 r3 => (r1.append r3).append r2) ?_
  intro D doc pm an cdv ct us mv ws h1 h2 h3
  match us, h1, mv, h2, ws, h3 with
  | [u], _, [], _, [y], _ => rfl
theorem ok_needmerge (T : Txt K mg w A) : FnOk P w K mg base (L2.CX P w) 4 A.f_need_merge A.d_need_merge ["thing", "most"] (sp_needmerge A.C_BadPaper) := by
  have G_is_merge : FnOk P w K mg base CX0 3 A.f_is_merge A.d_is_merge ["thing", "most"] sp_ismerge := ok_ismerge T
  have G_BadPaper : FnOk P w K mg base CX0 1 A.f_BadPaper___init__ A.d_BadPaper___init__ ["self", "at"] (Xc.spInit1 A.C_BadPaper "at") := ok_xBadPaper T
  obtain ⟨mv, kb_is_merge_most⟩ := kb_mm T
  refine T.c_need_merge.F.ok sc_need_merge (fun vs H Q E h => ?_) (fun cdv Ar outer s H vs Q E hr h => ?_)
  · obtain ⟨x, M, rfl, _⟩ := h; rfl
  · obtain ⟨x, M, rfl, t, ap, hM0, hM, k1, k2⟩ := h
    refine ⟨_, (pss_one (ps_if (pt_not (pt_val (pe_callN G_is_merge (hr.mono (by decide)) rfl T.c_is_merge.m T.c_is_merge.F.kp kb_is_merge_most pass0 (pa_cons (pv 0) pa_nil) (pk_cons (pv 1) pk_nil))))
        (pss_one (ps_raise rfl (takes_of rfl rfl rfl rfl) (Xc.pmk_own T.o_BadPaper T.i_BadPaper T.y_BadPaper G_BadPaper (hr.mono (by decide)) T.c_BadPaper___init__.b .nil pass0 rfl T.m_BadPaper (pa_cons pe_str pa_nil))))
        pss_nil)), ?_⟩
    walk_at "st"
    walk_at "rd"
    refine ⟨rfl, rfl, x, M, rfl, t, ap, hM0, hM, fun b H' hb sm => ?_⟩
    cases b with
    | true =>
      walk_at "rd"
      walk_at "if0"
      exact k1 (hb.mp rfl) H' sm
    | false =>
      walk_at "rd"
      walk_at "if1"
      exact Xc.rd_mk1 fun d hd => k2 (fun g => by cases hb.mpr g) H' d sm hd
theorem bits_le {n : Int} (h0 : 0 ≤ n) (h1 : n ≤ 4096) : ((Builtin.Int.intBits n : Nat) : Int) ≤ 13 ∧ (1 ≤ n → 1 ≤ ((Builtin.Int.intBits n : Nat) : Int)) := by
  obtain ⟨k, rfl⟩ := Int.eq_ofNat_of_zero_le h0
  unfold Builtin.Int.intBits
  simp only [Int.natAbs_natCast]
  by_cases z : k = 0
  · subst z; decide
  · have e1 : ¬ (k : Int) = 0 := by omega
    have h3 := (Nat.log2_lt z (k := 13)).mpr (by omega)
    simp [beq_iff_eq, e1]
    rw [if_neg z]
    omega
theorem ok_pb (T : Txt K mg w A) : FnOk P w K mg base CX0 2 A.f_pick_bound A.d_pick_bound ["many", "gallop"] sp_pb := by
  have G_bits : FnOk P w K mg base CX0 1 A.f_bits A.d_bits ["number"] sp_bits := ok_bits T
  refine T.c_pick_bound.F.ok sc_pick_bound (fun vs H Q E h => ?_) (fun cdv Ar outer s H vs Q E hr h => ?_)
  · obtain ⟨n, g, rfl, _⟩ := h; rfl
  · obtain ⟨n, g, rfl, n0, n1, g0, g1, k⟩ := h
    refine ⟨_, (pss_one (ps_ret (pe_ifExp (pt_cmpR op_lt (pv 0) (pv 1) (nomark _)) (pv 0) (pe_op op_add (pv 1) (pe_op op_mul pe_int (pe_call G_bits (hr.mono (by decide)) rfl T.c_bits.m T.c_bits.F.kp T.c_bits.b .nil pass0 (pa_cons (pe_callB (call_max2 rfl) (by rfl) T.n_max PyProof.Rows.boot_max (pa_cons pe_int (pa_cons (pe_op op_sub (pv 0) (pv 1)) pa_nil))) pa_nil))))))), ?_⟩
    walk_at "st"
    walk_at "rd"
    refine rd_dec ?_ ?_ <;> intro hc
    · walk_at "rd"
      exact k n (by omega) (by omega)
    · walk_at "rd"
      have hx : 1 ≤ (if n - g > 1 then n - g else 1) ∧ (if n - g > 1 then n - g else 1) ≤ 4096 := by split <;> omega
      refine ⟨if n - g > 1 then n - g else 1, rfl, by omega, ?_⟩
      generalize (if n - g > 1 then n - g else 1) = y at hx
      have := bits_le (n := y) (by omega) (by omega)
      walk_at "rd"
      exact k _ (by omega) (by omega)
theorem b_nm (T : Txt K mg w A) : ∃ ds : List Value, Vals [V.int 4096] ds ∧ Binds K A.d_need_merge ["thing", "most"] ds := by
  refine T.c_need_merge.F.binds0 1 (by simp) (by simp) ?_
  intro D doc pm an cdv ct us ks h1 h2
  match us, h1, ks, h2 with
  | [u], _, [m], _ => exact ⟨_, _, _, _, _, _, rfl, rfl, rfl⟩
theorem ints_of {acc : List V} (h : ∀ v ∈ acc, ∃ z : Int, v = .int z ∧ 0 ≤ z ∧ z ≤ 90) : ∃ ns : List Int, acc = ns.map V.int ∧ 0 ≤ ns.sum ∧ ns.sum ≤ 90 * ns.length := by
  induction acc with
  | nil => exact ⟨[], rfl, by simp, by simp⟩
  | cons v acc ih =>
    obtain ⟨ns, rfl, a, b⟩ := ih fun v hv => h v (List.mem_cons_of_mem _ hv)
    obtain ⟨z, rfl, c, d⟩ := h v List.mem_cons_self
    refine ⟨z :: ns, rfl, ?_, ?_⟩
    · rw [List.sum_cons]; omega
    · rw [List.sum_cons, List.length_cons]; omega
theorem rd_slTn {a : Addr} {xs ys : List V} {lo hi : Option Int} (S : Hs H0 MM H L) (m : (a, HO.tup xs) ∈ L) (w : ¬ (HT.sIx xs.length 0 lo = 0 ∧ HT.sIx xs.length xs.length hi = xs.length)) (e : cutV xs lo hi = ys) (h : ∀ p H', H0 p = none → Hs H0 MM H' ((p, .tup ys) :: L) → Q (.ref p) H') : rSlA K (.ref a) lo hi H Q := by
  subst e
  exact ⟨a, xs, rfl, S.tup m, fun z => absurd z w, fun _ => rd_newO S h⟩
theorem ok_mb (T : Txt K mg w A) : FnOk P w K mg base (L2.CX P w) 5 A.f_merge_bound A.d_merge_bound ["merge", "gallop"] (sp_mb A.C_BadPaper) := by
  have G_need_merge : FnOk P w K mg base (L2.CX P w) 4 A.f_need_merge A.d_need_merge ["thing", "most"] (sp_needmerge A.C_BadPaper) := ok_needmerge T
  have G_need_gallop : FnOk P w K mg base CX0 2 A.f_need_gallop A.d_need_gallop ["gallop"] sp_gallop := ok_gallop T
  have G_bits : FnOk P w K mg base CX0 1 A.f_bits A.d_bits ["number"] sp_bits := ok_bits T
  have G_pick_bound : FnOk P w K mg base CX0 2 A.f_pick_bound A.d_pick_bound ["many", "gallop"] sp_pb := ok_pb T
  obtain ⟨ds, d_need_merge, b_need_merge⟩ := b_nm T
  refine T.c_merge_bound.F.ok sc_merge_bound (fun vs H Q E h => ?_) (fun cdv Ar outer s H vs Q E hr h => ?_)
  · obtain ⟨x, g, rfl, _⟩ := h; rfl
  · obtain ⟨x, g, rfl, t, ap, g1, g2, k1, k2⟩ := h
    refine ⟨_, (pss_cons (ps_expr (pe_call G_need_merge (hr.mono (by decide)) rfl T.c_need_merge.m T.c_need_merge.F.kp b_need_merge d_need_merge (passes_call (takes_of rfl rfl rfl rfl) fun _ _ _ _ z => z) (pa_cons (pv 0) pa_nil)))
      (pss_cons (ps_expr (pe_call G_need_gallop (hr.mono (by decide)) rfl T.c_need_gallop.m T.c_need_gallop.F.kp T.c_need_gallop.b .nil pass0 (pa_cons (pv 1) pa_nil)))
      (pss_cons (ps_asg (pe_slice sl_tupA (pv 0) (po_some pe_int) po_none) (pg_tup rfl (pgs_cons (pg_name (i := 2) sc_merge_bound.nd rfl (Or.inl rfl)) (pgs_cons (pg_name (i := 3) sc_merge_bound.nd rfl (Or.inl rfl)) pgs_nil))))
      (pss_one (ps_ret (pe_callBK (cr_sumK rfl) (by rfl) T.n_sum PyProof.Rows.boot_sum (pa_cons (pe_lc (own := [("many", 4)]) (g := gName 4) (tt := tYes) rfl sc_merge_bound.nd (pi_tup (pv 2)) (blkOk_by (N := ["merge", "gallop", "kept", "picks", "many"]) (sc := defScope s_merge_bound) (by decide +kernel)) (fun _ _ _ _ _ => (pg_name (i := 4) sc_merge_bound.nd rfl (Or.inl rfl))) (fun _ _ _ _ _ => pts_nil) (fun _ _ _ _ _ => (pe_op op_mul pe_int (pe_call G_bits (hr.mono (by decide)) rfl T.c_bits.m T.c_bits.F.kp T.c_bits.b .nil pass0 (pa_cons (pe_callB (call_max2 rfl) (by rfl) T.n_max PyProof.Rows.boot_max (pa_cons pe_int (pa_cons (pv 4) pa_nil))) pa_nil))))) pa_nil) (pk_cons (pe_callB (cr_sum rfl) (by rfl) T.n_sum PyProof.Rows.boot_sum (pa_cons (pe_lc (own := [("many", 4)]) (g := gName 4) (tt := tYes) rfl sc_merge_bound.nd (pi_tup (pv 3)) (blkOk_by (N := ["merge", "gallop", "kept", "picks", "many"]) (sc := defScope s_merge_bound) (by decide +kernel)) (fun _ _ _ _ _ => (pg_name (i := 4) sc_merge_bound.nd rfl (Or.inl rfl))) (fun _ _ _ _ _ => pts_nil) (fun _ _ _ _ _ => (pe_call G_pick_bound (hr.mono (by decide)) rfl T.c_pick_bound.m T.c_pick_bound.F.kp T.c_pick_bound.b .nil pass0 (pa_cons (pv 4) (pa_cons (pv 1) pa_nil))))) pa_nil)) pk_nil))))))), ?_⟩
    walk_at "st"
    walk_at "rd"
    refine ⟨x, 4096, rfl, t, ap, by decide, by decide, fun gd H1 sm => ?_, fun ng H' d sm hd => k2 ng H' d sm hd⟩
    replace k1 := k1 gd
    obtain ⟨p, kq, pq, s, m, e, a, b, pk, rfl, R, W, hn⟩ := gd
    have S := R.led
    have S1 := S.more sm
    clear S
    have := W.a0; have := W.b0; have := W.am; have := W.bm; have := W.s0; have := W.sm; have := W.me; have := W.e1; have hlen := W.len
    walk_at "rd"
    refine ⟨g, rfl, g1, g2, ?_⟩
    walk_at "rd"
    refine rd_slTn (ys := [.ref kq, .ref pq]) S1 (by walk_at "mem") (by simp [HT.sIx]) rfl fun q H2 hq S2 => ?_
    clear S1
    walk_at "rd"
    refine lcw_tup (xs := [V.int a, V.int b]) S2 (fun i acc => acc.length = i ∧ ∀ v ∈ acc, ∃ z : Int, v = .int z ∧ 2 ≤ z ∧ z ≤ 26) ⟨rfl, by simp⟩ (fun H' acc D S => S.tup (by walk_at "mem")) ?_ ?_
    · rintro D i x acc H3 hi ⟨hl, hv⟩ hD S
      have hi2 : i < 2 := (List.getElem?_eq_some_iff.mp hi).1
      obtain ⟨z, rfl, z0, z1⟩ : ∃ z : Int, x = .int z ∧ 0 ≤ z ∧ z ≤ 4096 := by
        have hx := List.mem_of_getElem? hi
        simp only [List.mem_cons, List.not_mem_nil, or_false] at hx
        rcases hx with rfl | rfl
        · exact ⟨a, rfl, by omega, by omega⟩
        · exact ⟨b, rfl, by omega, by omega⟩
      have hx : 1 ≤ (if z > 1 then z else 1) ∧ (if z > 1 then z else 1) ≤ 4096 := by split <;> omega
      walk_at "lc"
      refine ⟨if z > 1 then z else 1, rfl, by omega, ?_⟩
      generalize (if z > 1 then z else 1) = y at hx
      have hb := bits_le (n := y) (by omega) (by omega)
      have hb2 := hb.2 hx.1
      walk_at "rd"
      refine rd_lcPut S (by walk_at "chg") hD (Rs.sz' (by omega)) (by walk_at "sub") ⟨by simp [hl], fun v hv2 => ?_⟩
      rcases List.mem_append.mp hv2 with h9 | h9
      · exact hv v h9
      · exact ⟨_, by simpa using h9, by omega, by omega⟩
    · rintro D acc H3 ⟨hl, hv⟩ hD S
      obtain ⟨y1, y2, rfl, c1, c2, c3, c4⟩ : ∃ y1 y2 : Int, acc = [.int y1, .int y2] ∧ 2 ≤ y1 ∧ y1 ≤ 26 ∧ 2 ≤ y2 ∧ y2 ≤ 26 := by
        match acc, hl, hv with
        | [u, v], _, hv =>
          obtain ⟨z1, rfl, c1, c2⟩ := hv u (by simp)
          obtain ⟨z2, rfl, c3, c4⟩ := hv v (by simp)
          exact ⟨z1, z2, rfl, c1, c2, c3, c4⟩
      walk_at "rd"
      refine lcw_tup (xs := pk.map V.int) S (fun i acc => acc.length = i ∧ ∀ v ∈ acc, ∃ z : Int, v = .int z ∧ 0 ≤ z ∧ z ≤ 90) ⟨rfl, by simp⟩ (fun H' acc D S => S.tup (by walk_at "mem")) ?_ ?_
      · rintro D2 i x acc H4 hi ⟨hl2, hv2⟩ hD2 S4
        have hx := List.mem_of_getElem? hi
        have hil := (List.getElem?_eq_some_iff.mp hi).1
        rw [List.length_map] at hil
        obtain ⟨z, hz, rfl⟩ := List.mem_map.mp hx
        have hzz := W.pos z hz
        walk_at "lc"
        refine ⟨z, g, rfl, hzz.1, hzz.2, g1, g2, fun u u0 u1 => ?_⟩
        refine rd_lcPut S4 (by walk_at "chg") hD2 (Rs.sz' (by omega)) (by walk_at "sub") ⟨by simp [hl2], fun v hv3 => ?_⟩
        rcases List.mem_append.mp hv3 with h9 | h9
        · exact hv2 v h9
        · exact ⟨u, by simpa using h9, u0, u1⟩
      · rintro D2 acc H4 ⟨hl2, hv2⟩ hD2 S4
        obtain ⟨ns, rfl, n0, n1⟩ := ints_of hv2
        rw [List.length_map, List.length_map] at hl2
        walk_at "rd"
        refine rd_sumK (xs := [V.int y1, V.int y2]) (ns := [y1, y2]) S4 (by walk_at "mem") rfl ?_
        have e1 : ([y1, y2] : List Int).sum = y1 + y2 := by simp
        rw [e1]
        exact k1 _ _ (by unfold clampI; omega) S4.same
theorem ok_ng (T : Txt K mg w A) : FnOk P w K mg base (L2.CX P w) 5 A.f_next_gallop A.d_next_gallop ["merge", "gallop"] (sp_mb A.C_BadPaper) := by
  have G_need_merge : FnOk P w K mg base (L2.CX P w) 4 A.f_need_merge A.d_need_merge ["thing", "most"] (sp_needmerge A.C_BadPaper) := ok_needmerge T
  have G_need_gallop : FnOk P w K mg base CX0 2 A.f_need_gallop A.d_need_gallop ["gallop"] sp_gallop := ok_gallop T
  obtain ⟨ds, d_need_merge, b_need_merge⟩ := b_nm T
  refine T.c_next_gallop.F.ok sc_next_gallop (fun vs H Q E h => ?_) (fun cdv Ar outer s H vs Q E hr h => ?_)
  · obtain ⟨x, g, rfl, _⟩ := h; rfl
  · obtain ⟨x, g, rfl, t, ap, g1, g2, k1, k2⟩ := h
    refine ⟨_, (pss_cons (ps_expr (pe_call G_need_merge (hr.mono (by decide)) rfl T.c_need_merge.m T.c_need_merge.F.kp b_need_merge d_need_merge (passes_call (takes_of rfl rfl rfl rfl) fun _ _ _ _ z => z) (pa_cons (pv 0) pa_nil)))
      (pss_cons (ps_expr (pe_call G_need_gallop (hr.mono (by decide)) rfl T.c_need_gallop.m T.c_need_gallop.F.kp T.c_need_gallop.b .nil pass0 (pa_cons (pv 1) pa_nil)))
      (pss_cons (ps_set (i := 2) sc_next_gallop.nd rfl (Or.inl rfl) (pe_callBK (cr_maxDT rfl) (by rfl) T.n_max PyProof.Rows.boot_max (pa_cons (pe_ix ix_tup (pv 0) pe_int (fun _ _ => rfl)) pa_nil) (pk_cons pe_int pk_nil)))
      (pss_cons (ps_if (pt_cmpR op_ge (pv 2) (pe_op op_add (pv 1) (pe_gl rfl T.g_GALLOP)) (nomark _))
        (pss_one (ps_ret (pe_callB (call_max2 rfl) (by rfl) T.n_max PyProof.Rows.boot_max (pa_cons pe_int (pa_cons (pe_op op_sub (pv 1) pe_int) pa_nil)))))
        pss_nil)
      (pss_one (ps_ret (pe_ifExp (pt_cmpR op_gt (pv 2) (pv 1) (nomark _)) (pe_callB (call_min2 rfl) (by rfl) T.n_min PyProof.Rows.boot_min (pa_cons (pe_gl rfl T.g_MOST_GALLOP) (pa_cons (pe_op op_add (pv 1) pe_int) pa_nil))) (pv 1)))))))), ?_⟩
    walk_at "st"
    walk_at "rd"
    refine ⟨x, 4096, rfl, t, ap, by decide, by decide, fun gd H1 sm => ?_, fun ng H' d sm hd => k2 ng H' d sm hd⟩
    replace k1 := k1 gd
    obtain ⟨p, kq, pq, s, m, e, a, b, pk, rfl, R, W, hn⟩ := gd
    have S := R.led
    have S1 := S.more sm
    clear S
    walk_at "rd"
    refine ⟨g, rfl, g1, g2, ?_⟩
    have e4 : atI [V.int s, V.int m, V.int e, V.ref kq, V.ref pq] 4 = some (V.ref pq) := atI_nat (j := 4) rfl
    walk_at "rd"
    refine rd_dec ?_ ?_ <;> intro hc
    · walk_at "rd"
      exact k1 _ _ (by unfold clampI; split <;> omega) sm
    · walk_at "rd"
      refine rd_dec ?_ ?_ <;> intro hd
      · walk_at "rd"
        exact k1 _ _ (by unfold clampI; split <;> omega) sm
      · walk_at "rd"
        exact k1 _ _ (by unfold clampI; omega) sm
end
end K30

namespace K30
open PySem L2 Rs Xc Xd
theorem VM.fit {s m e a b : Int} {pk : List Int} (W : VM s m e a b pk) {n : Nat} (hn : e ≤ n) : Fit (pk.map Int.toNat) (s + a).toNat m.toNat (e - b).toNat n := by
  obtain ⟨w1, w2, w3, w4, w5, w6, w7, w8, w9, w10, w11, w12, w13⟩ := W
  obtain ⟨q1, q2⟩ := ssum_pick pk fun z hz => by have := w10 z hz; omega
  exact ⟨by omega, by omega, by omega, by omega, by omega⟩
theorem MA.ledR {H : Hp} {p kq pq r : Addr} {s m e a b : Int} {pk : List Int} {xs : List V} (R : MA H p kq pq s m e a b pk) (hr : H r = some (.lst xs)) : Hs H [r] H [(r, .lst xs), (p, .tup [.int s, .int m, .int e, .ref kq, .ref pq]), (kq, .tup [.int a, .int b]), (pq, .tup (pk.map V.int))] := by
  have S := R.led
  have h1 : r ≠ p := ne_of hr R.hp (by intro z; cases z)
  have h2 : r ≠ kq := ne_of hr R.hk (by intro z; cases z)
  have h3 : r ≠ pq := ne_of hr R.hq (by intro z; cases z)
  refine Hs.start H [r] _ ?_ ?_ (fun b hb => by obtain rfl : b = r := by simpa using hb
                                                rw [hr]; simp)
  · rw [List.map_cons, List.nodup_cons]
    exact ⟨by simp [h1, h2, h3], S.nd⟩
  · intro q hq
    rcases List.mem_cons.mp hq with rfl | hq
    · exact hr
    · exact S.is q hq
theorem MA.old {H H' : Hp} {p kq pq r : Addr} {s m e a b : Int} {pk : List Int} {xs : List V} (R : MA H p kq pq s m e a b pk) (hr : H r = some (.lst xs)) (k : ∀ x o, H x = some o → x ≠ r → H' x = some o) : MA H' p kq pq s m e a b pk := by
  have h1 : p ≠ r := fun z => (ne_of hr R.hp (by intro z; cases z)) z.symm
  have h2 : kq ≠ r := fun z => (ne_of hr R.hk (by intro z; cases z)) z.symm
  have h3 : pq ≠ r := fun z => (ne_of hr R.hq (by intro z; cases z)) z.symm
  exact ⟨k _ _ R.hp h1, k _ _ R.hk h2, k _ _ R.hq h3, R.ne⟩
theorem MA.same {H H' : Hp} {p kq pq : Addr} {s m e a b : Int} {pk : List Int} (R : MA H p kq pq s m e a b pk) (k : Same H H') : MA H' p kq pq s m e a b pk :=
  ⟨k _ _ R.hp, k _ _ R.hk, k _ _ R.hq, R.ne⟩
theorem drop_more {pk : List Int} {i : Nat} {x : V} (h : (pk.map V.int)[i]? = some x) : ∃ z, x = .int z ∧ (pk.map Int.toNat).drop i = z.toNat :: (pk.map Int.toNat).drop (i + 1) ∧ z ∈ pk ∧ i < pk.length := by
  obtain ⟨hl, e⟩ := List.getElem?_eq_some_iff.mp h
  rw [List.length_map] at hl
  rw [List.getElem_map] at e
  refine ⟨pk[i], e.symm, ?_, List.getElem_mem hl, hl⟩
  rw [List.drop_eq_getElem_cons (by rw [List.length_map]; exact hl), List.getElem_map]
def sp_moved : Sp := fun vs H Q _ => ∃ (r p kq pq : Addr) (s m e a b : Int) (pk : List Int) (xs : List V), vs = [.ref r, .ref p] ∧ MA H p kq pq s m e a b pk ∧ VM s m e a b pk ∧ H r = some (.lst xs) ∧ xs.length ≤ 4096 ∧
  ∀ q H', H q = none → H' q = some (.lst (mix (pk.map Int.toNat) (xs.drop m.toNat) (xs.drop (s + a).toNat))) → Same H H' → Q (.ref q) H'
def sp_fwd (C : Addr) : Sp := fun vs H Q E => ∃ (r : Addr) (x : V) (xs : List V), vs = [.ref r, x] ∧ H r = some (.lst xs) ∧ xs.length ≤ 4096 ∧ Th H 4 x ∧ Apart H x ∧
  (∀ p kq pq s m e a b pk, x = .ref p → MA H p kq pq s m e a b pk → VM s m e a b pk → e ≤ xs.length → ∀ H', H' r = some (.lst (fwd (pk.map Int.toNat) (s + a).toNat m.toNat (e - b).toNat xs)) → (∀ x o, H x = some o → x ≠ r → H' x = some o) → Q .non H') ∧
  (¬ Good H x xs.length → ∀ H' d, Same H H' → H' d = none → E (.ref C) (some d) (upd H' d (.xd [("at", .str "merge")])))
def sp_bck (C : Addr) : Sp := fun vs H Q E => ∃ (r : Addr) (x : V) (xs : List V), vs = [.ref r, x] ∧ H r = some (.lst xs) ∧ xs.length ≤ 4096 ∧ Th H 4 x ∧ Apart H x ∧
  (∀ p kq pq s m e a b pk, x = .ref p → MA H p kq pq s m e a b pk → VM s m e a b pk → e ≤ xs.length → ∀ H', H' r = some (.lst (bck (pk.map Int.toNat) (s + a).toNat (e - b).toNat xs)) → (∀ x o, H x = some o → x ≠ r → H' x = some o) → Q .non H') ∧
  (¬ Good H x xs.length → ∀ H' d, Same H H' → H' d = none → E (.ref C) (some d) (upd H' d (.xd [("at", .str "merge")])))
theorem cutI_run (xs : List V) {x : Nat} {z : Int} (hz : 0 ≤ z) : cutV xs (some (x : Int)) (some ((x : Int) + z)) = (xs.drop x).take z.toNat := by
  have e : ((x : Int) + z) = ((x + z.toNat : Nat) : Int) := by omega
  rw [e, cut_run]
theorem par_next (i : Nat) : ((i : Int) % 2 = 0 ∧ i % 2 = 0 ∧ (i + 1) % 2 = 1) ∨ ((i : Int) % 2 = 1 ∧ i % 2 = 1 ∧ (i + 1) % 2 = 0) := by omega
section
variable {P : Program} {w : World} {K : PySem.W.Frag} {mg : Str → Option Value} {base : Heap} {A : Ad}
theorem ok_moved (T : Txt K mg w A) : FnOk P w K mg base CX0 5 A.f_moved_things A.d_moved_things ["row", "merge"] sp_moved := by
  refine T.c_moved_things.F.ok sc_moved_things (fun vs H Q E h => ?_) (fun cdv Ar outer s H vs Q E hr h => ?_)
  · obtain ⟨r, p, kq, pq, s, m, e, a, b, pk, xs, rfl, _⟩ := h; rfl
  · obtain ⟨r, p, kq, pq, s, m, e, a, b, pk, xs, rfl, R, W, hx, hl, k⟩ := h
    obtain ⟨w1, w2, w3, w4, w5, w6, w7, w8, w9, w10, w11, w12, w13⟩ := W
    refine ⟨_, (pss_cons (ps_par (i := 2) (j := 3) rfl sc_moved_things.nd rfl rfl (by decide) rfl rfl (pa_cons (pe_op op_add (pe_ix ix_tup (pv 1) pe_int (fun _ _ => rfl)) (pe_ix ix_tup (pe_ix ix_tup (pv 1) pe_int (fun _ _ => rfl)) pe_int (fun _ _ => rfl))) (pa_cons (pe_ix ix_tup (pv 1) pe_int (fun _ _ => rfl)) pa_nil)) (by rfl))
      (pss_cons (ps_set (i := 4) sc_moved_things.nd rfl (Or.inl rfl) (pe_lst pa_nil))
      (pss_cons (ps_for PassesOwn.never rfl (Xd.pi_enT (by rfl) T.n_enumerate (pa_cons (pe_ix ix_tup (pv 1) pe_int (fun _ _ => rfl)) pa_nil)) (pg_tup rfl (pgs_cons (pg_name (i := 5) sc_moved_things.nd rfl (Or.inl rfl)) (pgs_cons (pg_name (i := 6) sc_moved_things.nd rfl (Or.inl rfl)) pgs_nil)))
        (pss_one (ps_if (pt_cmpR op_eq (pe_op op_mod (pv 5) pe_int) pe_int (nomark _))
          (pss_cons (ps_aug (i := 4) sc_moved_things.nd rfl (Or.inl rfl) (pe_slice sl_list (pv 0) (po_some (pv 3)) (po_some (pe_op op_add (pv 3) (pv 6)))) Xd.ip_ext)
          (pss_one (ps_aug (i := 3) sc_moved_things.nd rfl (Or.inl rfl) (pv 6) ip_add)))
          (pss_cons (ps_aug (i := 4) sc_moved_things.nd rfl (Or.inl rfl) (pe_slice sl_list (pv 0) (po_some (pv 2)) (po_some (pe_op op_add (pv 2) (pv 6)))) Xd.ip_ext)
          (pss_one (ps_aug (i := 2) sc_moved_things.nd rfl (Or.inl rfl) (pv 6) ip_add))))))
      (pss_one (ps_ret (pv 4)))))), ?_⟩
    have e3 : atI [V.int s, V.int m, V.int e, V.ref kq, V.ref pq] 3 = some (V.ref kq) := atI_nat (j := 3) rfl
    have e4 : atI [V.int s, V.int m, V.int e, V.ref kq, V.ref pq] 4 = some (V.ref pq) := atI_nat (j := 4) rfl
    have S0 := R.ledR hx
    have S : Hs H [] H [(r, .lst xs), (p, .tup [.int s, .int m, .int e, .ref kq, .ref pq]), (kq, .tup [.int a, .int b]), (pq, .tup (pk.map V.int))] := ⟨S0.nd, S0.is, fun b o e _ => e, fun b hb => nomatch hb⟩
    clear S0
    generalize hN : pk.map Int.toNat = pN at k
    walk_at "st"
    walk_at "rd"
    rename_i q H1 hq S1
    clear S
    refine rd_enT ?_
    walk_at "rd"
    refine rd_enTI S1 (by walk_at "mem") ?_
    obtain ⟨f, hf⟩ : ∃ f : Nat, s + a = f := Int.eq_ofNat_of_zero_le (by omega)
    obtain ⟨m', rfl⟩ : ∃ m' : Nat, m = m' := Int.eq_ofNat_of_zero_le (by omega)
    rw [hf] at k ⊢
    simp only [Int.toNat_natCast] at k
    refine fw_enT (xs := pk.map V.int) (fun i σ H' => ∃ (x y : Nat) (zs : List V) (o1 o2 : Option V), σ = [some (.ref r), some (.ref p), some (.int x), some (.int y), some (.ref q), o1, o2] ∧ Hs H [] H' [(q, .lst zs), (r, .lst xs), (p, .tup [.int s, .int m', .int e, .ref kq, .ref pq]), (kq, .tup [.int a, .int b]), (pq, .tup (pk.map V.int))] ∧
      zs ++ (if i % 2 = 0 then mix (pN.drop i) (xs.drop y) (xs.drop x) else mix (pN.drop i) (xs.drop x) (xs.drop y)) = mix pN (xs.drop m') (xs.drop f) ∧ zs.length ≤ i * 4096) ⟨f, m', [], _, _, rfl, S1, by simp, by simp⟩ (fun i σ H' _ h => by
        obtain ⟨x, y, zs, o1, o2, _, S, _⟩ := h
        exact S.tup (by walk_at "mem")) ?_ ?_
    · rintro i v σ H2 T hi ⟨x, y, zs, o1, o2, rfl, S, e1, e2⟩ hT
      obtain ⟨z, rfl, dm, hz, hil⟩ := drop_more hi
      rw [hN] at dm
      have hz2 := w10 z hz
      obtain ⟨_, S2⟩ := S.new hT (.tup [.int (i : Nat), .int z])
      clear S
      have hi3 : i * 4096 ≤ 4096000 := by omega
      walk_at "rd"
      rcases par_next i with ⟨j1, j2, j3⟩ | ⟨j1, j2, j3⟩
      · refine rd_decT (by omega) ?_
        walk_at "rd"
        refine rd_slVx S2 (by walk_at "mem") fun g H3 hg S3 => ?_
        rw [cutI_run xs (by omega)] at S3
        refine rd_ext2 S3 (by walk_at "chg") (by walk_at "mem") (by walk_at "own") (by rw [sizeLine_eq]; simp only [List.length_take, List.length_drop]; omega) rfl fun H4 S4 => ?_
        walk_at "rd"
        refine ⟨x, y + z.toNat, _, _, _, by congr 4; rw [show (((y + z.toNat : Nat)) : Int) = (y : Int) + z by omega], S4.sub (by walk_at "sub"), ?_, ?_⟩
        · rw [if_pos j2, dm] at e1
          rw [if_neg (by omega), ← e1, List.append_assoc]
          simp only [mix, List.drop_drop]
        · simp only [List.length_append, List.length_take, List.length_drop]; omega
      · refine rd_decF (by omega) ?_
        walk_at "rd"
        refine rd_slVx S2 (by walk_at "mem") fun g H3 hg S3 => ?_
        rw [cutI_run xs (by omega)] at S3
        refine rd_ext2 S3 (by walk_at "chg") (by walk_at "mem") (by walk_at "own") (by rw [sizeLine_eq]; simp only [List.length_take, List.length_drop]; omega) rfl fun H4 S4 => ?_
        walk_at "rd"
        refine ⟨x + z.toNat, y, _, _, _, by congr 3; rw [show (((x + z.toNat : Nat)) : Int) = (x : Int) + z by omega], S4.sub (by walk_at "sub"), ?_, ?_⟩
        · rw [if_neg (by omega), dm] at e1
          rw [if_pos j3, ← e1, List.append_assoc]
          simp only [mix, List.drop_drop]
        · simp only [List.length_append, List.length_take, List.length_drop]; omega
    · rintro σ H2 ⟨x, y, zs, o1, o2, rfl, S, e1, e2⟩
      walk_at "rd"
      have en : pN.drop (pk.map V.int).length = [] := List.drop_of_length_le (by rw [← hN, List.length_map, List.length_map]; exact Nat.le_refl _)
      have e0 : zs = mix pN (xs.drop m') (xs.drop f) := by
        rw [← e1, en]
        simp [mix]
      subst e0
      exact k q H2 (by assumption) (S.get (by walk_at "mem")) S.same
theorem kb_nm (T : Txt K mg w A) : ∃ mv : List Value, KBn K A.d_need_merge ["thing", "most"] 1 ["most"] (fun us ws => us ++ ws ++ mv) (fun vs zs => vs ++ zs ++ []) := by
  refine T.c_need_merge.F.kbinds0 1 ["most"] [] (fun us mv ws => us ++ ws ++ mv) (by simp) (by simp) (fun r1 r2 r3 => (r1.append r3).append r2) ?_
  intro D doc pm an cdv ct us mv ws h1 h2 h3
  match us, h1, mv, h2, ws, h3 with
  | [u], _, [], _, [y], _ => rfl
theorem ok_fwd (T : Txt K mg w A) : FnOk P w K mg base (L2.CX P w) 6 A.f_move_merge A.d_move_merge ["row", "merge"] (sp_fwd A.C_BadPaper) := by
  have G_need_row : FnOk P w K mg base CX0 1 A.f_need_row A.d_need_row ["thing"] sp_row := ok_row T
  have G_need_merge : FnOk P w K mg base (L2.CX P w) 4 A.f_need_merge A.d_need_merge ["thing", "most"] (sp_needmerge A.C_BadPaper) := ok_needmerge T
  have G_moved_things : FnOk P w K mg base CX0 5 A.f_moved_things A.d_moved_things ["row", "merge"] sp_moved := ok_moved T
  obtain ⟨mv, kb_need_merge_most⟩ := kb_nm T
  refine T.c_move_merge.F.okX sc_move_merge (fun vs H Q E h => ?_) (fun cdv Ar outer s H vs Q E hr h => ?_)
  · obtain ⟨r, x, xs, rfl, _⟩ := h; rfl
  · obtain ⟨r, x, xs, rfl, hx, hl, th, ap, k1, k2⟩ := h
    refine ⟨_, (pss_cons (ps_expr (pe_call G_need_row (hr.mono (by decide)) rfl T.c_need_row.m T.c_need_row.F.kp T.c_need_row.b .nil pass0 (pa_cons (pv 0) pa_nil)))
      (pss_cons (ps_expr (pe_callN G_need_merge (hr.mono (by decide)) rfl T.c_need_merge.m T.c_need_merge.F.kp kb_need_merge_most (passes_call (takes_of rfl rfl rfl rfl) fun _ _ _ _ z => z) (pa_cons (pv 1) pa_nil) (pk_cons (pe_callB call_len_seq (by rfl) T.n_len PySem.boot_len (pa_cons (pv 0) pa_nil)) pk_nil)))
      (pss_cons (ps_asg (pv 1) (pg_tup rfl (pgs_cons (pg_name (i := 2) sc_move_merge.nd rfl (Or.inl rfl)) (pgs_cons (pg_name (i := 3) sc_move_merge.nd rfl (Or.inl rfl)) (pgs_cons (pg_name (i := 4) sc_move_merge.nd rfl (Or.inl rfl)) (pgs_cons (pg_name (i := 5) sc_move_merge.nd rfl (Or.inl rfl)) (pgs_cons (pg_name (i := 6) sc_move_merge.nd rfl (Or.inl rfl)) pgs_nil)))))))
      (pss_one (ps_asg (pe_call G_moved_things (hr.mono (by decide)) rfl T.c_moved_things.m T.c_moved_things.F.kp T.c_moved_things.b .nil pass0 (pa_cons (pv 0) (pa_cons (pv 1) pa_nil))) (pg_slc (pv 0) (po_some (pe_op op_add (pv 2) (pe_ix ix_tup (pv 5) pe_int (fun _ _ => rfl)))) (po_some (pe_op op_sub (pv 4) (pe_ix ix_tup (pv 5) pe_int (fun _ _ => rfl)))))))))), ?_⟩
    have S0 := Hs.start1 hx [] (.inl rfl)
    walk_at "st"
    walk_at "rd"
    refine ⟨r, xs, rfl, hx, hl, ?_⟩
    walk_at "rd"
    refine ⟨rfl, rfl, x, _, rfl, th, ap, by omega, by omega, fun gd H1 sm => ?_, fun ng H' d sm hd => k2 ng H' d sm hd⟩
    obtain ⟨p, kq, pq, s, m, e, a, b, pk, rfl, R, W, he⟩ := gd
    have k := k1 p kq pq s m e a b pk rfl R W he
    have S := R.ledR hx
    clear S0 k1 k2
    have S1 := S.more sm
    clear S
    walk_at "rd"
    refine ⟨r, p, kq, pq, s, m, e, a, b, pk, xs, rfl, R.same sm, W, sm _ _ hx, hl, fun q H2 hq hq2 sm2 => ?_⟩
    obtain ⟨_, S2⟩ := S1.more1 sm2 hq hq2
    clear S1
    walk_at "rd"
    have F := W.fit (n := xs.length) he
    obtain ⟨w1, w2, w3, w4, w5, w6, w7, w8, w9, w10, w11, w12, w13⟩ := W
    have fl := fwd_len F
    refine gt_slcV S2 (zs := fwd (pk.map Int.toNat) (s + a).toNat m.toNat (e - b).toNat xs) (by walk_at "chg") (by walk_at "mem") (fun z => by
      have := S2.nd
      simp [z] at this) (by walk_at "own") (by omega) (by omega) (by omega) ?_ rfl fun H3 S3 => ?_
    · have := mix_len (pk.map Int.toNat) (xs.drop m.toNat) (xs.drop (s + a).toNat) (by rw [List.length_drop, F.s1]; omega) (by rw [List.length_drop, F.s2]; omega)
      rw [this, F.s1, F.s2, sizeLine_eq]
      omega
    · walk_at "rd"
      exact k H3 (S3.get (by walk_at "mem")) fun x o ho hxr => S3.old1 ho hxr
theorem ok_bck (T : Txt K mg w A) : FnOk P w K mg base (L2.CX P w) 6 A.f_move_back A.d_move_back ["row", "merge"] (sp_bck A.C_BadPaper) := by
  have G_need_row : FnOk P w K mg base CX0 1 A.f_need_row A.d_need_row ["thing"] sp_row := ok_row T
  have G_need_merge : FnOk P w K mg base (L2.CX P w) 4 A.f_need_merge A.d_need_merge ["thing", "most"] (sp_needmerge A.C_BadPaper) := ok_needmerge T
  obtain ⟨mv, kb_need_merge_most⟩ := kb_nm T
  refine T.c_move_back.F.okX sc_move_back (fun vs H Q E h => ?_) (fun cdv Ar outer s H vs Q E hr h => ?_)
  · obtain ⟨r, x, xs, rfl, _⟩ := h; rfl
  · obtain ⟨r, x, xs, rfl, hx, hl, th, ap, k1, k2⟩ := h
    refine ⟨_, (pss_cons (ps_expr (pe_call G_need_row (hr.mono (by decide)) rfl T.c_need_row.m T.c_need_row.F.kp T.c_need_row.b .nil pass0 (pa_cons (pv 0) pa_nil)))
      (pss_cons (ps_expr (pe_callN G_need_merge (hr.mono (by decide)) rfl T.c_need_merge.m T.c_need_merge.F.kp kb_need_merge_most (passes_call (takes_of rfl rfl rfl rfl) fun _ _ _ _ z => z) (pa_cons (pv 1) pa_nil) (pk_cons (pe_callB call_len_seq (by rfl) T.n_len PySem.boot_len (pa_cons (pv 0) pa_nil)) pk_nil)))
      (pss_cons (ps_asg (pv 1) (pg_tup rfl (pgs_cons (pg_name (i := 2) sc_move_back.nd rfl (Or.inl rfl)) (pgs_cons (pg_name (i := 3) sc_move_back.nd rfl (Or.inl rfl)) (pgs_cons (pg_name (i := 4) sc_move_back.nd rfl (Or.inl rfl)) (pgs_cons (pg_name (i := 5) sc_move_back.nd rfl (Or.inl rfl)) (pgs_cons (pg_name (i := 6) sc_move_back.nd rfl (Or.inl rfl)) pgs_nil)))))))
      (pss_cons (ps_asg2 (pe_op op_add (pv 2) (pe_ix ix_tup (pv 5) pe_int (fun _ _ => rfl))) (pg_name (i := 7) sc_move_back.nd rfl (Or.inl rfl)) (pg_name (i := 8) sc_move_back.nd rfl (Or.inl rfl)))
      (pss_cons (ps_set (i := 9) sc_move_back.nd rfl (Or.inl rfl) (pe_tup (pa_cons (pe_lst pa_nil) (pa_cons (pe_lst pa_nil) pa_nil))))
      (pss_cons (ps_for (passes_of rfl) rfl (Xd.pi_enT (by rfl) T.n_enumerate (pa_cons (pv 6) pa_nil)) (pg_tup rfl (pgs_cons (pg_name (i := 10) sc_move_back.nd rfl (Or.inl rfl)) (pgs_cons (pg_name (i := 11) sc_move_back.nd rfl (Or.inl rfl)) pgs_nil)))
        (pss_cons (ps_expr (pe_bm PySem.F.plainAttrs_list PySem.F.slot_list_extend PySem.F.type_list_extend mt_extend (pe_ix ix_tup (pv 9) (pe_op op_mod (pv 10) pe_int) (fun _ _ => rfl)) (pa_cons (pe_slice sl_list (pv 0) (po_some (pv 8)) (po_some (pe_op op_add (pv 8) (pv 11)))) pa_nil)))
        (pss_one (ps_aug (i := 8) sc_move_back.nd rfl (Or.inl rfl) (pv 11) ip_add))))
      (pss_one (ps_asg (pe_op op_cat (pe_ix ix_tup (pv 9) pe_int (fun _ _ => rfl)) (pe_ix ix_tup (pv 9) pe_int (fun _ _ => rfl))) (pg_slc (pv 0) (po_some (pv 7)) (po_some (pe_op op_sub (pv 4) (pe_ix ix_tup (pv 5) pe_int (fun _ _ => rfl))))))))))))), ?_⟩
    have S0 := Hs.start1 hx [] (.inl rfl)
    walk_at "st"
    walk_at "rd"
    refine ⟨r, xs, rfl, hx, hl, ?_⟩
    walk_at "rd"
    refine ⟨rfl, rfl, x, _, rfl, th, ap, by omega, by omega, fun gd H1 sm => ?_, fun ng H' d sm hd => k2 ng H' d sm hd⟩
    obtain ⟨p, kq, pq, s, m, e, a, b, pk, rfl, R, W, he⟩ := gd
    have k := k1 p kq pq s m e a b pk rfl R W he
    have S := R.ledR hx
    clear S0 k1 k2
    have S1 := S.more sm
    clear S
    have F := W.fit (n := xs.length) he
    obtain ⟨w1, w2, w3, w4, w5, w6, w7, w8, w9, w10, w11, w12, w13⟩ := W
    generalize hN : pk.map Int.toNat = pN at k F
    walk_at "rd"
    unfold tAsg2
    walk_at "rd"
    rename_i q0 H2 hq0 S2 q1 H3 hq1 S3 t H4 ht S4
    clear S1 S2 S3
    refine rd_enT ?_
    walk_at "rd"
    refine rd_enTI S4 (by walk_at "mem") ?_
    obtain ⟨f, hf⟩ : ∃ f : Nat, s + a = f := Int.eq_ofNat_of_zero_le (by omega)
    rw [hf] at k F ⊢
    simp only [Int.toNat_natCast] at k F
    refine fw_enT (xs := pk.map V.int) (fun i σ H' => ∃ (x : Nat) (z0 z1 : List V) (o1 o2 : Option V), σ = [some (.ref r), some (.ref p), some (.int s), some (.int m), some (.int e), some (.ref kq), some (.ref pq), some (.int f), some (.int x), some (.ref t), o1, o2] ∧ Hs H [r] H' [(t, .tup [.ref q0, .ref q1]), (q1, .lst z1), (q0, .lst z0), (r, .lst xs), (p, .tup [.int s, .int m, .int e, .ref kq, .ref pq]), (kq, .tup [.int a, .int b]), (pq, .tup (pk.map V.int))] ∧
      (z0 ++ (if i % 2 = 0 then (spl (pN.drop i) (xs.drop x)).1 else (spl (pN.drop i) (xs.drop x)).2) = (spl pN (xs.drop f)).1) ∧ (z1 ++ (if i % 2 = 0 then (spl (pN.drop i) (xs.drop x)).2 else (spl (pN.drop i) (xs.drop x)).1) = (spl pN (xs.drop f)).2) ∧ z0.length ≤ i * 4096 ∧ z1.length ≤ i * 4096) ⟨f, [], [], _, _, rfl, S4, by simp, by simp, by simp, by simp⟩ (fun i σ H' _ h => by
        obtain ⟨x, z0, z1, o1, o2, _, S, _⟩ := h
        exact S.tup (by walk_at "mem")) ?_ ?_
    · rintro i v σ H2 T hi ⟨x, z0, z1, o1, o2, rfl, S, e1, e2, b1, b2⟩ hT
      obtain ⟨z, rfl, dm, hz, hil⟩ := drop_more hi
      rw [hN] at dm
      have hz2 := w10 z hz
      obtain ⟨_, S2⟩ := S.new hT (.tup [.int (i : Nat), .int z])
      clear S
      have hi3 : i * 4096 ≤ 4096000 := by omega
      rcases par_next i with ⟨j1, j2, j3⟩ | ⟨j1, j2, j3⟩
      · walk_at "rd"
        rename_i rr hr1 hr2 hr3
        obtain rfl : rr = 0 := by omega
        refine rd_ixT S2 (v := .ref q0) (by walk_at "mem") (atI_nat (j := 0) rfl) ?_
        walk_at "rd"
        refine rd_slVx S2 (by walk_at "mem") fun g H3 hg S3 => ?_
        rw [cutI_run xs (by omega)] at S3
        walk_at "rd"
        refine rd_extM S3 (by walk_at "chg") (by walk_at "mem") (by walk_at "own") (by rw [sizeLine_eq]; simp only [List.length_take, List.length_drop]; omega) rfl fun H4 S4 => ?_
        walk_at "rd"
        refine ⟨x + z.toNat, _, _, _, _, by congr 9; rw [show (((x + z.toNat : Nat)) : Int) = (x : Int) + z by omega], S4.sub (by walk_at "sub"), ?_, ?_, ?_, ?_⟩
        · rw [if_pos j2, dm] at e1
          rw [if_neg (by omega), ← e1, List.append_assoc]
          simp only [spl, List.drop_drop]
        · rw [if_pos j2, dm] at e2
          rw [if_neg (by omega), ← e2]
          simp only [spl, List.drop_drop]
        · simp only [List.length_append, List.length_take, List.length_drop]; omega
        · omega
      · walk_at "rd"
        rename_i rr hr1 hr2 hr3
        obtain rfl : rr = 1 := by omega
        refine rd_ixT S2 (v := .ref q1) (by walk_at "mem") (atI_nat (j := 1) rfl) ?_
        walk_at "rd"
        refine rd_slVx S2 (by walk_at "mem") fun g H3 hg S3 => ?_
        rw [cutI_run xs (by omega)] at S3
        walk_at "rd"
        refine rd_extM S3 (by walk_at "chg") (by walk_at "mem") (by walk_at "own") (by rw [sizeLine_eq]; simp only [List.length_take, List.length_drop]; omega) rfl fun H4 S4 => ?_
        walk_at "rd"
        refine ⟨x + z.toNat, _, _, _, _, by congr 9; rw [show (((x + z.toNat : Nat)) : Int) = (x : Int) + z by omega], S4.sub (by walk_at "sub"), ?_, ?_, ?_, ?_⟩
        · rw [if_neg (by omega), dm] at e1
          rw [if_pos j3, ← e1]
          simp only [spl, List.drop_drop]
        · rw [if_neg (by omega), dm] at e2
          rw [if_pos j3, ← e2, List.append_assoc]
          simp only [spl, List.drop_drop]
        · omega
        · simp only [List.length_append, List.length_take, List.length_drop]; omega
    · rintro σ H5 ⟨x, z0, z1, o1, o2, rfl, S, e1, e2, b1, b2⟩
      have en : pN.drop (pk.map V.int).length = [] := List.drop_of_length_le (by rw [← hN, List.length_map, List.length_map]; exact Nat.le_refl _)
      rw [List.length_map] at en b1 b2
      have f1 : z0 = (spl pN (xs.drop f)).1 := by
        rw [← e1, List.length_map, en]
        simp [spl]
      have f2 : z1 = (spl pN (xs.drop f)).2 := by
        rw [← e2, List.length_map, en]
        simp [spl]
      clear S4 e1 e2
      have hl2 := spl_len pN (xs.drop f) (by rw [List.length_drop, F.s1, F.s2]; have := F.fm; have := F.me; have := F.en; omega)
      rw [← f1, ← f2, F.s1, F.s2] at hl2
      walk_at "rd"
      rename_i q H6 hq S6
      refine gt_slcV S6 (zs := bck pN f (e - b).toNat xs) (by walk_at "chg") (by walk_at "mem") (fun z => by
        have := S6.nd
        simp [z] at this) (by walk_at "own") (by omega) (by omega) (by omega) (by rw [sizeLine_eq, List.length_append]; omega) (by unfold bck; rw [← f1, ← f2, Int.toNat_natCast]) fun H7 S7 => ?_
      walk_at "rd"
      exact k H7 (S7.get (by walk_at "mem")) fun x o ho hxr => S7.old1 ho hxr
end
end K30

namespace K30
open PySem L2 Rs Xc Xd Xh
/-! orders -/
def flds (f : Addr) (n : Int) : List (Str × V) := [("own_rule", .ref f), ("times_asked", .int n)]
theorem fl_rule (f : Addr) (n : Int) : (flds f n).lookup ("own_rule" : Str) = some (.ref f) := by rfl
theorem fl_times (f : Addr) (n : Int) : (flds f n).lookup ("times_asked" : Str) = some (.int n) := by rfl
theorem fl_counted (f : Addr) (n : Int) : (flds f n).lookup ("counted" : Str) = none := by rfl
theorem fl_ahead (f : Addr) (n : Int) : (flds f n).lookup ("ahead" : Str) = none := by rfl
theorem fl_put (f : Addr) : putF "times_asked" (.int 0) (putF "own_rule" (.ref f) []) = flds f 0 := by rfl
theorem fl_up (f : Addr) (n m : Int) : putF "times_asked" (.int m) (flds f n) = flds f m := by rfl
local macro_rules | `(tactic| walk_at "fv") => `(tactic| first | exact K30.fl_rule _ _ | exact K30.fl_times _ _ | exact K30.fl_counted _ _ | exact K30.fl_ahead _ _)
def sp_norder (C : Addr) : Sp := fun vs H Q _ => ∃ (a dx : Addr) (fs : List (Str × V)), vs = [.ref a] ∧ H a = some (.ins C dx fs) ∧ Q .non H
def sp_oinit (C : Addr) : Sp := fun vs H Q _ => ∃ (x dx f : Addr), vs = [.ref x, .ref f] ∧ H x = some (.ins C dx []) ∧ ∀ H', H' x = some (.ins C dx (flds f 0)) → (∀ b o, H b = some o → b ≠ x → H' b = some o) → Q .non H'
def sp_counted (C : Addr) : Sp := fun vs H Q _ => ∃ (x dx f : Addr) (n : Int), vs = [.ref x] ∧ H x = some (.ins C dx (flds f n)) ∧ ∀ H', H' x = some (.ins C dx (flds f (n + 1))) → (∀ b o, H b = some o → b ≠ x → H' b = some o) → Q .non H'
/-- the order tells b of these two -/
def sp_ahead (P : Program) (w : World) (K : PySem.W.Frag) (mg : Str → Option Value) (base : Heap) (C : Addr) : Sp := fun vs H Q _ => ∃ (x dx f : Addr) (n : Int) (one other : V) (b : Bool), vs = [.ref x, one, other] ∧ H x = some (.ins C dx (flds f n)) ∧
  ∀ H', H' x = some (.ins C dx (flds f (n + 1))) → (∀ b o, H b = some o → b ≠ x → H' b = some o) → IsFn f H' ∧ (∀ Q', Q' (.bl b) H' → CallsTo P w K mg base CX0 1 f H' [one, other] Q' E0) ∧ Q (.bl b) H'
/-! the order's rule -/
def asgV : Stmt → Expr
  | .Assign (value := v) .. => v
  | _ => .Constant .none 0 ⟨0, 0, 0, 0⟩
def argE : Expr → Expr
  | .Call _ (e :: _) _ _ => e
  | e => e
def lamP : Expr → Arguments
  | .Lambda p _ _ _ => p
  | _ => ⟨[], [], none, [], [], none, []⟩
def lamB : Expr → Expr
  | .Lambda _ b _ _ => b
  | e => e
def lamS : Expr → Scope
  | .Lambda _ _ s _ => s
  | _ => defScope s_l_put
abbrev ruleE : Expr := argE (asgV ((defBody s_l_moves_right).getD 1 (.Pass ⟨0, 0, 0, 0⟩)))
abbrev lamQ : Str := (("_law_moves_right" : Str) ++ ".<locals>.") ++ "<lambda>"
abbrev ruleF (c' : Addr) : LF := ⟨lamQ, lamP ruleE, lamB ruleE, lamS ruleE, [], c'⟩
theorem rule_scope : NdefX.NScope ["_law_one", "_law_other"] ["_law_one", "_law_other"] [] (lamS ruleE) := NdefX.nscope_by (by decide +kernel)
/-- the rule's function as it stands -/
def RuleAt (H : Hp) (f : Addr) : Prop := ∃ c', H f = some (LamO f (ruleF c')) ∧ H c' = some (LamX.CodeO c' lamQ)
theorem RuleAt.but {H H' : Hp} {f j C dx : Addr} {fs : List (Str × V)} (k : RuleAt H f) (hj : H j = some (.ins C dx fs)) (o : ∀ b o, H b = some o → b ≠ j → H' b = some o) : RuleAt H' f := by
  obtain ⟨c', h, h2⟩ := k
  exact ⟨c', o _ _ h (ne_of h hj (fun z => by cases z)), o _ _ h2 (ne_of h2 hj (fun z => by cases z))⟩
theorem RuleAt.same {H H' : Hp} {f : Addr} (k : RuleAt H f) (o : Same H H') : RuleAt H' f := by
  obtain ⟨c', h, h2⟩ := k
  exact ⟨c', o _ _ h, o _ _ h2⟩
/-- an order by the rule -/
def OrdAt (C : Addr) (H : Hp) (j : Addr) : Prop := ∃ dx f n, H j = some (.ins C dx (flds f n)) ∧ RuleAt H f
def sp_stays (C : Addr) : Sp := fun vs H Q _ => ∃ (r j : Addr) (xs : List Int) (s m n : Int), vs = [.ref r, .ref j, .int s, .int m, .int n] ∧ H r = some (.lst (xs.map V.int)) ∧ OrdAt C H j ∧ 0 ≤ s ∧ s < m ∧ m < xs.length ∧ 0 ≤ n ∧ s + n ≤ m ∧
  ∀ (b : Bool) (H' : Hp), OrdAt C H' j → (∀ x o, H x = some o → x ≠ j → H' x = some o) → Q (.bl b) H'
def sp_ends (C : Addr) : Sp := fun vs H Q _ => ∃ (r j : Addr) (xs : List Int) (m e n : Int), vs = [.ref r, .ref j, .int m, .int e, .int n] ∧ H r = some (.lst (xs.map V.int)) ∧ OrdAt C H j ∧ 1 ≤ m ∧ m < e ∧ e ≤ xs.length ∧ 0 ≤ n ∧ m + n ≤ e ∧
  ∀ (b : Bool) (H' : Hp), OrdAt C H' j → (∀ x o, H x = some o → x ≠ j → H' x = some o) → Q (.bl b) H'
def sp_second (C : Addr) : Sp := fun vs H Q _ => ∃ (r j : Addr) (xs : List Int) (at_ other stop n : Int), vs = [.ref r, .ref j, .int at_, .int other, .int stop, .int n] ∧ H r = some (.lst (xs.map V.int)) ∧ OrdAt C H j ∧ 0 ≤ at_ ∧ at_ < xs.length ∧ 0 ≤ other ∧ other + n ≤ stop ∧ stop ≤ xs.length ∧ 1 ≤ n ∧
  ∀ (b : Bool) (H' : Hp), OrdAt C H' j → (∀ x o, H x = some o → x ≠ j → H' x = some o) → Q (.bl b) H'
def sp_first (C : Addr) : Sp := fun vs H Q _ => ∃ (r j : Addr) (xs : List Int) (at_ other stop n : Int), vs = [.ref r, .ref j, .int at_, .int other, .int stop, .int n] ∧ H r = some (.lst (xs.map V.int)) ∧ OrdAt C H j ∧ 0 ≤ at_ ∧ 0 ≤ other ∧ other ≤ stop ∧ stop ≤ xs.length ∧ 1 ≤ n ∧ at_ + n < xs.length ∧
  ∀ (b : Bool) (H' : Hp), OrdAt C H' j → (∀ x o, H x = some o → x ≠ j → H' x = some o) → Q (.bl b) H'
section
variable {P : Program} {w : World} {K : PySem.W.Frag} {mg : Str → Option Value} {base : Heap} {A : Ad} {H H0 : Hp} {MM : List Addr} {L L' F : Led} {Q : VK} {E : XK}
local macro_rules | `(tactic| walk_at "rd1") => `(tactic| first
  | with_reducible refine Xc.rd_bi ?_
  | with_reducible refine Xc.rd_put1 ?_
  | with_reducible refine Xc.rd_tmk ?_
  | with_reducible refine Xc.rd_xv ?_
  | with_reducible refine Xh.rd_callF ?_)
theorem ok_norder (T : Txt K mg w A) : FnOk P w K mg base CX0 1 A.f_need_order A.d_need_order ["thing"] (sp_norder A.C_Order) := by
  refine T.c_need_order.F.ok sc_need_order (fun vs H Q E h => ?_) (fun cdv Ar outer s H vs Q E hr h => ?_)
  · obtain ⟨a, dx, fs, rfl, _⟩ := h; rfl
  · obtain ⟨a, dx, fs, rfl, ha, q⟩ := h
    refine ⟨_, (pss_one (ps_if (pt_not (pt_val (pe_callB call_isi (by rfl) T.n_isinstance PyProof.Rows.boot_isinstance (pa_cons (pv 0) (pa_cons (pe_glob (v := .ref A.C_Order) rfl T.m_Order rfl) pa_nil)))))
        (pss_one ps_never)
        pss_nil)), ?_⟩
    walk_at "st"
    walk_at "rd"
    refine ⟨.ref a, .ref A.C_Order, .ref A.C_Order, .ref A.C_Order, true, rfl, .own _, .base (.ins ha T.cl_Order T.x_oha T.x_ohn T.x_oht T.x_ohm), T.x_i_Order, ?_⟩
    walk_at "rd"
    walk_at "if0"
    exact q
theorem ok_oinit (T : Txt K mg w A) : FnOk P w K mg base CX0 1 A.f_Order___init__ A.d_Order___init__ ["self", "rule"] (sp_oinit A.C_Order) := by
  have hC := T.cl_Order
  have n1 := T.na_Order_own_rule
  have n2 := T.na_Order_times_asked
  refine T.c_Order___init__.F.ok sc_Order___init__ (fun vs H Q E h => ?_) (fun cdv Ar outer s H vs Q E hr h => ?_)
  · obtain ⟨x, dx, f, rfl, _⟩ := h; rfl
  · obtain ⟨x, dx, f, rfl, hx, k⟩ := h
    refine ⟨_, (pss_cons (ps_fld (pv 0) (pv 1) rfl)
      (pss_one (ps_fld (pv 0) pe_int rfl))), ?_⟩
    have S := Hs.start1 hx [x] (.inr rfl)
    walk_at "st"
    walk_at "rd"
    rename_i H1 S1 H2 S2
    exact k _ (S2.get (o := .ins A.C_Order dx (flds f 0)) (by rw [fl_put]; exact List.mem_cons_self)) (fun b o e hb => S2.old1 e hb)
theorem rd_fldaug {f : Str} {ta tv : TE} {rd : V → V → Hp → VK → Prop} {σ : L2.St} {nx : L2.St → Hp → Prop} {rt : VK} {bk ct : L2.St → Hp → Prop} (h : ta σ H fun x H1 => ∃ a C dx fs v, x = .ref a ∧ H1 a = some (.ins C dx fs) ∧ Cls K C ∧ NoAttr K C f ∧ fs.lookup f = some v ∧
  tv σ H1 fun y H2 => rd v y H2 fun z H3 => ∃ dx' fs', H3 a = some (.ins C dx' fs') ∧ fs'.length < 1000 ∧ nx σ (upd H3 a (.ins C dx' (putF f z fs')))) : sFldAug K ta tv rd f ⟨nx, rt, bk, ct⟩ σ H := h
theorem ok_counted (T : Txt K mg w A) : FnOk P w K mg base CX0 1 A.f_Order_counted A.d_Order_counted ["self"] (sp_counted A.C_Order) := by
  have hC := T.cl_Order
  have n2 := T.na_Order_times_asked
  refine T.c_Order_counted.F.ok sc_Order_counted (fun vs H Q E h => ?_) (fun cdv Ar outer s H vs Q E hr h => ?_)
  · obtain ⟨x, dx, f, n, rfl, _⟩ := h; rfl
  · obtain ⟨x, dx, f, n, rfl, hx, k⟩ := h
    refine ⟨_, (pss_one (ps_fldaug (pv 0) pe_int in_add)), ?_⟩
    have S := Hs.start1 hx [x] (.inr rfl)
    walk_at "st"
    walk_at "rd"
    refine rd_fldaug ?_
    walk_at "rd"
    refine ⟨x, _, dx, _, .int n, rfl, hx, hC, n2, fl_times f n, ?_⟩
    walk_at "rd"
    refine ⟨n, 1, rfl, rfl, ⟨dx, _, hx, Nat.le_of_ble_eq_true rfl, ?_⟩⟩
    have S1 := S.put (o' := .ins A.C_Order dx (flds f (n + 1))) .here (.inr (by simp))
    rw [fl_up]
    exact k _ (S1.get (by walk_at "mem")) (fun b o e hb => S1.old1 e hb)
theorem use_counted {C x dx f : Addr} {n : Int} {F : HO → Led} (S : Hs H0 MM H L) (ch : ∀ o', Chg x (.ins C dx (flds f n)) o' L (F o')) (own : H0 x = none ∨ x ∈ MM) (h : ∀ H', Hs H0 MM H' (F (.ins C dx (flds f (n + 1)))) → Q .non H') : sp_counted C [.ref x] H Q E :=
  ⟨x, dx, f, n, rfl, S.is _ (ch (.dK [])).mem, fun H' e k => h H' (S.one (ch _) own k e)⟩
theorem ok_ahead (T : Txt K mg w A) : FnOk P w K mg base CX0 2 A.f_Order_ahead A.d_Order_ahead ["self", "one", "other"] (sp_ahead P w K mg base A.C_Order) := by
  have G_Order_counted : FnOk P w K mg base CX0 1 A.f_Order_counted A.d_Order_counted ["self"] (sp_counted A.C_Order) := ok_counted T
  have hC := T.cl_Order
  have n1 := T.na_Order_own_rule
  refine T.c_Order_ahead.F.ok sc_Order_ahead (fun vs H Q E h => ?_) (fun cdv Ar outer s H vs Q E hr h => ?_)
  · obtain ⟨x, dx, f, n, one, other, b, rfl, _⟩ := h; rfl
  · obtain ⟨x, dx, f, n, one, other, b, rfl, hx, k⟩ := h
    refine ⟨_, (pss_cons (ps_expr (pe_meth0 (pv 0) T.cl_Order T.h_Order_counted G_Order_counted (hr.mono (by decide)) T.c_Order_counted.b .nil pass0))
      (pss_cons (ps_set (i := 3) sc_Order_ahead.nd rfl (Or.inl rfl) (Xh.pe_callF (CX := CX0) (E := E0) (k := 1) (pv 0) (pa_cons (pv 1) (pa_cons (pv 2) pa_nil)) hr (by decide) pass0))
      (pss_cons (ps_if (pt_not (pt_val (pe_callB call_isi (by rfl) T.n_isinstance PyProof.Rows.boot_isinstance (pa_cons (pv 3) (pa_cons (pe_bltn (v := .ty "bool") rfl T.n_bool PyProof.Rows.boot_bool rfl) pa_nil)))))
        (pss_one ps_never)
        pss_nil)
      (pss_one (ps_ret (pv 3)))))), ?_⟩
    have S := Hs.start1 hx [x] (.inr rfl)
    walk_at "st"
    walk_at "rd"
    refine use_counted S (by walk_at "chgF") (by walk_at "own") fun H1 S1 => ?_
    obtain ⟨k1, k2, k3⟩ := k H1 (S1.get (by walk_at "mem")) (fun b o e hb => S1.old1 e hb)
    walk_at "rd"
    refine rd_callFV S1 (by walk_at "mem") hC n1 (fl_rule _ _) k1 ?_
    walk_at "rd"
    refine k2 _ ?_
    walk_at "rd"
    refine rd_isi (Kin.bl b) (kit_bool _) ?_
    walk_at "rd"
    walk_at "if0"
    exact k3
theorem rule_calls {f : Addr} {z1 z2 : Int} (hr : RuleAt H f) (hQ : Q (.bl (decide (z1 < z2))) H) : CallsTo P w K mg base CX0 1 f H [.int z1, .int z2] Q E0 := by
  obtain ⟨c', hf, hc⟩ := hr
  refine calls_lam (F := ruleF c') rule_scope rfl (fun pm ctv us hl => match us, hl with | [_, _], _ => rfl) rfl hf hc (fun A outer s hr => (pe_cmpR op_lt (pv 0) (pv 1) (nomark _))) ?_
  show tOp _ _ _ [some (.int z1), some (.int z2)] H Q
  walk_at "rd"
  exact hQ
theorem rule_fn {f : Addr} (hr : RuleAt H f) : IsFn f H := by
  obtain ⟨c', hf, hc⟩ := hr
  exact isFn_lam hf
theorem use_ahead {CO j dx f : Addr} {n : Int} {z1 z2 : Int} {F : HO → Led} (S : Hs H0 MM H L) (ch : ∀ o', Chg j (.ins CO dx (flds f n)) o' L (F o')) (own : H0 j = none ∨ j ∈ MM) (hr : RuleAt H f)
    (h : ∀ (b : Bool) H', Hs H0 MM H' (F (.ins CO dx (flds f (n + 1)))) → RuleAt H' f → Q (.bl b) H') : sp_ahead P w K mg base CO [.ref j, .int z1, .int z2] H Q E := by
  have hj := S.is _ (ch (.dK [])).mem
  refine ⟨j, dx, f, n, .int z1, .int z2, decide (z1 < z2), rfl, hj, fun H' e o => ⟨rule_fn (hr.but hj o), fun Q' hQ => rule_calls (hr.but hj o) hQ, h _ H' (S.one (ch _) own o e) (hr.but hj o)⟩⟩
theorem rd_ixR {a : Addr} {xs : List Int} {i : Int} (S : Hs H0 MM H L) (m : (a, HO.lst (xs.map V.int)) ∈ L) (h0 : 0 ≤ i) (h1 : i < xs.length) (k : ∀ z : Int, Q (.int z) H) : rIxL K (.ref a) (.int i) H Q := by
  refine rd_ixAny S m h0 (by rw [List.length_map]; exact h1) fun v hv _ => ?_
  obtain ⟨z, _, rfl⟩ := List.mem_map.mp hv
  exact k z
theorem ord_led {C j dx f r : Addr} {n : Int} {ys : List V} (hj : H j = some (.ins C dx (flds f n))) (hr : H r = some (.lst ys)) : Hs H [j] H [(j, .ins C dx (flds f n)), (r, .lst ys)] := by
  have ne : j ≠ r := ne_of hj hr (by intro z; cases z)
  refine Hs.start H [j] _ (by simp [ne]) (fun q hq => ?_) (fun b hb => ?_)
  · simp only [List.mem_cons, List.not_mem_nil, or_false] at hq
    rcases hq with rfl | rfl
    · exact hj
    · exact hr
  · obtain rfl : b = j := by simpa using hb
    rw [hj]; simp
local macro_rules | `(tactic| walk_at "rd1") => `(tactic| first
  | ((with_reducible refine' K30.rd_ixR (by assumption) ?m ?b0 ?b1 ?_); (case m => (walk_at "mem"; done)); (case b0 => omega); (case b1 => omega); intro z)
  | ((with_reducible refine' K30.use_ahead (by assumption) ?c ?o ?r ?_); (case c => walk_at "chgF"); (case o => walk_at "own"); (case r => assumption); intro b H S hrl))
theorem rd_boo {b : Bool} {p q : Prop} (h1 : b = true → p) (h0 : b = false → q) : if b = true then p else q := by
  cases b with
  | true => exact h1 rfl
  | false => exact h0 rfl
local macro_rules | `(tactic| walk_at "cutB") => `(tactic| repeat' (first | walk_at "rd1" | ((with_reducible refine Rs.rd_dec ?_ ?_) <;> intro hc) | ((with_reducible refine K30.rd_boo ?_ ?_) <;> intro hb)))
theorem ok_front (T : Txt K mg w A) : FnOk P w K mg base CX0 3 A.f_front_stays A.d_front_stays ["row", "order", "start", "middle", "many"] (sp_stays A.C_Order) := by
  have G_Order_ahead : FnOk P w K mg base CX0 2 A.f_Order_ahead A.d_Order_ahead ["self", "one", "other"] (sp_ahead P w K mg base A.C_Order) := ok_ahead T
  have hC := T.cl_Order
  refine T.c_front_stays.F.ok sc_front_stays (fun vs H Q E h => ?_) (fun cdv Ar outer s H vs Q E hr h => ?_)
  · obtain ⟨r, j, xs, s, m, n, rfl, _⟩ := h; rfl
  · obtain ⟨r, j, xs, s, m, n, rfl, hx, ⟨dx, f, n0, hj, hrl⟩, h1, h2, h3, h4, h5, k⟩ := h
    refine ⟨_, (pss_cons (ps_set (i := 5) sc_front_stays.nd rfl (Or.inl rfl) (pe_ix ix_list (pv 0) (pv 3) (fun _ _ => rfl)))
      (pss_cons (ps_if (PW.pt (pw_and (pt_cmpR op_gt (pv 4) pe_int (nomark _)) (pw_and1 (pt_val (pe_meth (pv 1) T.cl_Order T.h_Order_ahead G_Order_ahead (hr.mono (by decide)) T.c_Order_ahead.b .nil pass0 (pa_cons (pv 5) (pa_cons (pe_ix ix_list (pv 0) (pe_op op_sub (pe_op op_add (pv 2) (pv 4)) pe_int) (fun _ _ => rfl)) pa_nil)))))))
        (pss_one (ps_ret pe_bl))
        pss_nil)
      (pss_one (ps_ret (pe_or (pe_cmpR op_eq (pe_op op_add (pv 2) (pv 4)) (pv 3) (nomark _)) (pe_one (pe_meth (pv 1) T.cl_Order T.h_Order_ahead G_Order_ahead (hr.mono (by decide)) T.c_Order_ahead.b .nil pass0 (pa_cons (pv 5) (pa_cons (pe_ix ix_list (pv 0) (pe_op op_add (pv 2) (pv 4)) (fun _ _ => rfl)) pa_nil))))))))), ?_⟩
    have S := ord_led hj hx
    have fin : ∀ (b : Bool) (H' : Hp) (n1 : Int), Hs H [j] H' [(j, .ins A.C_Order dx (flds f n1)), (r, .lst (xs.map V.int))] → RuleAt H' f → Q (.bl b) H' := fun b H' n1 S' r' => k b H' ⟨dx, f, n1, S'.get (by walk_at "mem"), r'⟩ (fun x o e hx => S'.old1 e hx)
    walk_at "st"
    walk_at "cutB"
    all_goals exact fin _ _ _ (by assumption) (by assumption)
theorem ok_ends (T : Txt K mg w A) : FnOk P w K mg base CX0 3 A.f_end_stays A.d_end_stays ["row", "order", "middle", "end", "many"] (sp_ends A.C_Order) := by
  have G_Order_ahead : FnOk P w K mg base CX0 2 A.f_Order_ahead A.d_Order_ahead ["self", "one", "other"] (sp_ahead P w K mg base A.C_Order) := ok_ahead T
  have hC := T.cl_Order
  refine T.c_end_stays.F.ok sc_end_stays (fun vs H Q E h => ?_) (fun cdv Ar outer s H vs Q E hr h => ?_)
  · obtain ⟨r, j, xs, m, e, n, rfl, _⟩ := h; rfl
  · obtain ⟨r, j, xs, m, e, n, rfl, hx, ⟨dx, f, n0, hj, hrl⟩, h1, h2, h3, h4, h5, k⟩ := h
    refine ⟨_, (pss_cons (ps_par (i := 5) (j := 6) rfl sc_end_stays.nd rfl rfl (by decide) rfl rfl (pa_cons (pe_ix ix_list (pv 0) (pe_op op_sub (pv 2) pe_int) (fun _ _ => rfl)) (pa_cons (pe_op op_sub (pv 3) (pv 4)) pa_nil)) (by rfl))
      (pss_cons (ps_if (PW.pt (pw_and (pt_cmpR op_gt (pv 4) pe_int (nomark _)) (pw_and1 (pt_val (pe_meth (pv 1) T.cl_Order T.h_Order_ahead G_Order_ahead (hr.mono (by decide)) T.c_Order_ahead.b .nil pass0 (pa_cons (pe_ix ix_list (pv 0) (pv 6) (fun _ _ => rfl)) (pa_cons (pv 5) pa_nil)))))))
        (pss_one (ps_ret pe_bl))
        pss_nil)
      (pss_one (ps_ret (pe_or (pe_cmpR op_eq (pv 6) (pv 2) (nomark _)) (pe_one (pe_meth (pv 1) T.cl_Order T.h_Order_ahead G_Order_ahead (hr.mono (by decide)) T.c_Order_ahead.b .nil pass0 (pa_cons (pe_ix ix_list (pv 0) (pe_op op_sub (pv 6) pe_int) (fun _ _ => rfl)) (pa_cons (pv 5) pa_nil))))))))), ?_⟩
    have S := ord_led hj hx
    have fin : ∀ (b : Bool) (H' : Hp) (n1 : Int), Hs H [j] H' [(j, .ins A.C_Order dx (flds f n1)), (r, .lst (xs.map V.int))] → RuleAt H' f → Q (.bl b) H' := fun b H' n1 S' r' => k b H' ⟨dx, f, n1, S'.get (by walk_at "mem"), r'⟩ (fun x o e hx => S'.old1 e hx)
    walk_at "st"
    walk_at "cutB"
    all_goals exact fin _ _ _ (by assumption) (by assumption)
theorem ok_second (T : Txt K mg w A) : FnOk P w K mg base (L2.CX P w) 3 A.f_second_is_so A.d_second_is_so ["row", "order", "at", "other", "stop", "many"] (sp_second A.C_Order) := by
  have G_Order_ahead : FnOk P w K mg base CX0 2 A.f_Order_ahead A.d_Order_ahead ["self", "one", "other"] (sp_ahead P w K mg base A.C_Order) := ok_ahead T
  have hC := T.cl_Order
  refine T.c_second_is_so.F.okX sc_second_is_so (fun vs H Q E h => ?_) (fun cdv Ar outer s H vs Q E hr h => ?_)
  · obtain ⟨r, j, xs, at_, other, stop, n, rfl, _⟩ := h; rfl
  · obtain ⟨r, j, xs, at_, other, stop, n, rfl, hx, ⟨dx, f, n0, hj, hrl⟩, h1, h2, h3, h4, h5, h6, k⟩ := h
    refine ⟨_, (pss_cons (ps_if (pt_not (pt_val (pe_meth (pv 1) T.cl_Order T.h_Order_ahead G_Order_ahead (hr.mono (by decide)) T.c_Order_ahead.b .nil pass0 (pa_cons (pe_ix ix_list (pv 0) (pe_op op_sub (pe_op op_add (pv 3) (pv 5)) pe_int) (fun _ _ => rfl)) (pa_cons (pe_ix ix_list (pv 0) (pv 2) (fun _ _ => rfl)) pa_nil)))))
        (pss_one (ps_ret pe_bl))
        pss_nil)
      (pss_one (ps_ret (pe_or (pe_cmpR op_eq (pe_op op_add (pv 3) (pv 5)) (pv 4) (nomark _)) (pe_one (pe_not (pe_meth (pv 1) T.cl_Order T.h_Order_ahead G_Order_ahead (hr.mono (by decide)) T.c_Order_ahead.b .nil pass0 (pa_cons (pe_ix ix_list (pv 0) (pe_op op_add (pv 3) (pv 5)) (fun _ _ => rfl)) (pa_cons (pe_ix ix_list (pv 0) (pv 2) (fun _ _ => rfl)) pa_nil))))))))), ?_⟩
    have S := ord_led hj hx
    have fin : ∀ (b : Bool) (H' : Hp) (n1 : Int), Hs H [j] H' [(j, .ins A.C_Order dx (flds f n1)), (r, .lst (xs.map V.int))] → RuleAt H' f → Q (.bl b) H' := fun b H' n1 S' r' => k b H' ⟨dx, f, n1, S'.get (by walk_at "mem"), r'⟩ (fun x o e hx => S'.old1 e hx)
    walk_at "st"
    walk_at "cutB"
    all_goals exact fin _ _ _ (by assumption) (by assumption)
theorem ok_first (T : Txt K mg w A) : FnOk P w K mg base (L2.CX P w) 3 A.f_first_is_so A.d_first_is_so ["row", "order", "at", "other", "stop", "many"] (sp_first A.C_Order) := by
  have G_Order_ahead : FnOk P w K mg base CX0 2 A.f_Order_ahead A.d_Order_ahead ["self", "one", "other"] (sp_ahead P w K mg base A.C_Order) := ok_ahead T
  have hC := T.cl_Order
  refine T.c_first_is_so.F.okX sc_first_is_so (fun vs H Q E h => ?_) (fun cdv Ar outer s H vs Q E hr h => ?_)
  · obtain ⟨r, j, xs, at_, other, stop, n, rfl, _⟩ := h; rfl
  · obtain ⟨r, j, xs, at_, other, stop, n, rfl, hx, ⟨dx, f, n0, hj, hrl⟩, h1, h2, h3, h4, h5, h6, k⟩ := h
    refine ⟨_, (pss_cons (ps_if (pt_cmpR op_eq (pv 3) (pv 4) (nomark _))
        (pss_one (ps_ret pe_bl))
        pss_nil)
      (pss_one (ps_ret (pe_and (pe_not (pe_meth (pv 1) T.cl_Order T.h_Order_ahead G_Order_ahead (hr.mono (by decide)) T.c_Order_ahead.b .nil pass0 (pa_cons (pe_ix ix_list (pv 0) (pv 3) (fun _ _ => rfl)) (pa_cons (pe_ix ix_list (pv 0) (pe_op op_sub (pe_op op_add (pv 2) (pv 5)) pe_int) (fun _ _ => rfl)) pa_nil)))) (pe_one (pe_meth (pv 1) T.cl_Order T.h_Order_ahead G_Order_ahead (hr.mono (by decide)) T.c_Order_ahead.b .nil pass0 (pa_cons (pe_ix ix_list (pv 0) (pv 3) (fun _ _ => rfl)) (pa_cons (pe_ix ix_list (pv 0) (pe_op op_add (pv 2) (pv 5)) (fun _ _ => rfl)) pa_nil)))))))), ?_⟩
    have S := ord_led hj hx
    have fin : ∀ (b : Bool) (H' : Hp) (n1 : Int), Hs H [j] H' [(j, .ins A.C_Order dx (flds f n1)), (r, .lst (xs.map V.int))] → RuleAt H' f → Q (.bl b) H' := fun b H' n1 S' r' => k b H' ⟨dx, f, n1, S'.get (by walk_at "mem"), r'⟩ (fun x o e hx => S'.old1 e hx)
    walk_at "st"
    walk_at "cutB"
    all_goals exact fin _ _ _ (by assumption) (by assumption)
end
end K30

namespace K30
open PySem L2 Rs Xc Xd Xh
/-- the form of a merge within so many things -/
def Form (H : Hp) (v : V) (M : Int) : Prop := ∃ p kq pq s m e a b pk, v = .ref p ∧ MA H p kq pq s m e a b pk ∧ 0 ≤ s ∧ s < m ∧ m < e ∧ e ≤ M ∧ (0 ≤ a ∧ a ≤ M) ∧ (0 ≤ b ∧ b ≤ M) ∧ pk.length % 2 = 0 ∧ (∀ x ∈ pk, 1 ≤ x ∧ x ≤ 4096) ∧ pk.length ≤ 1000
theorem Form.five {H : Hp} {p : Addr} {x1 x2 x3 x4 x5 : V} {n : Int} (hp : H p = some (.tup [x1, x2, x3, x4, x5])) (g : Form H (.ref p) n) : ∃ kq pq s m e a b pk, x1 = .int s ∧ x2 = .int m ∧ x3 = .int e ∧ x4 = .ref kq ∧ x5 = .ref pq ∧ MA H p kq pq s m e a b pk ∧ 0 ≤ s ∧ s < m ∧ m < e ∧ e ≤ n ∧ (0 ≤ a ∧ a ≤ n) ∧ (0 ≤ b ∧ b ≤ n) ∧ pk.length % 2 = 0 ∧ (∀ x ∈ pk, 1 ≤ x ∧ x ≤ 4096) := by
  obtain ⟨p', kq, pq, s, m, e, a, b, pk, e1, R, h1, h2, h3, h4, h5, h6, h7, h8, _⟩ := g
  cases e1
  have := tup_inj hp R.hp
  simp only [List.cons.injEq, and_true] at this
  obtain ⟨z1, z2, z3, z4, z5⟩ := this
  exact ⟨kq, pq, s, m, e, a, b, pk, z1, z2, z3, z4, z5, R, h1, h2, h3, h4, h5, h6, h7, h8⟩
def sp_ft : Sp := fun vs H Q _ => ∃ (x : V) (M : Int), vs = [x, .int M] ∧ Th H 4 x ∧ Apart H x ∧ 0 ≤ M ∧ M ≤ 4096 ∧ ∀ (b : Bool) (H' : Hp), (b = true ↔ Form H x M) → Same H H' → Q (.bl b) H'
def sp_co : Sp := fun vs H Q _ => ∃ (p kq pq : Addr) (s m e a b : Int) (pk : List Int), vs = [.ref p] ∧ MA H p kq pq s m e a b pk ∧ pk.length ≤ 1000 ∧ ∀ H', Same H H' → Q (.bl (decide (a + (pickI pk (some 1) none 2).sum = m - s ∧ b + (pickI pk none none 2).sum = e - m))) H'
theorem len3 {ys : List V} {ns : List Int} {x1 x2 x3 : V} (h : [x1, x2, x3] = ns.map V.int) : ∃ a b c, ns = [a, b, c] ∧ x1 = .int a ∧ x2 = .int b ∧ x3 = .int c := by
  match ns, h with
  | [a, b, c], h =>
    simp only [List.map_cons, List.map_nil, List.cons.injEq, and_true] at h
    exact ⟨a, b, c, rfl, h.1, h.2.1, h.2.2⟩
  | [], h => simp at h
  | [_], h => simp at h
  | [_, _], h => simp at h
  | _ :: _ :: _ :: _ :: _, h => simp at h
theorem len2 {xs : List V} (h : ¬ ¬ (xs.length : Int) = 2) : ∃ a b, xs = [a, b] := by
  match xs, h with
  | [a, b], _ => exact ⟨a, b, rfl⟩
  | [], h => exact absurd (by simp) h
  | [_], h => exact absurd (by simp) h
  | _ :: _ :: _ :: r, h => exact absurd (by simp; omega) h
theorem tups_shaped (ns : List Int) : SeqAt.shaped (.tuple (ns.map .int)) = true := by
  unfold SeqAt.shaped
  simp [PyData.depth, depth_ints, PyData.canLay0, canLay_ints]
section
variable {P : Program} {w : World} {K : PySem.W.Frag} {mg : Str → Option Value} {base : Heap} {A : Ad} {H H0 : Hp} {MM : List Addr} {L L' F : Led} {Q : VK} {E : XK} {σ : L2.St}
theorem rd_eqTs {a b : Addr} {xs ys : List V} {ns ms : List Int} (S : Hs H0 MM H L) (m1 : (a, HO.tup xs) ∈ L) (m2 : (b, HO.tup ys) ∈ L) (e1 : xs = ns.map V.int) (e2 : ys = ms.map V.int) (h : Q (.bl (decide (ns = ms))) H) : rEqD K (.ref a) (.ref b) H Q := by
  subst e1 e2
  refine ⟨.tuple (ns.map .int), .tuple (ms.map .int), .tup (S.tup m1) (dps_ints ns), .tup (S.tup m2) (dps_ints ms), tups_shaped ns, tups_shaped ms, ?_⟩
  have e : PyData.eqv (.tuple (ns.map .int)) (.tuple (ms.map .int)) = decide (ns = ms) := by simp only [PyData.eqv, eqv_ints]
  rw [e]; exact h
theorem rd_star {a : Addr} {xs ys zs : List V} {n : Nat} {ts : TGs} {N : L2.St → Hp → Prop} (S : Hs H0 MM H L) (m : (a, HO.tup xs) ∈ L) (hl : xs.length ≤ 20) (hn : n ≤ xs.length + 1) (e1 : xs.take (xs.length + 1 - n) = ys) (e2 : xs.drop (xs.length + 1 - n) = zs)
    (h : ∀ q H', H0 q = none → Hs H0 MM H' ((q, .lst ys) :: L) → ts (.ref q :: zs) σ H' N) : Xn.gStar K n ts (.ref a) σ H N := by
  subst e1 e2
  refine ⟨a, xs, rfl, S.tup m, hn, by omega, fun p hp => ?_⟩
  obtain ⟨h0, S1⟩ := S.new hp (.lst (xs.take (xs.length + 1 - n)))
  exact h p _ h0 S1
theorem ok_ft (T : Txt K mg w A) : FnOk P w K mg base CX0 2 A.f_fits_there A.d_fits_there ["thing", "many"] sp_ft := by
  have G_is_whole : FnOk P w K mg base CX0 1 A.f_is_whole A.d_is_whole ["thing", "least", "most"] (sp_whole K) := ok_is_whole T
  obtain ⟨mv, kb_is_whole_most⟩ := kb_m T
  obtain ⟨mv2, kb_is_whole_least⟩ := kb_l T
  refine T.c_fits_there.F.ok sc_fits_there (fun vs H Q E h => ?_) (fun cdv Ar outer s H vs Q E hr h => ?_)
  · obtain ⟨x, M, rfl, _⟩ := h; rfl
  · obtain ⟨x, M, rfl, t, ap, hM0, hM, k⟩ := h
    refine ⟨_, (pss_cons (ps_if (PW.pt (pw_or (pt_not (pt_val (pe_callB call_isi (by rfl) T.n_isinstance PyProof.Rows.boot_isinstance (pa_cons (pv 0) (pa_cons (pe_bltn (v := .ty "tuple") rfl T.n_tuple PyProof.Rows.boot_tuple rfl) pa_nil))))) (pw_or1 (pt_cmpR op_ne (pe_callB call_len_seq (by rfl) T.n_len PySem.boot_len (pa_cons (pv 0) pa_nil)) pe_int (nomark _)))))
        (pss_one (ps_ret pe_bl))
        pss_nil)
      (pss_cons (ps_asg (pv 0) (Xn.pg_star (n := 3) rfl (Xn.pgs_star (pg_name (i := 2) sc_fits_there.nd rfl (Or.inl rfl)) (pgs_cons (pg_name (i := 3) sc_fits_there.nd rfl (Or.inl rfl)) (pgs_cons (pg_name (i := 4) sc_fits_there.nd rfl (Or.inl rfl)) pgs_nil))) (by decide)))
      (pss_cons (ps_if (PW.pt (pw_or (pt_not (pt_val (pe_callB (cr_all rfl) (by rfl) T.n_all PyProof.Rows.boot_all (pa_cons (pe_lc (own := [("place", 6)]) (g := gName 6) (tt := tYes) rfl sc_fits_there.nd (pi_list (pv 2)) (blkOk_by (N := ["thing", "many", "places", "kept", "picks", "one", "place"]) (sc := defScope s_fits_there) (by decide +kernel)) (fun _ _ _ _ _ => (pg_name (i := 6) sc_fits_there.nd rfl (Or.inl rfl))) (fun _ _ _ _ _ => pts_nil) (fun _ _ _ _ _ => (pe_callN G_is_whole (hr.mono (by decide)) rfl T.c_is_whole.m T.c_is_whole.F.kp kb_is_whole_most pass0 (pa_cons (pv 6) pa_nil) (pk_cons (pv 1) pk_nil)))) pa_nil)))) (pw_or1 (pt_not (pt_chain op_lt op_lt (pe_ix ix_list (pv 2) pe_int (fun _ _ => rfl)) (pe_ix ix_list (pv 2) pe_int (fun _ _ => rfl)) (pe_ix ix_list (pv 2) pe_int (fun _ _ => rfl)))))))
        (pss_one (ps_ret pe_bl))
        pss_nil)
      (pss_cons (ps_if (PW.pt (pw_or (pt_not (pt_val (pe_callB call_isi (by rfl) T.n_isinstance PyProof.Rows.boot_isinstance (pa_cons (pv 3) (pa_cons (pe_bltn (v := .ty "tuple") rfl T.n_tuple PyProof.Rows.boot_tuple rfl) pa_nil))))) (pw_or (pt_cmpR op_ne (pe_callB call_len_seq (by rfl) T.n_len PySem.boot_len (pa_cons (pv 3) pa_nil)) pe_int (nomark _)) (pw_or (pt_not (pt_val (pe_callB call_isi (by rfl) T.n_isinstance PyProof.Rows.boot_isinstance (pa_cons (pv 4) (pa_cons (pe_bltn (v := .ty "tuple") rfl T.n_tuple PyProof.Rows.boot_tuple rfl) pa_nil))))) (pw_or1 (pt_cmpR op_eq (pe_op op_mod (pe_callB call_len_seq (by rfl) T.n_len PySem.boot_len (pa_cons (pv 4) pa_nil)) pe_int) pe_int (nomark _)))))))
        (pss_one (ps_ret pe_bl))
        pss_nil)
      (pss_one (ps_ret (pe_and (pe_callB (cr_all rfl) (by rfl) T.n_all PyProof.Rows.boot_all (pa_cons (pe_lc (own := [("one", 5)]) (g := gName 5) (tt := tYes) rfl sc_fits_there.nd (pi_tup (pv 3)) (blkOk_by (N := ["thing", "many", "places", "kept", "picks", "one", "place"]) (sc := defScope s_fits_there) (by decide +kernel)) (fun _ _ _ _ _ => (pg_name (i := 5) sc_fits_there.nd rfl (Or.inl rfl))) (fun _ _ _ _ _ => pts_nil) (fun _ _ _ _ _ => (pe_callN G_is_whole (hr.mono (by decide)) rfl T.c_is_whole.m T.c_is_whole.F.kp kb_is_whole_most pass0 (pa_cons (pv 5) pa_nil) (pk_cons (pv 1) pk_nil)))) pa_nil)) (pe_one (pe_callB (cr_all rfl) (by rfl) T.n_all PyProof.Rows.boot_all (pa_cons (pe_lc (own := [("one", 5)]) (g := gName 5) (tt := tYes) rfl sc_fits_there.nd (pi_tup (pv 4)) (blkOk_by (N := ["thing", "many", "places", "kept", "picks", "one", "place"]) (sc := defScope s_fits_there) (by decide +kernel)) (fun _ _ _ _ _ => (pg_name (i := 5) sc_fits_there.nd rfl (Or.inl rfl))) (fun _ _ _ _ _ => pts_nil) (fun _ _ _ _ _ => (pe_callN G_is_whole (hr.mono (by decide)) rfl T.c_is_whole.m T.c_is_whole.F.kp kb_is_whole_least pass0 (pa_cons (pv 5) pa_nil) (pk_cons pe_int pk_nil)))) pa_nil)))))))))), ?_⟩
    obtain ⟨kd, hk, hc⟩ := t.kin (K := K)
    walk_at "st"
    walk_at "rd"
    refine rd_isi hk (kit_tuple _) ?_
    rcases hc with ⟨rfl, p, xs, rfl, hp, hl, _⟩ | ⟨e1, n1⟩
    rotate_left
    · rw [e1]
      walk_at "rd"
      refine k false _ (bF ?_) (fun _ _ e => e)
      rintro ⟨a, _, _, _, _, _, _, _, _, e, R, _⟩
      exact absurd R.hp (n1 a _ e)
    have S := Hs.start1 hp [] (.inl rfl)
    have he := t.part hp
    walk_at "rd"
    walk_at "if0"
    refine rd_dec ?_ ?_ <;> intro h1
    · walk_at "rd"
      refine k false _ (bF ?_) (fun _ _ e => e)
      rintro ⟨_, _, _, _, _, _, _, _, _, e, R, _⟩
      cases e
      have := tup_inj hp R.hp
      subst this
      simp at h1
    obtain ⟨x1, x2, x3, x4, x5, rfl⟩ := len5 h1
    walk_at "rd"
    refine rd_star S (by walk_at "mem") hl (by simp) (ys := [x1, x2, x3]) (zs := [x4, x5]) rfl rfl fun q H1 hq S1 => ?_
    clear S
    walk_at "rd"
    obtain ⟨bs, b1, b2, b3⟩ := whs [x1, x2, x3] 0 M
    refine lcw_list (xs := [x1, x2, x3]) S1 (fun i acc => acc = (bs.take i).map V.bl) (by simp) (fun H' acc D S => S.lst (by walk_at "mem")) ?_ ?_
    · rintro D i x acc H2 hi rfl hD S
      have hil : i < 3 := (List.getElem?_eq_some_iff.mp hi).1
      have hx := List.mem_of_getElem? hi
      walk_at "lc"
      refine ⟨rfl, rfl, x, 0, M, _, rfl, (he x (by simp only [List.mem_cons, List.not_mem_nil, or_false] at hx ⊢; rcases hx with h | h | h <;> simp [h])).more (.same S.same), ?_⟩
      refine rd_lcPut S (by walk_at "chg") hD (Rs.sz' (by simp only [List.length_map, List.length_take]; omega)) (by walk_at "sub") ?_
      rw [List.take_succ, b2 i x hi]
      simp
    rintro D acc H2 rfl hD S
    rw [← b1, List.take_length] at S
    walk_at "rd"
    refine rd_all S (by walk_at "mem") rfl ?_
    cases hb : bs.all id with
    | false =>
      walk_at "rd"
      refine k false _ (bF fun g => ?_) S.same
      obtain ⟨kq, pq, s, m, e, a, b, pk, rfl, rfl, rfl, rfl, rfl, R, c1, c2, c3, c4, _⟩ := g.five hp
      have := b3.mpr ⟨[s, m, e], rfl, fun n hn => by
        simp only [List.mem_cons, List.not_mem_nil, or_false] at hn
        rcases hn with rfl | rfl | rfl <;> omega⟩
      rw [hb] at this
      cases this
    | true =>
    obtain ⟨ns, e3, hns⟩ := b3.mp hb
    obtain ⟨s, m, e, rfl, rfl, rfl, rfl⟩ := len3 (ys := []) e3
    have hs := hns s (by simp); have hm := hns m (by simp); have he2 := hns e (by simp)
    have i0 : atI [V.int s, V.int m, V.int e] 0 = some (.int s) := atI_nat (j := 0) rfl
    have i1 : atI [V.int s, V.int m, V.int e] 1 = some (.int m) := atI_nat (j := 1) rfl
    have i2 : atI [V.int s, V.int m, V.int e] 2 = some (.int e) := atI_nat (j := 2) rfl
    have sm2 := S.same
    walk_at "rd"
    walk_at "if0"
    have no : ¬ (s < m ∧ m < e) → Q (.bl false) H2 := fun z => k false _ (bF fun g => by
      obtain ⟨kq, pq, s', m', e', a, b, pk, q1, q2, q3, rfl, rfl, R, c1, c2, c3, c4, _⟩ := g.five hp
      cases q1; cases q2; cases q3
      exact z ⟨c2, c3⟩) sm2
    refine rd_dec ?_ ?_ <;> intro h2
    rotate_left
    · walk_at "rd"
      exact no fun z => h2 z.1
    walk_at "rd"
    by_cases h3 : m < e
    rotate_left
    · rw [decide_eq_false h3]
      walk_at "rd"
      exact no fun z => h3 z.2
    rw [decide_eq_true h3]
    walk_at "rd"
    walk_at "if0"
    have t4 := he x4 (by simp)
    have t5 := he x5 (by simp)
    obtain ⟨kd4, hk4, hc4⟩ := (t4.more (.same sm2)).kin (K := K)
    refine rd_isi hk4 (kit_tuple _) ?_
    rcases hc4 with ⟨rfl, kq, ks, rfl, hkq, hl4, he4⟩ | ⟨e4, n4⟩
    rotate_left
    · rw [e4]
      walk_at "rd"
      refine k false _ (bF fun g => ?_) sm2
      obtain ⟨kq, pq, s', m', e', a, b, pk, q1, q2, q3, rfl, rfl, R, _⟩ := g.five hp
      exact n4 kq _ rfl (sm2 _ _ R.hk)
    have hkq0 : H kq = some (.tup ks) := t4.back (.same sm2) hkq
    have S4 := Hs.start1 hkq [] (.inl rfl)
    walk_at "rd"
    walk_at "if0"
    refine rd_dec ?_ ?_ <;> intro h5
    · walk_at "rd"
      refine k false _ (bF fun g => ?_) sm2
      obtain ⟨kq', pq, s', m', e', a, b, pk, q1, q2, q3, q4, rfl, R, _⟩ := g.five hp
      cases q4
      have := tup_inj hkq0 R.hk
      subst this
      simp at h5
    obtain ⟨y1, y2, rfl⟩ := len2 h5
    walk_at "rd"
    obtain ⟨kd5, hk5, hc5⟩ := (t5.more (.same sm2)).kin (K := K)
    refine rd_isi hk5 (kit_tuple _) ?_
    rcases hc5 with ⟨rfl, pq, ps, rfl, hpq, hl5, he5⟩ | ⟨e5, n5⟩
    rotate_left
    · rw [e5]
      walk_at "rd"
      refine k false _ (bF fun g => ?_) sm2
      obtain ⟨kq, pq, s', m', e', a, b, pk, q1, q2, q3, q4, rfl, R, _⟩ := g.five hp
      exact n5 pq _ rfl (sm2 _ _ R.hq)
    have hpq0 : H pq = some (.tup ps) := t5.back (.same sm2) hpq
    have S5 := Hs.start1 hpq [] (.inl rfl)
    clear S
    walk_at "rd"
    walk_at "if0"
    rename_i r hr1 hr2 hr3
    refine rd_dec ?_ ?_ <;> intro h6
    · walk_at "rd"
      refine k false _ (bF fun g => ?_) sm2
      obtain ⟨kq', pq', s', m', e', a, b, pk, q1, q2, q3, q4, q5, R, _, _, _, _, _, _, ev, _⟩ := g.five hp
      cases q5
      have := tup_inj hpq0 R.hq
      subst this
      rw [List.length_map] at hr1
      omega
    have ev : ps.length % 2 = 0 := by omega
    clear S5
    walk_at "rd"
    obtain ⟨cs, c1, c2, c3⟩ := whs [y1, y2] 0 M
    refine lcw_tup (xs := [y1, y2]) S4 (fun i acc => acc = (cs.take i).map V.bl) (by simp) (fun H' acc D S => S.tup (by walk_at "mem")) ?_ ?_
    · rintro D i x acc H3 hi rfl hD S
      have hil : i < 2 := (List.getElem?_eq_some_iff.mp hi).1
      have hx := List.mem_of_getElem? hi
      walk_at "lc"
      refine ⟨rfl, rfl, x, 0, M, _, rfl, (he4 x hx).more (.same S.same), ?_⟩
      refine rd_lcPut S (by walk_at "chg") hD (Rs.sz' (by simp only [List.length_map, List.length_take]; omega)) (by walk_at "sub") ?_
      rw [List.take_succ, c2 i x hi]
      simp
    rintro D4 acc H3 rfl hD4 S6
    rw [← c1, List.take_length] at S6
    have sm3 : Same H H3 := same_trans sm2 S6.same
    walk_at "rd"
    refine rd_all S6 (by walk_at "mem") rfl ?_
    cases hb4 : cs.all id with
    | false =>
      walk_at "rd"
      refine k false _ (bF fun g => ?_) sm3
      obtain ⟨kq', pq', s', m', e', a, b, pk, q1, q2, q3, q4, q5, R, _, _, _, _, ca, cb, _⟩ := g.five hp
      cases q4
      have := tup_inj hkq0 R.hk
      have := c3.mpr ⟨[a, b], this, fun n hn => by
        simp only [List.mem_cons, List.not_mem_nil, or_false] at hn
        rcases hn with rfl | rfl <;> omega⟩
      rw [hb4] at this
      cases this
    | true =>
    obtain ⟨as_, ea, ha⟩ := c3.mp hb4
    obtain ⟨a, b, rfl⟩ : ∃ a b, as_ = [a, b] := by
      match as_, ea with
      | [a, b], _ => exact ⟨a, b, rfl⟩
      | [], h => simp at h
      | [_], h => simp at h
      | _ :: _ :: _ :: _, h => simp at h
    simp only [List.map_cons, List.map_nil, List.cons.injEq, and_true] at ea
    obtain ⟨rfl, rfl⟩ := ea
    have ha1 := ha a (by simp); have hb1 := ha b (by simp)
    clear S4
    have S7 := Hs.start1 (sm3 _ _ hpq0) [] (.inl rfl)
    obtain ⟨ds, d1, d2, d3⟩ := whs ps 1 4096
    walk_at "rd"
    walk_at "if1"
    refine lcw_tup (xs := ps) S7 (fun i acc => acc = (ds.take i).map V.bl) (by simp) (fun H' acc D S => S.tup (by walk_at "mem")) ?_ ?_
    · rintro D i x acc H3 hi rfl hD S
      have hil : i < ps.length := (List.getElem?_eq_some_iff.mp hi).1
      have hx := List.mem_of_getElem? hi
      walk_at "lc"
      refine ⟨rfl, rfl, x, 1, 4096, _, rfl, ((he5 x hx).more (.same S6.same)).more (.same S.same), ?_⟩
      refine rd_lcPut S (by walk_at "chg") hD (Rs.sz' (by simp only [List.length_map, List.length_take]; omega)) (by walk_at "sub") ?_
      rw [List.take_succ, d2 i x hi]
      simp
    rintro D5 acc H4 rfl hD5 S8
    rw [← d1, List.take_length] at S8
    have sm4 : Same H H4 := same_trans sm3 S8.same
    walk_at "rd"
    refine rd_all S8 (by walk_at "mem") rfl ?_
    refine k _ _ ⟨fun z => ?_, fun g => ?_⟩ sm4
    · obtain ⟨pk, rfl, hpk⟩ := d3.mp z
      rw [List.length_map] at ev hl5
      exact ⟨p, kq, pq, s, m, e, a, b, pk, rfl, ⟨hp, hkq0, hpq0, ap p _ _ _ kq pq rfl hp⟩, hs.1, h2, h3, he2.2, ha1, hb1, ev, hpk, by omega⟩
    · obtain ⟨kq', pq', s', m', e', a', b', pk, q1, q2, q3, q4, q5, R, _, _, _, _, _, _, _, hpk⟩ := g.five hp
      cases q5
      have := tup_inj hpq0 R.hq
      exact d3.mpr ⟨pk, this, hpk⟩
theorem ok_co (T : Txt K mg w A) : FnOk P w K mg base CX0 1 A.f_comes_out A.d_comes_out ["merge"] sp_co := by
  refine T.c_comes_out.F.ok sc_comes_out (fun vs H Q E h => ?_) (fun cdv Ar outer s H vs Q E hr h => ?_)
  · obtain ⟨p, kq, pq, s, m, e, a, b, pk, rfl, _⟩ := h; rfl
  · obtain ⟨p, kq, pq, s, m, e, a, b, pk, rfl, R, hl, k⟩ := h
    refine ⟨_, (pss_cons (ps_asg (pv 0) (pg_tup rfl (pgs_cons (pg_name (i := 1) sc_comes_out.nd rfl (Or.inl rfl)) (pgs_cons (pg_name (i := 2) sc_comes_out.nd rfl (Or.inl rfl)) (pgs_cons (pg_name (i := 3) sc_comes_out.nd rfl (Or.inl rfl)) (pgs_cons (pg_name (i := 4) sc_comes_out.nd rfl (Or.inl rfl)) (pgs_cons (pg_name (i := 5) sc_comes_out.nd rfl (Or.inl rfl)) pgs_nil)))))))
      (pss_cons (ps_par (i := 6) (j := 7) rfl sc_comes_out.nd rfl rfl (by decide) rfl rfl (pa_cons (pe_callBK (Xn.cr_sumTK rfl) (by rfl) T.n_sum PyProof.Rows.boot_sum (pa_cons (pe_slT3 (pv 5) po_none po_none (po_some pe_int)) pa_nil) (pk_cons (pe_ix ix_tup (pv 4) pe_int (fun _ _ => rfl)) pk_nil)) (pa_cons (pe_callBK (Xn.cr_sumTK rfl) (by rfl) T.n_sum PyProof.Rows.boot_sum (pa_cons (pe_slT3 (pv 5) (po_some pe_int) po_none (po_some pe_int)) pa_nil) (pk_cons (pe_ix ix_tup (pv 4) pe_int (fun _ _ => rfl)) pk_nil)) pa_nil)) (by rfl))
      (pss_one (ps_ret (pe_cmpR (op_eqD hr.units) (pe_tup (pa_cons (pv 7) (pa_cons (pv 6) pa_nil))) (pe_tup (pa_cons (pe_op op_sub (pv 2) (pv 1)) (pa_cons (pe_op op_sub (pv 3) (pv 2)) pa_nil))) (nomark _)))))), ?_⟩
    have S := R.led
    have i0 : atI [V.int a, V.int b] 0 = some (.int a) := atI_nat (j := 0) rfl
    have i1 : atI [V.int a, V.int b] 1 = some (.int b) := atI_nat (j := 1) rfl
    walk_at "st"
    walk_at "rd"
    refine rd_slR3 S (by walk_at "mem") rfl (by decide) (by decide) (Rs.sz (by have := pick_le pk none (Or.inl rfl); omega)) fun p1 H1 hp1 S1 => ?_
    walk_at "rd"
    refine Xn.rd_sumTK S1 (by walk_at "mem") ?_
    walk_at "rd"
    refine rd_slR3 S1 (by walk_at "mem") rfl (by decide) (by decide) (Rs.sz (by have := pick_le pk (some 1) (Or.inr rfl); omega)) fun p2 H2 hp2 S2 => ?_
    clear S S1
    walk_at "rd"
    refine Xn.rd_sumTK S2 (by walk_at "mem") ?_
    walk_at "rd"
    refine rd_eqTs (xs := [.int (a + (pickI pk (some 1) none 2).sum), .int (b + (pickI pk none none 2).sum)]) (ys := [.int (m - s), .int (e - m)]) (by assumption) (by walk_at "mem") (by walk_at "mem") (ns := [a + (pickI pk (some 1) none 2).sum, b + (pickI pk none none 2).sum]) (ms := [m - s, e - m]) rfl rfl ?_
    simp only [List.cons.injEq, and_true]
    apply k
    walk_at "end"
end
end K30

namespace K30
open PySem L2 Rs Xc Xd Xh
theorem Txt.m_second_is_so {K : PySem.W.Frag} {mg : Str → Option Value} {w : World} {A : Ad} (T : Txt K mg w A) : mg "second_is_so" = some (.ref A.f_second_is_so) := T.c_second_is_so.m
theorem Txt.m_first_is_so {K : PySem.W.Frag} {mg : Str → Option Value} {w : World} {A : Ad} (T : Txt K mg w A) : mg "first_is_so" = some (.ref A.f_first_is_so) := T.c_first_is_so.m
/-- all but the order stays -/
def KJ (j : Addr) (H H' : Hp) : Prop := ∀ b o, H b = some o → b ≠ j → H' b = some o
def sp_check (CO C : Addr) : Sp := fun vs H Q E => ∃ (r j dx : Addr) (x : V) (xs : List Int) (fs : List (Str × V)), vs = [.ref r, .ref j, x] ∧ H r = some (.lst (xs.map V.int)) ∧ xs.length ≤ 4096 ∧ H j = some (.ins CO dx fs) ∧ Th H 4 x ∧ Apart H x ∧
  (¬ Good H x xs.length → ∀ H' d, Same H H' → H' d = none → E (.ref C) (some d) (upd H' d (.xd [("at", .str "merge")]))) ∧
  (Good H x xs.length → OrdAt CO H j ∧ (∀ H', KJ j H H' → Q .non H') ∧ ∀ (v : V) H' d, (v = .str "kept" ∨ ∃ n : Int, v = .int n) → KJ j H H' → H' d = none → E (.ref C) (some d) (upd H' d (.xd [("at", v)])))
theorem Good.form {H : Hp} {v : V} {n : Int} (hn : n ≤ 4096) (g : Good H v n) : Form H v n := by
  obtain ⟨p, kq, pq, s, m, e, a, b, pk, rfl, R, W, he⟩ := g
  have := W.sm; have := W.me; have := W.s0; have := W.am; have := W.bm; have := W.a0; have := W.b0; have := W.e1
  exact ⟨p, kq, pq, s, m, e, a, b, pk, rfl, R, by omega, by omega, by omega, he, ⟨by omega, by omega⟩, ⟨by omega, by omega⟩, W.ev, W.pos, W.len⟩
theorem pick_mem {pk : List Int} {lo hi : Option Int} {x : Int} (h : x ∈ pickI pk lo hi 2) : x ∈ pk := by
  unfold pickI at h
  obtain ⟨i, _, hi⟩ := List.mem_filterMap.mp h
  exact List.mem_of_getElem? hi
theorem sums_ge {pk : List Int} (h : ∀ x ∈ pk, 1 ≤ x ∧ x ≤ 4096) (lo : Option Int) : 0 ≤ (pickI pk lo none 2).sum := ssum2 fun x hx => (h x (pick_mem hx)).1
theorem form_good {H : Hp} {p kq pq : Addr} {s m e a b n : Int} {pk : List Int} (hn : n ≤ 4096) (R : MA H p kq pq s m e a b pk) (h1 : 0 ≤ s) (h2 : s < m) (h3 : m < e) (h4 : e ≤ n) (h5 : 0 ≤ a ∧ a ≤ n) (h6 : 0 ≤ b ∧ b ≤ n) (h7 : pk.length % 2 = 0) (h8 : ∀ x ∈ pk, 1 ≤ x ∧ x ≤ 4096) (h9 : pk.length ≤ 1000) :
    Good H (.ref p) n ↔ (a + (pickI pk (some 1) none 2).sum = m - s ∧ b + (pickI pk none none 2).sum = e - m) := by
  constructor
  · rintro ⟨p', kq', pq', s', m', e', a', b', pk', e1, R', W, _⟩
    cases e1
    have := tup_inj R.hp R'.hp
    simp only [List.cons.injEq, V.int.injEq, V.ref.injEq, and_true] at this
    obtain ⟨rfl, rfl, rfl, rfl, rfl⟩ := this
    have := tup_inj R.hk R'.hk
    simp only [List.cons.injEq, V.int.injEq, and_true] at this
    obtain ⟨rfl, rfl⟩ := this
    have := ints_inj (tup_inj R.hq R'.hq)
    subst this
    have := W.sec; have := W.fst
    omega
  · rintro ⟨c1, c2⟩
    have := sums_ge h8 none
    have := sums_ge h8 (some 1)
    exact ⟨p, kq, pq, s, m, e, a, b, pk, rfl, R, ⟨h1, h2, h3, by omega, h5.1, h6.1, by omega, by omega, h7, h8, h9, by omega, by omega⟩, h4⟩
section
variable {P : Program} {w : World} {K : PySem.W.Frag} {mg : Str → Option Value} {base : Heap} {A : Ad} {H H0 : Hp} {MM : List Addr} {L L' F : Led} {Q : VK} {E : XK} {σ : L2.St}
theorem kj_led {j : Addr} {H' : Hp} (S : Hs H0 [j] H L) (k : KJ j H H') (hj : H' j ≠ none) (n : ∀ q ∈ L, q.1 ≠ j) : Hs H0 [j] H' L := by
  refine ⟨S.nd, fun q hq => k _ _ (S.is q hq) (n q hq), fun b o e hb => ?_, fun b hb => ?_⟩
  · exact k _ _ (S.old b o e hb) fun z => hb (by rw [z]; simp)
  · obtain rfl : b = j := by simpa using hb
    exact hj
theorem OrdAt.there {C j : Addr} (o : OrdAt C H j) : H j ≠ none := by
  obtain ⟨_, _, _, e, _⟩ := o
  rw [e]; simp
theorem ok_check (T : Txt K mg w A) : FnOk P w K mg base (L2.CX P w) 5 A.f_check_merge A.d_check_merge ["row", "order", "merge"] (sp_check A.C_Order A.C_BadPaper) := by
  have G_need_row : FnOk P w K mg base CX0 1 A.f_need_row A.d_need_row ["thing"] sp_row := ok_row T
  have G_need_order : FnOk P w K mg base CX0 1 A.f_need_order A.d_need_order ["thing"] (sp_norder A.C_Order) := ok_norder T
  have G_fits_there : FnOk P w K mg base CX0 2 A.f_fits_there A.d_fits_there ["thing", "many"] sp_ft := ok_ft T
  have G_comes_out : FnOk P w K mg base CX0 1 A.f_comes_out A.d_comes_out ["merge"] sp_co := ok_co T
  have G_front_stays : FnOk P w K mg base CX0 3 A.f_front_stays A.d_front_stays ["row", "order", "start", "middle", "many"] (sp_stays A.C_Order) := ok_front T
  have G_end_stays : FnOk P w K mg base CX0 3 A.f_end_stays A.d_end_stays ["row", "order", "middle", "end", "many"] (sp_ends A.C_Order) := ok_ends T
  have G_BadPaper : FnOk P w K mg base CX0 1 A.f_BadPaper___init__ A.d_BadPaper___init__ ["self", "at"] (Xc.spInit1 A.C_BadPaper "at") := ok_xBadPaper T
  refine T.c_check_merge.F.okX sc_check_merge (fun vs H Q E h => ?_) (fun cdv Ar outer s H vs Q E hr h => ?_)
  · obtain ⟨r, j, dx, x, xs, fs, rfl, _⟩ := h; rfl
  · obtain ⟨r, j, dx, x, xs, fs, rfl, hx, hl, hj, t, ap, k1, k2⟩ := h
    refine ⟨_, (pss_cons (ps_expr (pe_call G_need_row (hr.mono (by decide)) rfl T.c_need_row.m T.c_need_row.F.kp T.c_need_row.b .nil pass0 (pa_cons (pv 0) pa_nil)))
      (pss_cons (ps_expr (pe_call G_need_order (hr.mono (by decide)) rfl T.c_need_order.m T.c_need_order.F.kp T.c_need_order.b .nil pass0 (pa_cons (pv 1) pa_nil)))
      (pss_cons (ps_if (PW.pt (pw_or (pt_not (pt_val (pe_call G_fits_there (hr.mono (by decide)) rfl T.c_fits_there.m T.c_fits_there.F.kp T.c_fits_there.b .nil pass0 (pa_cons (pv 2) (pa_cons (pe_callB call_len_seq (by rfl) T.n_len PySem.boot_len (pa_cons (pv 0) pa_nil)) pa_nil))))) (pw_or1 (pt_not (pt_val (pe_call G_comes_out (hr.mono (by decide)) rfl T.c_comes_out.m T.c_comes_out.F.kp T.c_comes_out.b .nil pass0 (pa_cons (pv 2) pa_nil)))))))
        (pss_one (ps_raise rfl (takes_of rfl rfl rfl rfl) (Xc.pmk_own T.o_BadPaper T.i_BadPaper T.y_BadPaper G_BadPaper (hr.mono (by decide)) T.c_BadPaper___init__.b .nil pass0 rfl T.m_BadPaper (pa_cons pe_str pa_nil))))
        pss_nil)
      (pss_cons (ps_asg (pv 2) (pg_tup rfl (pgs_cons (pg_name (i := 3) sc_check_merge.nd rfl (Or.inl rfl)) (pgs_cons (pg_name (i := 4) sc_check_merge.nd rfl (Or.inl rfl)) (pgs_cons (pg_name (i := 5) sc_check_merge.nd rfl (Or.inl rfl)) (pgs_cons (pg_tup rfl (pgs_cons (pg_name (i := 6) sc_check_merge.nd rfl (Or.inl rfl)) (pgs_cons (pg_name (i := 7) sc_check_merge.nd rfl (Or.inl rfl)) pgs_nil))) (pgs_cons (pg_name (i := 8) sc_check_merge.nd rfl (Or.inl rfl)) pgs_nil)))))))
      (pss_cons (ps_if (PW.pt (pw_or (pt_not (pt_val (pe_call G_front_stays (hr.mono (by decide)) rfl T.c_front_stays.m T.c_front_stays.F.kp T.c_front_stays.b .nil pass0 (pa_cons (pv 0) (pa_cons (pv 1) (pa_cons (pv 3) (pa_cons (pv 4) (pa_cons (pv 6) pa_nil)))))))) (pw_or1 (pt_not (pt_val (pe_call G_end_stays (hr.mono (by decide)) rfl T.c_end_stays.m T.c_end_stays.F.kp T.c_end_stays.b .nil pass0 (pa_cons (pv 0) (pa_cons (pv 1) (pa_cons (pv 4) (pa_cons (pv 5) (pa_cons (pv 7) pa_nil)))))))))))
        (pss_one (ps_raise rfl (takes_of rfl rfl rfl rfl) (Xc.pmk_own T.o_BadPaper T.i_BadPaper T.y_BadPaper G_BadPaper (hr.mono (by decide)) T.c_BadPaper___init__.b .nil pass0 rfl T.m_BadPaper (pa_cons pe_str pa_nil))))
        pss_nil)
      (pss_cons (ps_par3 (i := 9) (j := 10) (l := 11) rfl sc_check_merge.nd rfl rfl rfl (by decide) (by decide) (by decide) rfl rfl rfl (pa_cons (pe_op op_add (pv 3) (pv 6)) (pa_cons (pv 4) (pa_cons (pe_op op_sub (pv 5) (pv 7)) pa_nil))) (by rfl))
      (pss_one (ps_for (passes_of rfl) rfl (Xd.pi_enT (by rfl) T.n_enumerate (pa_cons (pv 8) pa_nil)) (pg_tup rfl (pgs_cons (pg_name (i := 12) sc_check_merge.nd rfl (Or.inl rfl)) (pgs_cons (pg_name (i := 13) sc_check_merge.nd rfl (Or.inl rfl)) pgs_nil)))
        (pss_cons (ps_set (i := 14) sc_check_merge.nd rfl (Or.inl rfl) (pe_cmpR op_eq (pe_op op_mod (pv 12) pe_int) pe_int (nomark _)))
        (pss_cons (ps_set (i := 15) sc_check_merge.nd rfl (Or.inl rfl) (pe_ifExp (pt_val (pv 14)) (pe_glob (v := .ref A.f_second_is_so) rfl T.m_second_is_so rfl) (pe_glob (v := .ref A.f_first_is_so) rfl T.m_first_is_so rfl)))
        (pss_cons (ps_if (pt_not (pt_val (Xn.pe_callVK (CX := L2.CX P w) (E := E) (k := 3) (i := 15) rfl (Or.inl rfl) (pa_cons (pv 0) (pa_cons (pv 1) (pa_cons (pv 9) (pa_cons (pv 10) (pa_cons (pv 11) (pa_cons (pv 13) pa_nil)))))) hr (by decide) (passes_call (takes_of rfl rfl rfl rfl) fun _ _ _ _ z => z))))
          (pss_one (ps_raise rfl (takes_of rfl rfl rfl rfl) (Xc.pmk_own T.o_BadPaper T.i_BadPaper T.y_BadPaper G_BadPaper (hr.mono (by decide)) T.c_BadPaper___init__.b .nil pass0 rfl T.m_BadPaper (pa_cons (pv 12) pa_nil))))
          pss_nil)
        (pss_cons (ps_aug (i := 9) sc_check_merge.nd rfl (Or.inl rfl) (pe_ifExp (pt_val (pv 14)) pe_int (pv 13)) ip_add)
        (pss_one (ps_aug (i := 10) sc_check_merge.nd rfl (Or.inl rfl) (pe_ifExp (pt_val (pv 14)) (pv 13) pe_int) ip_add)))))))))))))), ?_⟩
    have S := Hs.start1 hx [] (.inl rfl)
    walk_at "st"
    walk_at "rd"
    refine ⟨r, _, rfl, hx, by rw [List.length_map]; exact hl, ?_⟩
    walk_at "rd"
    refine ⟨j, dx, fs, rfl, hj, ?_⟩
    walk_at "rd"
    refine ⟨x, _, rfl, t, ap, by rw [List.length_map]; omega, by rw [List.length_map]; omega, fun b H1 hb sm => ?_⟩
    rw [List.length_map] at hb
    cases b with
    | false =>
      walk_at "rd"
      walk_at "if1"
      exact Xc.rd_mk1 fun d hd => k1 (fun g => by cases hb.mpr (g.form (by omega))) H1 d sm hd
    | true =>
    obtain ⟨p, kq, pq, s, m, e, a, b, pk, rfl, R, h1, h2, h3, h4, h5, h6, h7, h8, h9⟩ := hb.mp rfl
    have gi := form_good (by omega) R h1 h2 h3 h4 h5 h6 h7 h8 h9
    walk_at "rd"
    walk_at "if0"
    refine ⟨p, kq, pq, s, m, e, a, b, pk, rfl, R.more (.same sm), h9, fun H2 sm2 => ?_⟩
    have sm12 : Same H H2 := same_trans sm sm2
    by_cases hc : a + (pickI pk (some 1) none 2).sum = m - s ∧ b + (pickI pk none none 2).sum = e - m
    rotate_left
    · rw [decide_eq_false hc]
      walk_at "rd"
      walk_at "if1"
      exact Xc.rd_mk1 fun d hd => k1 (fun g => hc (gi.mp g)) H2 d sm12 hd
    rw [decide_eq_true hc]
    have gd := gi.mpr hc
    obtain ⟨⟨dx2, f, n0, hj2, hrl⟩, kN, kE⟩ := k2 gd
    clear k1 k2
    have hjr : j ≠ r := ne_of hj hx (by intro z; cases z)
    have R2 := R.more (.same sm12)
    have hjp : j ≠ p := ne_of hj R.hp (by intro z; cases z)
    have hjk : j ≠ kq := ne_of hj R.hk (by intro z; cases z)
    have hjq : j ≠ pq := ne_of hj R.hq (by intro z; cases z)
    have hrp : r ≠ p := ne_of hx R.hp (by intro z; cases z)
    have hrk : r ≠ kq := ne_of hx R.hk (by intro z; cases z)
    have hrq : r ≠ pq := ne_of hx R.hq (by intro z; cases z)
    have S2 : Hs H2 [j] H2 [(r, .lst (xs.map V.int)), (p, .tup [.int s, .int m, .int e, .ref kq, .ref pq]), (kq, .tup [.int a, .int b]), (pq, .tup (pk.map V.int))] := by
      refine Hs.start H2 [j] _ ?_ (fun q hq => ?_) (fun b hb => ?_)
      · have := R2.led.nd
        simp only [List.map_cons, List.map_nil] at this ⊢
        rw [List.nodup_cons]
        exact ⟨by simp [hrp, hrk, hrq], this⟩
      · simp only [List.mem_cons, List.not_mem_nil, or_false] at hq
        rcases hq with rfl | rfl | rfl | rfl
        · exact sm12 _ _ hx
        · exact R2.hp
        · exact R2.hk
        · exact R2.hq
      · obtain rfl : b = j := by simpa using hb
        rw [sm12 _ _ hj2]; simp
    have od2 : OrdAt A.C_Order H2 j := ⟨dx2, f, n0, sm12 _ _ hj2, hrl.same sm12⟩
    have nj : ∀ q ∈ ([(r, .lst (xs.map V.int)), (p, .tup [.int s, .int m, .int e, .ref kq, .ref pq]), (kq, .tup [.int a, .int b]), (pq, .tup (pk.map V.int))] : Led), q.1 ≠ j := by
      intro q hq
      simp only [List.mem_cons, List.not_mem_nil, or_false] at hq
      rcases hq with rfl | rfl | rfl | rfl
      · exact hjr.symm
      · exact hjp.symm
      · exact hjk.symm
      · exact hjq.symm
    clear S
    obtain ⟨c1, c2⟩ := hc
    have q1 := sums_ge h8 none
    have q2 := sums_ge h8 (some 1)
    obtain ⟨p1, p2⟩ := ssum_pick pk fun z hz => by have := h8 z hz; omega
    generalize hN : pk.map Int.toNat = pN at p1 p2
    walk_at "rd"
    walk_at "if0"
    have outE : ∀ (v : V) (H' : Hp) (d : Addr), (v = .str "kept" ∨ ∃ n : Int, v = .int n) → KJ j H2 H' → H' d = none → E (.ref A.C_BadPaper) (some d) (upd H' d (.xd [("at", v)])) := fun v H' d hv kj hd => kE v H' d hv (fun b o e1 e2 => kj _ _ (sm12 _ _ e1) e2) hd
    refine ⟨r, j, xs, s, m, a, rfl, S2.get (by walk_at "mem"), od2, h1, h2, by omega, h5.1, by omega, fun b1 H3 od3 old3 => ?_⟩
    have S3 := kj_led S2 old3 od3.there nj
    cases b1 with
    | false =>
      walk_at "rd"
      walk_at "if1"
      exact Xc.rd_mk1 fun d hd => outE _ H3 d (.inl rfl) (fun b o e1 e2 => S3.old1 e1 e2) hd
    | true =>
    clear S2
    walk_at "rd"
    walk_at "if0"
    refine ⟨r, j, xs, m, e, b, rfl, S3.get (by walk_at "mem"), od3, by omega, h3, by omega, h6.1, by omega, fun b2 H4 od4 old4 => ?_⟩
    have S4 := kj_led S3 old4 od4.there nj
    cases b2 with
    | false =>
      walk_at "rd"
      walk_at "if1"
      exact Xc.rd_mk1 fun d hd => outE _ H4 d (.inl rfl) (fun b o e1 e2 => S4.old1 e1 e2) hd
    | true =>
    clear S3
    walk_at "rd"
    walk_at "if0"
    refine rd_enT ?_
    walk_at "rd"
    refine rd_enTI S4 (by walk_at "mem") ?_
    refine fw_enT (xs := pk.map V.int) (fun i σ H' => ∃ (x y : Int) (o1 o2 o3 o4 : Option V), σ = [some (.ref r), some (.ref j), some (.ref p), some (.int s), some (.int m), some (.int e), some (.int a), some (.int b), some (.ref pq), some (.int x), some (.int y), some (.int (e - b)), o1, o2, o3, o4] ∧
      Hs H2 [j] H' [(r, .lst (xs.map V.int)), (p, .tup [.int s, .int m, .int e, .ref kq, .ref pq]), (kq, .tup [.int a, .int b]), (pq, .tup (pk.map V.int))] ∧ OrdAt A.C_Order H' j ∧ 0 ≤ x ∧ 0 ≤ y ∧
      (if i % 2 = 0 then y + ((ssum (pN.drop i)).1 : Int) = e - b ∧ x + ((ssum (pN.drop i)).2 : Int) = m else y + ((ssum (pN.drop i)).2 : Int) = e - b ∧ x + ((ssum (pN.drop i)).1 : Int) = m)) ⟨s + a, m, _, _, _, _, rfl, S4, od4, by omega, by omega, by simp; omega⟩ (fun i σ H' _ h => by
        obtain ⟨x, y, o1, o2, o3, o4, _, S, _⟩ := h
        exact S.tup (by walk_at "mem")) ?_ ?_
    · rintro i v σ H5 T' hi ⟨x, y, o1, o2, o3, o4, rfl, S, od, x0, y0, inv⟩ hT
      obtain ⟨z, rfl, dm, hz, hil⟩ := drop_more hi
      rw [hN] at dm
      have hz2 := h8 z hz
      rw [dm] at inv
      simp only [ssum] at inv
      clear S4
      have hTj : T' ≠ j := fun z => by obtain ⟨_, _, _, e, _⟩ := od; rw [z, e] at hT; cases hT
      have odT : OrdAt A.C_Order (upd H5 T' (.tup [.int (i : Nat), .int z])) j := by
        obtain ⟨d9, f9, n9, e9, r9⟩ := od
        refine ⟨d9, f9, n9, (upd_ne hTj.symm).trans e9, r9.same fun b o e => (upd_ne (ne_of_none e hT)).trans e⟩
      obtain ⟨_, S5⟩ := S.new hT (.tup [.int (i : Nat), .int z])
      walk_at "rd"
      rename_i rr hr1 hr2 hr3
      have S6 : Hs H2 [j] (upd H5 T' (.tup [.int (i : Nat), .int z])) [(r, .lst (xs.map V.int)), (p, .tup [.int s, .int m, .int e, .ref kq, .ref pq]), (kq, .tup [.int a, .int b]), (pq, .tup (pk.map V.int))] := S5.sub (by walk_at "sub")
      rcases par_next i with ⟨j1, j2, j3⟩ | ⟨j1, j2, j3⟩
      · rw [if_pos j2] at inv
        obtain rfl : rr = 0 := by omega
        rw [decide_eq_true rfl]
        walk_at "if1"
        refine ⟨_, rfl, T.c_second_is_so.F.kp, ?_⟩
        walk_at "rd"
        refine Xj.calls_fn T.c_second_is_so.F (ok_second T) T.c_second_is_so.b ⟨r, j, xs, x, y, e - b, z, rfl, S6.get (by walk_at "mem"), odT, x0, by omega, y0, by omega, by omega, hz2.1, fun b3 H6 od6 old6 => ?_⟩
        have S7 := kj_led S6 old6 od6.there nj
        cases b3 with
        | false =>
          walk_at "rd"
          walk_at "if1"
          refine Xc.rd_tmk ?_
          walk_at "rd"
          exact Xc.rd_mk1 fun d hd => outE (.int (i : Nat)) H6 d (.inr ⟨_, rfl⟩) (fun b o e1 e2 => S7.old1 e1 e2) hd
        | true =>
          walk_at "rd"
          walk_at "if0"
          walk_at "if1"
          refine ⟨x + 0, y + z, _, _, _, _, rfl, S7, od6, by omega, by omega, ?_⟩
          rw [if_neg (by omega)]
          omega
      · rw [if_neg (by omega)] at inv
        obtain rfl : rr = 1 := by omega
        rw [decide_eq_false (by decide)]
        walk_at "if0"
        refine ⟨_, rfl, T.c_first_is_so.F.kp, ?_⟩
        walk_at "rd"
        refine Xj.calls_fn T.c_first_is_so.F (ok_first T) T.c_first_is_so.b ⟨r, j, xs, x, y, e - b, z, rfl, S6.get (by walk_at "mem"), odT, x0, y0, by omega, by omega, hz2.1, by omega, fun b3 H6 od6 old6 => ?_⟩
        have S7 := kj_led S6 old6 od6.there nj
        cases b3 with
        | false =>
          walk_at "rd"
          walk_at "if1"
          refine Xc.rd_tmk ?_
          walk_at "rd"
          exact Xc.rd_mk1 fun d hd => outE (.int (i : Nat)) H6 d (.inr ⟨_, rfl⟩) (fun b o e1 e2 => S7.old1 e1 e2) hd
        | true =>
          walk_at "rd"
          walk_at "if0"
          refine ⟨x + z, y + 0, _, _, _, _, rfl, S7, od6, by omega, by omega, ?_⟩
          rw [if_pos (by omega)]
          omega
    · rintro σ H5 ⟨x, y, o1, o2, o3, o4, rfl, S, od, _⟩
      walk_at "rd"
      exact kN H5 fun b o e1 e2 => S.old1 (sm12 _ _ e1) e2
end
end K30

namespace K30
open PySem L2 Rs Xc Xd Xh
def drw (l c a : Int) : List (Key × V) := [(.inr "left", .int l), (.inr "cell", .int c), (.inr "at", .int a)]
theorem k_lc : ¬ (("left" : Str) = "cell") := by decide +kernel
theorem k_la : ¬ (("left" : Str) = "at") := by decide +kernel
theorem k_ca : ¬ (("cell" : Str) = "at") := by decide +kernel
theorem k_ne {a b : Str} (h : ¬ a = b) : ¬ ((Sum.inr a : Key) = Sum.inr b) := fun e => h (Sum.inr.inj e)
theorem drw_left (l c a : Int) : valV (drw l c a) (.inr "left") = some (.int l) := valV_pos rfl
theorem drw_cell (l c a : Int) : valV (drw l c a) (.inr "cell") = some (.int c) := (valV_neg (k_ne k_lc)).trans (valV_pos rfl)
theorem drw_at (l c a : Int) : valV (drw l c a) (.inr "at") = some (.int a) := (valV_neg (k_ne k_la)).trans ((valV_neg (k_ne k_ca)).trans (valV_pos rfl))
theorem put_left (l c a x : Int) : putK (drw l c a) (.inr "left") (.int x) = drw x c a := by
  unfold putK drw
  simp [show ¬ (("cell" : Str) = "left") from fun e => k_lc e.symm, show ¬ (("at" : Str) = "left") from fun e => k_la e.symm]
theorem put_at (l c a x : Int) : putK (drw l c a) (.inr "at") (.int x) = drw l c x := by
  unfold putK drw
  simp [k_ca, k_la]
theorem merge_drw (l c a : Int) : mergeK [] (toK [(.str "left", .int l), (.str "cell", .int c), (.str "at", .int a)]) = drw l c a := by
  simp only [toK, mergeK, List.foldl_cons, List.foldl_nil]
  unfold putK drw
  simp [k_lc, k_la, k_ca, show ¬ (("cell" : Str) = "left") from fun e => k_lc e.symm, show ¬ (("at" : Str) = "left") from fun e => k_la e.symm, show ¬ (("at" : Str) = "cell") from fun e => k_ca e.symm]
local macro_rules | `(tactic| walk_at "val") => `(tactic| first | exact drw_left _ _ _ | exact drw_cell _ _ _ | exact drw_at _ _ _)
local macro_rules | `(tactic| walk_at "put") => `(tactic| first | exact put_left _ _ _ _ | exact put_at _ _ _ _ | exact merge_drw _ _ _)
def sp_begun (K : PySem.W.Frag) : Sp := fun vs H Q _ => ∃ (s : Addr) (ns : List Int) (k : Int), vs = [.ref s, .int k] ∧ SqL K H s (ns.map V.int) ∧ 0 ≤ k ∧ k ≤ 100 ∧ ∀ (d : Addr) (l c : Int) (H' : Hp), H d = none → H' d = some (.dK (drw l c 0)) → Same H H' → Q (.ref d) H'
def sp_draw : Sp := fun vs H Q _ => ∃ (d : Addr) (l c a n : Int), vs = [.ref d, .int n] ∧ H d = some (.dK (drw l c a)) ∧ 1 ≤ n ∧ n < 2 ^ 60 ∧ 0 ≤ a ∧ a < 2 ^ 40 ∧
  ∀ (r l' a' : Int) (H' : Hp), H' d = some (.dK (drw l' c a')) → (∀ b o, H b = some o → b ≠ d → H' b = some o) → 0 ≤ r → r < n → a ≤ a' → a' ≤ a + 1 → Q (.int r) H'
theorem sum_le80 : ∀ {l : List Int}, (∀ x ∈ l, 1 ≤ x ∧ x ≤ 80) → 0 ≤ l.sum ∧ l.sum ≤ 80 * l.length ∧ (l ≠ [] → 1 ≤ l.sum)
  | [], _ => by simp
  | x :: l, h => by
    obtain ⟨a, b, _⟩ := sum_le80 (l := l) fun z hz => h z (List.mem_cons_of_mem _ hz)
    have := h x List.mem_cons_self
    simp
    omega
theorem sum_pk : ∀ pk : List Int, (∀ x ∈ pk, 1 ≤ x ∧ x ≤ 80) → (pickI pk none none 2).sum + (pickI pk (some 1) none 2).sum ≤ 80 * pk.length
  | [], _ => by rw [pick_nil, pick_nil]; simp
  | z :: r, h => by
    have h1 := sum_pk r fun y hy => h y (List.mem_cons_of_mem _ hy)
    have hz := h z List.mem_cons_self
    rw [pick_even, pick_odd, List.sum_cons, List.length_cons]
    omega
theorem pick_ne {pk : List Int} (h : 2 ≤ pk.length) : pickI pk none none 2 ≠ [] ∧ pickI pk (some 1) none 2 ≠ [] := by
  constructor
  · refine List.ne_nil_of_mem (a := pk[0]) (List.mem_filterMap.mpr ⟨0, ?_, by simp⟩)
    unfold ixT
    refine List.mem_map.mpr ⟨0, ?_, by simp [Builtin.Slice.sliceAdjust]⟩
    simp [Builtin.Slice.sliceAdjust, Builtin.Slice.slicePlaces]
    split <;> omega
  · refine List.ne_nil_of_mem (a := pk[1]) (List.mem_filterMap.mpr ⟨1, ?_, by simp⟩)
    unfold ixT
    have e1 : min (1 : Int) pk.length = 1 := by omega
    refine List.mem_map.mpr ⟨0, ?_, by simp [Builtin.Slice.sliceAdjust, e1]⟩
    simp [Builtin.Slice.sliceAdjust, Builtin.Slice.slicePlaces, e1]
    split <;> omega
/-- what stands in a list that is changed -/
theorem Hs.trans {H0 H H' : Hp} {M M2 : List Addr} {L L' : Led} (S : Hs H0 M H L) (T : Hs H M2 H' L') (hM : ∀ b ∈ M2, H0 b = none ∨ b ∈ M) : Hs H0 M H' L' := by
  refine ⟨T.nd, T.is, fun b o e hb => ?_, fun b hb => ?_⟩
  · refine T.old b o (S.old b o e hb) fun h2 => ?_
    rcases hM b h2 with z | z
    · rw [e] at z; cases z
    · exact hb z
  · by_cases h2 : b ∈ M2
    · exact T.mu b h2
    · intro z
      cases e : H b with
      | none => exact S.mu b hb e
      | some o => rw [T.old b o e h2] at z; cases z
theorem slix (n : Nat) (hn : n ≤ 8) : slIx n (some 1) none (some 2) = ixT n (some 1) none 2 ∧ slIx n none none (some 2) = ixT n none none 2 := by
  have : ∀ m : Fin 9, slIx m.1 (some 1) none (some 2) = ixT m.1 (some 1) none 2 ∧ slIx m.1 none none (some 2) = ixT m.1 none none 2 := by decide +kernel
  exact this ⟨n, by omega⟩
theorem fm_map (ns : List Int) : ∀ ix : List Nat, ix.filterMap ((ns.map V.int)[·]?) = (ix.filterMap (ns[·]?)).map V.int
  | [] => rfl
  | i :: ix => by
    have ih := fm_map ns ix
    cases h : ns[i]? with
    | none => rw [List.filterMap_cons_none (by rw [List.getElem?_map, h]; rfl), List.filterMap_cons_none h, ih]
    | some z => rw [List.filterMap_cons_some (by rw [List.getElem?_map, h]; rfl), List.filterMap_cons_some h, ih]; rfl
theorem pickV1 {ns : List Int} (h : ns.length ≤ 8) : pickV (ns.map V.int) (some 1) none (some 2) = (pickI ns (some 1) none 2).map V.int := by
  unfold pickV pickI
  rw [List.length_map, (slix _ h).1, fm_map]
theorem pickV0 {ns : List Int} (h : ns.length ≤ 8) : pickV (ns.map V.int) none none (some 2) = (pickI ns none none 2).map V.int := by
  unfold pickV pickI
  rw [List.length_map, (slix _ h).2, fm_map]
/-- what the law's merges are -/
structure Sm (s m e a b : Int) (pk : List Int) : Prop where
  len : pk.length ≤ 8
  pos : ∀ x ∈ pk, 1 ≤ x ∧ x ≤ 9
  a1 : a ≤ 4
  b1 : b ≤ 4
  s1 : s ≤ 2
  e1 : e ≤ 700
def sp_lmerge : Sp := fun vs H Q _ => ∃ (d : Addr) (l c a0 : Int), vs = [.ref d] ∧ H d = some (.dK (drw l c a0)) ∧ 0 ≤ a0 ∧ a0 < 2 ^ 39 ∧
  ∀ (p kq pq : Addr) (s m e a b : Int) (pk : List Int) (l' a' : Int) (H' : Hp), NewL H H' [(p, .tup [.int s, .int m, .int e, .ref kq, .ref pq]), (pq, .tup (pk.map V.int)), (kq, .tup [.int a, .int b])] → H' d = some (.dK (drw l' c a')) → (∀ x o, H x = some o → x ≠ d → H' x = some o) → a0 ≤ a' → a' ≤ a0 + 60 → VM s m e a b pk → Sm s m e a b pk → Q (.ref p) H'
section
variable {P : Program} {w : World} {K : PySem.W.Frag} {mg : Str → Option Value} {base : Heap} {A : Ad} {H H0 : Hp} {M : List Addr} {L L' : Led} {Q : VK} {E : XK}
theorem ok_draw (T : Txt K mg w A) : FnOk P w K mg base CX0 1 A.f__law_draw A.d__law_draw ["_law_state", "_law_many"] sp_draw := by
  refine T.c__law_draw.F.ok sc_l_draw (fun vs H Q E h => ?_) (fun cdv Ar outer s H vs Q E hr h => ?_)
  · obtain ⟨d, l, c, a, n, rfl, _⟩ := h; rfl
  · obtain ⟨d, l, c, a, n, rfl, hd, hn1, hn2, ha1, ha2, k⟩ := h
    have hu := hu_of hr
    refine ⟨_, (pss_cons (ps_if (pt_cmpR op_gt (pe_dget hu (pv 0) pe_str (fun _ _ => rfl)) pe_int (nomark _))
        (pss_cons (ps_set (i := 2) sc_l_draw.nd rfl (Or.inl rfl) (pe_op op_mod (pe_dget hu (pv 0) pe_str (fun _ _ => rfl)) (pv 1)))
        (pss_cons (ps_dput hu (pv 0) pe_str (pe_op op_fdivW (pe_dget hu (pv 0) pe_str (fun _ _ => rfl)) (pv 1)) rfl)
        (pss_one (ps_ret (pv 2)))))
        pss_nil)
      (pss_cons (ps_set (i := 3) sc_l_draw.nd rfl (Or.inl rfl) (pe_op op_add (pe_dget hu (pv 0) pe_str (fun _ _ => rfl)) pe_int))
      (pss_cons (ps_dput hu (pv 0) pe_str (pv 3) rfl)
      (pss_cons (ps_set (i := 4) sc_l_draw.nd rfl (Or.inl rfl) (pe_ix ix_list (pe_lst (pa_cons pe_int (pa_cons pe_int (pa_cons pe_int (pa_cons pe_int (pa_cons pe_int pa_nil)))))) (pe_op op_mod (pv 3) pe_int) (fun _ _ => rfl)))
      (pss_cons (ps_set (i := 5) sc_l_draw.nd rfl (Or.inl rfl) (pe_op op_mod (pe_op op_mul (pe_op op_add (pe_op op_add (pe_op op_add (pe_op op_mod (pe_dget hu (pv 0) pe_str (fun _ _ => rfl)) (pv 4)) (pe_op op_mul (pe_op op_mul pe_int (pv 3)) (pv 3))) (pe_op op_mul pe_int (pv 3))) pe_int) pe_int) (pv 4)))
      (pss_one (ps_ret (pe_op op_mod (pe_op op_fdivW (pe_op op_mod (pe_op op_mul (pv 5) (pe_op op_add (pe_op op_mod (pv 5) pe_int) pe_int)) pe_int) pe_int) (pv 1))))))))), ?_⟩
    have S := Hs.start1 hd [d] (.inr rfl)
    walk_at "st"
    walk_at "rd"
    refine rd_dec ?_ ?_ <;> intro hb
    · walk_at "rd"
      apply k
      all_goals walk_at "end"
    · walk_at "rd"
      refine rd_ixAny (by assumption) (by walk_at "mem") (by assumption) (by simpa using (by assumption)) fun v hv _ => ?_
      obtain ⟨q, rfl, hq1, hq2⟩ : ∃ q, v = V.int q ∧ 0 < q ∧ q < 2 ^ 31 := by
        simp only [List.mem_cons, List.not_mem_nil, or_false] at hv
        rcases hv with rfl | rfl | rfl | rfl | rfl <;> exact ⟨_, rfl, by decide, by decide⟩
      walk_at "rd"
      apply k
      all_goals walk_at "end"
theorem use_draw {d : Addr} {l c a n : Int} {F : HO → Led} (S : Hs H0 M H L) (ch : ∀ o', Chg d (.dK (drw l c a)) o' L (F o')) (own : H0 d = none ∨ d ∈ M) (h1 : 1 ≤ n) (h2 : n < 2 ^ 60) (h3 : 0 ≤ a) (h4 : a < 2 ^ 40)
    (h : ∀ (r l' a' : Int) (H' : Hp), Hs H0 M H' (F (.dK (drw l' c a'))) → 0 ≤ r → r < n → a ≤ a' → a' ≤ a + 1 → Q (.int r) H') : sp_draw [.ref d, .int n] H Q E :=
  ⟨d, l, c, a, n, rfl, S.is _ (ch (.dK [])).mem, h1, h2, h3, h4, fun r l' a' H' e k b1 b2 b3 b4 => h r l' a' H' (S.one (ch _) own k e) b1 b2 b3 b4⟩
theorem ok_begun (T : Txt K mg w A) : FnOk P w K mg base CX0 1 A.f__law_begun A.d__law_begun ["_law_script", "_law_turn"] (sp_begun K) := by
  refine T.c__law_begun.F.ok sc_l_begun (fun vs H Q E h => ?_) (fun cdv Ar outer s H vs Q E hr h => ?_)
  · obtain ⟨x, ns, kk, rfl, _⟩ := h; rfl
  · obtain ⟨x, ns, kk, rfl, hs, hk1, hk2, k⟩ := h
    refine ⟨_, (pss_cons (ps_set (i := 2) sc_l_begun.nd rfl (Or.inl rfl) (pe_op op_add (pv 1) pe_int))
      (pss_cons (ps_for PassesOwn.never rfl (pi_list (pv 0)) (pg_name (i := 3) sc_l_begun.nd rfl (Or.inl rfl))
        (pss_one (ps_set (i := 2) sc_l_begun.nd rfl (Or.inl rfl) (pe_op op_add (pe_op op_mul (pv 2) pe_int) (pv 3)))))
      (pss_cons (ps_set (i := 4) sc_l_begun.nd rfl (Or.inl rfl) (pe_ifExp (pt_cmpR op_lt (pv 1) (pe_callB call_len_seq (by rfl) T.n_len PySem.boot_len (pa_cons (pv 0) pa_nil)) (nomark _)) (pe_ix ix_list (pv 0) (pv 1) (fun _ _ => rfl)) pe_int))
      (pss_one (ps_ret (pe_disp (pps_cons pe_str (pe_ifExp (pt_cmpR op_ge (pv 4) (pe_op op_pow pe_int pe_int) (nomark _)) (pv 4) pe_int) (pps_cons pe_str (pv 2) (pps_cons pe_str pe_int pps_nil))) (by rfl) (by rfl) (fun z => by cases z) (by decide))))))), ?_⟩
    have S := Hs.start0 H
    walk_at "st"
    walk_at "rd"
    refine ⟨x, rfl, ⟨_, S.sq hs (by simp)⟩, ?_⟩
    refine fw_list (xs := ns.map V.int) (fun i σ H' => ∃ (f : Int) (o : Option V), σ = [some (.ref x), some (.int kk), some (.int f), o, none] ∧ Hs H [] H' []) ⟨_, _, rfl, S⟩ (fun i σ H' _ h => by
      obtain ⟨f, o, _, S⟩ := h
      exact S.sq hs (by simp)) ?_ ?_
    · rintro i y σ H' hi ⟨f, o, rfl, S⟩
      obtain ⟨z, _, rfl⟩ := List.mem_map.mp (List.mem_of_getElem? hi)
      walk_at "rd"
      exact ⟨_, _, rfl, S⟩
    · rintro σ H' ⟨f, o, rfl, S⟩
      walk_at "rd"
      refine ⟨x, _, rfl, Or.inl (S.sq hs (by simp)), ?_⟩
      rw [List.length_map]
      walk_at "rd"
      have fin : ∀ own : Int, True := fun _ => trivial
      refine rd_dec ?_ ?_ <;> intro hc
      · obtain ⟨j, rfl⟩ := Int.eq_ofNat_of_zero_le hk1
        have hj : j < ns.length := by omega
        walk_at "rd"
        refine ⟨x, _, _, .int (ns.getD j 0), rfl, rfl, S.sq hs (by simp), ?_, ?_⟩
        · refine atI_nat (j := j) ?_
          rw [List.getElem?_map, List.getD_eq_getElem?_getD, List.getElem?_eq_getElem hj]
          rfl
        walk_at "rd"
        refine rd_dec ?_ ?_ <;> intro hd <;> walk_at "rd"
        · apply k
          all_goals walk_at "end"
        · apply k
          all_goals walk_at "end"
      · walk_at "rd"
        refine rd_dec ?_ ?_ <;> intro hd <;> walk_at "rd"
        · apply k
          all_goals walk_at "end"
        · apply k
          all_goals walk_at "end"
local macro_rules | `(tactic| walk_at "rd1") => `(tactic| ((with_reducible refine' K30.use_draw (by assumption) ?c ?o ?b1 ?b2 ?b3 ?b4 ?_); (case c => walk_at "chgF"); (case o => walk_at "own"); (case b1 => omega); (case b2 => omega); (case b3 => omega); (case b4 => omega); intro r l a H S h0 h1 h2 h3))
theorem rd_slI1 {a : Addr} {pk : List Int} (S : Hs H0 M H L) (m : (a, HO.lst (pk.map V.int)) ∈ L) (h8 : pk.length ≤ 8) (h : ∀ p H', H0 p = none → Hs H0 M H' ((p, .lst ((pickI pk (some 1) none 2).map V.int)) :: L) → Q (.ref p) H') : ∃ b xs, V.ref a = .ref b ∧ SqL K H b xs ∧ (some 2 : Option Int) ≠ some 0 ∧ nw Q H (.lst (pickV xs (some 1) none (some 2))) :=
  ⟨a, _, rfl, S.lst m, by decide, by rw [pickV1 h8]; exact rd_newO S h⟩
theorem rd_slI0 {a : Addr} {pk : List Int} (S : Hs H0 M H L) (m : (a, HO.lst (pk.map V.int)) ∈ L) (h8 : pk.length ≤ 8) (h : ∀ p H', H0 p = none → Hs H0 M H' ((p, .lst ((pickI pk none none 2).map V.int)) :: L) → Q (.ref p) H') : ∃ b xs, V.ref a = .ref b ∧ SqL K H b xs ∧ (some 2 : Option Int) ≠ some 0 ∧ nw Q H (.lst (pickV xs none none (some 2))) :=
  ⟨a, _, rfl, S.lst m, by decide, by rw [pickV0 h8]; exact rd_newO S h⟩
theorem ok_lmerge (T : Txt K mg w A) : FnOk P w K mg base CX0 2 A.f__law_merge A.d__law_merge ["_law_state"] sp_lmerge := by
  have G__law_draw : FnOk P w K mg base CX0 1 A.f__law_draw A.d__law_draw ["_law_state", "_law_many"] sp_draw := ok_draw T
  refine T.c__law_merge.F.ok sc_l_merge (fun vs H Q E h => ?_) (fun cdv Ar outer s H vs Q E hr h => ?_)
  · obtain ⟨d, l, c, a0, rfl, _⟩ := h; rfl
  · obtain ⟨d, l, c, a0, rfl, hd, h0, h1, k⟩ := h
    refine ⟨_, (pss_cons (ps_par (i := 1) (j := 2) rfl sc_l_merge.nd rfl rfl (by decide) rfl rfl (pa_cons (pe_lst pa_nil) (pa_cons (pe_lst pa_nil) pa_nil)) (by rfl))
      (pss_cons (ps_for PassesOwn.never rfl (pi_range1 rfl T.n_range (pa_cons (pe_op op_mul pe_int (pe_call G__law_draw (hr.mono (by decide)) rfl T.c__law_draw.m T.c__law_draw.F.kp T.c__law_draw.b .nil pass0 (pa_cons (pv 0) (pa_cons pe_int pa_nil)))) pa_nil)) (pg_name (i := 3) sc_l_merge.nd rfl (Or.inl rfl))
        (pss_cons (ps_set (i := 4) sc_l_merge.nd rfl (Or.inl rfl) (pe_ix ix_list (pe_lst (pa_cons pe_int (pa_cons pe_int (pa_cons pe_int (pa_cons pe_int pa_nil))))) (pe_call G__law_draw (hr.mono (by decide)) rfl T.c__law_draw.m T.c__law_draw.F.kp T.c__law_draw.b .nil pass0 (pa_cons (pv 0) (pa_cons pe_int pa_nil))) (fun _ _ => rfl)))
        (pss_one (ps_expr (pe_bm PySem.F.plainAttrs_list PySem.F.slot_list_append PySem.F.type_list_append mt_append (pv 1) (pa_cons (pe_op op_add pe_int (pe_call G__law_draw (hr.mono (by decide)) rfl T.c__law_draw.m T.c__law_draw.F.kp T.c__law_draw.b .nil pass0 (pa_cons (pv 0) (pa_cons (pv 4) pa_nil)))) pa_nil))))))
      (pss_cons (ps_for PassesOwn.never rfl (pi_range1 rfl T.n_range (pa_cons pe_int pa_nil)) (pg_name (i := 3) sc_l_merge.nd rfl (Or.inl rfl))
        (pss_one (ps_expr (pe_bm PySem.F.plainAttrs_list PySem.F.slot_list_append PySem.F.type_list_append mt_append (pv 2) (pa_cons (pe_op op_add (pe_call G__law_draw (hr.mono (by decide)) rfl T.c__law_draw.m T.c__law_draw.F.kp T.c__law_draw.b .nil pass0 (pa_cons (pv 0) (pa_cons pe_int pa_nil))) (pe_callTy call_int1 (by rfl) T.n_int (by decide +kernel) (pa_cons (pe_cmpR (op_eqD hr.units) (pv 1) (pe_lst pa_nil) (nomark _)) pa_nil))) pa_nil)))))
      (pss_cons (ps_set (i := 5) sc_l_merge.nd rfl (Or.inl rfl) (pe_call G__law_draw (hr.mono (by decide)) rfl T.c__law_draw.m T.c__law_draw.F.kp T.c__law_draw.b .nil pass0 (pa_cons (pv 0) (pa_cons pe_int pa_nil))))
      (pss_cons (ps_set (i := 6) sc_l_merge.nd rfl (Or.inl rfl) (pe_op op_add (pe_op op_add (pv 5) (pe_ix ix_list (pv 2) pe_int (fun _ _ => rfl))) (pe_callB (cr_sum rfl) (by rfl) T.n_sum PyProof.Rows.boot_sum (pa_cons (pe_slice3 (pv 1) (po_some pe_int) po_none (po_some pe_int)) pa_nil))))
      (pss_one (ps_ret (pe_tup (pa_cons (pv 5) (pa_cons (pv 6) (pa_cons (pe_op op_add (pe_op op_add (pv 6) (pe_ix ix_list (pv 2) pe_int (fun _ _ => rfl))) (pe_callB (cr_sum rfl) (by rfl) T.n_sum PyProof.Rows.boot_sum (pa_cons (pe_slice3 (pv 1) po_none po_none (po_some pe_int)) pa_nil))) (pa_cons (pe_callTy call_tuple_of (by rfl) T.n_tuple (by decide +kernel) (pa_cons (pv 2) pa_nil)) (pa_cons (pe_callTy call_tuple_of (by rfl) T.n_tuple (by decide +kernel) (pa_cons (pv 1) pa_nil)) pa_nil))))))))))))), ?_⟩
    have S := Hs.start1 hd [d] (.inr rfl)
    walk_at "st"
    walk_at "rd"
    rename_i p1 H1 hp1 S1 k1 H2 hk1 S2 r l1 a1 H3 S3 g0 g1 g2 g3
    obtain ⟨r', rfl⟩ := Int.eq_ofNat_of_zero_le g0
    clear S1 S2
    have hz12 : 2 * (r' : Int) ≤ 8 := by omega
    refine fw_range (fun i σ H' => ∃ o3 o4 l' a' pk, σ = [some (.ref d), some (.ref p1), some (.ref k1), o3, o4, none, none] ∧ Hs H [d] H' [(k1, .lst []), (p1, .lst (pk.map V.int)), (d, .dK (drw l' c a'))] ∧ pk.length = i ∧ (∀ x ∈ pk, 1 ≤ x ∧ x ≤ 9) ∧ a0 ≤ a' ∧ a' ≤ a0 + 1 + 2 * i) ⟨_, _, _, _, [], rfl, S3, rfl, by simp, by omega, by omega⟩ ?_ ?_
    · rintro i σ H4 hi ⟨o3, o4, l2, a2, pk, rfl, S, hl, hp, b1, b2⟩
      have hi2 : (i : Int) < 8 := by omega
      walk_at "rd"
      refine rd_ixAny (by assumption) (by walk_at "mem") (by assumption) (by simpa using (by assumption)) fun v hv _ => ?_
      obtain ⟨q, rfl, hq1, hq2⟩ : ∃ q, v = V.int q ∧ 1 ≤ q ∧ q ≤ 9 := by
        simp only [List.mem_cons, List.not_mem_nil, or_false] at hv
        rcases hv with rfl | rfl | rfl | rfl <;> exact ⟨_, rfl, by decide, by decide⟩
      walk_at "rd"
      rename_i r5 l5 a5 H5 S5 c0 c1 c2 c3 H6 S6
      have e : pk.map V.int ++ [V.int (1 + r5)] = (pk ++ [1 + r5]).map V.int := by simp
      rw [e] at S6
      refine ⟨_, _, _, _, pk ++ [1 + r5], rfl, S6.sub (by walk_at "sub"), by simp [hl], ?_, by omega, by omega⟩
      intro x hx
      rcases List.mem_append.mp hx with z | z
      · exact hp x z
      · obtain rfl : x = 1 + r5 := by simpa using z
        omega
    · rintro σ H4 ⟨o3, o4, l2, a2, pk, rfl, S, hl, hp, b1, b2⟩
      have hl2 : pk.length = 2 * r' := by omega
      clear S3
      walk_at "rd"
      refine fw_range (fun i σ H' => ∃ o3 o4 l' a' ks, σ = [some (.ref d), some (.ref p1), some (.ref k1), o3, o4, none, none] ∧ Hs H [d] H' [(k1, .lst (ks.map V.int)), (p1, .lst (pk.map V.int)), (d, .dK (drw l' c a'))] ∧ ks.length = i ∧ (∀ x ∈ ks, 0 ≤ x ∧ x ≤ 4 ∧ (pk = [] → 1 ≤ x)) ∧ a0 ≤ a' ∧ a' ≤ a0 + 26 + 2 * i) ⟨_, _, _, _, [], rfl, S, rfl, by simp, by omega, by omega⟩ ?_ ?_
      · rintro i σ H4 hi ⟨o3, o4, l2, a2, ks, rfl, S, hlk, hp, b1, b2⟩
        have hi2 : i < 2 := hi
        walk_at "rd"
        refine rd_eqIs (ns := pk) (ms := []) (by assumption) (by walk_at "mem") (by walk_at "mem") (by rfl) (by rfl) ?_
        walk_at "rd"
        refine rd_int1b ?_
        walk_at "rd"
        rename_i r6 l6 a6 H6 S6 f0 f1 f2 f3 p7 H7 hp7 S7 H8 S8
        have e : ks.map V.int ++ [V.int (r6 + if decide (pk = []) = true then 1 else 0)] = (ks ++ [r6 + if decide (pk = []) = true then 1 else 0]).map V.int := by simp
        rw [e] at S8
        refine ⟨_, _, _, _, _, rfl, S8.sub (by walk_at "sub"), by simp [hlk], ?_, by omega, by omega⟩
        intro x hx
        rcases List.mem_append.mp hx with z | z
        · exact hp x z
        · have ex : x = r6 + if decide (pk = []) = true then 1 else 0 := by simpa using z
          by_cases hpk : pk = []
          · rw [decide_eq_true hpk, if_pos rfl] at ex
            exact ⟨by omega, by omega, fun _ => by omega⟩
          · rw [decide_eq_false hpk, if_neg (by simp)] at ex
            exact ⟨by omega, by omega, fun z => absurd z hpk⟩
      · rintro σ H4 ⟨o3, o4, l2, a2, ks, rfl, S, hlk, hpk, b1, b2⟩
        obtain ⟨x, y, rfl⟩ : ∃ x y, ks = [x, y] := by
          match ks, hlk with
          | [x, y], _ => exact ⟨x, y, rfl⟩
        obtain ⟨x0, x1, x2⟩ := hpk x (by simp)
        obtain ⟨y0, y1, y2⟩ := hpk y (by simp)
        have h26 : a2 ≤ a0 + 40 := by simp at b2; omega
        have e0 : atI ([x, y].map V.int) 0 = some (V.int x) := atI_nat (j := 0) rfl
        have e1 : atI ([x, y].map V.int) 1 = some (V.int y) := atI_nat (j := 1) rfl
        have hp8 : ∀ z ∈ pk, 1 ≤ z ∧ z ≤ 80 := fun z hz => by have := hp z hz; omega
        have q1 := sum_le80 (l := pickI pk (some 1) none 2) fun x hx => hp8 x (pick_mem hx)
        have q0 := sum_le80 (l := pickI pk none none 2) fun x hx => hp8 x (pick_mem hx)
        have l1' := pick_le pk (some 1) (Or.inr rfl)
        have l0' := pick_le pk none (Or.inl rfl)
        have u1 : (pickI pk none none 2).sum + (pickI pk (some 1) none 2).sum ≤ 640 := by
          have := sum_pk pk hp8
          omega
        have f1 : 1 ≤ x + (pickI pk (some 1) none 2).sum ∧ 1 ≤ y + (pickI pk none none 2).sum := by
          by_cases z : pk = []
          · have := x2 z; have := y2 z; omega
          · have : 2 ≤ pk.length := by
              have : pk.length ≠ 0 := fun y => z (List.eq_nil_of_length_eq_zero y)
              omega
            obtain ⟨y0, y1⟩ := pick_ne this
            have := q1.2.2 y1
            have := q0.2.2 y0
            omega
        walk_at "rd"
        refine rd_slI1 (by assumption) (by walk_at "mem") (by omega) fun p2 H2 hp2 S2 => ?_
        walk_at "rd"
        refine rd_slI0 (by assumption) (by walk_at "mem") (by omega) fun p3 H3 hp3 S3 => ?_
        rename_i r9 l9 a9 H9 S9 m0 m1 m2 m3
        clear S9 S2 S
        walk_at "rd"
        refine ⟨k1, _, rfl, Or.inl ⟨S3.lst (by walk_at "mem"), fun kt hkt => ?_⟩⟩
        obtain ⟨hk0, S5⟩ := S3.new hkt (.tup ([x, y].map V.int))
        walk_at "rd"
        refine ⟨p1, _, rfl, Or.inl ⟨S5.lst (by walk_at "mem"), fun pt hpt => ?_⟩⟩
        obtain ⟨hp0, S6⟩ := S5.new hpt (.tup (pk.map V.int))
        clear S5 S3
        walk_at "rd"
        rename_i t H10 ht S10
        simp only [List.map_cons, List.map_nil] at S10
        refine k t kt pt r9 (r9 + x + (pickI pk (some 1) none 2).sum) (r9 + x + (pickI pk (some 1) none 2).sum + y + (pickI pk none none 2).sum) x y pk l9 a9 H10 (S10.news (by walk_at "sub") ?_) (S10.get (by walk_at "mem")) (fun b o e hb => S10.old1 e hb) (by omega) (by omega) ⟨by omega, by omega, by omega, by omega, by omega, by omega, by omega, by omega, by omega, fun z hz => by have := hp z hz; omega, by omega, by omega, by omega⟩ ⟨by omega, hp, x1, y1, by omega, by omega⟩
        intro z hz
        simp only [List.mem_cons, List.not_mem_nil, or_false] at hz
        rcases hz with rfl | rfl | rfl <;> assumption
end
end K30

namespace K30
open PySem L2 Rs Xc Xd Xh
local macro_rules | `(tactic| walk_at "val") => `(tactic| first | exact drw_left _ _ _ | exact drw_cell _ _ _ | exact drw_at _ _ _)
local macro_rules | `(tactic| walk_at "put") => `(tactic| first | exact put_left _ _ _ _ | exact put_at _ _ _ _ | exact merge_drw _ _ _)
def TupV (H : Hp) (v : V) (xs : List V) : Prop := ∃ a, v = .ref a ∧ H a = some (.tup xs)
/-- a new tuple -/
def TN (H0 H : Hp) (v : V) (xs : List V) : Prop := ∃ a, v = .ref a ∧ H0 a = none ∧ H a = some (.tup xs)
theorem TupV.more {H H' : Hp} {v : V} {xs : List V} (t : TupV H v xs) (k : Same H H') : TupV H' v xs := by
  obtain ⟨a, e, h⟩ := t
  exact ⟨a, e, k _ _ h⟩
theorem TN.more {H0 H H' : Hp} {v : V} {xs : List V} (t : TN H0 H v xs) (k : Same H H') : TN H0 H' v xs := by
  obtain ⟨a, e, h0, h⟩ := t
  exact ⟨a, e, h0, k _ _ h⟩
theorem TN.v {H0 H : Hp} {v : V} {xs : List V} (t : TN H0 H v xs) : TupV H v xs := by
  obtain ⟨a, e, h0, h⟩ := t
  exact ⟨a, e, h⟩
theorem same_rfl (H : Hp) : Same H H := fun _ _ e => e
theorem apart_of {H : Hp} {a : Addr} {ys : List V} (h : H a = some (.tup ys)) (d : ∀ k q, ys.length = 5 → ys[3]? = some (.ref k) → ys[4]? = some (.ref q) → k ≠ q) : Apart H (.ref a) := by
  intro p x y z k q e1 e2
  cases e1
  have := tup_inj h e2
  subst this
  exact d k q rfl rfl rfl
theorem apart_no {H : Hp} {v : V} (h : ∀ a xs, v = .ref a → H a ≠ some (.tup xs)) : Apart H v := fun p x y z k q e1 e2 => absurd e2 (h _ _ e1)
def sp_put : Sp := fun vs H Q _ => ∃ (x t : V) (i : Int) (xs : List V), vs = [x, .int i, t] ∧ TupV H x xs ∧ 0 ≤ i ∧ i < xs.length ∧ xs.length ≤ 20 ∧ ∀ v H', TN H H' v (xs.set i.toNat t) → Same H H' → Q v H'
/-- what stands in the place of a tuple -/
def OL (H H' : Hp) (x o : V) (xs : List V) (v : V) : Prop := (v = x ∧ xs = []) ∨ v = o ∨ ∃ a ys, v = .ref a ∧ H a = none ∧ (H' a = some (.lst ys) ∨ (H' a = some (.tup ys) ∧ (xs.length = 5 → ys.length = 5 → ys = xs.reverse))) ∧ ys.length ≤ 20 ∧ ∀ y ∈ ys, y ∈ xs ∨ y = .int 1 ∨ y = x
def sp_oddlist : Sp := fun vs H Q _ => ∃ (d : Addr) (x o : V) (l c a : Int) (xs : List V), vs = [.ref d, x, o] ∧ H d = some (.dK (drw l c a)) ∧ 0 ≤ a ∧ a < 2 ^ 40 ∧ TupV H x xs ∧ xs.length ≤ 10 ∧
  ∀ (v : V) (l' a' : Int) (H' : Hp), H' d = some (.dK (drw l' c a')) → (∀ b u, H b = some u → b ≠ d → H' b = some u) → OL H H' x o xs v → a ≤ a' → a' ≤ a + 1 → Q v H'
section
variable {P : Program} {w : World} {K : PySem.W.Frag} {mg : Str → Option Value} {base : Heap} {A : Ad} {H H0 : Hp} {MM : List Addr} {L L' F : Led} {Q : VK} {E : XK} {σ : L2.St}
theorem cut_whole {xs : List V} {lo hi : Option Int} (h : HT.sIx xs.length 0 lo = 0 ∧ HT.sIx xs.length xs.length hi = xs.length) : cutV xs lo hi = xs := by
  unfold cutV
  rw [h.1, h.2, List.drop_zero, Nat.sub_zero, List.take_length]
theorem rd_slN {x : V} {xs : List V} {lo hi : Option Int} (S : Hs H0 MM H L) (t : TupV H x xs) (k : ∀ v H', ((v = x ∧ cutV xs lo hi = xs ∧ H' = H) ∨ TN H0 H' v (cutV xs lo hi)) → Hs H0 MM H' L → Same H H' → Q v H') : rSlA K x lo hi H Q := by
  obtain ⟨a, rfl, e⟩ := t
  refine ⟨a, xs, rfl, SqT.of e, fun h => k _ _ (.inl ⟨rfl, cut_whole h, rfl⟩) S (same_rfl _), fun _ p hp => ?_⟩
  obtain ⟨h0, S1⟩ := S.new hp (.tup (cutV xs lo hi))
  exact k _ _ (.inr ⟨p, rfl, h0, upd_same⟩) (S1.sub (.cons _ (.refl _))) fun b o e => by rw [upd_ne (ne_of_none e hp)]; exact e
theorem rd_catN {x y : V} {xs ys : List V} (S : Hs H0 MM H L) (t : TupV H x xs) (u : TupV H y ys) (hz : xs.length + ys.length ≤ 1000) (k : ∀ v H', ((v = y ∧ xs = []) ∨ (v = x ∧ xs ≠ [] ∧ ys = []) ∨ TN H0 H' v (xs ++ ys)) → Hs H0 MM H' L → Same H H' → Q v H') : rCatA K x y H Q := by
  obtain ⟨a, rfl, e⟩ := t
  obtain ⟨b, rfl, e2⟩ := u
  refine ⟨a, b, xs, ys, rfl, rfl, SqT.of e, SqT.of e2, Rs.sz (by omega), fun h => k _ _ (.inl ⟨rfl, h⟩) S (same_rfl _), fun h1 h2 => k _ _ (.inr (.inl ⟨rfl, h1, h2⟩)) S (same_rfl _), fun _ _ p hp => ?_⟩
  obtain ⟨h0, S1⟩ := S.new hp (.tup (xs ++ ys))
  exact k _ _ (.inr (.inr ⟨p, rfl, h0, upd_same⟩)) (S1.sub (.cons _ (.refl _))) fun b o e => by rw [upd_ne (ne_of_none e hp)]; exact e
theorem rd_newN {xs : List V} (S : Hs H0 MM H L) (hz : xs.length ≤ 1000) (k : ∀ v H', TN H0 H' v xs → Hs H0 MM H' L → Same H H' → Q v H') : nwT Q H xs := by
  refine ⟨Rs.sz (by omega), fun p hp => ?_⟩
  obtain ⟨h0, S1⟩ := S.new hp (.tup xs)
  exact k _ _ ⟨p, rfl, h0, upd_same⟩ (S1.sub (.cons _ (.refl _))) fun b o e => by rw [upd_ne (ne_of_none e hp)]; exact e
theorem cut_to {xs : List V} {i : Int} (h0 : 0 ≤ i) (h1 : i < xs.length) : cutV xs none (some i) = xs.take i.toNat := by
  obtain ⟨n, rfl⟩ := Int.eq_ofNat_of_zero_le h0
  exact Xd.cut_to xs n
theorem cut_from {xs : List V} {i : Int} (h0 : 0 ≤ i) : cutV xs (some (i + 1)) none = xs.drop (i.toNat + 1) := by
  obtain ⟨n, rfl⟩ := Int.eq_ofNat_of_zero_le h0
  exact Xd.cut_from xs (n + 1)
theorem set_eq {xs : List V} {n : Nat} {t : V} (h : n < xs.length) : xs.take n ++ [t] ++ xs.drop (n + 1) = xs.set n t := by
  rw [List.set_eq_take_append_cons_drop, if_pos h, List.append_assoc]
  rfl
theorem ok_put (T : Txt K mg w A) : FnOk P w K mg base CX0 1 A.f__law_put A.d__law_put ["_law_some", "_law_at", "_law_thing"] sp_put := by
  refine T.c__law_put.F.ok sc_l_put (fun vs H Q E h => ?_) (fun cdv Ar outer s H vs Q E hr h => ?_)
  · obtain ⟨x, t, i, xs, rfl, _⟩ := h; rfl
  · obtain ⟨x, t, i, xs, rfl, tx, h0, h1, hl, k⟩ := h
    refine ⟨_, (pss_one (ps_ret (pe_op op_catA (pe_op op_catA (pe_slice sl_tupA (pv 0) po_none (po_some (pv 1))) (pe_tup (pa_cons (pv 2) pa_nil))) (pe_slice sl_tupA (pv 0) (po_some (pe_op op_add (pv 1) pe_int)) po_none)))), ?_⟩
    have S := Hs.start0 H
    have hn : i.toNat < xs.length := by omega
    walk_at "st"
    walk_at "rd"
    refine rd_slN S tx fun v1 H1 t1 S1 sm1 => ?_
    have tv1 : TupV H1 v1 (xs.take i.toNat) := by
      rw [cut_to h0 h1] at t1
      rcases t1 with ⟨rfl, e, rfl⟩ | t1
      · rw [e]; exact tx
      · exact t1.v
    have S1' := fun (_ : True) => S1
    clear S S1
    walk_at "rd"
    refine rd_newN (xs := [t]) (S1' trivial) (by simp) fun v2 H2 t2 S2 sm2 => ?_
    refine rd_catN S2 (tv1.more sm2) t2.v (by simp; omega) fun v3 H3 t3 S3 sm3 => ?_
    have tn3 : TN H H3 v3 (xs.take i.toNat ++ [t]) := by
      rcases t3 with ⟨rfl, e⟩ | ⟨_, _, e⟩ | t3
      · rw [e, List.nil_append]; exact t2.more sm3
      · cases e
      · exact t3
    have S3' := fun (_ : True) => S3
    clear S1' S2 S3
    have sm13 := same_trans sm1 (same_trans sm2 sm3)
    walk_at "rd"
    refine rd_slN (S3' trivial) (tx.more sm13) fun v4 H4 t4 S4 sm4 => ?_
    have tv4 : TupV H4 v4 (xs.drop (i.toNat + 1)) := by
      rw [cut_from h0] at t4
      rcases t4 with ⟨rfl, e, rfl⟩ | t4
      · rw [e]; exact tx.more sm13
      · exact t4.v
    refine rd_catN S4 (tn3.v.more sm4) tv4 (by simp; omega) fun v5 H5 t5 S5 sm5 => ?_
    refine k v5 H5 ?_ (same_trans sm13 (same_trans sm4 sm5))
    rw [← set_eq hn]
    rcases t5 with ⟨rfl, e⟩ | ⟨rfl, _, e⟩ | t5
    · simp at e
    · rw [e, List.append_nil]; exact tn3.more (same_trans sm4 sm5)
    · exact t5
local macro_rules | `(tactic| walk_at "rd1") => `(tactic| ((with_reducible refine' K30.use_draw (by assumption) ?c ?o ?b1 ?b2 ?b3 ?b4 ?_); (case c => walk_at "chgF"); (case o => walk_at "own"); (case b1 => omega); (case b2 => omega); (case b3 => omega); (case b4 => omega); intro r l a H S h0 h1 h2 h3))
theorem fm_range {α : Type} : ∀ xs : List α, (List.range xs.length).filterMap (fun i => xs[i]?) = xs
  | [] => rfl
  | x :: xs => by
    rw [List.length_cons, List.range_succ_eq_map, List.filterMap_cons, List.filterMap_map]
    show x :: List.filterMap (fun i => xs[i]?) (List.range xs.length) = _
    rw [fm_range xs]
theorem ixT_rev (n : Nat) : ixT n none none (-1) = (List.range n).map fun k => n - 1 - k := by
  have e : (Builtin.Slice.slicePlaces (Builtin.Slice.sliceAdjust none none (-1) n).1 (Builtin.Slice.sliceAdjust none none (-1) n).2 (-1)) = n := by
    simp [Builtin.Slice.sliceAdjust, Builtin.Slice.slicePlaces]
    omega
  unfold ixT
  rw [e]
  refine List.map_congr_left fun k hk => ?_
  have hk : k < n := by simpa using hk
  simp [Builtin.Slice.sliceAdjust]
  omega
theorem pickT_rev (xs : List V) : pickT xs none none (-1) = xs.reverse := by
  unfold pickT
  rw [ixT_rev, List.filterMap_map]
  have e := fm_range xs.reverse
  rw [List.length_reverse] at e
  rw [← e]
  refine fm_congr _ fun k hk => ?_
  have hk : k < xs.length := by simpa using hk
  show xs[xs.length - 1 - k]? = xs.reverse[k]?
  rw [List.getElem?_reverse hk]
theorem cut_m1 (xs : List V) : cutV xs none (some (-1)) = xs.dropLast := by
  unfold cutV
  simp only [HT.sIx]
  rw [List.dropLast_eq_take]
  simp
  congr 1
  omega
theorem rd_slR3N {x : V} {xs ys : List V} {lo hi : Option Int} {k : Int} (S : Hs H0 MM H L) (t : TupV H x xs) (h0 : k ≠ 0) (h1 : k ≠ 1) (e : pickT xs lo hi k = ys) (hz : ys.length ≤ 1000) (h : ∀ v H', TN H0 H' v ys → Hs H0 MM H' L → Same H H' → Q v H') : slR3 K Q x lo hi (some k) H := by
  subst e
  obtain ⟨a, rfl, ea⟩ := t
  refine ⟨a, xs, k, rfl, SqT.of ea, rfl, h0, h1, Rs.sz (by omega), fun p hp => ?_⟩
  obtain ⟨g0, S1⟩ := S.new hp (.tup (pickT xs lo hi k))
  exact h _ _ ⟨p, rfl, g0, upd_same⟩ (S1.sub (.cons _ (.refl _))) fun b o e => by rw [upd_ne (ne_of_none e hp)]; exact e
theorem ok_oddlist (T : Txt K mg w A) : FnOk P w K mg base CX0 2 A.f__law_odd_list A.d__law_odd_list ["_law_state", "_law_some", "_law_odd"] sp_oddlist := by
  have G__law_draw : FnOk P w K mg base CX0 1 A.f__law_draw A.d__law_draw ["_law_state", "_law_many"] sp_draw := ok_draw T
  refine T.c__law_odd_list.F.ok sc_l_odd_list (fun vs H Q E h => ?_) (fun cdv Ar outer s H vs Q E hr h => ?_)
  · obtain ⟨d, x, o, l, c, a, xs, rfl, _⟩ := h; rfl
  · obtain ⟨d, x, o, l, c, a, xs, rfl, hd, a0, a1, tx, hl, k⟩ := h
    refine ⟨_, (pss_cons (ps_set (i := 3) sc_l_odd_list.nd rfl (Or.inl rfl) (pe_lst (pa_cons (pe_callTy call_list_of (by rfl) T.n_list (by decide +kernel) (pa_cons (pv 1) pa_nil)) (pa_cons (pe_op op_catA (pv 1) (pe_tup (pa_cons pe_int pa_nil))) (pa_cons (pe_slice sl_tupA (pv 1) po_none (po_some (pe_un un_neg pe_int))) (pa_cons (pe_op op_catA (pv 1) (pe_tup (pa_cons pe_int (pa_cons pe_int pa_nil)))) (pa_cons (pe_slice sl_tupA (pv 1) (po_some pe_int) po_none) (pa_cons (pe_op op_catA (pv 1) (pv 1)) (pa_cons (pe_tup pa_nil) (pa_cons (pv 2) (pa_cons (pe_slT3 (pv 1) po_none po_none (po_some (pe_un un_neg pe_int))) (pa_cons (pe_tup (pa_cons (pv 1) pa_nil)) pa_nil))))))))))))
      (pss_one (ps_ret (pe_ix ix_list (pv 3) (pe_call G__law_draw (hr.mono (by decide)) rfl T.c__law_draw.m T.c__law_draw.F.kp T.c__law_draw.b .nil pass0 (pa_cons (pv 0) (pa_cons pe_int pa_nil))) (fun _ _ => rfl))))), ?_⟩
    have S0 := fun (_ : True) => Hs.start1 hd [d] (.inr rfl)
    obtain ⟨ax, rfl, ex⟩ := tx
    walk_at "st"
    walk_at "rd"
    refine ⟨ax, xs, rfl, .inr (SqT.of ex), fun l1 hl1 => ?_⟩
    have S1' := fun (_ : True) => ((S0 trivial).new hl1 (.lst xs)).2.sub (.cons _ (.refl _))
    have sm1 : Same H (upd H l1 (.lst xs)) := fun b o e => by rw [upd_ne (ne_of_none e hl1)]; exact e
    have e1 : upd H l1 (.lst xs) l1 = some (.lst xs) := upd_same
    generalize upd H l1 (.lst xs) = H1 at S1' sm1 e1
    clear S0
    have tx : TupV H (.ref ax) xs := ⟨ax, rfl, ex⟩
    walk_at "rd"
    refine rd_newN (xs := [.int 1]) (S1' trivial) (by simp) fun u2 H2 t2 S2 sm2 => ?_
    refine rd_catN S2 (tx.more (same_trans sm1 sm2)) t2.v (by simp; omega) fun v2 H3 t3 S3 sm3 => ?_
    have a2 : TN H H3 v2 (xs ++ [.int 1]) := by
      rcases t3 with ⟨rfl, e⟩ | ⟨_, _, e⟩ | t3
      · rw [e, List.nil_append]; exact t2.more sm3
      · cases e
      · exact t3
    have m3 : Same H H3 := same_trans sm1 (same_trans sm2 sm3)
    have S3' := fun (_ : True) => S3
    clear S1' S2 S3
    walk_at "rd"
    refine rd_slN (S3' trivial) (tx.more m3) fun v3 H4 t4 S4 sm4 => ?_
    have a3 : (v3 = .ref ax ∧ xs = []) ∨ TN H H4 v3 (cutV xs none (some (-1))) := by
      rcases t4 with ⟨e0, e, _⟩ | t4
      · refine .inl ⟨e0, ?_⟩
        have := congrArg List.length e
        rw [cut_m1, List.length_dropLast] at this
        exact List.eq_nil_of_length_eq_zero (by omega)
      · exact .inr t4
    have m4 := same_trans m3 sm4
    have S4' := fun (_ : True) => S4
    clear S3' S4
    walk_at "rd"
    refine rd_newN (xs := [.int 1, .int 1]) (S4' trivial) (by simp) fun u5 H5 t5 S5 sm5 => ?_
    refine rd_catN S5 (tx.more (same_trans m4 sm5)) t5.v (by simp; omega) fun v4 H6 t6 S6 sm6 => ?_
    have a4 : TN H H6 v4 (xs ++ [.int 1, .int 1]) := by
      rcases t6 with ⟨rfl, e⟩ | ⟨_, _, e⟩ | t6
      · rw [e, List.nil_append]; exact t5.more sm6
      · cases e
      · exact t6
    have m6 := same_trans m4 (same_trans sm5 sm6)
    have S6' := fun (_ : True) => S6
    clear S4' S5 S6
    walk_at "rd"
    refine rd_slN (S6' trivial) (tx.more m6) fun v5 H7 t7 S7 sm7 => ?_
    have a5 : (v5 = .ref ax ∧ xs = []) ∨ TN H H7 v5 (xs.drop 1) := by
      rw [show (some (1 : Int)) = some ((1 : Nat) : Int) from rfl, Xd.cut_from] at t7
      rcases t7 with ⟨e0, e, _⟩ | t7
      · refine .inl ⟨e0, ?_⟩
        have := congrArg List.length e
        rw [List.length_drop] at this
        exact List.eq_nil_of_length_eq_zero (by omega)
      · exact .inr t7
    have m7 := same_trans m6 sm7
    have S7' := fun (_ : True) => S7
    clear S6' S7
    walk_at "rd"
    refine rd_catN (S7' trivial) (tx.more m7) (tx.more m7) (by omega) fun v6 H8 t8 S8 sm8 => ?_
    have a6 : (v6 = .ref ax ∧ xs = []) ∨ TN H H8 v6 (xs ++ xs) := by
      rcases t8 with ⟨e0, e⟩ | ⟨_, e, e2⟩ | t8
      · exact .inl ⟨e0, e⟩
      · exact absurd e2 e
      · exact .inr t8
    have m8 := same_trans m7 sm8
    have S8' := fun (_ : True) => S8
    clear S7' S8
    walk_at "rd"
    refine rd_newN (xs := []) (S8' trivial) (by simp) fun v7 H9 a7 S9 sm9 => ?_
    have m9 := same_trans m8 sm9
    have S9' := fun (_ : True) => S9
    clear S8' S9
    walk_at "rd"
    refine rd_slR3N (S9' trivial) (tx.more m9) (by decide) (by decide) (pickT_rev xs) (by rw [List.length_reverse]; omega) fun v9 H10 a9 S10 sm10 => ?_
    have m10 := same_trans m9 sm10
    have S10' := fun (_ : True) => S10
    clear S9' S10
    walk_at "rd"
    refine rd_newN (xs := [.ref ax]) (S10' trivial) (by simp) fun v10 H11 a10 S11 sm11 => ?_
    have n10 := sm11
    have n9 := same_trans sm10 n10
    have n8 := same_trans sm9 n9
    have n7 := same_trans sm8 n8
    have n6 := same_trans sm7 n7
    have n4 := same_trans (same_trans sm5 sm6) n6
    have n3 := same_trans sm4 n4
    have n1 := same_trans (same_trans sm2 sm3) n3
    have b1 := n1 _ _ e1
    have b2 := a2.more n3
    have b3 : (v3 = .ref ax ∧ xs = []) ∨ TN H H11 v3 (cutV xs none (some (-1))) := a3.imp id fun z => z.more n4
    have b4 := a4.more n6
    have b5 : (v5 = .ref ax ∧ xs = []) ∨ TN H H11 v5 (xs.drop 1) := a5.imp id fun z => z.more n7
    have b6 : (v6 = .ref ax ∧ xs = []) ∨ TN H H11 v6 (xs ++ xs) := a6.imp id fun z => z.more n8
    have b7 := a7.more n9
    have b9 := a9.more n10
    have S := S11.refullM (M' := [d]) (fun b hb => by simpa using hb)
    have m11 := same_trans m10 sm11
    clear S10' S11
    walk_at "rd"
    rename_i D H12 hD S12 r l' a' H13 S13 r0 r1 r2 r3
    refine rd_ixAny S13 (by walk_at "mem") r0 (by simpa using r1) fun v hv _ => ?_
    have hne : ∀ {b u}, H11 b = some u → (∀ kv, u ≠ .dK kv) → H13 b = some u := fun {b u} e n => S13.old1 e fun z => by
      have := m11 _ _ hd
      rw [z, this] at e
      exact n _ (Option.some.inj e).symm
    have nt : ∀ {v ys}, TN H H11 v ys → ys.length ≤ 20 → (∀ y ∈ ys, y ∈ xs ∨ y = .int 1 ∨ y = .ref ax) → (xs.length = 5 → ys.length = 5 → ys = xs.reverse) → OL H H13 (.ref ax) o xs v := fun {v ys} t hl hm h5 => by
      obtain ⟨b, rfl, h0, h1⟩ := t
      exact .inr (.inr ⟨b, ys, rfl, h0, .inr ⟨hne h1 (fun _ z => by cases z), h5⟩, hl, hm⟩)
    refine k v l' a' H13 (S13.get (by walk_at "mem")) (fun b u e hb => S13.old1 (m11 _ _ e) hb) ?_ r2 r3
    simp only [List.mem_cons, List.not_mem_nil, or_false] at hv
    rcases hv with rfl | rfl | rfl | rfl | rfl | rfl | rfl | rfl | rfl | rfl
    · exact .inr (.inr ⟨l1, xs, rfl, hl1, .inl (hne b1 fun _ z => by cases z), by omega, fun y hy => .inl hy⟩)
    · refine nt b2 (by simp; omega) (fun y hy => ?_) (fun h5 h6 => by simp at h6; omega)
      rcases List.mem_append.mp hy with z | z
      · exact .inl z
      · exact .inr (.inl (by simpa using z))
    · rcases b3 with ⟨rfl, e⟩ | b3
      · exact .inl ⟨rfl, e⟩
      · rw [cut_m1] at b3
        exact nt b3 (by rw [List.length_dropLast]; omega) (fun y hy => .inl (by rw [List.dropLast_eq_take] at hy; exact List.mem_of_mem_take hy)) (fun h5 h6 => by rw [List.length_dropLast] at h6; omega)
    · refine nt b4 (by simp; omega) (fun y hy => ?_) (fun h5 h6 => by simp at h6; omega)
      rcases List.mem_append.mp hy with z | z
      · exact .inl z
      · exact .inr (.inl (by simpa using z))
    · rcases b5 with ⟨rfl, e⟩ | b5
      · exact .inl ⟨rfl, e⟩
      · exact nt b5 (by rw [List.length_drop]; omega) (fun y hy => .inl (List.mem_of_mem_drop hy)) (fun h5 h6 => by rw [List.length_drop] at h6; omega)
    · rcases b6 with ⟨rfl, e⟩ | b6
      · exact .inl ⟨rfl, e⟩
      · exact nt b6 (by rw [List.length_append]; omega) (fun y hy => .inl ((List.mem_append.mp hy).elim id id)) (fun h5 h6 => by rw [List.length_append] at h6; omega)
    · exact nt b7 (by simp) (fun y hy => nomatch hy) (fun h5 h6 => by simp at h6)
    · exact .inr (.inl rfl)
    · exact nt b9 (by rw [List.length_reverse]; omega) (fun y hy => .inl (List.mem_reverse.mp hy)) (fun _ _ => rfl)
    · exact nt a10 (by simp) (fun y hy => .inr (.inr (by simpa using hy))) (fun h5 h6 => by simp at h6)
end
end K30

namespace K30
open PySem L2 Rs Xc Xd Xh
local macro_rules | `(tactic| walk_at "val") => `(tactic| first | exact drw_left _ _ _ | exact drw_cell _ _ _ | exact drw_at _ _ _)
local macro_rules | `(tactic| walk_at "put") => `(tactic| first | exact put_left _ _ _ _ | exact put_at _ _ _ _ | exact merge_drw _ _ _)
theorem ix3 {s m e : Int} {k q : V} {r : Int} (h0 : 0 ≤ r) (h1 : r < 3) : ∃ z : Int, atI [V.int s, V.int m, V.int e, k, q] r = some (.int z) ∧ (z = s ∨ z = m ∨ z = e) := by
  have : r = 0 ∨ r = 1 ∨ r = 2 := by omega
  rcases this with rfl | rfl | rfl
  · exact ⟨s, atI_nat (j := 0) rfl, .inl rfl⟩
  · exact ⟨m, atI_nat (j := 1) rfl, .inr (.inl rfl)⟩
  · exact ⟨e, atI_nat (j := 2) rfl, .inr (.inr rfl)⟩
theorem ix2 {a b r : Int} (h0 : 0 ≤ r) (h1 : r < 2) : ∃ z : Int, atI [V.int a, V.int b] r = some (V.int z) ∧ (z = a ∨ z = b) := by
  have : r = 0 ∨ r = 1 := by omega
  rcases this with rfl | rfl
  · exact ⟨a, atI_nat (j := 0) rfl, .inl rfl⟩
  · exact ⟨b, atI_nat (j := 1) rfl, .inr rfl⟩
theorem ixp {pk : List Int} {r : Int} (h0 : 0 ≤ r) (h1 : r < pk.length) : ∃ z : Int, atI (pk.map V.int) r = some (.int z) ∧ z ∈ pk := by
  obtain ⟨v, hv, _, e⟩ := atI_any (xs := pk.map V.int) h0 (by rw [List.length_map]; exact h1)
  obtain ⟨z, hz, rfl⟩ := List.mem_map.mp hv
  exact ⟨z, e, hz⟩
def sp_spoilt : Sp := fun vs H Q _ => ∃ (d p kq pq : Addr) (l c a0 s m e a b : Int) (pk : List Int), vs = [.ref d, .ref p] ∧ H d = some (.dK (drw l c a0)) ∧ 0 ≤ a0 ∧ a0 < 2 ^ 39 ∧ MA H p kq pq s m e a b pk ∧ VM s m e a b pk ∧ Sm s m e a b pk ∧
  ∀ (v : V) (l' a' : Int) (H' : Hp), H' d = some (.dK (drw l' c a')) → (∀ b u, H b = some u → b ≠ d → H' b = some u) → Th H' 4 v → Apart H' v → a0 ≤ a' → a' ≤ a0 + 10 → Q v H'
def odds (t1 : Addr) : List V := [.non, .bl true, .bl false, .int (-1), .int 0, .str "1", .ref t1, .int (10 ^ 30)]
theorem odd_th {H : Hp} {t1 : Addr} {o : V} (h : o ∈ odds t1) (e : H t1 = some (.tup [.int 1])) : Th H 1 o := by
  simp only [odds, List.mem_cons, List.not_mem_nil, or_false] at h
  rcases h with rfl | rfl | rfl | rfl | rfl | rfl | rfl | rfl
  · exact .non _
  · exact .bl _ _
  · exact .bl _ _
  · exact .int _ _ (by decide)
  · exact .int _ _ (by decide)
  · exact .str _
  · exact .tup 0 _ _ e (by simp) fun x hx => by
      obtain rfl : x = .int 1 := by simpa using hx
      exact .int _ _ (by decide)
  · exact .int _ _ (by decide +kernel)
theorem odd_ref {t1 a : Addr} (h : V.ref a ∈ odds t1) : a = t1 := by
  simp only [odds, List.mem_cons, List.not_mem_nil, or_false] at h
  rcases h with h | h | h | h | h | h | h | h <;> cases h
  rfl
section
variable {P : Program} {w : World} {K : PySem.W.Frag} {mg : Str → Option Value} {base : Heap} {A : Ad} {H H0 : Hp} {MM : List Addr} {L L' F : Led} {Q : VK} {E : XK} {σ : L2.St}
theorem use_put {a : Addr} {t : V} {i : Int} {xs : List V} (S : Hs H0 MM H L) (m : (a, HO.tup xs) ∈ L) (h0 : 0 ≤ i) (h1 : i < xs.length) (hl : xs.length ≤ 20) (k : ∀ q H', H0 q = none → Hs H0 MM H' ((q, .tup (xs.set i.toNat t)) :: L) → Q (.ref q) H') : sp_put [.ref a, .int i, t] H Q E := by
  refine ⟨.ref a, t, i, xs, rfl, ⟨a, rfl, S.is _ m⟩, h0, h1, hl, ?_⟩
  rintro v H' ⟨q, rfl, hq, hq2⟩ sm
  obtain ⟨n0, S2⟩ := S.more1 sm hq hq2
  exact k q H' (S.new hq (.lst [])).1 S2
theorem use_oddlist {d x : Addr} {o : V} {l c a : Int} {xs : List V} {F : HO → Led} (S : Hs H0 MM H L) (ch : ∀ o', Chg d (.dK (drw l c a)) o' L (F o')) (own : H0 d = none ∨ d ∈ MM) (m : (x, HO.tup xs) ∈ L) (a0 : 0 ≤ a) (a1 : a < 2 ^ 40) (hl : xs.length ≤ 10)
    (k : ∀ v l' a' H', Hs H0 MM H' (F (.dK (drw l' c a'))) → OL H H' (.ref x) o xs v → a ≤ a' → a' ≤ a + 1 → Q v H') : sp_oddlist [.ref d, .ref x, o] H Q E :=
  ⟨d, .ref x, o, l, c, a, xs, rfl, S.is _ (ch (.dK [])).mem, a0, a1, ⟨x, rfl, S.is _ m⟩, hl, fun v l' a' H' e old ol b1 b2 => k v l' a' H' (S.one (ch _) own old e) ol b1 b2⟩
local macro_rules | `(tactic| walk_at "rd1") => `(tactic| ((with_reducible refine' K30.use_draw (by assumption) ?c ?o ?b1 ?b2 ?b3 ?b4 ?_); (case c => walk_at "chgF"); (case o => walk_at "own"); (case b1 => omega); (case b2 => omega); (case b3 => omega); (case b4 => omega); intro r l a H S h0 h1 h2 h3))
theorem ints_th {H : Hp} {k : Nat} {pk : List Int} (h : ∀ x ∈ pk, 1 ≤ x ∧ x ≤ 9) : ∀ y ∈ pk.map V.int, Th H k y := fun y hy => by
  obtain ⟨z, hz, rfl⟩ := List.mem_map.mp hy
  have := h z hz
  exact .int _ _ (by omega)
theorem set_th {H : Hp} {k i : Nat} {xs : List V} {t : V} (h : ∀ x ∈ xs, Th H k x) (ht : Th H k t) : ∀ y ∈ xs.set i t, Th H k y := fun y hy => by
  rcases List.mem_or_eq_of_mem_set hy with z | z
  · exact h y z
  · rw [z]; exact ht
theorem ab_th {H : Hp} {k : Nat} {a b : Int} (ha : a.natAbs < 10 ^ 31) (hb : b.natAbs < 10 ^ 31) : ∀ y ∈ [V.int a, V.int b], Th H k y := fun y hy => by
  simp only [List.mem_cons, List.not_mem_nil, or_false] at hy
  rcases hy with rfl | rfl
  · exact .int _ _ ha
  · exact .int _ _ hb
theorem ol_th {k : Nat} {H H' : Hp} {x o v : V} {xs : List V} (ol : OL H H' x o xs v) (h1 : ∀ y ∈ xs, Th H' k y) (h2 : Th H' (k + 1) x) (h3 : Th H' (k + 2) o) : Th H' (k + 2) v := by
  rcases ol with ⟨rfl, _⟩ | rfl | ⟨a, ys, rfl, _, e, l, hm⟩
  · exact h2.up
  · exact h3
  · have he : ∀ y ∈ ys, Th H' (k + 1) y := fun y hy => by
      rcases hm y hy with z | rfl | rfl
      · exact (h1 y z).up
      · exact .int _ _ (by decide)
      · exact h2
    rcases e with e | ⟨e, _⟩
    · exact .lst _ a ys e l he
    · exact .tup _ a ys e l he
theorem rd_catTn {a b : Addr} {xs ys : List V} (S : Hs H0 MM H L) (m : (a, HO.tup xs) ∈ L) (m2 : (b, HO.tup ys) ∈ L) (h0 : xs ≠ []) (h1 : ys ≠ []) (hz : xs.length + ys.length ≤ sizeLine) (h : ∀ p H', H0 p = none → Hs H0 MM H' ((p, .tup (xs ++ ys)) :: L) → Q (.ref p) H') : rCatA K (.ref a) (.ref b) H Q :=
  ⟨a, b, xs, ys, rfl, rfl, S.tup m, S.tup m2, hz, fun z => absurd z h0, fun _ z => absurd z h1, fun _ _ => rd_newO S h⟩
theorem ok_spoilt (T : Txt K mg w A) : FnOk P w K mg base CX0 3 A.f__law_spoilt A.d__law_spoilt ["_law_state", "_law_paper"] sp_spoilt := by
  have G__law_draw : FnOk P w K mg base CX0 1 A.f__law_draw A.d__law_draw ["_law_state", "_law_many"] sp_draw := ok_draw T
  have G__law_put : FnOk P w K mg base CX0 1 A.f__law_put A.d__law_put ["_law_some", "_law_at", "_law_thing"] sp_put := ok_put T
  have G__law_odd_list : FnOk P w K mg base CX0 2 A.f__law_odd_list A.d__law_odd_list ["_law_state", "_law_some", "_law_odd"] sp_oddlist := ok_oddlist T
  refine T.c__law_spoilt.F.ok sc_l_spoilt (fun vs H Q E h => ?_) (fun cdv Ar outer s H vs Q E hr h => ?_)
  · obtain ⟨d, p, kq, pq, l, c, a0, s, m, e, a, b, pk, rfl, _⟩ := h; rfl
  · obtain ⟨d, p, kq, pq, l, c, a0, s, m, e, a, b, pk, rfl, hd, ha0, ha1, R, W, Z, k⟩ := h
    refine ⟨_, (pss_cons (ps_asg (pe_tup (pa_cons (pe_call G__law_draw (hr.mono (by decide)) rfl T.c__law_draw.m T.c__law_draw.F.kp T.c__law_draw.b .nil pass0 (pa_cons (pv 0) (pa_cons pe_int pa_nil))) (pa_cons (pe_call G__law_draw (hr.mono (by decide)) rfl T.c__law_draw.m T.c__law_draw.F.kp T.c__law_draw.b .nil pass0 (pa_cons (pv 0) (pa_cons pe_int pa_nil))) (pa_cons (pe_ix ix_list (pe_lst (pa_cons (pe_un un_neg pe_int) (pa_cons pe_int (pa_cons pe_int (pa_cons (pe_un un_neg pe_int) pa_nil))))) (pe_call G__law_draw (hr.mono (by decide)) rfl T.c__law_draw.m T.c__law_draw.F.kp T.c__law_draw.b .nil pass0 (pa_cons (pv 0) (pa_cons pe_int pa_nil))) (fun _ _ => rfl)) pa_nil)))) (pg_tup rfl (pgs_cons (pg_name (i := 2) sc_l_spoilt.nd rfl (Or.inl rfl)) (pgs_cons (pg_name (i := 3) sc_l_spoilt.nd rfl (Or.inl rfl)) (pgs_cons (pg_name (i := 4) sc_l_spoilt.nd rfl (Or.inr rfl)) pgs_nil)))))
      (pss_cons (ps_set (i := 5) sc_l_spoilt.nd rfl (Or.inl rfl) (pe_ix ix_list (pe_lst (pa_cons pe_non (pa_cons pe_bl (pa_cons pe_bl (pa_cons (pe_un un_neg pe_int) (pa_cons pe_int (pa_cons pe_str (pa_cons (pe_tup (pa_cons pe_int pa_nil)) (pa_cons (pe_op op_pow pe_int pe_int) pa_nil))))))))) (pe_call G__law_draw (hr.mono (by decide)) rfl T.c__law_draw.m T.c__law_draw.F.kp T.c__law_draw.b .nil pass0 (pa_cons (pv 0) (pa_cons pe_int pa_nil))) (fun _ _ => rfl)))
      (pss_cons (ps_asg (pv 1) (pg_tup rfl (pgs_cons (pg_name (i := 6) sc_l_spoilt.nd rfl (Or.inl rfl)) (pgs_cons (pg_name (i := 7) sc_l_spoilt.nd rfl (Or.inl rfl)) (pgs_cons (pg_name (i := 8) sc_l_spoilt.nd rfl (Or.inl rfl)) (pgs_cons (pg_name (i := 9) sc_l_spoilt.nd rfl (Or.inl rfl)) (pgs_cons (pg_name (i := 10) sc_l_spoilt.nd rfl (Or.inl rfl)) pgs_nil)))))))
      (pss_cons (ps_if (pt_cmpR op_eq (pv 2) pe_int (nomark _))
        (pss_one (ps_ret (pe_call G__law_put (hr.mono (by decide)) rfl T.c__law_put.m T.c__law_put.F.kp T.c__law_put.b .nil pass0 (pa_cons (pv 1) (pa_cons (pe_op op_mod (pv 3) pe_int) (pa_cons (pe_op op_add (pe_ix ix_tup (pv 1) (pe_op op_mod (pv 3) pe_int) (fun _ _ => rfl)) (pv 4)) pa_nil))))))
        pss_nil)
      (pss_cons (ps_if (pt_cmpR op_eq (pv 2) pe_int (nomark _))
        (pss_one (ps_ret (pe_call G__law_put (hr.mono (by decide)) rfl T.c__law_put.m T.c__law_put.F.kp T.c__law_put.b .nil pass0 (pa_cons (pv 1) (pa_cons (pe_op op_mod (pv 3) pe_int) (pa_cons (pv 5) pa_nil))))))
        pss_nil)
      (pss_cons (ps_if (pt_cmpR op_eq (pv 2) pe_int (nomark _))
        (pss_one (ps_ret (pe_op op_catA (pe_slice sl_tupA (pv 1) po_none (po_some pe_int)) (pe_tup (pa_cons (pe_call G__law_put (hr.mono (by decide)) rfl T.c__law_put.m T.c__law_put.F.kp T.c__law_put.b .nil pass0 (pa_cons (pv 9) (pa_cons (pe_op op_mod (pv 3) pe_int) (pa_cons (pe_op op_add (pe_ix ix_tup (pv 9) (pe_op op_mod (pv 3) pe_int) (fun _ _ => rfl)) (pv 4)) pa_nil)))) (pa_cons (pv 10) pa_nil))))))
        pss_nil)
      (pss_cons (ps_if (pt_cmpR op_eq (pv 2) pe_int (nomark _))
        (pss_one (ps_ret (pe_op op_catA (pe_slice sl_tupA (pv 1) po_none (po_some pe_int)) (pe_tup (pa_cons (pe_call G__law_put (hr.mono (by decide)) rfl T.c__law_put.m T.c__law_put.F.kp T.c__law_put.b .nil pass0 (pa_cons (pv 9) (pa_cons (pe_op op_mod (pv 3) pe_int) (pa_cons (pv 5) pa_nil)))) (pa_cons (pv 10) pa_nil))))))
        pss_nil)
      (pss_cons (ps_if (pt_cmpR op_eq (pv 2) pe_int (nomark _))
        (pss_one (ps_ret (pe_op op_catA (pe_slice sl_tupA (pv 1) po_none (po_some pe_int)) (pe_tup (pa_cons (pe_call G__law_odd_list (hr.mono (by decide)) rfl T.c__law_odd_list.m T.c__law_odd_list.F.kp T.c__law_odd_list.b .nil pass0 (pa_cons (pv 0) (pa_cons (pv 9) (pa_cons (pv 5) pa_nil)))) (pa_cons (pv 10) pa_nil))))))
        pss_nil)
      (pss_cons (ps_if (pt_cmpR op_eq (pv 2) pe_int (nomark _))
        (pss_one (ps_ret (pe_op op_catA (pe_slice sl_tupA (pv 1) po_none (po_some pe_int)) (pe_tup (pa_cons (pe_call G__law_odd_list (hr.mono (by decide)) rfl T.c__law_odd_list.m T.c__law_odd_list.F.kp T.c__law_odd_list.b .nil pass0 (pa_cons (pv 0) (pa_cons (pv 10) (pa_cons (pv 5) pa_nil)))) pa_nil)))))
        pss_nil)
      (pss_cons (ps_if (pt_cmpR op_eq (pv 2) pe_int (nomark _))
        (pss_one (ps_ret (pe_call G__law_odd_list (hr.mono (by decide)) rfl T.c__law_odd_list.m T.c__law_odd_list.F.kp T.c__law_odd_list.b .nil pass0 (pa_cons (pv 0) (pa_cons (pv 1) (pa_cons (pv 5) pa_nil))))))
        pss_nil)
      (pss_cons (ps_if (pt_cmpR op_eq (pv 2) pe_int (nomark _))
        (pss_one (ps_ret (pe_op op_catA (pe_callTy call_tuple_of (by rfl) T.n_tuple (by decide +kernel) (pa_cons (pe_lc (own := [("_law_place", 14)]) (g := gName 14) (tt := tYes) rfl sc_l_spoilt.nd (pi_tup (pe_slice sl_tupA (pv 1) po_none (po_some pe_int))) (blkOk_by (N := ["_law_state", "_law_paper", "_law_way", "_law_at", "_law_by", "_law_odd", "_law_begin", "_law_midst", "_law_stop", "_law_kept", "_law_picks", "_law_side", "_law_more", "_law_other", "_law_place"]) (sc := defScope s_l_spoilt) (by decide +kernel)) (fun _ _ _ _ _ => (pg_name (i := 14) sc_l_spoilt.nd rfl (Or.inl rfl))) (fun _ _ _ _ _ => pts_nil) (fun _ _ _ _ _ => (pe_op op_add (pv 14) (pv 4)))) pa_nil)) (pe_slice sl_tupA (pv 1) (po_some pe_int) po_none))))
        pss_nil)
      (pss_cons (ps_if (pt_cmpR (op_eqD hr.units) (pv 10) (pe_tup pa_nil) (nomark _))
        (pss_one (ps_ret (pe_op op_catA (pe_slice sl_tupA (pv 1) po_none (po_some pe_int)) (pe_tup (pa_cons (pv 9) (pa_cons (pe_tup (pa_cons pe_int (pa_cons pe_int pa_nil))) pa_nil))))))
        pss_nil)
      (pss_cons (ps_set (i := 3) sc_l_spoilt.nd rfl (Or.inl rfl) (pe_op op_mod (pv 3) (pe_callB call_len_seq (by rfl) T.n_len PySem.boot_len (pa_cons (pv 10) pa_nil))))
      (pss_cons (ps_if (pt_cmpR op_eq (pv 2) pe_int (nomark _))
        (pss_one (ps_ret (pe_op op_catA (pe_slice sl_tupA (pv 1) po_none (po_some pe_int)) (pe_tup (pa_cons (pe_call G__law_put (hr.mono (by decide)) rfl T.c__law_put.m T.c__law_put.F.kp T.c__law_put.b .nil pass0 (pa_cons (pv 10) (pa_cons (pv 3) (pa_cons (pe_op op_add (pe_ix ix_tup (pv 10) (pv 3) (fun _ _ => rfl)) (pv 4)) pa_nil)))) pa_nil)))))
        pss_nil)
      (pss_cons (ps_if (pt_cmpR op_eq (pv 2) pe_int (nomark _))
        (pss_one (ps_ret (pe_op op_catA (pe_slice sl_tupA (pv 1) po_none (po_some pe_int)) (pe_tup (pa_cons (pe_call G__law_put (hr.mono (by decide)) rfl T.c__law_put.m T.c__law_put.F.kp T.c__law_put.b .nil pass0 (pa_cons (pv 10) (pa_cons (pv 3) (pa_cons (pv 5) pa_nil)))) pa_nil)))))
        pss_nil)
      (pss_cons (ps_if (pt_cmpR op_eq (pv 2) pe_int (nomark _))
        (pss_cons (ps_set (i := 11) sc_l_spoilt.nd rfl (Or.inl rfl) (pe_op op_sub pe_int (pe_op op_mod (pv 3) pe_int)))
        (pss_cons (ps_set (i := 12) sc_l_spoilt.nd rfl (Or.inl rfl) (pe_call G__law_put (hr.mono (by decide)) rfl T.c__law_put.m T.c__law_put.F.kp T.c__law_put.b .nil pass0 (pa_cons (pv 10) (pa_cons (pv 3) (pa_cons (pe_op op_add (pe_ix ix_tup (pv 10) (pv 3) (fun _ _ => rfl)) (pv 4)) pa_nil)))))
        (pss_one (ps_ret (pe_op op_catA (pe_slice sl_tupA (pv 1) po_none (po_some pe_int)) (pe_tup (pa_cons (pe_call G__law_put (hr.mono (by decide)) rfl T.c__law_put.m T.c__law_put.F.kp T.c__law_put.b .nil pass0 (pa_cons (pv 9) (pa_cons (pv 11) (pa_cons (pe_op op_sub (pe_ix ix_tup (pv 9) (pv 11) (fun _ _ => rfl)) (pv 4)) pa_nil)))) (pa_cons (pv 12) pa_nil))))))))
        pss_nil)
      (pss_cons (ps_set (i := 13) sc_l_spoilt.nd rfl (Or.inl rfl) (pe_op op_mod (pe_op op_add (pv 3) pe_int) (pe_callB call_len_seq (by rfl) T.n_len PySem.boot_len (pa_cons (pv 10) pa_nil))))
      (pss_cons (ps_set (i := 12) sc_l_spoilt.nd rfl (Or.inl rfl) (pe_call G__law_put (hr.mono (by decide)) rfl T.c__law_put.m T.c__law_put.F.kp T.c__law_put.b .nil pass0 (pa_cons (pv 10) (pa_cons (pv 3) (pa_cons (pe_op op_add (pe_ix ix_tup (pv 10) (pv 3) (fun _ _ => rfl)) (pv 4)) pa_nil)))))
      (pss_one (ps_ret (pe_op op_catA (pe_slice sl_tupA (pv 1) po_none (po_some pe_int)) (pe_tup (pa_cons (pe_call G__law_put (hr.mono (by decide)) rfl T.c__law_put.m T.c__law_put.F.kp T.c__law_put.b .nil pass0 (pa_cons (pv 12) (pa_cons (pv 13) (pa_cons (pe_op op_sub (pe_ix ix_tup (pv 12) (pv 13) (fun _ _ => rfl)) (pv 4)) pa_nil)))) pa_nil))))))))))))))))))))))), ?_⟩
    have S : Hs H [d] H [(d, .dK (drw l c a0)), (p, .tup [.int s, .int m, .int e, .ref kq, .ref pq]), (kq, .tup [.int a, .int b]), (pq, .tup (pk.map V.int))] := by
      have h1 : d ≠ p := ne_of hd R.hp (by intro z; cases z)
      have h2 : d ≠ kq := ne_of hd R.hk (by intro z; cases z)
      have h3 : d ≠ pq := ne_of hd R.hq (by intro z; cases z)
      refine Hs.start H [d] _ ?_ (fun q hq => ?_) (fun b hb => ?_)
      · have := R.led.nd
        simp only [List.map_cons, List.map_nil] at this ⊢
        rw [List.nodup_cons]
        exact ⟨by simp [h1, h2, h3], this⟩
      · simp only [List.mem_cons, List.not_mem_nil, or_false] at hq
        rcases hq with rfl | rfl | rfl | rfl
        · exact hd
        · exact R.hp
        · exact R.hk
        · exact R.hq
      · obtain rfl : b = d := by simpa using hb
        rw [hd]; simp
    have hkp : ∀ {b : Addr}, H b = none → b ≠ kq ∧ b ≠ pq := fun {b} hb => ⟨(fun z => by rw [z, R.hk] at hb; cases hb), (fun z => by rw [z, R.hq] at hb; cases hb)⟩
    have := W.a0; have := W.b0; have := W.s0; have := W.sm; have := W.me; have := Z.a1; have := Z.b1; have := Z.s1; have := Z.e1; have hpl := Z.len
    walk_at "st"
    walk_at "rd"
    rename_i way lw aw Hw Sw w0 w1 w2 w3 at_ lt at2 Ht St t0 t1 t2 t3 lp Hl hlp Sl x lx ax Hx Sx x0 x1 x2 x3
    refine rd_ixAny (by assumption) (by walk_at "mem") (by assumption) (by simpa using (by assumption)) fun v hv _ => ?_
    obtain ⟨by_, rfl, by1, by2⟩ : ∃ q, v = V.int q ∧ -2 ≤ q ∧ q ≤ 2 := by
      simp only [List.mem_cons, List.not_mem_nil, or_false] at hv
      rcases hv with rfl | rfl | rfl | rfl <;> exact ⟨_, rfl, by decide, by decide⟩
    clear Sw St Sl
    walk_at "rd"
    rename_i tt Ha hta Sa tn Hb htn Sb tl Hc htl Sc rr l4 a4 H4 S40 r0 r1 r2 r3
    refine rd_ixAny S40 (by walk_at "mem") r0 (by simpa using r1) fun o ho _ => ?_
    have ho : o ∈ odds tn := ho
    have S4 : Hs H [d] H4 [(tn, .tup [.int 1]), (d, .dK (drw l4 c a4)), (p, .tup [.int s, .int m, .int e, .ref kq, .ref pq]), (kq, .tup [.int a, .int b]), (pq, .tup (pk.map V.int))] := S40.sub (by walk_at "sub")
    have hn4 := hkp htn
    have ne := R.ne
    have ea : a0 ≤ a4 ∧ a4 ≤ a0 + 4 := by omega
    clear Sx Sa Sb Sc S40 S w2 w3 t2 t3 x2 x3 r2 r3
    have fin : ∀ (v : V) (l' a' : Int) (H' : Hp) (L' : Led), Hs H [d] H' L' → (d, HO.dK (drw l' c a')) ∈ L' → Th H' 4 v → Apart H' v → a0 ≤ a' → a' ≤ a0 + 10 → Q v H' := fun v l' a' H' L' S' m' t ap b1 b2 => k v l' a' H' (S'.get m') (fun b u e1 e2 => S'.old1 e1 e2) t ap b1 b2
    have tk : ∀ {H' : Hp} (n : Nat), H' kq = some (.tup [.int a, .int b]) → Th H' (n + 1) (.ref kq) := fun n e' => .tup n kq _ e' (by simp) fun y hy => by
      simp only [List.mem_cons, List.not_mem_nil, or_false] at hy
      rcases hy with rfl | rfl
      · exact .int _ _ (by omega)
      · exact .int _ _ (by omega)
    have tp : ∀ {H' : Hp} (n : Nat), H' pq = some (.tup (pk.map V.int)) → Th H' (n + 1) (.ref pq) := fun n e' => .tup n pq _ e' (by rw [List.length_map]; omega) (ints_th Z.pos)
    have tpap : ∀ {H' : Hp} (n : Nat), H' kq = some (.tup [.int a, .int b]) → H' pq = some (.tup (pk.map V.int)) → ∀ y ∈ [V.int s, V.int m, V.int e, V.ref kq, V.ref pq], Th H' (n + 1) y := fun n m1 m2 y hy => by
      simp only [List.mem_cons, List.not_mem_nil, or_false] at hy
      rcases hy with rfl | rfl | rfl | rfl | rfl
      · exact .int _ _ (by omega)
      · exact .int _ _ (by omega)
      · exact .int _ _ (by omega)
      · exact tk n m1
      · exact tp n m2
    have todd : ∀ {H' : Hp} (n : Nat), H' tn = some (.tup [.int 1]) → Th H' (n + 1) o := fun n e' => (odd_th ho e').upn (by omega)
    have two : ∀ {H' : Hp} {q7 : Addr} {x y : V} {l' a' : Int}, H' d = some (.dK (drw l' c a')) → (∀ b u, H b = some u → b ≠ d → H' b = some u) → a0 ≤ a' → a' ≤ a0 + 10 → H' q7 = some (.tup [.int s, .int m, .int e, x, y]) → Th H' 3 x → Th H' 3 y → (∀ k q, x = .ref k → y = .ref q → k ≠ q) → Q (.ref q7) H' := fun {H' q7 x y l' a'} e1 old b1 b2 e2 hx hy hne =>
      k _ l' a' H' e1 old (.tup 3 q7 _ e2 (by simp) fun z hz => by
        simp only [List.mem_cons, List.not_mem_nil, or_false] at hz
        rcases hz with rfl | rfl | rfl | rfl | rfl
        · exact .int _ _ (by omega)
        · exact .int _ _ (by omega)
        · exact .int _ _ (by omega)
        · exact hx
        · exact hy) (apart_of e2 fun k' q' _ h3 h4 => by
        simp at h3 h4
        exact hne k' q' h3 h4) b1 b2
    walk_at "rd"
    refine rd_dec ?_ ?_ <;> intro hw0
    · walk_at "rd"
      rename_i q1 q2 q3 q4 u1 u2 u3 u4
      obtain ⟨z, ez, hz⟩ := ix3 (s := s) (m := m) (e := e) (k := .ref kq) (q := .ref pq) u3 u4
      refine rd_ixT S4 (by walk_at "mem") ez ?_
      walk_at "rd"
      refine use_put S4 (by walk_at "mem") q3 (by simp; omega) (by simp) fun q H5 hq S5 => ?_
      refine fin _ l4 a4 H5 _ S5 (by walk_at "mem") (.tup 3 q _ (S5.get (by walk_at "mem")) (by simp) (set_th (tpap 2 (S5.get (by walk_at "mem")) (S5.get (by walk_at "mem"))) (.int _ _ (by omega)))) (apart_of (S5.get (by walk_at "mem")) fun k' q' _ h3 h4 => ?_) (by omega) (by omega)
      rw [List.getElem?_set_ne (by omega)] at h3 h4
      simp at h3 h4
      rw [← h3, ← h4]; exact ne
    walk_at "rd"
    refine rd_dec ?_ ?_ <;> intro hw1
    · walk_at "rd"
      rename_i q1 q2 q3 q4
      refine use_put S4 (by walk_at "mem") q3 (by simp; omega) (by simp) fun q H5 hq S5 => ?_
      refine fin _ l4 a4 H5 _ S5 (by walk_at "mem") (.tup 3 q _ (S5.get (by walk_at "mem")) (by simp) (set_th (tpap 2 (S5.get (by walk_at "mem")) (S5.get (by walk_at "mem"))) (todd 2 (S5.get (by walk_at "mem"))))) (apart_of (S5.get (by walk_at "mem")) fun k' q' _ h3 h4 => ?_) (by omega) (by omega)
      have hi : q1.toNat < 5 := by omega
      generalize q1.toNat = i at h3 h4 hi
      rw [List.getElem?_set] at h3 h4
      by_cases i3 : i = 3
      · subst i3
        simp at h3 h4
        rw [h3] at ho
        rw [odd_ref ho, ← h4]; exact hn4.2
      · by_cases i4 : i = 4
        · subst i4
          simp at h3 h4
          rw [h4] at ho
          rw [odd_ref ho, ← h3]; exact fun z => hn4.1 z.symm
        · rw [if_neg i3] at h3
          rw [if_neg i4] at h4
          simp at h3 h4
          rw [← h3, ← h4]; exact ne
    walk_at "rd"
    refine rd_dec ?_ ?_ <;> intro hw2
    · walk_at "rd"
      refine rd_slTn S4 (ys := [.int s, .int m, .int e]) (by walk_at "mem") (by simp [HT.sIx]) rfl fun t5 H5 ht5 S5 => ?_
      clear S4
      walk_at "rd"
      rename_i q1 q2 q3 q4 u1 u2 u3 u4
      obtain ⟨z, ez, hz⟩ := ix2 (a := a) (b := b) u3 u4
      refine rd_ixT S5 (by walk_at "mem") ez ?_
      walk_at "rd"
      refine use_put S5 (by walk_at "mem") q3 (by simp; omega) (by simp) fun q H6 hq S6 => ?_
      clear S5
      walk_at "rd"
      rename_i t6 H7 ht6 S7
      clear S6
      refine rd_catTn (xs := [.int s, .int m, .int e]) (ys := [.ref q, .ref pq]) S7 (by walk_at "mem") (by walk_at "mem") (by simp) (by simp) (Rs.sz (by simp)) fun q7 H8 hq7 S8 => ?_
      simp only [List.cons_append, List.nil_append] at S8
      refine two (S8.get (by walk_at "mem")) (fun b u e1 e2 => S8.old1 e1 e2) (by omega) (by omega) (S8.get (by walk_at "mem")) (.tup 2 q _ (S8.get (by walk_at "mem")) (by simp) (set_th (ab_th (by omega) (by omega)) (.int _ _ (by omega)))) (tp 2 (S8.get (by walk_at "mem"))) fun k' q' h3 h4 => ?_
      cases h3; cases h4
      exact (hkp hq).2
    walk_at "rd"
    refine rd_dec ?_ ?_ <;> intro hw3
    · walk_at "rd"
      refine rd_slTn S4 (ys := [.int s, .int m, .int e]) (by walk_at "mem") (by simp [HT.sIx]) rfl fun t5 H5 ht5 S5 => ?_
      clear S4
      walk_at "rd"
      rename_i q1 q2 q3 q4
      refine use_put S5 (by walk_at "mem") q3 (by simp; omega) (by simp) fun q H6 hq S6 => ?_
      clear S5
      walk_at "rd"
      rename_i t6 H7 ht6 S7
      clear S6
      refine rd_catTn (xs := [.int s, .int m, .int e]) (ys := [.ref q, .ref pq]) S7 (by walk_at "mem") (by walk_at "mem") (by simp) (by simp) (Rs.sz (by simp)) fun q7 H8 hq7 S8 => ?_
      simp only [List.cons_append, List.nil_append] at S8
      refine two (S8.get (by walk_at "mem")) (fun b u e1 e2 => S8.old1 e1 e2) (by omega) (by omega) (S8.get (by walk_at "mem")) (.tup 2 q _ (S8.get (by walk_at "mem")) (by simp) (set_th (ab_th (by omega) (by omega)) (todd 1 (S8.get (by walk_at "mem"))))) (tp 2 (S8.get (by walk_at "mem"))) fun k' q' h3 h4 => ?_
      cases h3; cases h4
      exact (hkp hq).2
    walk_at "rd"
    refine rd_dec ?_ ?_ <;> intro hw4
    · walk_at "rd"
      refine rd_slTn S4 (ys := [.int s, .int m, .int e]) (by walk_at "mem") (by simp [HT.sIx]) rfl fun t5 H5 ht5 S5 => ?_
      clear S4
      walk_at "rd"
      refine use_oddlist S5 (by walk_at "chgF") (.inr (by simp)) (by walk_at "mem") (by omega) (by omega) (by simp) fun v l5 a5 H6 S6 ol b1 b2 => ?_
      have W6 := S6.refull
      have hpq5 := S5.get (a := pq) (o := .tup (pk.map V.int)) (by walk_at "mem")
      have tv : Th H6 3 v := ol_th (k := 0) ol (ab_th (by omega) (by omega)) (tk 0 (S6.get (by walk_at "mem"))) (todd 1 (S6.get (by walk_at "mem"))) |>.up
      have old6 : ∀ b u, H b = some u → b ≠ d → H6 b = some u := fun b u e1 e2 => S6.old1 e1 e2
      clear S5 S6
      walk_at "rd"
      rename_i t6 H7 ht6 S7
      clear W6
      refine rd_catTn (xs := [.int s, .int m, .int e]) (ys := [v, .ref pq]) S7 (by walk_at "mem") (by walk_at "mem") (by simp) (by simp) (Rs.sz (by simp)) fun q7 H8 hq7 S8 => ?_
      simp only [List.cons_append, List.nil_append] at S8
      refine two (S8.get (by walk_at "mem")) (fun b u e1 e2 => S8.same _ _ (old6 b u e1 e2)) (by omega) (by omega) (S8.get (by walk_at "mem")) (tv.more (.same S8.same)) (tp 2 (S8.get (by walk_at "mem"))) fun k' q' h3 h4 => ?_
      cases h4
      subst h3
      rcases ol with ⟨e1, _⟩ | e1 | ⟨a9, ys, e1, e2, _⟩
      · cases e1; exact ne
      · rw [← e1] at ho; rw [odd_ref ho]; exact hn4.2
      · cases e1; exact fun z => by rw [z, hpq5] at e2; cases e2
    walk_at "rd"
    refine rd_dec ?_ ?_ <;> intro hw5
    · walk_at "rd"
      refine rd_slTn S4 (ys := [.int s, .int m, .int e, .ref kq]) (by walk_at "mem") (by simp [HT.sIx]) rfl fun t5 H5 ht5 S5 => ?_
      clear S4
      walk_at "rd"
      refine use_oddlist S5 (by walk_at "chgF") (.inr (by simp)) (by walk_at "mem") (by omega) (by omega) (by rw [List.length_map]; omega) fun v l5 a5 H6 S6 ol b1 b2 => ?_
      have W6 := S6.refull
      have hkq5 := S5.get (a := kq) (o := .tup [.int a, .int b]) (by walk_at "mem")
      have tv : Th H6 3 v := ol_th (k := 0) ol (ints_th Z.pos) (tp 0 (S6.get (by walk_at "mem"))) (todd 1 (S6.get (by walk_at "mem"))) |>.up
      have old6 : ∀ b u, H b = some u → b ≠ d → H6 b = some u := fun b u e1 e2 => S6.old1 e1 e2
      clear S5 S6
      walk_at "rd"
      rename_i t6 H7 ht6 S7
      clear W6
      refine rd_catTn (xs := [.int s, .int m, .int e, .ref kq]) (ys := [v]) S7 (by walk_at "mem") (by walk_at "mem") (by simp) (by simp) (Rs.sz (by simp)) fun q7 H8 hq7 S8 => ?_
      simp only [List.cons_append, List.nil_append] at S8
      refine two (S8.get (by walk_at "mem")) (fun b u e1 e2 => S8.same _ _ (old6 b u e1 e2)) (by omega) (by omega) (S8.get (by walk_at "mem")) (tk 2 (S8.get (by walk_at "mem"))) (tv.more (.same S8.same)) fun k' q' h3 h4 => ?_
      cases h3
      subst h4
      rcases ol with ⟨e1, _⟩ | e1 | ⟨a9, ys, e1, e2, _⟩
      · cases e1; exact ne
      · rw [← e1] at ho; rw [odd_ref ho]; exact fun z => hn4.1 z.symm
      · cases e1; exact fun z => by rw [← z, hkq5] at e2; cases e2
    walk_at "rd"
    refine rd_dec ?_ ?_ <;> intro hw6
    · walk_at "rd"
      refine use_oddlist S4 (by walk_at "chgF") (.inr (by simp)) (by walk_at "mem") (by omega) (by omega) (by simp) fun v l5 a5 H6 S6 ol b1 b2 => ?_
      have tv : Th H6 4 v := ol_th (k := 2) ol (tpap 1 (S6.get (by walk_at "mem")) (S6.get (by walk_at "mem"))) (.tup 2 p _ (S6.get (by walk_at "mem")) (by simp) (tpap 1 (S6.get (by walk_at "mem")) (S6.get (by walk_at "mem")))) (todd 3 (S6.get (by walk_at "mem")))
      refine k v l5 a5 H6 (S6.get (by walk_at "mem")) (fun b u e1 e2 => S6.old1 e1 e2) tv ?_ (by omega) (by omega)
      rcases ol with ⟨_, e1⟩ | e1 | ⟨a9, ys, e1, e2, e3, e4, e5⟩
      · cases e1
      · intro p' x' y' z' k' q' g1 g2
        rw [← e1, g1] at ho
        have e6 := odd_ref ho
        subst e6
        have := tup_inj g2 (S6.get (by walk_at "mem"))
        cases this
      · subst e1
        rcases e3 with e3 | ⟨e3, e6⟩
        · exact apart_no fun b xs z1 z2 => by cases z1; rw [e3] at z2; cases z2
        · refine apart_of e3 fun k' q' g1 g2 g3 => ?_
          rw [e6 rfl g1] at g2
          simp at g2
    walk_at "rd"
    refine rd_dec ?_ ?_ <;> intro hw7
    · walk_at "rd"
      refine rd_slTn S4 (ys := [.int s, .int m, .int e]) (by walk_at "mem") (by simp [HT.sIx]) rfl fun t5 H5 ht5 S5 => ?_
      clear S4
      walk_at "rd"
      refine lcw_tup (xs := [V.int s, V.int m, V.int e]) S5 (fun i acc => acc = (([s + by_, m + by_, e + by_].take i).map V.int)) rfl (fun H' acc D S => S.tup (by walk_at "mem")) ?_ ?_
      · rintro D i x acc H6 hi rfl hD S6
        have hz0 : i < 3 := (List.getElem?_eq_some_iff.mp hi).1
        have hi3 : i = 0 ∨ i = 1 ∨ i = 2 := by omega
        rcases hi3 with rfl | rfl | rfl
        all_goals
          simp at hi
          subst hi
          walk_at "lc"
          exact rd_lcPut S6 (by walk_at "chg") hD (Rs.sz' (by simp)) (by walk_at "sub") rfl
      · rintro D acc H6 rfl hD S6
        have S6 : Hs H [d] H6 [(D, .lst [.int (s + by_), .int (m + by_), .int (e + by_)]), (t5, .tup [.int s, .int m, .int e]), (tn, .tup [.int 1]), (d, .dK (drw l4 c a4)), (p, .tup [.int s, .int m, .int e, .ref kq, .ref pq]), (kq, .tup [.int a, .int b]), (pq, .tup (pk.map V.int))] := S6
        clear S5
        walk_at "rd"
        refine ⟨D, _, rfl, .inl ⟨S6.lst (by walk_at "mem"), fun t6 ht6 => ?_⟩⟩
        obtain ⟨h06, S7⟩ := S6.new ht6 (.tup [.int (s + by_), .int (m + by_), .int (e + by_)])
        generalize upd H6 t6 (.tup [.int (s + by_), .int (m + by_), .int (e + by_)]) = H7 at S7
        clear S6
        walk_at "rd"
        refine rd_slTn S7 (ys := [.ref kq, .ref pq]) (by walk_at "mem") (by simp [HT.sIx]) rfl fun t8 H8 ht8 S8 => ?_
        clear S7
        refine rd_catTn (xs := [.int (s + by_), .int (m + by_), .int (e + by_)]) (ys := [.ref kq, .ref pq]) S8 (by walk_at "mem") (by walk_at "mem") (by simp) (by simp) (Rs.sz (by simp)) fun q7 H9 hq7 S9 => ?_
        simp only [List.cons_append, List.nil_append] at S9
        refine fin _ l4 a4 H9 _ S9 (by walk_at "mem") (.tup 3 q7 _ (S9.get (by walk_at "mem")) (by simp) (fun y hy => ?_)) (apart_of (S9.get (by walk_at "mem")) fun k' q' _ h3 h4 => ?_) (by omega) (by omega)
        · simp only [List.mem_cons, List.not_mem_nil, or_false] at hy
          rcases hy with rfl | rfl | rfl | rfl | rfl
          · exact .int _ _ (by omega)
          · exact .int _ _ (by omega)
          · exact .int _ _ (by omega)
          · exact tk 2 (S9.get (by walk_at "mem"))
          · exact tp 2 (S9.get (by walk_at "mem"))
        · simp at h3 h4
          rw [← h3, ← h4]; exact ne
    walk_at "rd"
    rename_i tz H5 htz S5
    clear S4
    refine rd_eqTs (xs := pk.map V.int) (ys := []) (ns := pk) (ms := []) S5 (by walk_at "mem") (by walk_at "mem") rfl rfl ?_
    walk_at "rd"
    refine rd_dec ?_ ?_ <;> intro hpk
    · walk_at "rd"
      refine rd_slTn S5 (ys := [.int s, .int m, .int e]) (by walk_at "mem") (by simp [HT.sIx]) rfl fun t6 H6 ht6 S6 => ?_
      clear S5
      walk_at "rd"
      rename_i t7 H7 ht7 S7 t8 H8 ht8 S8
      clear S6 S7
      refine rd_catTn (xs := [.int s, .int m, .int e]) (ys := [.ref kq, .ref t7]) S8 (by walk_at "mem") (by walk_at "mem") (by simp) (by simp) (Rs.sz (by simp)) fun q7 H9 hq7 S9 => ?_
      simp only [List.cons_append, List.nil_append] at S9
      refine two (S9.get (by walk_at "mem")) (fun b u e1 e2 => S9.old1 e1 e2) (by omega) (by omega) (S9.get (by walk_at "mem")) (tk 2 (S9.get (by walk_at "mem"))) (.tup 2 t7 _ (S9.get (by walk_at "mem")) (by simp) (ab_th (by decide) (by decide))) fun k' q' h3 h4 => ?_
      cases h3; cases h4
      exact fun z => (hkp ht7).1 z.symm
    have hl1 : 1 ≤ pk.length := by
      have : pk.length ≠ 0 := fun y => hpk (List.eq_nil_of_length_eq_zero y)
      omega
    have S4 : Hs H [d] H5 [(tn, .tup [.int 1]), (d, .dK (drw l4 c a4)), (p, .tup [.int s, .int m, .int e, .ref kq, .ref pq]), (kq, .tup [.int a, .int b]), (pq, .tup (pk.map V.int))] := S5.sub (by walk_at "sub")
    clear S5
    have hlm : (pk.map V.int).length = pk.length := List.length_map ..
    have pth : ∀ {H' : Hp} {z : Int}, z.natAbs < 10 ^ 31 → ∀ {i : Nat}, ∀ y ∈ (pk.map V.int).set i (.int z), Th H' 2 y := fun {H' z} hz {i} => set_th (ints_th Z.pos) (.int _ _ hz)
    walk_at "rd"
    rename_i n1 n2 n3 n4
    refine rd_dec ?_ ?_ <;> intro hw8
    · walk_at "rd"
      refine rd_slTn S4 (ys := [.int s, .int m, .int e, .ref kq]) (by walk_at "mem") (by simp [HT.sIx]) rfl fun t5 H5 ht5 S5 => ?_
      clear S4
      walk_at "rd"
      obtain ⟨z, ez, hz⟩ := ixp (pk := pk) (r := n1) n3 (by omega)
      have hz2 := Z.pos z hz
      refine rd_ixT S5 (by walk_at "mem") ez ?_
      walk_at "rd"
      refine use_put S5 (by walk_at "mem") n3 (by omega) (by omega) fun q H6 hq S6 => ?_
      clear S5
      walk_at "rd"
      rename_i t6 H7 ht6 S7
      clear S6
      refine rd_catTn (xs := [.int s, .int m, .int e, .ref kq]) (ys := [.ref q]) S7 (by walk_at "mem") (by walk_at "mem") (by simp) (by simp) (Rs.sz (by simp)) fun q7 H8 hq7 S8 => ?_
      simp only [List.cons_append, List.nil_append] at S8
      refine two (S8.get (by walk_at "mem")) (fun b u e1 e2 => S8.old1 e1 e2) (by omega) (by omega) (S8.get (by walk_at "mem")) (tk 2 (S8.get (by walk_at "mem"))) (.tup 2 q _ (S8.get (by walk_at "mem")) (by rw [List.length_set]; omega) (pth (by omega))) fun k' q' h3 h4 => ?_
      cases h3; cases h4
      exact fun z => (hkp hq).1 z.symm
    walk_at "rd"
    refine rd_dec ?_ ?_ <;> intro hw9
    · walk_at "rd"
      refine rd_slTn S4 (ys := [.int s, .int m, .int e, .ref kq]) (by walk_at "mem") (by simp [HT.sIx]) rfl fun t5 H5 ht5 S5 => ?_
      clear S4
      walk_at "rd"
      refine use_put S5 (by walk_at "mem") n3 (by omega) (by omega) fun q H6 hq S6 => ?_
      clear S5
      walk_at "rd"
      rename_i t6 H7 ht6 S7
      clear S6
      refine rd_catTn (xs := [.int s, .int m, .int e, .ref kq]) (ys := [.ref q]) S7 (by walk_at "mem") (by walk_at "mem") (by simp) (by simp) (Rs.sz (by simp)) fun q7 H8 hq7 S8 => ?_
      simp only [List.cons_append, List.nil_append] at S8
      refine two (S8.get (by walk_at "mem")) (fun b u e1 e2 => S8.old1 e1 e2) (by omega) (by omega) (S8.get (by walk_at "mem")) (tk 2 (S8.get (by walk_at "mem"))) (.tup 2 q _ (S8.get (by walk_at "mem")) (by rw [List.length_set]; omega) (set_th (ints_th Z.pos) (todd 1 (S8.get (by walk_at "mem"))))) fun k' q' h3 h4 => ?_
      cases h3; cases h4
      exact fun z => (hkp hq).1 z.symm
    walk_at "rd"
    refine rd_dec ?_ ?_ <;> intro hw10
    · walk_at "rd"
      rename_i g1 g2 g3 g4
      obtain ⟨z, ez, hz⟩ := ixp (pk := pk) (r := n1) n3 (by omega)
      have hz2 := Z.pos z hz
      refine rd_ixT S4 (by walk_at "mem") ez ?_
      walk_at "rd"
      refine use_put S4 (by walk_at "mem") n3 (by omega) (by omega) fun q H6 hq S6 => ?_
      clear S4
      walk_at "rd"
      refine rd_slTn S6 (ys := [.int s, .int m, .int e]) (by walk_at "mem") (by simp [HT.sIx]) rfl fun t5 H5 ht5 S5 => ?_
      clear S6
      obtain ⟨z2, ez2, hz3⟩ := ix2 (a := a) (b := b) (r := 1 - g1) (by omega) (by omega)
      walk_at "rd"
      refine use_put S5 (by walk_at "mem") (by omega) (by simp; omega) (by simp) fun q2 H6 hq2 S6 => ?_
      clear S5
      walk_at "rd"
      rename_i t6 H7 ht6 S7
      have hqq : q2 ≠ q := fun z => by
        have := S6.nd
        simp [z] at this
      clear S6
      refine rd_catTn (xs := [.int s, .int m, .int e]) (ys := [.ref q2, .ref q]) S7 (by walk_at "mem") (by walk_at "mem") (by simp) (by simp) (Rs.sz (by simp)) fun q7 H8 hq7 S8 => ?_
      simp only [List.cons_append, List.nil_append] at S8
      refine two (S8.get (by walk_at "mem")) (fun b u e1 e2 => S8.old1 e1 e2) (by omega) (by omega) (S8.get (by walk_at "mem")) (.tup 2 q2 _ (S8.get (by walk_at "mem")) (by simp) (set_th (ab_th (by omega) (by omega)) (.int _ _ (by omega)))) (.tup 2 q _ (S8.get (by walk_at "mem")) (by rw [List.length_set]; omega) (pth (by omega))) fun k' q' h3 h4 => ?_
      cases h3; cases h4
      exact hqq
    · walk_at "rd"
      rename_i g1 g2 g3 g4
      obtain ⟨z, ez, hz⟩ := ixp (pk := pk) (r := n1) n3 (by omega)
      have hz2 := Z.pos z hz
      refine rd_ixT S4 (by walk_at "mem") ez ?_
      walk_at "rd"
      refine use_put S4 (by walk_at "mem") n3 (by omega) (by omega) fun q H6 hq S6 => ?_
      clear S4
      walk_at "rd"
      refine rd_slTn S6 (ys := [.int s, .int m, .int e, .ref kq]) (by walk_at "mem") (by simp [HT.sIx]) rfl fun t5 H5 ht5 S5 => ?_
      clear S6
      have es : (pk.map V.int).set n1.toNat (.int (z + by_)) = (pk.set n1.toNat (z + by_)).map V.int := by rw [List.map_set]
      rw [es] at S5
      obtain ⟨z2, ez2, hz3⟩ := ixp (pk := pk.set n1.toNat (z + by_)) (r := g1) g3 (by rw [List.length_set]; omega)
      have hz4 : -1 ≤ z2 ∧ z2 ≤ 11 := by
        rcases List.mem_or_eq_of_mem_set hz3 with h | h
        · have := Z.pos z2 h; omega
        · omega
      walk_at "rd"
      have hls : ((pk.set n1.toNat (z + by_)).map V.int).length = pk.length := by rw [List.length_map, List.length_set]
      refine use_put S5 (by walk_at "mem") (by omega) (by omega) (by omega) fun q2 H6 hq2 S6 => ?_
      clear S5
      walk_at "rd"
      rename_i t6 H7 ht6 S7
      clear S6
      refine rd_catTn (xs := [.int s, .int m, .int e, .ref kq]) (ys := [.ref q2]) S7 (by walk_at "mem") (by walk_at "mem") (by simp) (by simp) (Rs.sz (by simp)) fun q7 H8 hq7 S8 => ?_
      simp only [List.cons_append, List.nil_append] at S8
      refine two (S8.get (by walk_at "mem")) (fun b u e1 e2 => S8.old1 e1 e2) (by omega) (by omega) (S8.get (by walk_at "mem")) (tk 2 (S8.get (by walk_at "mem"))) (.tup 2 q2 _ (S8.get (by walk_at "mem")) (by rw [List.length_set]; omega) (set_th (fun y hy => ?_) (.int _ _ (by omega)))) fun k' q' h3 h4 => ?_
      · rw [← es] at hy
        exact pth (by omega) y hy
      · cases h3; cases h4
        exact fun z => (hkp hq2).1 z.symm
end
end K30

namespace K30
open PySem L2 Rs Xc Xd Xh
def sp_lmoved : Sp := fun vs H Q _ => ∃ (r p kq pq : Addr) (s m e a b : Int) (pk : List Int) (xs : List V), vs = [.ref r, .ref p] ∧ MA H p kq pq s m e a b pk ∧ VM s m e a b pk ∧ H r = some (.lst xs) ∧ e ≤ xs.length ∧ xs.length ≤ 4096 ∧
  ∀ q H', H q = none → H' q = some (.lst (fwd (pk.map Int.toNat) (s + a).toNat m.toNat (e - b).toNat xs)) → Same H H' → Q (.ref q) H'
def sp_lfits : Sp := fun vs H Q _ => ∃ (x : V) (M : Int), vs = [x, .int M] ∧ Th H 4 x ∧ Apart H x ∧ 0 ≤ M ∧ M ≤ 4096 ∧ ∀ (b : Bool) (H' : Hp), (b = true ↔ Good H x M) → Same H H' → Q (.bl b) H'
theorem pick_bd : ∀ pk : List Int, (∀ x ∈ pk, 1 ≤ x) → 0 ≤ (pickI pk none none 2).sum ∧ 0 ≤ (pickI pk (some 1) none 2).sum ∧ ∀ x ∈ pk, x ≤ (pickI pk none none 2).sum ∨ x ≤ (pickI pk (some 1) none 2).sum
  | [], _ => by rw [pick_nil, pick_nil]; simp
  | z :: r, h => by
    obtain ⟨h1, h2, h3⟩ := pick_bd r fun y hy => h y (List.mem_cons_of_mem _ hy)
    have hz := h z List.mem_cons_self
    rw [pick_even, pick_odd, List.sum_cons]
    refine ⟨by omega, h1, fun x hx => ?_⟩
    rcases List.mem_cons.mp hx with rfl | hx
    · left; omega
    · rcases h3 x hx with h4 | h4
      · right; exact h4
      · left; omega
theorem Good.small {H : Hp} {p kq pq : Addr} {s m e a b n : Int} {pk : List Int} (R : MA H p kq pq s m e a b pk) (W : VM s m e a b pk) (he : e ≤ n) : ∀ x ∈ pk, 1 ≤ x ∧ x ≤ n := fun x hx => by
  have h1 := W.pos x hx
  obtain ⟨_, _, h3⟩ := pick_bd pk fun y hy => (W.pos y hy).1
  have := W.sec; have := W.fst; have := W.a0; have := W.b0; have := W.s0; have := W.sm; have := W.me
  rcases h3 x hx with h4 | h4 <;> omega
theorem rep_eq (n : Nat) : (List.replicate n (1 : Int) = []) ↔ n = 0 := by cases n <;> simp [List.replicate]
section
variable {P : Program} {w : World} {K : PySem.W.Frag} {mg : Str → Option Value} {base : Heap} {A : Ad} {H H0 : Hp} {MM : List Addr} {L L' F : Led} {Q : VK} {E : XK} {σ : L2.St}
theorem ok_lmoved (T : Txt K mg w A) : FnOk P w K mg base CX0 1 A.f__law_moved A.d__law_moved ["_law_things", "_law_paper"] sp_lmoved := by
  refine T.c__law_moved.F.ok sc_l_moved (fun vs H Q E h => ?_) (fun cdv Ar outer s H vs Q E hr h => ?_)
  · obtain ⟨r, p, kq, pq, s, m, e, a, b, pk, xs, rfl, _⟩ := h; rfl
  · obtain ⟨r, p, kq, pq, s, m, e, a, b, pk, xs, rfl, R, W, hx, he, hl, k⟩ := h
    refine ⟨_, (pss_cons (ps_asg (pv 1) (pg_tup rfl (pgs_cons (pg_name (i := 2) sc_l_moved.nd rfl (Or.inl rfl)) (pgs_cons (pg_name (i := 3) sc_l_moved.nd rfl (Or.inl rfl)) (pgs_cons (pg_name (i := 4) sc_l_moved.nd rfl (Or.inl rfl)) (pgs_cons (pg_name (i := 5) sc_l_moved.nd rfl (Or.inl rfl)) (pgs_cons (pg_name (i := 6) sc_l_moved.nd rfl (Or.inl rfl)) pgs_nil)))))))
      (pss_cons (ps_par (i := 7) (j := 8) rfl sc_l_moved.nd rfl rfl (by decide) rfl rfl (pa_cons (pe_lst (pa_cons (pe_op op_add (pv 2) (pe_ix ix_tup (pv 5) pe_int (fun _ _ => rfl))) (pa_cons (pv 3) pa_nil))) (pa_cons (pe_slice sl_list (pv 0) po_none (po_some (pe_op op_add (pv 2) (pe_ix ix_tup (pv 5) pe_int (fun _ _ => rfl))))) pa_nil)) (by rfl))
      (pss_cons (ps_for PassesOwn.never rfl (Xd.pi_enT (by rfl) T.n_enumerate (pa_cons (pv 6) pa_nil)) (pg_tup rfl (pgs_cons (pg_name (i := 9) sc_l_moved.nd rfl (Or.inl rfl)) (pgs_cons (pg_name (i := 10) sc_l_moved.nd rfl (Or.inl rfl)) pgs_nil)))
        (pss_cons (ps_set (i := 11) sc_l_moved.nd rfl (Or.inl rfl) (pe_op op_sub pe_int (pe_op op_mod (pv 9) pe_int)))
        (pss_cons (ps_set (i := 8) sc_l_moved.nd rfl (Or.inl rfl) (pe_op op_cat (pv 8) (pe_slice sl_list (pv 0) (po_some (pe_ix ix_list (pv 7) (pv 11) (fun _ _ => rfl))) (po_some (pe_op op_add (pe_ix ix_list (pv 7) (pv 11) (fun _ _ => rfl)) (pv 10))))))
        (pss_one (ps_asg (pe_op op_add (pe_ix ix_list (pv 7) (pv 11) (fun _ _ => rfl)) (pv 10)) (pg_sub (pv 7) (pv 11) set_list))))))
      (pss_one (ps_ret (pe_op op_cat (pv 8) (pe_slice sl_list (pv 0) (po_some (pe_op op_sub (pv 4) (pe_ix ix_tup (pv 5) pe_int (fun _ _ => rfl)))) po_none))))))), ?_⟩
    have S0 := R.ledR hx
    have S : Hs H [] H [(r, .lst xs), (p, .tup [.int s, .int m, .int e, .ref kq, .ref pq]), (kq, .tup [.int a, .int b]), (pq, .tup (pk.map V.int))] := ⟨S0.nd, S0.is, fun b o e _ => e, fun b hb => nomatch hb⟩
    clear S0
    have F := W.fit (n := xs.length) he
    obtain ⟨w1, w2, w3, w4, w5, w6, w7, w8, w9, w10, w11, w12, w13⟩ := W
    generalize hN : pk.map Int.toNat = pN at k F
    walk_at "st"
    walk_at "rd"
    rename_i t H1 ht S1
    clear S
    obtain ⟨f, hf⟩ : ∃ f : Nat, s + a = f := Int.eq_ofNat_of_zero_le (by omega)
    obtain ⟨m', rfl⟩ : ∃ m' : Nat, m = m' := Int.eq_ofNat_of_zero_le (by omega)
    obtain ⟨e', he'⟩ : ∃ e' : Nat, e - b = e' := Int.eq_ofNat_of_zero_le (by omega)
    rw [hf] at k F S1 ⊢
    rw [he'] at k F
    simp only [Int.toNat_natCast] at k F
    refine rd_slVx S1 (by walk_at "mem") fun u H2 hu S2 => ?_
    rw [Xd.cut_to] at S2
    walk_at "rd"
    clear S1
    refine rd_enT ?_
    walk_at "rd"
    refine rd_enTI S2 (by walk_at "mem") ?_
    refine fw_enT (xs := pk.map V.int) (fun i σ H' => ∃ (u : Addr) (x y : Nat) (zs : List V) (o1 o2 o3 : Option V), σ = [some (.ref r), some (.ref p), some (.int s), some (.int m'), some (.int e), some (.ref kq), some (.ref pq), some (.ref t), some (.ref u), o1, o2, o3] ∧ Hs H [] H' [(u, .lst zs), (t, .lst [.int x, .int y]), (r, .lst xs), (p, .tup [.int s, .int m', .int e, .ref kq, .ref pq]), (kq, .tup [.int a, .int b]), (pq, .tup (pk.map V.int))] ∧
      zs ++ (if i % 2 = 0 then mix (pN.drop i) (xs.drop y) (xs.drop x) else mix (pN.drop i) (xs.drop x) (xs.drop y)) = xs.take f ++ mix pN (xs.drop m') (xs.drop f) ∧ zs.length ≤ i * 4096 + 4096) ⟨u, f, m', _, _, _, _, rfl, S2, by simp, by simp; omega⟩ (fun i σ H' _ h => by
        obtain ⟨u, x, y, zs, o1, o2, o3, _, S, _⟩ := h
        exact S.tup (by walk_at "mem")) ?_ ?_
    · rintro i v σ H2 T hi ⟨u, x, y, zs, o1, o2, o3, rfl, S, e1, e2⟩ hT
      obtain ⟨z, rfl, dm, hz, hil⟩ := drop_more hi
      rw [hN] at dm
      have hz2 := w10 z hz
      obtain ⟨_, S3⟩ := S.new hT (.tup [.int (i : Nat), .int z])
      clear S
      have hi3 : i * 4096 ≤ 4096000 := by omega
      rcases par_next i with ⟨j1, j2, j3⟩ | ⟨j1, j2, j3⟩
      · walk_at "rd"
        rename_i rr hr1 hr2 hr3
        obtain rfl : rr = 0 := by omega
        simp only [show (1 : Int) - 0 = 1 from rfl]
        have a1 : atI [V.int (x : Int), V.int (y : Int)] 1 = some (V.int (y : Int)) := atI_nat (j := 1) rfl
        walk_at "rd"
        refine rd_slVx S3 (by walk_at "mem") fun g H5 hg S5 => ?_
        rw [cutI_run xs (by omega)] at S5
        walk_at "rd"
        refine rd_catL S5 (by walk_at "mem") (by walk_at "mem") (by rw [sizeLine_eq]; simp only [List.length_take, List.length_drop]; omega) fun u2 H6 hu2 S6 => ?_
        walk_at "rd"
        refine gt_setL S6 (j := 1) (by walk_at "chg") (by walk_at "own") rfl fun H7 S7 => ?_
        walk_at "rd"
        dsimp only [List.set] at S7
        refine ⟨u2, x, y + z.toNat, zs ++ (xs.drop y).take z.toNat, _, _, _, rfl, ?_, ?_, ?_⟩
        · rw [show (((y + z.toNat : Nat)) : Int) = (y : Int) + z by omega]
          exact S7.sub (by walk_at "sub")
        · rw [if_pos j2, dm] at e1
          rw [if_neg (by omega), ← e1, List.append_assoc]
          simp only [mix, List.drop_drop]
        · simp only [List.length_append, List.length_take, List.length_drop]; omega
      · walk_at "rd"
        rename_i rr hr1 hr2 hr3
        obtain rfl : rr = 1 := by omega
        simp only [show (1 : Int) - 1 = 0 from rfl]
        have a1 : atI [V.int (x : Int), V.int (y : Int)] 0 = some (V.int (x : Int)) := atI_nat (j := 0) rfl
        walk_at "rd"
        refine rd_slVx S3 (by walk_at "mem") fun g H5 hg S5 => ?_
        rw [cutI_run xs (by omega)] at S5
        walk_at "rd"
        refine rd_catL S5 (by walk_at "mem") (by walk_at "mem") (by rw [sizeLine_eq]; simp only [List.length_take, List.length_drop]; omega) fun u2 H6 hu2 S6 => ?_
        walk_at "rd"
        refine gt_setL S6 (j := 0) (by walk_at "chg") (by walk_at "own") rfl fun H7 S7 => ?_
        walk_at "rd"
        dsimp only [List.set] at S7
        refine ⟨u2, x + z.toNat, y, zs ++ (xs.drop x).take z.toNat, _, _, _, rfl, ?_, ?_, ?_⟩
        · rw [show (((x + z.toNat : Nat)) : Int) = (x : Int) + z by omega]
          exact S7.sub (by walk_at "sub")
        · rw [if_neg (by omega), dm] at e1
          rw [if_pos j3, ← e1, List.append_assoc]
          simp only [mix, List.drop_drop]
        · simp only [List.length_append, List.length_take, List.length_drop]; omega
    · rintro σ H3 ⟨u, x, y, zs, o1, o2, o3, rfl, S, e1, e2⟩
      have en : pN.drop (pk.map V.int).length = [] := List.drop_of_length_le (by rw [← hN, List.length_map, List.length_map]; exact Nat.le_refl _)
      have e0 : zs = xs.take f ++ mix pN (xs.drop m') (xs.drop f) := by
        rw [← e1, en]
        simp [mix]
      rw [List.length_map] at e2
      walk_at "rd"
      rw [he']
      refine rd_slVx S (by walk_at "mem") fun g H5 hg S5 => ?_
      rw [Xd.cut_from] at S5
      refine rd_catL S5 (by walk_at "mem") (by walk_at "mem") (by rw [sizeLine_eq]; simp only [List.length_drop]; omega) fun u2 H6 hu2 S6 => ?_
      exact k u2 H6 hu2 (by rw [S6.get (a := u2) (o := .lst (zs ++ xs.drop e')) (by walk_at "mem"), e0]; rfl) S6.same
theorem ok_lwhole (T : Txt K mg w A) : FnOk P w K mg base CX0 1 A.f__law_is_whole A.d__law_is_whole ["_law_thing", "_law_least", "_law_most"] (sp_whole K) := by
  refine T.c__law_is_whole.F.ok sc_l_is_whole (fun vs H Q E h => ?_) (fun cdv Ar outer s H vs Q E hr h => ?_)
  · obtain ⟨x, l, m, k, rfl, _⟩ := h; rfl
  · obtain ⟨x, l, m, kk, rfl, ho, q⟩ := h
    refine ⟨_, (pss_one (ps_ret (pe_and (pe_callB call_isi (by rfl) T.n_isinstance PyProof.Rows.boot_isinstance (pa_cons (pv 0) (pa_cons (pe_bltn (v := .ty "int") rfl T.n_int PyProof.Rows.boot_int rfl) pa_nil))) (pe_and (pe_not (pe_callB call_isi (by rfl) T.n_isinstance PyProof.Rows.boot_isinstance (pa_cons (pv 0) (pa_cons (pe_bltn (v := .ty "bool") rfl T.n_bool PyProof.Rows.boot_bool rfl) pa_nil)))) (pe_one (pe_chain op_le op_le (pv 1) (pv 0) (pv 2))))))), ?_⟩
    obtain ⟨k, hk, _⟩ := ho.kin (K := K)
    walk_at "st"
    walk_at "rd"
    refine rd_isi hk (kit_int _) ?_
    walk_at "rd"
    cases hk with
    | int i =>
      walk_at "if1"
      refine rd_isi (Kin.int i) (kit_bool _) ?_
      walk_at "rd"
      walk_at "if1"
      rw [isWh_int] at q
      refine rd_dec ?_ ?_ <;> intro h1
      · walk_at "rd"
        rw [decide_eq_true h1, Bool.true_and] at q
        exact q
      · rw [decide_eq_false h1, Bool.false_and] at q
        exact q
    | bl b =>
      walk_at "if1"
      refine rd_isi (Kin.bl b) (kit_bool _) ?_
      walk_at "rd"
      exact q
    | str x => exact q
    | non => exact q
    | ref h n => rcases n with rfl | rfl | rfl <;> exact q
/-- how many are not whole -/
def Cn (ys : List V) (l m : Int) (i : Nat) (acc : List V) : Prop := ∃ n : Nat, acc = (List.replicate n (1 : Int)).map V.int ∧ n ≤ i ∧ (n = 0 ↔ ∀ j y, j < i → ys[j]? = some y → isWh y l m = true)
theorem Cn.zero {ys : List V} {l m : Int} : Cn ys l m 0 [] := ⟨0, rfl, Nat.le_refl _, fun _ j y h => absurd h (Nat.not_lt_zero _), fun _ => rfl⟩
theorem Cn.put {ys : List V} {l m : Int} {i : Nat} {acc : List V} {y : V} (c : Cn ys l m i acc) (h : ys[i]? = some y) (hw : isWh y l m = false) : Cn ys l m (i + 1) (acc ++ [.int 1]) := by
  obtain ⟨n, rfl, hn, c⟩ := c
  refine ⟨n + 1, by simp [List.replicate_succ'], by omega, fun z => by omega, fun z => ?_⟩
  have := z i y (by omega) h
  rw [hw] at this; cases this
theorem Cn.skip {ys : List V} {l m : Int} {i : Nat} {acc : List V} {y : V} (c : Cn ys l m i acc) (h : ys[i]? = some y) (hw : isWh y l m = true) : Cn ys l m (i + 1) acc := by
  obtain ⟨n, rfl, hn, c⟩ := c
  refine ⟨n, rfl, by omega, fun z j y' hj h' => ?_, fun z => c.mpr fun j y' hj h' => z j y' (by omega) h'⟩
  by_cases e : j = i
  · subst e
    rw [h] at h'; cases h'; exact hw
  · exact c.mp z j y' (by omega) h'
theorem Cn.all {ys : List V} {l m : Int} {acc : List V} (c : Cn ys l m ys.length acc) : ∃ n : Nat, acc = (List.replicate n (1 : Int)).map V.int ∧ n ≤ ys.length ∧ (n = 0 ↔ ∃ ns : List Int, ys = ns.map V.int ∧ ∀ z ∈ ns, l ≤ z ∧ z ≤ m) := by
  obtain ⟨n, e, hn, c⟩ := c
  refine ⟨n, e, hn, c.trans ?_⟩
  obtain ⟨bs, b1, b2, b3⟩ := whs ys l m
  rw [← b3, List.all_eq_true]
  constructor
  · intro h b hb
    obtain ⟨j, hj⟩ := List.getElem?_of_mem hb
    have hjl : j < ys.length := by rw [← b1]; exact (List.getElem?_eq_some_iff.mp hj).1
    have h2 := b2 j _ (List.getElem?_eq_getElem hjl)
    rw [hj] at h2
    cases h2
    exact h j _ hjl (List.getElem?_eq_getElem hjl)
  · intro h j y hj hy
    exact h _ (List.mem_of_getElem? (b2 j y hy))
theorem ok_lfits (T : Txt K mg w A) : FnOk P w K mg base CX0 2 A.f__law_fits A.d__law_fits ["_law_thing", "_law_many"] sp_lfits := by
  have G__law_is_whole : FnOk P w K mg base CX0 1 A.f__law_is_whole A.d__law_is_whole ["_law_thing", "_law_least", "_law_most"] (sp_whole K) := ok_lwhole T
  refine T.c__law_fits.F.ok sc_l_fits (fun vs H Q E h => ?_) (fun cdv Ar outer s H vs Q E hr h => ?_)
  · obtain ⟨x, M, rfl, _⟩ := h; rfl
  · obtain ⟨x, M, rfl, t, ap, hM0, hM, k⟩ := h
    refine ⟨_, (pss_cons (ps_if (PW.pt (pw_or (pt_not (pt_val (pe_callB call_isi (by rfl) T.n_isinstance PyProof.Rows.boot_isinstance (pa_cons (pv 0) (pa_cons (pe_bltn (v := .ty "tuple") rfl T.n_tuple PyProof.Rows.boot_tuple rfl) pa_nil))))) (pw_or1 (pt_cmpR op_ne (pe_callB call_len_seq (by rfl) T.n_len PySem.boot_len (pa_cons (pv 0) pa_nil)) pe_int (nomark _)))))
        (pss_one (ps_ret pe_bl))
        pss_nil)
      (pss_cons (ps_asg (pv 0) (pg_tup rfl (pgs_cons (pg_name (i := 2) sc_l_fits.nd rfl (Or.inl rfl)) (pgs_cons (pg_name (i := 3) sc_l_fits.nd rfl (Or.inl rfl)) (pgs_cons (pg_name (i := 4) sc_l_fits.nd rfl (Or.inl rfl)) (pgs_cons (pg_name (i := 5) sc_l_fits.nd rfl (Or.inl rfl)) (pgs_cons (pg_name (i := 6) sc_l_fits.nd rfl (Or.inl rfl)) pgs_nil)))))))
      (pss_cons (ps_if (pt_cmpR (op_neD hr.units) (pe_lc (own := [("_law_place", 7)]) (g := gName 7) (tt := _) rfl sc_l_fits.nd (pi_tup (pe_tup (pa_cons (pv 2) (pa_cons (pv 3) (pa_cons (pv 4) pa_nil))))) (blkOk_by (N := ["_law_thing", "_law_many", "_law_begin", "_law_midst", "_law_stop", "_law_kept", "_law_picks", "_law_place", "_law_one"]) (sc := defScope s_l_fits) (by decide +kernel)) (fun _ _ _ _ _ => (pg_name (i := 7) sc_l_fits.nd rfl (Or.inl rfl))) (fun _ _ _ _ _ => (pts_one (pt_not (pt_val (pe_call G__law_is_whole (hr.mono (by decide)) rfl T.c__law_is_whole.m T.c__law_is_whole.F.kp T.c__law_is_whole.b .nil pass0 (pa_cons (pv 7) (pa_cons pe_int (pa_cons (pv 1) pa_nil)))))))) (fun _ _ _ _ _ => pe_int)) (pe_lst pa_nil) (nomark _))
        (pss_one (ps_ret pe_bl))
        pss_nil)
      (pss_cons (ps_if (pt_not (pt_chain op_lt op_lt (pv 2) (pv 3) (pv 4)))
        (pss_one (ps_ret pe_bl))
        pss_nil)
      (pss_cons (ps_if (PW.pt (pw_or (pt_not (pt_val (pe_callB call_isi (by rfl) T.n_isinstance PyProof.Rows.boot_isinstance (pa_cons (pv 5) (pa_cons (pe_bltn (v := .ty "tuple") rfl T.n_tuple PyProof.Rows.boot_tuple rfl) pa_nil))))) (pw_or (pt_cmpR op_ne (pe_callB call_len_seq (by rfl) T.n_len PySem.boot_len (pa_cons (pv 5) pa_nil)) pe_int (nomark _)) (pw_or (pt_not (pt_val (pe_callB call_isi (by rfl) T.n_isinstance PyProof.Rows.boot_isinstance (pa_cons (pv 6) (pa_cons (pe_bltn (v := .ty "tuple") rfl T.n_tuple PyProof.Rows.boot_tuple rfl) pa_nil))))) (pw_or1 (pt_cmpR op_eq (pe_op op_mod (pe_callB call_len_seq (by rfl) T.n_len PySem.boot_len (pa_cons (pv 6) pa_nil)) pe_int) pe_int (nomark _)))))))
        (pss_one (ps_ret pe_bl))
        pss_nil)
      (pss_cons (ps_if (PW.pt (pw_or (pt_not (pt_val (pe_call G__law_is_whole (hr.mono (by decide)) rfl T.c__law_is_whole.m T.c__law_is_whole.F.kp T.c__law_is_whole.b .nil pass0 (pa_cons (pe_ix ix_tup (pv 5) pe_int (fun _ _ => rfl)) (pa_cons pe_int (pa_cons (pe_op op_sub (pv 3) (pv 2)) pa_nil)))))) (pw_or1 (pt_not (pt_val (pe_call G__law_is_whole (hr.mono (by decide)) rfl T.c__law_is_whole.m T.c__law_is_whole.F.kp T.c__law_is_whole.b .nil pass0 (pa_cons (pe_ix ix_tup (pv 5) pe_int (fun _ _ => rfl)) (pa_cons pe_int (pa_cons (pe_op op_sub (pv 4) (pv 3)) pa_nil)))))))))
        (pss_one (ps_ret pe_bl))
        pss_nil)
      (pss_cons (ps_if (pt_cmpR (op_neD hr.units) (pe_lc (own := [("_law_one", 8)]) (g := gName 8) (tt := _) rfl sc_l_fits.nd (pi_tup (pv 6)) (blkOk_by (N := ["_law_thing", "_law_many", "_law_begin", "_law_midst", "_law_stop", "_law_kept", "_law_picks", "_law_place", "_law_one"]) (sc := defScope s_l_fits) (by decide +kernel)) (fun _ _ _ _ _ => (pg_name (i := 8) sc_l_fits.nd rfl (Or.inl rfl))) (fun _ _ _ _ _ => (pts_one (pt_not (pt_val (pe_call G__law_is_whole (hr.mono (by decide)) rfl T.c__law_is_whole.m T.c__law_is_whole.F.kp T.c__law_is_whole.b .nil pass0 (pa_cons (pv 8) (pa_cons pe_int (pa_cons (pv 1) pa_nil)))))))) (fun _ _ _ _ _ => pe_int)) (pe_lst pa_nil) (nomark _))
        (pss_one (ps_ret pe_bl))
        pss_nil)
      (pss_one (ps_ret (pe_and (pe_cmpR op_eq (pe_op op_add (pe_ix ix_tup (pv 5) pe_int (fun _ _ => rfl)) (pe_callB (cr_sumT rfl) (by rfl) T.n_sum PyProof.Rows.boot_sum (pa_cons (pe_slT3 (pv 6) (po_some pe_int) po_none (po_some pe_int)) pa_nil))) (pe_op op_sub (pv 3) (pv 2)) (nomark _)) (pe_one (pe_cmpR op_eq (pe_op op_add (pe_ix ix_tup (pv 5) pe_int (fun _ _ => rfl)) (pe_callB (cr_sumT rfl) (by rfl) T.n_sum PyProof.Rows.boot_sum (pa_cons (pe_slT3 (pv 6) po_none po_none (po_some pe_int)) pa_nil))) (pe_op op_sub (pv 4) (pv 3)) (nomark _))))))))))))), ?_⟩
    obtain ⟨kd, hk, hc⟩ := t.kin (K := K)
    walk_at "st"
    walk_at "rd"
    refine rd_isi hk (kit_tuple _) ?_
    rcases hc with ⟨rfl, p, xs, rfl, hp, hl, _⟩ | ⟨e1, n1⟩
    rotate_left
    · rw [e1]
      walk_at "rd"
      refine k false _ (bF ?_) (fun _ _ e => e)
      rintro ⟨a, _, _, _, _, _, _, _, _, e, R, _⟩
      exact absurd R.hp (n1 a _ e)
    have S := Hs.start1 hp [] (.inl rfl)
    have he := t.part hp
    walk_at "rd"
    walk_at "if0"
    refine rd_dec ?_ ?_ <;> intro h1
    · walk_at "rd"
      refine k false _ (bF ?_) (fun _ _ e => e)
      rintro ⟨_, _, _, _, _, _, _, _, _, e, R, _⟩
      cases e
      have := tup_inj hp R.hp
      subst this
      simp at h1
    obtain ⟨x1, x2, x3, x4, x5, rfl⟩ := len5 h1
    walk_at "rd"
    rename_i tq H1 htq S1
    clear S
    refine lcw_tup (xs := [x1, x2, x3]) S1 (fun i acc => Cn [x1, x2, x3] 0 M i acc) Cn.zero (fun H' acc D S => S.tup (by walk_at "mem")) ?_ ?_
    · rintro D i x acc H2 hi hC hD S
      have hil : i < 3 := (List.getElem?_eq_some_iff.mp hi).1
      have hx := List.mem_of_getElem? hi
      walk_at "rd"
      dsimp only [L2.wipe, List.map, List.set]
      refine ⟨rfl, ?_⟩
      walk_at "rd"
      refine ⟨x, 0, M, _, rfl, (he x (by simp only [List.mem_cons, List.not_mem_nil, or_false] at hx ⊢; rcases hx with h | h | h <;> simp [h])).more (.same S.same), ?_⟩
      cases hw : isWh x 0 M with
      | true =>
        walk_at "rd"
        walk_at "if0"
        exact ⟨hD, acc, hC.skip hi hw, S⟩
      | false =>
        walk_at "rd"
        walk_at "if1"
        exact rd_lcPut S (by walk_at "chg") hD (Rs.sz' (by obtain ⟨n, rfl, hn, _⟩ := hC; simp; omega)) (by walk_at "sub") (hC.put hi hw)
    rintro D acc H2 hC hD S
    obtain ⟨n, rfl, hn, hn2⟩ := hC.all
    clear hC S1
    walk_at "rd"
    refine rd_neIs (ns := List.replicate n 1) (ms := []) (by assumption) (by walk_at "mem") (by walk_at "mem") (by rfl) (by rfl) ?_
    rename_i t0 H3 ht0 S3
    have sm3 : Same H H3 := S3.same
    walk_at "rd"
    refine rd_dec ?_ ?_ <;> intro h2
    · walk_at "rd"
      refine k false _ (bF fun g => ?_) sm3
      obtain ⟨kq, pq, s, m, e, a, b, pk, rfl, rfl, rfl, rfl, rfl, R, W, hn3⟩ := g.five hp
      have := W.s0; have := W.sm; have := W.me
      exact h2 ((rep_eq n).mpr (hn2.mpr ⟨[s, m, e], rfl, fun n hn => by
        simp only [List.mem_cons, List.not_mem_nil, or_false] at hn
        rcases hn with rfl | rfl | rfl <;> omega⟩))
    obtain ⟨ns, e3, hns⟩ := hn2.mp ((rep_eq n).mp (Decidable.not_not.mp h2))
    obtain ⟨s, m, e, rfl, rfl, rfl, rfl⟩ := len3 (ys := []) e3
    have hs := hns s (by simp); have hm := hns m (by simp); have he2 := hns e (by simp)
    have no : ∀ {H' : Hp}, Same H H' → ¬ (s < m ∧ m < e) → Q (.bl false) H' := fun {H'} sm z => k false H' (bF fun g => by
      obtain ⟨kq, pq, s', m', e', a, b, pk, q1, q2, q3, rfl, rfl, R, W, _⟩ := g.five hp
      cases q1; cases q2; cases q3
      exact z ⟨W.sm, W.me⟩) sm
    walk_at "rd"
    refine rd_dec ?_ ?_ <;> intro h3
    rotate_left
    · walk_at "rd"
      exact no sm3 fun z => h3 z.1
    walk_at "rd"
    by_cases h4 : m < e
    rotate_left
    · rw [decide_eq_false h4]
      walk_at "rd"
      exact no sm3 fun z => h4 z.2
    rw [decide_eq_true h4]
    walk_at "rd"
    walk_at "if0"
    have t4 := he x4 (by simp)
    have t5 := he x5 (by simp)
    obtain ⟨kd4, hk4, hc4⟩ := (t4.more (.same sm3)).kin (K := K)
    refine rd_isi hk4 (kit_tuple _) ?_
    rcases hc4 with ⟨rfl, kq, ks, rfl, hkq, hl4, he4⟩ | ⟨e4, n4⟩
    rotate_left
    · rw [e4]
      walk_at "rd"
      refine k false _ (bF fun g => ?_) sm3
      obtain ⟨kq, pq, s', m', e', a, b, pk, q1, q2, q3, rfl, rfl, R, _⟩ := g.five hp
      exact n4 kq _ rfl (sm3 _ _ R.hk)
    have hkq0 : H kq = some (.tup ks) := t4.back (.same sm3) hkq
    clear S S3
    have S4 := Hs.start1 hkq [] (.inl rfl)
    walk_at "rd"
    walk_at "if0"
    refine rd_dec ?_ ?_ <;> intro h5
    · walk_at "rd"
      refine k false _ (bF fun g => ?_) sm3
      obtain ⟨kq', pq, s', m', e', a, b, pk, q1, q2, q3, q4, rfl, R, _⟩ := g.five hp
      cases q4
      have := tup_inj hkq0 R.hk
      subst this
      simp at h5
    obtain ⟨y1, y2, rfl⟩ := len2 h5
    walk_at "rd"
    obtain ⟨kd5, hk5, hc5⟩ := (t5.more (.same sm3)).kin (K := K)
    refine rd_isi hk5 (kit_tuple _) ?_
    rcases hc5 with ⟨rfl, pq, ps, rfl, hpq, hl5, he5⟩ | ⟨e5, n5⟩
    rotate_left
    · rw [e5]
      walk_at "rd"
      refine k false _ (bF fun g => ?_) sm3
      obtain ⟨kq, pq, s', m', e', a, b, pk, q1, q2, q3, q4, rfl, R, _⟩ := g.five hp
      exact n5 pq _ rfl (sm3 _ _ R.hq)
    have hpq0 : H pq = some (.tup ps) := t5.back (.same sm3) hpq
    have S5 := Hs.start1 hpq [] (.inl rfl)
    have S4' := fun (_ : True) => S4
    clear S4
    walk_at "rd"
    walk_at "if0"
    rename_i r hr1 hr2 hr3
    refine rd_dec ?_ ?_ <;> intro h6
    · walk_at "rd"
      refine k false _ (bF fun g => ?_) sm3
      obtain ⟨kq', pq', s', m', e', a, b, pk, q1, q2, q3, q4, q5, R, W, _⟩ := g.five hp
      cases q5
      have := tup_inj hpq0 R.hq
      subst this
      rw [List.length_map] at hr1
      have := W.ev
      omega
    have ev : ps.length % 2 = 0 := by omega
    have S4 := S4' trivial
    clear S5
    have i0 : atI [y1, y2] 0 = some y1 := atI_nat (j := 0) rfl
    have i1 : atI [y1, y2] 1 = some y2 := atI_nat (j := 1) rfl
    walk_at "rd"
    refine ⟨y1, 0, m - s, _, rfl, he4 y1 (by simp), ?_⟩
    have noK : ∀ {H' : Hp}, Same H H' → ¬ Kept H (.ref kq) (m - s) (e - m) → Q (.bl false) H' := fun {H'} sm z => k false H' (bF fun g => by
      obtain ⟨kq', pq', s', m', e', a, b, pk, q1, q2, q3, q4, q5, R, W, _⟩ := g.five hp
      cases q1; cases q2; cases q3; cases q4
      exact z ⟨kq, a, b, rfl, R.hk, W.a0, W.am, W.b0, W.bm⟩) sm
    cases h7 : isWh y1 0 (m - s) with
    | false =>
      walk_at "rd"
      refine noK sm3 ?_
      rintro ⟨k', a, b, e1, e2, e3, e4, _⟩
      cases e1
      have := tup_inj hkq0 e2
      simp only [List.cons.injEq] at this
      rw [this.1] at h7
      exact isWh_not h7 ⟨e3, e4⟩
    | true =>
    obtain ⟨a, rfl, ha0, ha1⟩ := isWh_val h7
    walk_at "rd"
    walk_at "if0"
    refine ⟨y2, 0, e - m, _, rfl, he4 y2 (by simp), ?_⟩
    cases h8 : isWh y2 0 (e - m) with
    | false =>
      walk_at "rd"
      refine noK sm3 ?_
      rintro ⟨k', a, b, e1, e2, e3, e4, e5, e6⟩
      cases e1
      have := tup_inj hkq0 e2
      simp only [List.cons.injEq, and_true] at this
      rw [this.2] at h8
      exact isWh_not h8 ⟨e5, e6⟩
    | true =>
    obtain ⟨b, rfl, hb0, hb1⟩ := isWh_val h8
    clear S4
    have S5 := Hs.start1 hpq [] (.inl rfl)
    walk_at "rd"
    walk_at "if0"
    refine lcw_tup (xs := ps) S5 (fun i acc => Cn ps 1 M i acc) Cn.zero (fun H' acc D S => S.tup (by walk_at "mem")) ?_ ?_
    · rintro D i x acc H2 hi hC hD S
      have hil : i < ps.length := (List.getElem?_eq_some_iff.mp hi).1
      have hx := List.mem_of_getElem? hi
      walk_at "rd"
      dsimp only [L2.wipe, List.map, List.set]
      refine ⟨rfl, ?_⟩
      walk_at "rd"
      refine ⟨x, 1, M, _, rfl, (he5 x hx).more (.same S.same), ?_⟩
      cases hw : isWh x 1 M with
      | true =>
        walk_at "rd"
        walk_at "if0"
        exact ⟨hD, acc, hC.skip hi hw, S⟩
      | false =>
        walk_at "rd"
        walk_at "if1"
        exact rd_lcPut S (by walk_at "chg") hD (Rs.sz' (by obtain ⟨n, rfl, hn, _⟩ := hC; simp; omega)) (by walk_at "sub") (hC.put hi hw)
    rintro D acc H4 hC hD S
    obtain ⟨n2, rfl, hn3, hn4⟩ := hC.all
    clear hC S5
    walk_at "rd"
    refine rd_neIs (ns := List.replicate n2 1) (ms := []) (by assumption) (by walk_at "mem") (by walk_at "mem") (by rfl) (by rfl) ?_
    rename_i t1 H5 ht1 S6
    have sm5 : Same H H5 := same_trans sm3 S6.same
    walk_at "rd"
    refine rd_dec ?_ ?_ <;> intro h9
    · walk_at "rd"
      refine k false _ (bF fun g => ?_) sm5
      obtain ⟨kq', pq', s', m', e', a', b', pk, q1, q2, q3, q4, q5, R, W, hn9⟩ := g.five hp
      cases q5
      have := tup_inj hpq0 R.hq
      exact h9 ((rep_eq n2).mpr (hn4.mpr ⟨pk, this, Good.small R W hn9⟩))
    obtain ⟨pk, rfl, hpk⟩ := hn4.mp ((rep_eq n2).mp (Decidable.not_not.mp h9))
    rw [List.length_map] at hl5 ev
    have hR : MA H p kq pq s m e a b pk := ⟨hp, hkq0, hpq0, ap p _ _ _ kq pq rfl hp⟩
    have hpk2 : ∀ x ∈ pk, 1 ≤ x ∧ x ≤ 4096 := fun x hx => by have := hpk x hx; omega
    have gi := form_good hM hR hs.1 h3 h4 he2.2 ⟨ha0, by omega⟩ ⟨hb0, by omega⟩ ev hpk2 (by omega)
    have hR5 := (hR.more (.same sm5)).led
    have d0 : atI [V.int a, V.int b] 0 = some (.int a) := atI_nat (j := 0) rfl
    have d1 : atI [V.int a, V.int b] 1 = some (.int b) := atI_nat (j := 1) rfl
    clear S S6
    walk_at "rd"
    refine rd_slR3 hR5 (by walk_at "mem") rfl (by decide) (by decide) (Rs.sz (by have := pick_le pk (some 1) (Or.inr rfl); omega)) fun p1 H6 hp1 S7 => ?_
    walk_at "rd"
    refine rd_dec ?_ ?_ <;> intro h10
    · clear hR5
      walk_at "rd"
      refine rd_slR3 S7 (by walk_at "mem") rfl (by decide) (by decide) (Rs.sz (by have := pick_le pk none (Or.inl rfl); omega)) fun p2 H7 hp2 S8 => ?_
      walk_at "rd"
      refine k _ _ ⟨fun z => gi.mpr ⟨by omega, of_decide_eq_true z⟩, fun g => decide_eq_true (gi.mp g).2⟩ (same_trans sm5 (by walk_at "end"))
    · walk_at "rd"
      refine k false _ (bF fun g => h10 (gi.mp g).1) (same_trans sm5 S7.same)
end
end K30

namespace K30
open PySem L2 Rs Xc Xd Xh
def R_word (C : Addr) : SepM := fun vs Ch L post => ∃ (a dx : Addr) (v : V), vs = [.ref a] ∧ L = [(a, Xc.Exv a (.ref C) (some dx)), (dx, .xd [("at", v)])] ∧ Ch = [] ∧ post = fun u N L' => ∃ t, u = .ref t ∧ N = [(t, .tup [.str "paper", v, .bl true])] ∧ L' = L
theorem kx {l : List Value} {f : Value → Option Bool} {r : List (Option Bool)} (h : l.map f = r) (i : Nat) {c : Value} {b : Option Bool} (hc : l[i]? = some c) (hb : r[i]? = some b) : f c = b := by
  have e := congrArg (fun l => l[i]?) h
  simp only [List.getElem?_map, hc, hb, Option.map_some, Option.some.injEq] at e
  exact e
section
variable {P : Program} {w : World} {K : PySem.W.Frag} {mg : Str → Option Value} {base : Heap} {A : Ad} {H H0 : Hp} {MM : List Addr} {L L' F : Led} {Q : VK} {E : XK} {σ : L2.St}
theorem rd_eqPa {s t : Addr} (S : Hs H0 MM H L) (m1 : (s, HO.lst [.str "paper"]) ∈ L) (m2 : (t, HO.lst [.str "paper"]) ∈ L) (h : Q (.bl true) H) : rEqD K (.ref s) (.ref t) H Q := by
  have d : ∀ c : Addr, (c, HO.lst [V.str "paper"]) ∈ L → Dp K H (.ref c) (.list [.str "paper"]) := fun c m => .lst (SqL.of (S.is _ m)) (.cons (.str _) .nil)
  refine ⟨_, _, d s m1, d t m2, by decide +kernel, by decide +kernel, ?_⟩
  have e : PyData.eqv (.list [.str "paper"]) (.list [.str "paper"]) = true := by decide +kernel
  rw [e]; exact h
theorem ok_word (T : Txt K mg w A) : FnOk P w K mg base CX0 1 A.f__law_word A.d__law_word ["_law_e"] (SepN (R_word A.C_BadPaper)) := by
  refine T.c__law_word.F.ok sc_l_word (fun vs H Q E h => ?_) (fun cdv Ar outer s H vs Q E hr h => ?_)
  · obtain ⟨_, _, _, ⟨_, _, _, rfl, _⟩, _⟩ := h; rfl
  · obtain ⟨Ch, L, post, ⟨a, dx, v, rfl, rfl, rfl, rfl⟩, nd, is, hc, k⟩ := h
    refine ⟨_, (pss_cons (ps_set (i := 1) sc_l_word.nd rfl (Or.inl rfl) (pe_lst (pa_cons (pe_tup (pa_cons pe_str (pa_cons (pe_callB Xc.call_isX (by rfl) T.n_isinstance PyProof.Rows.boot_isinstance (pa_cons (pv 0) (pa_cons (pe_glob (v := .ref A.C_BadPaper) rfl T.m_BadPaper rfl) pa_nil))) pa_nil))) (pa_cons (pe_tup (pa_cons pe_str (pa_cons (pe_callB Xc.call_isX (by rfl) T.n_isinstance PyProof.Rows.boot_isinstance (pa_cons (pv 0) (pa_cons (pe_glob (v := .ref A.C_BadNumber) rfl T.m_BadNumber rfl) pa_nil))) pa_nil))) pa_nil))))
      (pss_cons (ps_expr (pe_bm PySem.F.plainAttrs_list PySem.F.slot_list_append PySem.F.type_list_append mt_append (pv 1) (pa_cons (pe_tup (pa_cons pe_str (pa_cons (pe_callB Xn.call_isXT (by rfl) T.n_isinstance PyProof.Rows.boot_isinstance (pa_cons (pv 0) (pa_cons (pe_tup (pa_cons (pe_glob (v := .ref A.C_BadAnswer) rfl T.m_BadAnswer rfl) (pa_cons (pe_glob (v := .ref A.C_BadKind) rfl T.m_BadKind rfl) (pa_cons (pe_glob (v := .ref A.C_BadLine) rfl T.m_BadLine rfl) (pa_cons (pe_glob (v := .ref A.C_BadText) rfl T.m_BadText rfl) (pa_cons (pe_glob (v := .ref A.C_Busy) rfl T.m_Busy rfl) (pa_cons (pe_glob (v := .ref A.C_Flawed) rfl T.m_Flawed rfl) (pa_cons (pe_glob (v := .ref A.C_Gone) rfl T.m_Gone rfl) (pa_cons (pe_glob (v := .ref A.C_NoSuch) rfl T.m_NoSuch rfl) pa_nil))))))))) pa_nil))) pa_nil))) pa_nil)))
      (pss_cons (ps_expr (pe_bm PySem.F.plainAttrs_list PySem.F.slot_list_append PySem.F.type_list_append mt_append (pv 1) (pa_cons (pe_tup (pa_cons pe_str (pa_cons (pe_callB Xn.call_isXT (by rfl) T.n_isinstance PyProof.Rows.boot_isinstance (pa_cons (pv 0) (pa_cons (pe_tup (pa_cons (pe_glob (v := .ref A.C_Stopped) rfl T.m_Stopped rfl) (pa_cons (pe_glob (v := .ref A.C_TooMany) rfl T.m_TooMany rfl) pa_nil))) pa_nil))) pa_nil))) pa_nil)))
      (pss_cons (ps_setLc (i := 2) (own := [("_law_word_here", 3), ("_law_fits_here", 4)]) (g := gTup K 2 (gCons (gName 3) (gCons (gName 4) gNil))) (tt := tTest (tVar 4)) rfl sc_l_word.nd rfl rfl (by rfl) (pi_list (pv 1)) (blkOk_by (N := ["_law_e", "_law_some", "_law_words", "_law_word_here", "_law_fits_here"]) (sc := defScope s_l_word) (by decide +kernel)) (fun _ _ _ _ _ => (show PG _ _ (gTup K 2 (gCons (gName 3) (gCons (gName 4) gNil))) from (pg_tup rfl (pgs_cons (pg_name (i := 3) sc_l_word.nd rfl (Or.inl rfl)) (pgs_cons (pg_name (i := 4) sc_l_word.nd rfl (Or.inl rfl)) pgs_nil))))) (fun _ _ _ _ _ => (pts_one (pt_val (pv 4)))) (fun _ _ _ _ _ => (pv 3)))
      (pss_cons (ps_if (pt_cmpR (op_eqD hr.units) (pv 2) (pe_lst (pa_cons pe_str pa_nil)) (nomark _))
        (pss_one (ps_ret (pe_tup (pa_cons pe_str (pa_cons (Xc.pe_xv (pv 0)) (pa_cons (pe_callB Xc.call_isX (by rfl) T.n_isinstance PyProof.Rows.boot_isinstance (pa_cons (pv 0) (pa_cons (pe_glob (v := .ref A.C_SortError) rfl T.m_SortError rfl) pa_nil))) pa_nil))))))
        pss_nil)
      (pss_one (ps_ret (pe_callTy call_tuple_of (by rfl) T.n_tuple (by decide +kernel) (pa_cons (pv 2) pa_nil))))))))), ?_⟩
    have S := Sep.led nd is hc
    have kit := T.x_kit
    walk_at "st"
    walk_at "rd"
    refine Xc.rd_isX S (by walk_at "mem") (by walk_at "mem") T.k_BadPaper (.own _) (kx T.x_kit 0 rfl rfl) ?_
    walk_at "rd"
    rename_i t1 H1 ht1 S1
    refine Xc.rd_isX S1 (by walk_at "mem") (by walk_at "mem") T.k_BadPaper (.own _) (kx T.x_kit 1 rfl rfl) ?_
    walk_at "rd"
    rename_i t2 H2 ht2 S2 so H3 hso S3 tc H4 htc S4
    refine Xn.rd_isXT S4 (by walk_at "mem") (by walk_at "mem") (by walk_at "mem") T.k_BadPaper (.cons (.own _) (.cons (.own _) (.cons (.own _) (.cons (.own _) (.cons (.own _) (.cons (.own _) (.cons (.own _) (.cons (.own _) .nil)))))))) (Xn.kitAny_no fun u hu => ?_) ?_
    · simp only [List.mem_cons, List.not_mem_nil, or_false] at hu
      rcases hu with rfl | rfl | rfl | rfl | rfl | rfl | rfl | rfl
      · exact kx T.x_kit 2 rfl rfl
      · exact kx T.x_kit 3 rfl rfl
      · exact kx T.x_kit 4 rfl rfl
      · exact kx T.x_kit 5 rfl rfl
      · exact kx T.x_kit 6 rfl rfl
      · exact kx T.x_kit 7 rfl rfl
      · exact kx T.x_kit 8 rfl rfl
      · exact kx T.x_kit 9 rfl rfl
    clear S1 S2 S3
    walk_at "rd"
    rename_i t3 H5 ht3 S5 H6 S6 td H7 htd S7
    clear S4 S5 S6
    refine Xn.rd_isXT S7 (by walk_at "mem") (by walk_at "mem") (by walk_at "mem") T.k_BadPaper (.cons (.own _) (.cons (.own _) .nil)) (Xn.kitAny_no fun u hu => ?_) ?_
    · simp only [List.mem_cons, List.not_mem_nil, or_false] at hu
      rcases hu with rfl | rfl
      · exact kx T.x_kit 10 rfl rfl
      · exact kx T.x_kit 11 rfl rfl
    walk_at "rd"
    rename_i t4 H8 ht4 S8 H9 S9
    clear S7 S8
    refine lcw_list (xs := [V.ref t1, V.ref t2] ++ [V.ref t3] ++ [V.ref t4]) S9 (fun i acc => (i = 0 ∧ acc = []) ∨ (1 ≤ i ∧ acc = [.str "paper"])) (.inl ⟨rfl, rfl⟩) (fun H' acc D S => S.lst (by walk_at "mem")) ?_ ?_
    · rintro D i x acc H10 hi hR hD S
      have hil : i < 4 := (List.getElem?_eq_some_iff.mp hi).1
      have hi4 : i = 0 ∨ i = 1 ∨ i = 2 ∨ i = 3 := by omega
      rcases hi4 with rfl | rfl | rfl | rfl
      · simp at hi
        subst hi
        obtain rfl : acc = [] := by rcases hR with ⟨_, e⟩ | ⟨e, _⟩ <;> first | exact e | omega
        walk_at "lc"
        exact rd_lcPut S (by walk_at "chg") hD (Rs.sz' (by simp)) (by walk_at "sub") (.inr ⟨by omega, rfl⟩)
      all_goals
        simp at hi
        subst hi
        have hacc : acc = [.str "paper"] := by rcases hR with ⟨e, _⟩ | ⟨_, e⟩ <;> first | exact e | omega
        walk_at "lc"
        exact ⟨hD, acc, .inr ⟨by omega, hacc⟩, S⟩
    · rintro D acc H10 hR hD S
      have hacc : acc = [.str "paper"] := by rcases hR with ⟨e, _⟩ | ⟨_, e⟩ <;> first | exact e | (simp at e)
      subst hacc
      clear S9
      walk_at "rd"
      rename_i tp H11 htp S11
      clear S
      refine rd_eqPa S11 (by walk_at "mem") (by walk_at "mem") ?_
      walk_at "rd"
      walk_at "if1"
      refine Xc.rd_xv ?_
      walk_at "rd"
      refine Xc.rd_xvV S11 (by walk_at "mem") (by walk_at "mem") T.k_BadPaper T.na_BadPaper_at rfl ?_
      walk_at "rd"
      refine Xc.rd_isX S11 (by walk_at "mem") (by walk_at "mem") T.k_BadPaper (.own _) (kx T.x_kit 12 rfl rfl) ?_
      walk_at "rd"
      rename_i t H12 ht S12
      exact k _ _ [_] _ ⟨t, rfl, rfl, rfl⟩ (S12.re (by walk_at "led")) (fun q hq => List.mem_map_of_mem (f := (·.1)) hq) (by simpa using ht)
end
/-! a lambda handed to _law_said -/
def csA (A : Ad) : List Value := [.ref A.C_SortError, .ref A.C_BadNumber, .ref A.C_BadAnswer, .ref A.C_BadKind, .ref A.C_BadText, .ref A.C_NoSuch, .ref A.C_Stopped, .ref A.C_TooMany]
def TSaid (K : PySem.W.Frag) (A : Ad) : (XK → Hp → VK → Prop) → Hp → VK → Prop := fun tl H Q =>
  ∀ (H1 : Hp) (R : VK), Same H H1 → (∀ v H', Q v H' → R v H') → tl (fun cls d H' => PySem.W.exmAny K cls (csA A) = some true ∧ ∀ a, H' a = none → SepN (R_word A.C_BadPaper) [.ref a] (upd H' a (Xc.Exv a cls d)) Q E0) H1 R
section
variable {X : Cx} {A : Ad} {c P : Addr} {TT : List (Addr × Str)}
theorem said_gives (T : Txt X.K X.mg w A) (hr0 : Room 8 X.A) (Gw : FnOk X.prog X.w X.K X.mg X.base CX0 1 A.f__law_word A.d__law_word ["_law_e"] (SepN (R_word A.C_BadPaper))) {q : Str} {cdv : Value} :
    LamX.GivesTo X ["_law_deed", "_law_found", "_law_caught", "_law_e"] "_law_said" (defScope s_l_said) A.f__law_said cdv (defBody s_l_said) "_law_deed" q (TSaid X.K A) := by
  intro f c' s H Q tl act hc' h
  have hr := hr0.deeper (PyProof.Rows.envOfC "_law_said" (defScope s_l_said) s.heap.objs.size A.f__law_said cdv)
  have G__law_word := Gw
  refine ⟨_, pss_cons (ps_asg (pe_tup (pa_cons pe_non (pa_cons pe_non pa_nil))) (pg_tup rfl (pgs_cons (pg_name (i := 1) sc_l_said.nd rfl (Or.inl rfl)) (pgs_cons (pg_name (i := 2) sc_l_said.nd rfl (Or.inl rfl)) pgs_nil))))
    (pss_cons (Xc.ps_try_keep (i := 3) (X := (cxOf C8.CX0 X.prog X.w X.K X.mg X.base ["_law_deed", "_law_found", "_law_caught", "_law_e"] "_law_said" (defScope s_l_said) A.f__law_said cdv X.A X.stack s H C8.E0).nox)
      (cs := csA A)
      (tb := fun W D σ H => ∃ Ech : XK, (∀ cls d σ' H', Ech cls d H' → σ'.length = 4 → W cls d σ' H') ∧ σ[0]? = some (some (.ref f)) ∧ H c' = some (LamX.CodeO c' q) ∧ tl Ech H (fun v H' => D.nx (σ.set 1 (some v)) H'))
      rfl rfl sc_l_said.nd rfl rfl (.cons ⟨rfl, by decide, .inl T.m_SortError⟩ (.cons ⟨rfl, by decide, .inl T.m_BadNumber⟩ (.cons ⟨rfl, by decide, .inl T.m_BadAnswer⟩ (.cons ⟨rfl, by decide, .inl T.m_BadKind⟩ (.cons ⟨rfl, by decide, .inl T.m_BadText⟩ (.cons ⟨rfl, by decide, .inl T.m_NoSuch⟩ (.cons ⟨rfl, by decide, .inl T.m_Stopped⟩ (.cons ⟨rfl, by decide, .inl T.m_TooMany⟩ .nil)))))))) (by simp [csA]) LamX.takes0
      (fun W pn xe tk _ => ⟨fun pins s1 σ1 H1 D I ⟨Ech, hW, h1, h2, h3⟩ => (pss_one (ps_set (i := 1) sc_l_said.nd rfl (Or.inl rfl) (act _ pn xe Ech _ _ (Xc.takes_len tk) fun cls d σ' H' z l => hW cls d σ' H' z l))).run pins s1 σ1 H1 D I ⟨h1, h2, h3⟩⟩)
      (fun a oe cls d pn _ _ => pss_one (ps_set (i := 2) sc_l_said.nd rfl (Or.inl rfl) (pv 3))))
    (pss_one (ps_ret (pe_ifExp (pt_cmpR op_isN (pv 2) pe_non (nomark _)) (pv 1) (pe_call G__law_word (hr.mono (by decide)) rfl T.c__law_word.m T.c__law_word.F.kp T.c__law_word.b .nil pass0 (pa_cons (pv 2) pa_nil)))))), ?_⟩
  have S := Hs.start0 H
  walk_at "st"
  walk_at "rd"
  rename_i t0 H1 ht0 S1
  have sm : Same H H1 := S1.same
  refine ⟨fun cls d H' => PySem.W.exmAny X.K cls (csA A) = some true ∧ ∀ a, H' a = none → SepN (R_word A.C_BadPaper) [.ref a] (upd H' a (Xc.Exv a cls d)) Q E0, ?_, rfl, sm _ _ hc', ?_⟩
  · rintro cls d σ' H' ⟨e1, e2⟩ hl
    obtain ⟨x0, x1, x2, x3, rfl⟩ : ∃ x0 x1 x2 x3, σ' = [x0, x1, x2, x3] := by
      match σ', hl with
      | [x0, x1, x2, x3], _ => exact ⟨_, _, _, _, rfl⟩
    refine ⟨true, e1, fun _ a ha => ?_, fun z => Bool.noConfusion z⟩
    dsimp only [List.set]
    walk_at "rd"
    dsimp only [List.set]
    walk_at "rd"
    refine rd_decF (by simp) ?_
    walk_at "rd"
    exact e2 a ha
  · refine h H1 _ sm fun v H' kk => ?_
    dsimp only [List.set]
    walk_at "rd"
    refine rd_decT rfl ?_
    walk_at "rd"
    exact kk
theorem pe_said {params : Arguments} {body : Expr} {scope : Scope} {t : XK → TE} {p lpos pos : Pos} (T : Txt X.K X.mg X.w A) (TB : LamX.TabB X.base X.mg c P) (hm : (P, X.env.qual ++ "<lambda>") ∈ TT) (hu : ∀ p ∈ TT, p.1 = P → p.2 = X.env.qual ++ "<lambda>")
    (Gw : FnOk X.prog X.w X.K X.mg X.base CX0 1 A.f__law_word A.d__law_word ["_law_e"] (SepN (R_word A.C_BadPaper)))
    (hg : Gl X "_law_said") (hcode : X.env.code = .ref c) (hr : Room 8 X.A) (L : LamX.LamS X.env.scope scope) (hdef : defaultsOf params X.env = ([], []))
    (hbind : ∀ (q : Str) (cl : List (Str × Addr)) (pm cv ctv : Value), bindArgs (PySem.W.kla_fn "<lambda>" q params body scope cl pm cv ctv) ⟨[], []⟩ = pure [])
    (hbody : ∀ (A : Around) (outer : List Env) (s : Shared) (H : Hp) (E : XK) (f c' : Addr), Room 6 (A.deeper (LamX.lamEnv X scope s.heap.objs.size f c')) → PE (LamX.lamCx X A outer s H E scope f c') body (t E)) :
    PE X (.Call (.Name "_law_said" p) [.Lambda params body scope lpos] [] pos) (LamX.tLam TT (TSaid X.K A) t) := by
  obtain ⟨oc, od, kV, doc, pm, an, cdv, ct, osl, e, lk, hcd⟩ := T.c__law_said.F.ex
  have b := T.c__law_said.b
  rw [e] at lk b
  exact LamX.pe_lamcall (k := 6) hg T.c__law_said.m T.c__law_said.F.kp lk hcd b sc_l_said rfl (Or.inl rfl) (said_gives T hr Gw) TB hcode hm hu hr L hdef hbind hbody
end
end K30

namespace K30
open PySem L2 Rs Xc Xd Xh
abbrev qAny : Str := (("_law_anywhere_right" : Str) ++ ".<locals>.") ++ "<lambda>"
abbrev qMov : Str := (("_law_moves_right" : Str) ++ ".<locals>.") ++ "<lambda>"
abbrev qRef : Str := (("_law_refused_right" : Str) ++ ".<locals>.") ++ "<lambda>"
def TT : List (Addr × Str) := [(537, qAny), (530, qMov), (523, qRef)]
theorem TT_ne : ∀ p ∈ TT, ∀ q ∈ TT, p.1 = q.1 → p.2 = q.2 := by
  intro p hp q hq e
  simp only [TT, List.mem_cons, List.not_mem_nil, or_false] at hp hq
  rcases hp with rfl | rfl | rfl <;> rcases hq with rfl | rfl | rfl <;> first | exact absurd e (by decide) | rfl
/-- all but tables stays -/
def KeepN (H H' : Hp) : Prop := ∀ b u, H b = some u → (∀ ps, u ≠ .tbl ps) → H' b = some u
def dPM (v : PyData) : PyData := .tuple [.str "paper", v, .bool true]
section
variable {P : Program} {w : World} {K : PySem.W.Frag} {mg : Str → Option Value} {base : Heap} {A : Ad} {H H0 H1 H2 : Hp} {MM : List Addr} {L L' F : Led} {Q : VK} {E : XK} {σ : L2.St}
theorem KeepN.same {H' : Hp} (k : Same H H') : KeepN H H' := fun b u e _ => k b u e
theorem KeepN.refl : KeepN H H := fun _ _ e _ => e
theorem KeepN.trans (a : KeepN H H1) (b : KeepN H1 H2) : KeepN H H2 := fun c u e n => b c u (a c u e n) n
theorem KeepN.tl (k : KeepN H H1) : TL H H1 := fun a xs => ⟨fun e => k _ _ e (fun _ z => by cases z), fun e => k _ _ e (fun _ z => by cases z)⟩
theorem tabs_ext {TT : List (Addr × Str)} {H' : Hp} (h : LamX.Tabs TT H) (k : ∀ b o, H b = some o → (∀ kv, o ≠ .dK kv) → (∀ xs, o ≠ .lst xs) → (∀ C dx fs, o ≠ .ins C dx fs) → H' b = some o) : LamX.Tabs TT H' := fun p hp => by
  obtain ⟨ps, h1, h2, h3⟩ := h p hp
  refine ⟨ps, k _ _ h1 (fun _ z => by cases z) (fun _ z => by cases z) (fun _ _ _ z => by cases z), h2, fun pos cv hc => ?_⟩
  obtain ⟨c, e1, e2⟩ := h3 pos cv hc
  exact ⟨c, e1, k _ _ e2 (fun _ z => by unfold LamX.CodeO at z; cases z) (fun _ z => by unfold LamX.CodeO at z; cases z) (fun _ _ _ z => by unfold LamX.CodeO at z; cases z)⟩
/-- a stretch between two deeds -/
theorem seg {q : Addr} {xs : List V} (S : Hs (noT H0) MM H L) (tb : LamX.Tabs TT H) (V : Hs H [q] H1 L') (hq : noT H0 q = none ∨ q ∈ MM) (e : H q = some (.lst xs)) : Hs (noT H0) MM H1 L' ∧ LamX.Tabs TT H1 := by
  refine ⟨Hs.trans S V fun b hb => ?_, tabs_ext tb fun b o eb _ n _ => V.old1 eb fun z => ?_⟩
  · obtain rfl : b = q := by simpa using hb
    exact hq
  · rw [z, e] at eb; exact n _ (Option.some.inj eb).symm
theorem seg0 (S : Hs (noT H0) MM H L) (tb : LamX.Tabs TT H) (V : Hs H [] H1 L') : Hs (noT H0) MM H1 L' ∧ LamX.Tabs TT H1 :=
  ⟨Hs.trans S V fun b hb => (nomatch hb), tb.ext V.same⟩
theorem use_said {TT : List (Addr × Str)} {Told Ref : V → Hp → Hp → Prop} {Hc : Hp} {t : XK → TE} {C : VK} (T : Txt K mg w A) (tb : LamX.Tabs TT Hc)
    (ht : ∀ (E : XK) (H' : Hp) (R : VK), KeepN Hc H' → (∀ v H'', Told v H' H'' → R v H'') → (∀ v H'' d, Ref v H' H'' → H'' d = none → E (.ref A.C_BadPaper) (some d) (L2.upd H'' d (.xd [("at", v)]))) → t E σ H' R)
    (h1 : ∀ v H1 H2, KeepN Hc H1 → LamX.Tabs TT H1 → Told v H1 H2 → C v H2)
    (h2 : ∀ v H1 H2 p H3, KeepN Hc H1 → LamX.Tabs TT H1 → Ref v H1 H2 → Same H2 H3 → H2 p = none → H3 p = some (.tup [.str "paper", v, .bl true]) → C (.ref p) H3) : LamX.tLam TT (TSaid K A) t σ Hc C := by
  refine ⟨tb, fun H4 eN tb4 => ?_⟩
  intro H5 R5 sm5 hR
  have k5 : KeepN Hc H5 := fun c u e n => sm5 _ _ (eN _ _ e n)
  refine ht _ H5 R5 k5 (fun v H'' told => hR v H'' (h1 v H5 H'' k5 (tb4.ext sm5) told)) fun v H6 dx rf hdx => ⟨T.x_any, fun ea hea => ?_⟩
  have S6 := Hs.start0 H6
  obtain ⟨_, S7⟩ := S6.newAt (o := .xd [("at", v)]) hdx
  obtain ⟨_, S8⟩ := S7.newAt (o := Xc.Exv ea (.ref A.C_BadPaper) (some dx)) hea
  refine sepn_use (F := []) S8 ⟨ea, dx, v, rfl, rfl, rfl, rfl⟩ (by walk_at "led") (fun c hc => nomatch hc) fun v' H7 N L' ⟨t5, e1, e2, e3⟩ hN S9 => ?_
  subst e1 e2 e3
  exact h2 v H5 H6 t5 H7 k5 (tb4.ext sm5) rf (fun c o e => S9.same c o e) (hN (t5, .tup [.str "paper", v, .bl true]) (by simp)) (S9.is (t5, .tup [.str "paper", v, .bl true]) (by walk_at "mem"))
/-- refused with "merge" -/
theorem use_no {Hc : Hp} {t : XK → TE} {C : VK} (T : Txt K mg w A) (S : Hs (noT H0) MM Hc L) (nt : ∀ q ∈ L, ∀ ps, q.2 ≠ .tbl ps) (m : ∀ b ∈ MM, b ∈ L.map (·.1)) (tb : LamX.Tabs TT Hc)
    (ht : ∀ (E : XK) (H' : Hp) (R : VK), KeepN Hc H' → (∀ H'' d, Same H' H'' → H'' d = none → E (.ref A.C_BadPaper) (some d) (L2.upd H'' d (.xd [("at", .str "merge")]))) → t E σ H' R)
    (h : ∀ p H', KeepN Hc H' → LamX.Tabs TT H' → noT H0 p = none → Hs (noT H0) MM H' ((p, .tup [.str "paper", .str "merge", .bl true]) :: L) → C (.ref p) H') : LamX.tLam TT (TSaid K A) t σ Hc C := by
  refine use_said (Told := fun _ _ _ => False) (Ref := fun v H H' => v = .str "merge" ∧ Same H H') T tb (fun E H' R k _ hE => ht E H' R k fun H'' d sm hd => hE _ H'' d ⟨rfl, sm⟩ hd) (fun _ _ _ _ _ z => z.elim) fun v H1 H2 p H3 k1 tb1 rf sm3 hp2 hp3 => ?_
  obtain ⟨rfl, sm2⟩ := rf
  have S1 : Hs (noT H0) MM H1 L := Xc.Hs.extN S (fun b o e n => k1 b o e n) nt m
  have S2 := S1.more sm2
  obtain ⟨n0, S3⟩ := S2.more1 sm3 hp2 hp3
  exact h p H3 (k1.trans (.same (same_trans sm2 sm3))) (tb1.ext (same_trans sm2 sm3)) ((S2.new hp2 (.lst [])).1) S3
/-- told a value, all stays -/
theorem use_yes {Hc : Hp} {t : XK → TE} {C : VK} {W : V → Prop} (T : Txt K mg w A) (S : Hs (noT H0) MM Hc L) (nt : ∀ q ∈ L, ∀ ps, q.2 ≠ .tbl ps) (m : ∀ b ∈ MM, b ∈ L.map (·.1)) (tb : LamX.Tabs TT Hc)
    (ht : ∀ (E : XK) (H' : Hp) (R : VK), KeepN Hc H' → (∀ v H'', W v → Same H' H'' → R v H'') → t E σ H' R)
    (h : ∀ v H', W v → KeepN Hc H' → LamX.Tabs TT H' → Hs (noT H0) MM H' L → C v H') : LamX.tLam TT (TSaid K A) t σ Hc C := by
  refine use_said (Told := fun v H H' => W v ∧ Same H H') (Ref := fun _ _ _ => False) T tb (fun E H' R k hR _ => ht E H' R k fun v H'' hw sm => hR v H'' ⟨hw, sm⟩) (fun v H1 H2 k1 tb1 ⟨hw, sm⟩ => ?_) fun _ _ _ _ _ _ _ z => z.elim
  have S1 : Hs (noT H0) MM H1 L := Xc.Hs.extN S (fun b o e n => k1 b o e n) nt m
  exact h v H2 hw (k1.trans (.same sm)) (tb1.ext sm) (S1.more sm)
end
def dM : PyData := .tuple [.str "paper", .str "merge", .bool true]
theorem dM_ok (n : Nat) (h : n ≤ 4) : (PyData.list (List.replicate n dM)).showable = true ∧ (PyData.list (List.replicate n dM)).shown.length ≤ 1000 ∧ (PyData.list (List.replicate n dM)).depth ≤ 50 := by
  have : ∀ m : Fin 5, (PyData.list (List.replicate m.1 dM)).showable = true ∧ (PyData.list (List.replicate m.1 dM)).shown.length ≤ 1000 ∧ (PyData.list (List.replicate m.1 dM)).depth ≤ 50 := by decide +kernel
  exact this ⟨n, by omega⟩
def AllM (H : Hp) (rs : List V) : Prop := ∀ r ∈ rs, ∃ p, r = .ref p ∧ H p = some (.tup [.str "paper", .str "merge", .bl true])
theorem dps_M {K : PySem.W.Frag} {H : Hp} : ∀ {rs : List V}, AllM H rs → DpAll K H rs (List.replicate rs.length dM)
  | [], _ => .nil
  | r :: rs, h => by
    obtain ⟨p, rfl, e⟩ := h r List.mem_cons_self
    rw [List.length_cons, List.replicate_succ]
    exact .cons (.tup (SqT.of e) (.cons (.str _) (.cons (.str _) (.cons (.bl _) .nil)))) (dps_M fun x hx => h x (List.mem_cons_of_mem _ hx))
theorem rd_reprM {K : PySem.W.Frag} {H0 H : Hp} {MM : List Addr} {L : Led} {Q : VK} {q : Addr} {rs : List V} {n : Nat} (S : Hs H0 MM H L) (m : (q, HO.lst rs) ∈ L) (h : AllM H rs) (hl : rs.length = n) (h4 : n ≤ 4) (k : Q (.str (PyData.list (List.replicate n dM)).shown) H) : rRepr K [.ref q] H Q := by
  obtain ⟨h1, h2, h3⟩ := dM_ok n h4
  subst hl
  exact ⟨.ref q, _, rfl, .lst (S.lst m) (dps_M h), ⟨h1, by rw [sizeLine_eq]; omega⟩, h3, k⟩
def sp_any : Sp := fun vs H Q _ => ∃ (x : V), vs = [x] ∧ Th H 4 x ∧ Apart H x ∧ LamX.Tabs TT H ∧ ∀ H', KeepN H H' → LamX.Tabs TT H' → Q (.bl true) H'
section
variable {P : Program} {w : World} {K : PySem.W.Frag} {mg : Str → Option Value} {base : Heap} {A : Ad} {H H0 H1 H2 : Hp} {MM : List Addr} {L L' F : Led} {Q : VK} {E : XK} {σ : L2.St}
theorem b_mb (T : Txt K mg w A) : ∃ ds : List Value, Vals [V.int 3] ds ∧ Binds K A.d_merge_bound ["merge", "gallop"] ds := by
  refine T.c_merge_bound.F.binds0 1 (by simp) (by simp) ?_
  intro D doc pm an cdv ct us ks h1 h2
  match us, h1, ks, h2 with
  | [u], _, [m], _ => exact ⟨_, _, _, _, _, _, rfl, rfl, rfl⟩
theorem b_ng (T : Txt K mg w A) : ∃ ds : List Value, Vals [V.int 3] ds ∧ Binds K A.d_next_gallop ["merge", "gallop"] ds := by
  refine T.c_next_gallop.F.binds0 1 (by simp) (by simp) ?_
  intro D doc pm an cdv ct us ks h1 h2
  match us, h1, ks, h2 with
  | [u], _, [m], _ => exact ⟨_, _, _, _, _, _, rfl, rfl, rfl⟩
theorem kb_mb (T : Txt K mg w A) : ∃ mv : List Value, KBn K A.d_merge_bound ["merge", "gallop"] 1 ["gallop"] (fun us ws => us ++ ws ++ mv) (fun vs zs => vs ++ zs ++ []) := by
  refine T.c_merge_bound.F.kbinds0 1 ["gallop"] [] (fun us mv ws => us ++ ws ++ mv) (by simp) (by simp) (fun r1 r2 r3 => (r1.append r3).append r2) ?_
  intro D doc pm an cdv ct us mv ws h1 h2 h3
  match us, h1, mv, h2, ws, h3 with
  | [u], _, [], _, [y], _ => rfl
theorem ok_any (T : Txt K mg w A) (TB : LamX.TabB base mg A.cc__law_anywhere_right 537) : FnG P w K mg base 9 A.f__law_anywhere_right A.d__law_anywhere_right ["_law_thing"] sp_any := by
  have G_merge_bound : FnOk P w K mg base (L2.CX P w) 5 A.f_merge_bound A.d_merge_bound ["merge", "gallop"] (sp_mb A.C_BadPaper) := ok_mb T
  have G_next_gallop : FnOk P w K mg base (L2.CX P w) 5 A.f_next_gallop A.d_next_gallop ["merge", "gallop"] (sp_mb A.C_BadPaper) := ok_ng T
  have G__law_word : FnOk P w K mg base CX0 1 A.f__law_word A.d__law_word ["_law_e"] (SepN (R_word A.C_BadPaper)) := ok_word T
  have G__law_fits : FnOk P w K mg base CX0 2 A.f__law_fits A.d__law_fits ["_law_thing", "_law_many"] sp_lfits := ok_lfits T
  have G__law_is_whole : FnOk P w K mg base CX0 1 A.f__law_is_whole A.d__law_is_whole ["_law_thing", "_law_least", "_law_most"] (sp_whole K) := ok_lwhole T
  obtain ⟨_, d_merge_bound, b_merge_bound⟩ := b_mb T
  obtain ⟨_, d_next_gallop, b_next_gallop⟩ := b_ng T
  obtain ⟨mv, kb_merge_bound_gallop⟩ := kb_mb T
  have hmem : ((537 : Addr), qAny) ∈ TT := by simp [TT]
  have huni : ∀ p ∈ TT, p.1 = 537 → p.2 = qAny := fun p hp e => TT_ne p hp _ hmem e
  refine Xc.defGC T.cx__law_anywhere_right sc_l_anywhere_right (fun vs H Q E h => ?_) (fun Ar outer s H vs Q E cl hr h => ?_)
  · obtain ⟨_, rfl, _⟩ := h; rfl
  · obtain ⟨x, rfl, t, ap, tb, k⟩ := h
    refine ⟨_, (pss_cons (ps_set (i := 1) sc_l_anywhere_right.nd rfl (Or.inl rfl) (pe_lst (pa_cons (pe_said T TB hmem huni G__law_word rfl rfl (hr.mono (by decide)) (LamX.lamS_by (by first | rfl | kernel_rfl)) rfl (fun _ _ _ _ _ => rfl) (fun _ _ _ _ _ _ _ hr2 => pe_call G_merge_bound (hr2.mono (by decide)) rfl T.c_merge_bound.m T.c_merge_bound.F.kp b_merge_bound d_merge_bound (passes_call (takes_of rfl rfl rfl rfl) fun _ _ _ _ z => z) (pa_cons (pv 0) pa_nil))) pa_nil)))
      (pss_cons (ps_expr (pe_bm PySem.F.plainAttrs_list PySem.F.slot_list_append PySem.F.type_list_append mt_append (pv 1) (pa_cons (pe_said T TB hmem huni G__law_word rfl rfl (hr.mono (by decide)) (LamX.lamS_by (by first | rfl | kernel_rfl)) rfl (fun _ _ _ _ _ => rfl) (fun _ _ _ _ _ _ _ hr2 => pe_call G_next_gallop (hr2.mono (by decide)) rfl T.c_next_gallop.m T.c_next_gallop.F.kp b_next_gallop d_next_gallop (passes_call (takes_of rfl rfl rfl rfl) fun _ _ _ _ z => z) (pa_cons (pv 0) pa_nil))) pa_nil)))
      (pss_cons (ps_expr (pe_bm PySem.F.plainAttrs_list PySem.F.slot_list_append PySem.F.type_list_append mt_append (pv 1) (pa_cons (pe_said T TB hmem huni G__law_word rfl rfl (hr.mono (by decide)) (LamX.lamS_by (by first | rfl | kernel_rfl)) rfl (fun _ _ _ _ _ => rfl) (fun _ _ _ _ _ _ _ hr2 => pe_callN G_merge_bound (hr2.mono (by decide)) rfl T.c_merge_bound.m T.c_merge_bound.F.kp kb_merge_bound_gallop (passes_call (takes_of rfl rfl rfl rfl) fun _ _ _ _ z => z) (pa_cons (pv 0) pa_nil) (pk_cons pe_int pk_nil))) pa_nil)))
      (pss_cons (ps_if (pt_val (pe_call G__law_fits (hr.mono (by decide)) rfl T.c__law_fits.m T.c__law_fits.F.kp T.c__law_fits.b .nil pass0 (pa_cons (pv 0) (pa_cons pe_int pa_nil))))
        (pss_one (ps_ret (pe_cmpR (op_eqD hr.units) (pe_lc (own := [("_law_found", 2)]) (g := gName 2) (tt := _) rfl sc_l_anywhere_right.nd (pi_list (pv 1)) (blkOk_by (N := ["_law_thing", "_law_said_here", "_law_found"]) (sc := defScope s_l_anywhere_right) (by decide +kernel)) (fun _ _ _ _ _ => (pg_name (i := 2) sc_l_anywhere_right.nd rfl (Or.inl rfl))) (fun _ _ _ _ _ => (pts_one (pt_not (pt_val (pe_call G__law_is_whole (hr.mono (by decide)) rfl T.c__law_is_whole.m T.c__law_is_whole.F.kp T.c__law_is_whole.b .nil pass0 (pa_cons (pv 2) (pa_cons pe_int (pa_cons pe_int pa_nil)))))))) (fun _ _ _ _ _ => pe_int)) (pe_lst pa_nil) (nomark _))))
        pss_nil)
      (pss_one (ps_ret (pe_cmpR op_eq (pe_callB (call_repr cl hr) (by rfl) T.n_repr PyProof.Rows.boot_repr (pa_cons (pv 1) pa_nil)) (pe_callB (call_repr cl hr) (by rfl) T.n_repr PyProof.Rows.boot_repr (pa_cons (pe_op op_rep (pe_lst (pa_cons (pe_tup (pa_cons pe_str (pa_cons pe_str (pa_cons pe_bl pa_nil)))) pa_nil)) pe_int) pa_nil)) (nomark _)))))))), ?_⟩
    have S := Hs.noT0 H
    have thx : ∀ {H'}, KeepN H H' → Th H' 4 x ∧ Apart H' x := fun kk => ⟨t.more kk.tl, ap.more t kk.tl⟩
    have kS : ∀ {H' L'}, Hs (noT H) [] H' L' → KeepN H H' := fun S' b u e n => S'.old b u (noT_some e n) (by simp)
    by_cases gd : Good H x 4096
    · have yes : ∀ {Hc H' : Hp} {E' : XK} {R : VK} (g : Int), KeepN H Hc → KeepN Hc H' → 1 ≤ g → g ≤ 64 → (∀ v H'', (∃ z, v = .int z ∧ clampI z) → Same H' H'' → R v H'') → sp_mb A.C_BadPaper [x, .int g] H' R E' := fun {Hc H' E' R} g kc k2 g1 g2 hR => by
        have kk := kc.trans k2
        exact ⟨x, g, rfl, (thx kk).1, (thx kk).2, g1, g2, fun _ z H'' hz sm => hR _ _ ⟨z, rfl, hz⟩ sm, fun ng => absurd (gd.more kk.tl) ng⟩
      walk_at "st"
      walk_at "rd"
      refine use_yes (W := fun v => ∃ z, v = .int z ∧ clampI z) T S (by simp) (by simp) tb (fun E' H' R k2 hR => ?_) fun v1 H1 hw1 k1 tb1 S1 => ?_
      · walk_at "rd"
        exact yes 3 KeepN.refl k2 (by decide) (by decide) hR
      obtain ⟨z1, rfl, hz1⟩ := hw1
      have V := S1.refull
      clear S
      have S1' := fun (_ : True) => S1
      clear S1
      walk_at "rd"
      rename_i q H2 hq V2
      obtain ⟨S2, tb2⟩ := seg0 (S1' trivial) tb1 V2
      have hqn : noT H q = none := ((S1' trivial).new hq (.lst [])).1
      clear V V2 S1'
      have k02 := kS S2
      refine use_yes (W := fun v => ∃ z, v = .int z ∧ clampI z) T S2 (by simp) (by simp) tb2 (fun E' H' R k2 hR => ?_) fun v2 H3 hw2 k3 tb3 S3 => ?_
      · walk_at "rd"
        exact yes 3 k02 k2 (by decide) (by decide) hR
      obtain ⟨z2, rfl, hz2⟩ := hw2
      have V := S3.refullM (M' := [q]) (by simp)
      have S3' := fun (_ : True) => S3
      clear S3 S2
      walk_at "rd"
      rename_i H4 V4
      obtain ⟨S4, tb4⟩ := seg (S3' trivial) tb3 V4 (.inl hqn) ((S3' trivial).get (by walk_at "mem"))
      clear V V4 S3'
      have k04 := kS S4
      refine use_yes (W := fun v => ∃ z, v = .int z ∧ clampI z) T S4 (by simp) (by simp) tb4 (fun E' H' R k2 hR => ?_) fun v3 H5 hw3 k5 tb5 S5 => ?_
      · walk_at "rd"
        exact ⟨rfl, rfl, yes 64 k04 k2 (by decide) (by decide) hR⟩
      obtain ⟨z3, rfl, hz3⟩ := hw3
      have V := S5.refullM (M' := [q]) (by simp)
      have S5' := fun (_ : True) => S5
      clear S5 S4
      walk_at "rd"
      rename_i H6 V6
      obtain ⟨S6, tb6⟩ := seg (S5' trivial) tb5 V6 (.inl hqn) ((S5' trivial).get (by walk_at "mem"))
      clear V V6 S5'
      have k06 := kS S6
      refine ⟨x, 4096, rfl, (thx k06).1, (thx k06).2, by decide, by decide, fun b H7 hb sm7 => ?_⟩
      cases b with
      | false => have := hb.mpr (gd.more k06.tl); cases this
      | true =>
      have S7 : Hs H6 [] H7 [(q, .lst [.int z1, .int z2, .int z3])] := S6.refull.more sm7
      have S67 := fun (_ : True) => S6
      clear S6
      walk_at "rd"
      walk_at "if1"
      refine lcw_list (xs := [V.int z1, V.int z2, V.int z3]) S7 (fun i acc => acc = []) rfl (fun H' acc D S => S.lst (by walk_at "mem")) ?_ ?_
      · rintro D i x9 acc H8 hi rfl hD S8
        have hx := List.mem_of_getElem? hi
        obtain ⟨z, rfl, hz⟩ : ∃ z, x9 = .int z ∧ clampI z := by
          simp only [List.mem_cons, List.not_mem_nil, or_false] at hx
          rcases hx with rfl | rfl | rfl
          · exact ⟨_, rfl, hz1⟩
          · exact ⟨_, rfl, hz2⟩
          · exact ⟨_, rfl, hz3⟩
        unfold clampI at hz
        walk_at "rd"
        dsimp only [L2.wipe, List.map, List.set]
        refine ⟨rfl, ?_⟩
        walk_at "rd"
        refine ⟨.int z, 1, 999999, 0, rfl, .int _ _ (by omega), ?_⟩
        rw [isWh_int, decide_eq_true hz.1, decide_eq_true hz.2]
        walk_at "rd"
        walk_at "if0"
        exact ⟨hD, [], rfl, S8⟩
      · rintro D acc H8 rfl hD S8
        clear S7
        walk_at "rd"
        rename_i tq H9 htq S9
        refine rd_eqIs (xs := []) (ys := []) (ns := []) (ms := []) S9 (by walk_at "mem") (by walk_at "mem") rfl rfl ?_
        rw [decide_eq_true rfl]
        exact k H9 (k06.trans (.same S9.same)) (tb6.ext S9.same)
    · have no : ∀ {Hc H' : Hp} {E' : XK} {R : VK} (g : Int), KeepN H Hc → KeepN Hc H' → 1 ≤ g → g ≤ 64 → (∀ H'' d, Same H' H'' → H'' d = none → E' (.ref A.C_BadPaper) (some d) (L2.upd H'' d (.xd [("at", .str "merge")]))) → sp_mb A.C_BadPaper [x, .int g] H' R E' := fun {Hc H' E' R} g kc k2 g1 g2 hE => by
        have kk := kc.trans k2
        exact ⟨x, g, rfl, (thx kk).1, (thx kk).2, g1, g2, fun g => absurd (g.less t kk.tl) gd, fun _ H'' d sm hd => hE H'' d sm hd⟩
      walk_at "st"
      walk_at "rd"
      refine use_no T S (by simp) (by simp) tb (fun E' H' R k2 hE => ?_) fun p1 H1 k1 tb1 hp1 S1 => ?_
      · walk_at "rd"
        exact no 3 KeepN.refl k2 (by decide) (by decide) hE
      have V := S1.refull
      clear S
      have S1' := fun (_ : True) => S1
      clear S1
      walk_at "rd"
      rename_i q H2 hq V2
      obtain ⟨S2, tb2⟩ := seg0 (S1' trivial) tb1 V2
      have hqn : noT H q = none := ((S1' trivial).new hq (.lst [])).1
      clear V V2 S1'
      have k02 := kS S2
      refine use_no T S2 (by simp) (by simp) tb2 (fun E' H' R k2 hE => ?_) fun p2 H3 k3 tb3 hp2 S3 => ?_
      · walk_at "rd"
        exact no 3 k02 k2 (by decide) (by decide) hE
      have V := S3.refullM (M' := [q]) (by simp)
      have S3' := fun (_ : True) => S3
      clear S3 S2
      walk_at "rd"
      rename_i H4 V4
      obtain ⟨S4, tb4⟩ := seg (S3' trivial) tb3 V4 (.inl hqn) ((S3' trivial).get (by walk_at "mem"))
      clear V V4 S3'
      have k04 := kS S4
      refine use_no T S4 (by simp) (by simp) tb4 (fun E' H' R k2 hE => ?_) fun p3 H5 k5 tb5 hp3 S5 => ?_
      · walk_at "rd"
        exact ⟨rfl, rfl, no 64 k04 k2 (by decide) (by decide) hE⟩
      have V := S5.refullM (M' := [q]) (by simp)
      have S5' := fun (_ : True) => S5
      clear S5 S4
      walk_at "rd"
      rename_i H6 V6
      obtain ⟨S6, tb6⟩ := seg (S5' trivial) tb5 V6 (.inl hqn) ((S5' trivial).get (by walk_at "mem"))
      clear V V6 S5'
      have k06 := kS S6
      refine ⟨x, 4096, rfl, (thx k06).1, (thx k06).2, by decide, by decide, fun b H7 hb sm7 => ?_⟩
      cases b with
      | true => exact absurd ((hb.mp rfl).less t k06.tl) gd
      | false =>
      have S7 := S6.refull.more sm7
      clear S6
      walk_at "rd"
      walk_at "if0"
      refine rd_reprM (rs := [V.ref p1] ++ [V.ref p2] ++ [V.ref p3]) (n := 3) S7 (by walk_at "mem") (fun r hr => ?_) rfl (by decide) ?_
      · simp only [List.cons_append, List.nil_append, List.mem_cons, List.not_mem_nil, or_false] at hr
        rcases hr with rfl | rfl | rfl
        · exact ⟨p1, rfl, S7.get (by walk_at "mem")⟩
        · exact ⟨p2, rfl, S7.get (by walk_at "mem")⟩
        · exact ⟨p3, rfl, S7.get (by walk_at "mem")⟩
      walk_at "rd"
      rename_i u1 H8 hu1 S8 u2 H9 hu2 S9
      clear S7 S8
      refine rd_repL S9 (by walk_at "mem") (by decide) (by decide) (by rw [sizeLine_eq]; simp) fun u3 H10 hu3 S10 => ?_
      have S10 : Hs H6 [] H10 ((u3, .lst [.ref u1, .ref u1, .ref u1]) :: (u2, .lst [.ref u1]) :: (u1, .tup [.str "paper", .str "merge", .bl true]) :: _) := S10
      clear S9
      walk_at "rd"
      refine rd_reprM (rs := [V.ref u1, V.ref u1, V.ref u1]) (n := 3) S10 (by walk_at "mem") (fun r hr => ?_) rfl (by decide) ?_
      · simp only [List.mem_cons, List.not_mem_nil, or_false, or_self] at hr
        exact ⟨u1, hr, S10.get (by walk_at "mem")⟩
      walk_at "rd"
      rw [decide_eq_true rfl]
      exact k H10 (k06.trans (.same S10.same)) (tb6.ext S10.same)
end
end K30

namespace K30
open PySem L2 Rs Xc Xd Xh PyProof.Rows
def bnd : Nat → Nat
  | 0 => 45
  | k + 1 => 20 * bnd k + 100
theorem bnd_ge (k : Nat) : 45 ≤ bnd k := by
  induction k with
  | zero => exact Nat.le_refl _
  | succ k ih => show 45 ≤ 20 * bnd k + 100; omega
/-- the data of a thing, the same while tuples and lists stay -/
def Dat (K : PySem.W.Frag) (H : Hp) (k : Nat) (v : V) (d : PyData) : Prop := (∀ H', TL H H' → Dp K H' v d) ∧ d.showable = true ∧ d.shown.length ≤ bnd k ∧ d.depth ≤ k
theorem dats {K : PySem.W.Frag} {H : Hp} {k : Nat} : ∀ {xs : List V}, (∀ x ∈ xs, ∃ d, Dat K H k x d) → ∃ ds : List PyData, (∀ H', TL H H' → DpAll K H' xs ds) ∧ PyData.showableAll ds = true ∧ ((PyData.shownAll ds).map (·.length)).sum ≤ bnd k * xs.length ∧ PyData.depthAll ds ≤ k ∧ ds.length = xs.length
  | [], _ => ⟨[], fun _ _ => .nil, by simp [PyData.showableAll], by simp [PyData.shownAll], by simp [PyData.depthAll], rfl⟩
  | x :: xs, h => by
    obtain ⟨ds, h1, h2, h3, h4, h5⟩ := dats (xs := xs) fun y hy => h y (List.mem_cons_of_mem _ hy)
    obtain ⟨d, g1, g2, g3, g4⟩ := h x List.mem_cons_self
    refine ⟨d :: ds, fun H' t => .cons (g1 H' t) (h1 H' t), by simp only [PyData.showableAll, g2, h2, Bool.and_self], ?_, ?_, by simp [h5]⟩
    · simp only [PyData.shownAll, List.map_cons, List.sum_cons, List.length_cons, Nat.mul_add, Nat.mul_one]
      omega
    · simp only [PyData.depthAll]
      omega
theorem Th.dat {K : PySem.W.Frag} {H : Hp} {k : Nat} {v : V} (h : Th H k v) : ∃ d, Dat K H k v d := by
  induction h with
  | int k i h =>
    refine ⟨.int i, fun _ _ => .int i, ?_, ?_, by simp [PyData.depth]⟩
    · have h2 : i.natAbs.log2 < 1920 := by
        by_cases z : i.natAbs = 0
        · rw [z]; decide
        · have := (Nat.log2_lt z (k := 120)).mpr (Nat.lt_of_lt_of_le h (by decide +kernel))
          omega
      simp only [PyData.showable, decide_eq_true_eq]
      exact h2
    · have e := int_text_length_le10 (k := 31) (by decide) h
      rw [PyData.shown_int]
      have e2 : ((toString i : String) : Str).length = (toString i).length := PySem.ofString_length _
      have := bnd_ge k
      omega
  | bl k b =>
    have e : (PyData.shown (.bool b)).length ≤ 5 := by cases b <;> decide +kernel
    have := bnd_ge k
    exact ⟨.bool b, fun _ _ => .bl b, rfl, by omega, by simp [PyData.depth]⟩
  | str k =>
    have e : (PyData.shown (.str "1")).length ≤ 5 := by decide +kernel
    have := bnd_ge k
    exact ⟨.str "1", fun _ _ => .str _, rfl, by omega, by simp [PyData.depth]⟩
  | non k =>
    have e : (PyData.shown .none).length ≤ 5 := by decide +kernel
    have := bnd_ge k
    exact ⟨.none, fun _ _ => .non, rfl, by omega, by simp [PyData.depth]⟩
  | tup k a xs h l e ih =>
    obtain ⟨ds, h1, h2, h3, h4, h5⟩ := dats ih
    refine ⟨.tuple ds, fun H' t => .tup (SqT.of ((t a xs).1 h)) (h1 H' t), by simpa only [PyData.showable] using h2, ?_, by simp only [PyData.depth]; omega⟩
    have g2 := tupleText_len_le (PyData.shownAll ds)
    have g3 := PyData.shownAll_length ds
    have g4 : bnd k * xs.length ≤ bnd k * 20 := Nat.mul_le_mul (Nat.le_refl _) l
    simp only [PyData.shown]
    show _ ≤ 20 * bnd k + 100
    omega
  | lst k a xs h l e ih =>
    obtain ⟨ds, h1, h2, h3, h4, h5⟩ := dats ih
    refine ⟨.list ds, fun H' t => .lst (SqL.of ((t a xs).2 h)) (h1 H' t), by simpa only [PyData.showable] using h2, ?_, by simp only [PyData.depth]; omega⟩
    have g2 := listText_len_le (PyData.shownAll ds)
    have g3 := PyData.shownAll_length ds
    have g4 : bnd k * xs.length ≤ bnd k * 20 := Nat.mul_le_mul (Nat.le_refl _) l
    simp only [PyData.shown]
    show _ ≤ 20 * bnd k + 100
    omega
def sp_ref : Sp := fun vs H Q _ => ∃ (r : Addr) (x : V) (xs : List Int), vs = [.ref r, x] ∧ H r = some (.lst (xs.map V.int)) ∧ xs.length ≤ 4096 ∧ Th H 4 x ∧ Apart H x ∧ ¬ Good H x xs.length ∧ LamX.Tabs TT H ∧ ∀ H', KeepN H H' → LamX.Tabs TT H' → Q (.bl true) H'
section
variable {P : Program} {w : World} {K : PySem.W.Frag} {mg : Str → Option Value} {base : Heap} {A : Ad} {H H0 H1 H2 : Hp} {MM : List Addr} {L L' F : Led} {Q : VK} {E : XK} {σ : L2.St}
theorem rd_reprD {v : V} {d : PyData} {k : Nat} (D : Dat K H0 k v d) (t : TL H0 H) (hk : k ≤ 4) (h : Q (.str d.shown) H) : rRepr K [v] H Q := by
  obtain ⟨h1, h2, h3, h4⟩ := D
  refine ⟨v, d, rfl, h1 H t, ⟨h2, ?_⟩, by omega, h⟩
  have : bnd k ≤ bnd 4 := by
    have : k = 0 ∨ k = 1 ∨ k = 2 ∨ k = 3 ∨ k = 4 := by omega
    rcases this with rfl | rfl | rfl | rfl | rfl <;> decide
  have b4 : bnd 4 ≤ 16777216 := by decide
  rw [sizeLine_eq]
  omega
theorem kb_bck (T : Txt K mg w A) : KBn K A.d_move_back ["row", "merge"] 0 ["merge", "row"] (fun us ws => us ++ [1, 0].filterMap (ws[·]?)) (fun us ws => us ++ [1, 0].filterMap (ws[·]?)) :=
  kb_of T.c_move_back.F _ fun _ _ _ _ _ _ us ws h1 h2 => match us, h1, ws, h2 with | [], _, [_, _], _ => rfl
theorem kb_chk (T : Txt K mg w A) : KBn K A.d_check_merge ["row", "order", "merge"] 0 ["merge", "order", "row"] (fun us ws => us ++ [2, 1, 0].filterMap (ws[·]?)) (fun us ws => us ++ [2, 1, 0].filterMap (ws[·]?)) :=
  kb_of T.c_check_merge.F _ fun _ _ _ _ _ _ us ws h1 h2 => match us, h1, ws, h2 with | [], _, [_, _, _], _ => rfl
theorem kb_move_back (T : Txt K mg w A) : KBn K A.d_move_back ["row", "merge"] 0 ["merge", "row"] (fun us ws => us ++ [1, 0].filterMap (ws[·]?)) (fun us ws => us ++ [1, 0].filterMap (ws[·]?)) := kb_bck T
theorem kb_check_merge (T : Txt K mg w A) : KBn K A.d_check_merge ["row", "order", "merge"] 0 ["merge", "order", "row"] (fun us ws => us ++ [2, 1, 0].filterMap (ws[·]?)) (fun us ws => us ++ [2, 1, 0].filterMap (ws[·]?)) := kb_chk T
theorem use_order {C : Addr} {mk : Addr → LF} {Hc : Hp} (S : Hs (noT H0) MM Hc L) (nt : ∀ q ∈ L, ∀ ps, q.2 ≠ .tbl ps) (m : ∀ b ∈ MM, b ∈ L.map (·.1)) (tb : LamX.Tabs TT Hc)
    (h : ∀ (j dx f c' : Addr) (H' : Hp), LamX.Tabs TT H' → noT H0 j = none → Hs (noT H0) MM H' ((j, .ins C dx (flds f 0)) :: L) → H' f = some (LamO f (mk c')) → H' c' = some (LamX.CodeO c' (mk c').qual) → Q (.ref j) H') : tMake C (sp_oinit C) [] E0 (tCons (tLamV TT mk) tNil) σ Hc Q := by
  refine ⟨tb, fun f c' H1 eN nn tb1 hf0 hf hc => ?_⟩
  intro x dx hx hdx ne
  have S1 : Hs (noT H0) MM H1 L := Xc.Hs.extN S eN nt m
  have up : ∀ b o, H1 b = some o → upd (upd H1 dx (.own x)) x (.ins C dx []) b = some o := fun b o e => by
    rw [upd_ne (ne_of_none e hx), upd_ne (ne_of_none e hdx)]; exact e
  refine ⟨x, dx, f, rfl, upd_same, fun H' e old => ⟨rfl, ?_⟩⟩
  have up' : ∀ b o, H1 b = some o → H' b = some o := fun b o e => old _ _ (up b o e) (ne_of_none e hx)
  have n0 := (S1.new hx (.lst [])).1
  refine h x dx f c' H' (tb1.ext up') n0 ⟨?_, fun q hq => ?_, fun b o e2 hb => up' _ _ (S1.old b o e2 hb), fun b hb z => ?_⟩ (up' _ _ hf) (up' _ _ hc)
  · have := (S1.new hx (.ins C dx (flds f 0))).2.nd
    exact this
  · rcases List.mem_cons.mp hq with rfl | hq
    · exact e
    · exact up' _ _ (S1.is q hq)
  · cases hh : H1 b with
    | none => exact S1.mu b hb hh
    | some o => rw [up' _ _ hh] at z; cases z
theorem ok_ref (T : Txt K mg w A) (TB : LamX.TabB base mg A.cc__law_refused_right 523) : FnG P w K mg base 10 A.f__law_refused_right A.d__law_refused_right ["_law_things", "_law_thing"] sp_ref := by
  have G_move_merge : FnOk P w K mg base (L2.CX P w) 6 A.f_move_merge A.d_move_merge ["row", "merge"] (sp_fwd A.C_BadPaper) := ok_fwd T
  have G_move_back : FnOk P w K mg base (L2.CX P w) 6 A.f_move_back A.d_move_back ["row", "merge"] (sp_bck A.C_BadPaper) := ok_bck T
  have G_check_merge : FnOk P w K mg base (L2.CX P w) 5 A.f_check_merge A.d_check_merge ["row", "order", "merge"] (sp_check A.C_Order A.C_BadPaper) := ok_check T
  have G__law_word : FnOk P w K mg base CX0 1 A.f__law_word A.d__law_word ["_law_e"] (SepN (R_word A.C_BadPaper)) := ok_word T
  have G_Order___init__ : FnOk P w K mg base CX0 1 A.f_Order___init__ A.d_Order___init__ ["self", "rule"] (sp_oinit A.C_Order) := ok_oinit T
  have hmem : ((523 : Addr), qRef) ∈ TT := by simp [TT]
  have huni : ∀ p ∈ TT, p.1 = 523 → p.2 = qRef := fun p hp e => TT_ne p hp _ hmem e
  refine Xc.defGC T.cx__law_refused_right sc_l_refused_right (fun vs H Q E h => ?_) (fun Ar outer s H vs Q E cl hr h => ?_)
  · obtain ⟨_, _, _, rfl, _⟩ := h; rfl
  · obtain ⟨r, x, xs, rfl, hx, hl, t, ap, gd, tb, k⟩ := h
    refine ⟨_, (pss_cons (ps_asg (pe_tup (pa_cons (pe_callTy call_list_of (by rfl) T.n_list (by decide +kernel) (pa_cons (pv 0) pa_nil)) (pa_cons (pe_lst pa_nil) (pa_cons (pe_callB (call_repr cl hr) (by rfl) T.n_repr PyProof.Rows.boot_repr (pa_cons (pv 1) pa_nil)) pa_nil)))) (pg_tup rfl (pgs_cons (pg_name (i := 2) sc_l_refused_right.nd rfl (Or.inl rfl)) (pgs_cons (pg_name (i := 5) sc_l_refused_right.nd rfl (Or.inr rfl)) (pgs_cons (pg_name (i := 3) sc_l_refused_right.nd rfl (Or.inl rfl)) pgs_nil)))))
      (pss_cons (ps_set (i := 6) sc_l_refused_right.nd rfl (Or.inr rfl) (pe_make T.i_Order G_Order___init__ (hr.mono (by decide)) rfl T.m_Order T.c_Order___init__.b .nil pass0 (pa_cons (Xh.pe_lamv TB rfl hmem huni rfl (NdefX.ndef_free (fr := ["_law_noted"]) (by first | rfl | kernel_rfl))) pa_nil)))
      (pss_cons (ps_set (i := 4) sc_l_refused_right.nd rfl (Or.inl rfl) (pe_lst (pa_cons (pe_said T TB hmem huni G__law_word rfl rfl (hr.mono (by decide)) (LamX.lamS_by (by first | rfl | kernel_rfl)) rfl (fun _ _ _ _ _ => rfl) (fun _ _ _ _ _ _ _ hr2 => pe_call G_move_merge (hr2.mono (by decide)) rfl T.c_move_merge.m T.c_move_merge.F.kp T.c_move_merge.b .nil (passes_call (takes_of rfl rfl rfl rfl) fun _ _ _ _ z => z) (pa_cons (pv 0) (pa_cons (pv 1) pa_nil)))) pa_nil)))
      (pss_cons (ps_expr (pe_bm PySem.F.plainAttrs_list PySem.F.slot_list_append PySem.F.type_list_append mt_append (pv 4) (pa_cons (pe_said T TB hmem huni G__law_word rfl rfl (hr.mono (by decide)) (LamX.lamS_by (by first | rfl | kernel_rfl)) rfl (fun _ _ _ _ _ => rfl) (fun _ _ _ _ _ _ _ hr2 => pe_callK0 G_move_back (hr2.mono (by decide)) rfl T.c_move_back.m T.c_move_back.F.kp (kb_move_back T) (passes_call (takes_of rfl rfl rfl rfl) fun _ _ _ _ z => z) (pk_cons (pv 1) (pk_cons (pv 0) pk_nil)))) pa_nil)))
      (pss_cons (ps_expr (pe_bm PySem.F.plainAttrs_list PySem.F.slot_list_append PySem.F.type_list_append mt_append (pv 4) (pa_cons (pe_said T TB hmem huni G__law_word rfl rfl (hr.mono (by decide)) (LamX.lamS_by (by first | rfl | kernel_rfl)) rfl (fun _ _ _ _ _ => rfl) (fun _ _ _ _ _ _ _ hr2 => pe_call G_check_merge (hr2.mono (by decide)) rfl T.c_check_merge.m T.c_check_merge.F.kp T.c_check_merge.b .nil (passes_call (takes_of rfl rfl rfl rfl) fun _ _ _ _ z => z) (pa_cons (pv 0) (pa_cons (pv 6) (pa_cons (pv 1) pa_nil))))) pa_nil)))
      (pss_cons (ps_expr (pe_bm PySem.F.plainAttrs_list PySem.F.slot_list_append PySem.F.type_list_append mt_append (pv 4) (pa_cons (pe_said T TB hmem huni G__law_word rfl rfl (hr.mono (by decide)) (LamX.lamS_by (by first | rfl | kernel_rfl)) rfl (fun _ _ _ _ _ => rfl) (fun _ _ _ _ _ _ _ hr2 => pe_callK0 G_check_merge (hr2.mono (by decide)) rfl T.c_check_merge.m T.c_check_merge.F.kp (kb_check_merge T) (passes_call (takes_of rfl rfl rfl rfl) fun _ _ _ _ z => z) (pk_cons (pv 1) (pk_cons (pv 6) (pk_cons (pv 0) pk_nil))))) pa_nil)))
      (pss_cons (ps_if (PW.pt (pw_or (pt_cmpR op_ne (pe_callB (call_repr cl hr) (by rfl) T.n_repr PyProof.Rows.boot_repr (pa_cons (pv 4) pa_nil)) (pe_callB (call_repr cl hr) (by rfl) T.n_repr PyProof.Rows.boot_repr (pa_cons (pe_op op_rep (pe_lst (pa_cons (pe_tup (pa_cons pe_str (pa_cons pe_str (pa_cons pe_bl pa_nil)))) pa_nil)) pe_int) pa_nil)) (nomark _)) (pw_or1 (pt_cmpR (op_neD hr.units) (pv 5) (pe_lst pa_nil) (nomark _)))))
        (pss_one (ps_ret pe_bl))
        pss_nil)
      (pss_one (ps_ret (pe_and (pe_cmpR (op_eqD hr.units) (pv 0) (pv 2) (nomark _)) (pe_one (pe_cmpR op_eq (pe_callB (call_repr cl hr) (by rfl) T.n_repr PyProof.Rows.boot_repr (pa_cons (pv 1) pa_nil)) (pv 3) (nomark _))))))))))))), ?_⟩
    have S : Hs (noT H) [r] H [(r, .lst (xs.map V.int))] := Xc.Hs.begin [(r, .lst (xs.map V.int))] (by simp) (by simpa using hx)
    obtain ⟨d, D⟩ := t.dat (K := K)
    have kS : ∀ {H' L'}, Hs (noT H) [] H' L' → KeepN H H' := fun S' b u e n => S'.old b u (noT_some e n) (by simp)
    have U := Hs.start1 hx [] (.inl rfl)
    clear S
    walk_at "st"
    walk_at "rd"
    intro kp hkp
    obtain ⟨_, U1⟩ := U.new hkp (.lst (xs.map V.int))
    generalize upd H kp (.lst (xs.map V.int)) = H1 at U1
    clear U
    walk_at "rd"
    rename_i nd H2 hnd U2
    refine rd_reprD D (TL.same U2.same) (by decide) ?_
    obtain ⟨shown, hsh⟩ : ∃ s, s = d.shown := ⟨_, rfl⟩
    rw [← hsh]
    clear U1
    walk_at "rd"
    rename_i tp H3 htp U3
    have tb3 := tb.ext U3.same
    have S3 : Hs (noT H) [] H3 [(nd, .lst []), (kp, .lst (xs.map V.int)), (r, .lst (xs.map V.int))] := (Xc.Hs.toT U3).sub (by walk_at "sub")
    have D3 : ∀ {H' L'}, Hs (noT H) [] H' L' → TL H H' := fun S' => (kS S').tl
    clear U3 U2
    refine use_order S3 (by simp) (by simp) tb3 fun j dx f c' H4 tb4 hjn S4 _ _ => ?_
    clear S3
    have row : ∀ {Hc H' : Hp}, KeepN H Hc → KeepN Hc H' → H' r = some (.lst (xs.map V.int)) ∧ Th H' 4 x ∧ Apart H' x ∧ ¬ Good H' x xs.length := fun {Hc H'} kc k2 => by
      have kk := kc.trans k2
      exact ⟨kk _ _ hx (fun _ z => by cases z), t.more kk.tl, ap.more t kk.tl, fun g => gd (g.less t kk.tl)⟩
    have hlm : (xs.map V.int).length = xs.length := List.length_map ..
    have noF : ∀ {Hc H' : Hp} {E' : XK} {R : VK}, KeepN H Hc → KeepN Hc H' → (∀ H'' d, Same H' H'' → H'' d = none → E' (.ref A.C_BadPaper) (some d) (L2.upd H'' d (.xd [("at", .str "merge")]))) → sp_fwd A.C_BadPaper [.ref r, x] H' R E' := fun {Hc H' E' R} kc k2 hE => by
      obtain ⟨g1, g2, g3, g4⟩ := row kc k2
      exact ⟨r, x, _, rfl, g1, by omega, g2, g3, fun p kq pq s m e a b pk e1 R1 W1 he => absurd ⟨p, kq, pq, s, m, e, a, b, pk, e1, R1, W1, by omega⟩ g4, fun _ H'' d sm hd => hE H'' d sm hd⟩
    have noB : ∀ {Hc H' : Hp} {E' : XK} {R : VK}, KeepN H Hc → KeepN Hc H' → (∀ H'' d, Same H' H'' → H'' d = none → E' (.ref A.C_BadPaper) (some d) (L2.upd H'' d (.xd [("at", .str "merge")]))) → sp_bck A.C_BadPaper [.ref r, x] H' R E' := fun {Hc H' E' R} kc k2 hE => by
      obtain ⟨g1, g2, g3, g4⟩ := row kc k2
      exact ⟨r, x, _, rfl, g1, by omega, g2, g3, fun p kq pq s m e a b pk e1 R1 W1 he => absurd ⟨p, kq, pq, s, m, e, a, b, pk, e1, R1, W1, by omega⟩ g4, fun _ H'' d sm hd => hE H'' d sm hd⟩
    have noC : ∀ {Hc H' : Hp} {E' : XK} {R : VK}, KeepN H Hc → KeepN Hc H' → Hc j = some (.ins A.C_Order dx (flds f 0)) → (∀ H'' d, Same H' H'' → H'' d = none → E' (.ref A.C_BadPaper) (some d) (L2.upd H'' d (.xd [("at", .str "merge")]))) → sp_check A.C_Order A.C_BadPaper [.ref r, .ref j, x] H' R E' := fun {Hc H' E' R} kc k2 hj hE => by
      obtain ⟨g1, g2, g3, g4⟩ := row kc k2
      exact ⟨r, j, dx, x, xs, _, rfl, g1, hl, k2 _ _ hj (fun _ z => by cases z), g2, g3, fun _ H'' d sm hd => hE H'' d sm hd, fun g => absurd g g4⟩
    walk_at "rd"
    refine use_no T S4 (by simp) (by simp) tb4 (fun E' H' R k2 hE => ?_) fun p1 H5 k5 tb5 hp1 S5 => ?_
    · walk_at "rd"
      exact noF (kS S4) k2 hE
    have U := S5.refull
    clear S4
    have S5' := fun (_ : True) => S5
    clear S5
    walk_at "rd"
    rename_i q H6 hq U6
    obtain ⟨S6, tb6⟩ := seg0 (S5' trivial) tb5 U6
    have hqn : noT H q = none := ((S5' trivial).new hq (.lst [])).1
    clear U U6 S5'
    refine use_no T S6 (by simp) (by simp) tb6 (fun E' H' R k2 hE => ?_) fun p2 H7 k7 tb7 hp2 S7 => ?_
    · walk_at "rd"
      exact ⟨rfl, rfl, noB (kS S6) k2 hE⟩
    have U := S7.refullM (M' := [q]) (by simp)
    have S7' := fun (_ : True) => S7
    clear S7 S6
    walk_at "rd"
    rename_i H8 U8
    obtain ⟨S8, tb8⟩ := seg (S7' trivial) tb7 U8 (.inl hqn) ((S7' trivial).get (by walk_at "mem"))
    clear U U8 S7'
    refine use_no T S8 (by simp) (by simp) tb8 (fun E' H' R k2 hE => ?_) fun p3 H9 k9 tb9 hp3 S9 => ?_
    · walk_at "rd"
      exact noC (kS S8) k2 (S8.get (by walk_at "mem")) hE
    have U := S9.refullM (M' := [q]) (by simp)
    have S9' := fun (_ : True) => S9
    clear S9 S8
    walk_at "rd"
    rename_i H10 U10
    obtain ⟨S10, tb10⟩ := seg (S9' trivial) tb9 U10 (.inl hqn) ((S9' trivial).get (by walk_at "mem"))
    clear U U10 S9'
    refine use_no T S10 (by simp) (by simp) tb10 (fun E' H' R k2 hE => ?_) fun p4 H11 k11 tb11 hp4 S11 => ?_
    · walk_at "rd"
      exact ⟨rfl, rfl, noC (kS S10) k2 (S10.get (by walk_at "mem")) hE⟩
    have U := S11.refullM (M' := [q]) (by simp)
    have S11' := fun (_ : True) => S11
    clear S11 S10
    walk_at "rd"
    rename_i H12 U12
    obtain ⟨S12, tb12⟩ := seg (S11' trivial) tb11 U12 (.inl hqn) ((S11' trivial).get (by walk_at "mem"))
    have k12 := kS S12
    have W := S12.refull
    clear U U12 S11' S12
    refine rd_reprM (rs := [V.ref p1] ++ [V.ref p2] ++ [V.ref p3] ++ [V.ref p4]) (n := 4) W (by walk_at "mem") (fun r hr => ?_) rfl (by decide) ?_
    · simp only [List.cons_append, List.nil_append, List.mem_cons, List.not_mem_nil, or_false] at hr
      rcases hr with rfl | rfl | rfl | rfl
      · exact ⟨p1, rfl, W.get (by walk_at "mem")⟩
      · exact ⟨p2, rfl, W.get (by walk_at "mem")⟩
      · exact ⟨p3, rfl, W.get (by walk_at "mem")⟩
      · exact ⟨p4, rfl, W.get (by walk_at "mem")⟩
    walk_at "rd"
    rename_i u1 H13 hu1 W13 u2 H14 hu2 W14
    clear W W13
    refine rd_repL W14 (by walk_at "mem") (by decide) (by decide) (by rw [sizeLine_eq]; simp) fun u3 H15 hu3 W15 => ?_
    have W15 : Hs H12 [] H15 ((u3, .lst [.ref u1, .ref u1, .ref u1, .ref u1]) :: (u2, .lst [.ref u1]) :: (u1, .tup [.str "paper", .str "merge", .bl true]) :: _) := W15
    clear W14
    walk_at "rd"
    refine rd_reprM (rs := [V.ref u1, V.ref u1, V.ref u1, V.ref u1]) (n := 4) W15 (by walk_at "mem") (fun r hr => ?_) rfl (by decide) ?_
    · simp only [List.mem_cons, List.not_mem_nil, or_false, or_self] at hr
      exact ⟨u1, hr, W15.get (by walk_at "mem")⟩
    walk_at "rd"
    refine rd_decF (by simp) ?_
    walk_at "rd"
    rename_i u4 H16 hu4 W16
    clear W15
    refine rd_neIs (xs := []) (ys := []) (ns := []) (ms := []) W16 (by walk_at "mem") (by walk_at "mem") rfl rfl ?_
    walk_at "rd"
    refine rd_decF (by simp) ?_
    walk_at "rd"
    refine rd_eqIs (ns := xs) (ms := xs) W16 (by walk_at "mem") (by walk_at "mem") rfl rfl ?_
    walk_at "rd"
    refine rd_decT rfl ?_
    walk_at "rd"
    refine rd_reprD D (k12.tl.trans (.same W16.same)) (by decide) ?_
    walk_at "rd"
    rw [← hsh, decide_eq_true rfl]
    exact k H16 (k12.trans (.same W16.same)) (tb12.ext W16.same)
end
end K30

namespace K30
open PySem L2 Rs Xc Xd Xh PyProof.Rows
theorem mix_map {α β : Type} (g : α → β) : ∀ (pk : List Nat) (B A : List α), mix pk (B.map g) (A.map g) = (mix pk B A).map g
  | [], _, _ => rfl
  | n :: r, B, A => by
    simp only [mix, List.map_append, List.map_take, ← List.map_drop, mix_map g r A (B.drop n)]
theorem fwd_map {α β : Type} (g : α → β) (pk : List Nat) (f m e : Nat) (xs : List α) : fwd pk f m e (xs.map g) = (fwd pk f m e xs).map g := by
  unfold fwd
  simp only [List.map_append, List.map_take, List.map_drop, ← mix_map]
def sp_mov : Sp := fun vs H Q _ => ∃ (r : Addr) (x : V) (xs : List Int), vs = [.ref r, x] ∧ H r = some (.lst (xs.map V.int)) ∧ xs.length ≤ 4096 ∧ Th H 4 x ∧ Apart H x ∧ Good H x xs.length ∧ LamX.Tabs TT H ∧ ∀ H', KeepN H H' → LamX.Tabs TT H' → Q (.bl true) H'
section
variable {P : Program} {w : World} {K : PySem.W.Frag} {mg : Str → Option Value} {base : Heap} {A : Ad} {H H0 H1 H2 : Hp} {MM : List Addr} {L L' F : Led} {Q : VK} {E : XK} {σ : L2.St}
theorem shaped3 (v : PyData) (h : v = .str "kept" ∨ ∃ n : Int, v = .int n) : SeqAt.shaped (.tuple [.str "paper", v, .bool true]) = true ∧ PyData.eqv (.tuple [.str "paper", v, .bool true]) dM = false := by
  rcases h with rfl | ⟨n, rfl⟩
  · exact ⟨by decide +kernel, by decide +kernel⟩
  · constructor
    · unfold SeqAt.shaped
      simp [PyData.depth, PyData.depthAll, PyData.canLay0, PyData.canLayAll0]
      decide +kernel
    · simp [PyData.eqv, PyData.eqvAll, dM]
theorem rd_eqMn {t : Addr} (S : Hs H0 MM H L) (m2 : (t, HO.tup [.str "paper", .str "merge", .bl true]) ∈ L) (h : Q (.bl false) H) : rEqD K .non (.ref t) H Q := by
  have d2 : Dp K H (.ref t) dM := .tup (SqT.of (S.is _ m2)) (.cons (.str _) (.cons (.str _) (.cons (.bl _) .nil)))
  refine ⟨.none, dM, .non, d2, by decide +kernel, by decide +kernel, ?_⟩
  have e : PyData.eqv .none dM = false := by decide +kernel
  rw [e]; exact h
theorem rd_eqMt {s t : Addr} {v : V} (hv : v = .str "kept" ∨ ∃ n : Int, v = .int n) (S : Hs H0 MM H L) (m1 : (s, HO.tup [.str "paper", v, .bl true]) ∈ L) (m2 : (t, HO.tup [.str "paper", .str "merge", .bl true]) ∈ L) (h : Q (.bl false) H) : rEqD K (.ref s) (.ref t) H Q := by
  have d2 : Dp K H (.ref t) dM := .tup (SqT.of (S.is _ m2)) (.cons (.str _) (.cons (.str _) (.cons (.bl _) .nil)))
  have fin : ∀ d : PyData, (d = .str "kept" ∨ ∃ n : Int, d = .int n) → Dp K H v d → rEqD K (.ref s) (.ref t) H Q := fun d hd dv => by
    obtain ⟨s1, s2⟩ := shaped3 d hd
    refine ⟨.tuple [.str "paper", d, .bool true], dM, .tup (SqT.of (S.is _ m1)) (.cons (.str _) (.cons dv (.cons (.bl _) .nil))), d2, s1, by decide +kernel, ?_⟩
    rw [s2]; exact h
  rcases hv with rfl | ⟨n, rfl⟩
  · exact fin _ (.inl rfl) (.str _)
  · exact fin _ (.inr ⟨n, rfl⟩) (.int n)
theorem kj_noT {j : Addr} {H' : Hp} (S : Hs (noT H0) [] H L) (k : KJ j H H') (hj : noT H0 j = none) (n : ∀ q ∈ L, q.1 ≠ j) : Hs (noT H0) [] H' L :=
  ⟨S.nd, fun q hq => k _ _ (S.is q hq) (n q hq), fun b o e hb => k _ _ (S.old b o e hb) (fun z => by rw [z, hj] at e; cases e), fun b hb => nomatch hb⟩
theorem use_check {Hc : Hp} {t : XK → TE} {j C dx : Addr} {fs : List (Str × V)} (T : Txt K mg w A) (S : Hs (noT H0) [] Hc L) (nt : ∀ q ∈ L, ∀ ps, q.2 ≠ .tbl ps) (tb : LamX.Tabs TT Hc) (hj : Hc j = some (.ins C dx fs)) (hjn : noT H0 j = none) (n : ∀ q ∈ L, q.1 ≠ j)
    (ht : ∀ (E : XK) (H' : Hp) (R : VK), KeepN Hc H' → (∀ H'', KJ j H' H'' → R .non H'') → (∀ (v : V) H'' d, (v = .str "kept" ∨ ∃ n : Int, v = .int n) → KJ j H' H'' → H'' d = none → E (.ref A.C_BadPaper) (some d) (L2.upd H'' d (.xd [("at", v)]))) → t E σ H' R)
    (h : ∀ H', LamX.Tabs TT H' → Hs (noT H0) [] H' L → Q (.bl false) H') :
    LamX.tLam TT (TSaid K A) t σ Hc fun x H1 => tTup (tCons (tC (.str "paper")) (tCons (tC (.str "merge")) (tCons (tC (.bl true)) tNil))) σ H1 fun y H2 => rEqD K x y H2 Q := by
  have lift : ∀ {H1 H2 : Hp}, KeepN Hc H1 → LamX.Tabs TT H1 → KJ j H1 H2 → LamX.Tabs TT H2 ∧ Hs (noT H0) [] H2 L := fun {H1 H2} k1 tb1 kj => by
    have hj1 := k1 _ _ hj (fun _ z => by cases z)
    exact ⟨tabs_ext tb1 fun b o e _ _ n3 => kj _ _ e fun z => by rw [z, hj1] at e; exact n3 _ _ _ (Option.some.inj e).symm, kj_noT (Xc.Hs.extN S (fun b o e n => k1 b o e n) nt (fun b hb => nomatch hb)) kj hjn n⟩
  refine use_said (Told := fun v H1 H2 => v = .non ∧ KJ j H1 H2) (Ref := fun v H1 H2 => (v = .str "kept" ∨ ∃ n : Int, v = .int n) ∧ KJ j H1 H2) T tb (fun E H' R k1 hR hE => ht E H' R k1 (fun H'' kj => hR _ _ ⟨rfl, kj⟩) fun v H'' d hv kj hd => hE v H'' d ⟨hv, kj⟩ hd) (fun v H1 H2 k1 tb1 hv => ?_) fun v H1 H2 p H3 k1 tb1 rf sm3 hp2 hp3 => ?_
  · obtain ⟨rfl, kj⟩ := hv
    obtain ⟨tb2, S2⟩ := lift k1 tb1 kj
    have U := S2.refull
    have S2' := fun (_ : True) => S2
    clear S2 S
    walk_at "rd"
    rename_i u H4 hu U4
    obtain ⟨S4, tb4⟩ := seg0 (S2' trivial) tb2 U4
    refine rd_eqMn U4 (by walk_at "mem") ?_
    exact h H4 tb4 (S4.sub (.cons _ (.refl _)))
  · obtain ⟨hv, kj⟩ := rf
    obtain ⟨tb2, S2⟩ := lift k1 tb1 kj
    have tb3 := tb2.ext sm3
    have S3 := S2.more sm3
    have U := Hs.start1 hp3 [] (.inl rfl)
    clear S2 S
    have S3' := fun (_ : True) => S3
    clear S3
    walk_at "rd"
    rename_i u H4 hu U4
    have S4 := (S3' trivial).more U4.same
    refine rd_eqMt hv U4 (by walk_at "mem") (by walk_at "mem") ?_
    exact h H4 (tb3.ext U4.same) S4
theorem ma_inj {p p' kq kq' pq pq' : Addr} {s s' m m' e e' a a' b b' : Int} {pk pk' : List Int} (h : V.ref p = .ref p') (R : MA H p kq pq s m e a b pk) (R' : MA H p' kq' pq' s' m' e' a' b' pk') : p = p' ∧ kq = kq' ∧ pq = pq' ∧ s = s' ∧ m = m' ∧ e = e' ∧ a = a' ∧ b = b' ∧ pk = pk' := by
  cases h
  have h1 := tup_inj R.hp R'.hp
  simp only [List.cons.injEq, V.int.injEq, V.ref.injEq, and_true] at h1
  obtain ⟨rfl, rfl, rfl, rfl, rfl⟩ := h1
  have h2 := tup_inj R.hk R'.hk
  simp only [List.cons.injEq, V.int.injEq, and_true] at h2
  obtain ⟨rfl, rfl⟩ := h2
  have h3 := ints_inj (tup_inj R.hq R'.hq)
  subst h3
  simp
theorem th_len {p kq pq : Addr} {s m e a b : Int} {pk : List Int} (t : Th H 4 (.ref p)) (R : MA H p kq pq s m e a b pk) : pk.length ≤ 20 := by
  have h := t.part R.hp (.ref pq) (by simp)
  cases h with
  | tup _ _ ys h l _ =>
    have := tup_inj h R.hq
    subst this
    simpa using l
  | lst _ _ ys h l _ => rw [R.hq] at h; cases h
theorem ma_th {p kq pq : Addr} {s m e a b : Int} {pk : List Int} {R : MA H p kq pq s m e a b pk} {W : VM s m e a b pk} (hl : pk.length ≤ 20) : Th H 4 (.ref p) ∧ Apart H (.ref p) := by
  have := W.a0; have := W.b0; have := W.s0; have := W.sm; have := W.me; have := W.am; have := W.bm; have := W.e1
  refine ⟨.tup 3 p _ R.hp (by simp) fun y hy => ?_, fun p' x y z k q e1 e2 => ?_⟩
  · simp only [List.mem_cons, List.not_mem_nil, or_false] at hy
    rcases hy with rfl | rfl | rfl | rfl | rfl
    · exact .int _ _ (by omega)
    · exact .int _ _ (by omega)
    · exact .int _ _ (by omega)
    · exact .tup 2 kq _ R.hk (by simp) (ab_th (by omega) (by omega))
    · refine .tup 2 pq _ R.hq (by rw [List.length_map]; exact hl) fun y hy => ?_
      obtain ⟨z, hz, rfl⟩ := List.mem_map.mp hy
      have := W.pos z hz
      exact .int _ _ (by omega)
  · cases e1
    have h1 := tup_inj R.hp e2
    simp only [List.cons.injEq, V.ref.injEq, and_true] at h1
    obtain ⟨_, _, _, rfl, rfl⟩ := h1
    exact R.ne
theorem row_led {r kp du : Addr} {vs ws zs ys : List V} {H' : Hp} {M : List Addr} (S : Hs (noT H0) M H [(kp, .lst vs), (du, .lst zs), (r, .lst ws)]) (hM : ∀ b ∈ M, b = r) (e : H' r = some (.lst ys)) (old : ∀ b o, H b = some o → b ≠ r → H' b = some o) : Hs (noT H0) [r] H' [(kp, .lst vs), (du, .lst zs), (r, .lst ys)] := by
  have nd := S.nd
  simp only [List.map_cons, List.map_nil, List.nodup_cons, List.mem_cons, List.not_mem_nil, or_false, not_or] at nd
  refine ⟨by simpa using S.nd, fun q hq => ?_, fun b o e2 hb => ?_, fun b hb => ?_⟩
  · simp only [List.mem_cons, List.not_mem_nil, or_false] at hq
    rcases hq with rfl | rfl | rfl
    · exact old _ _ (S.is _ (by simp)) nd.1.2
    · exact old _ _ (S.is _ (by simp)) nd.2.1
    · exact e
  · have hb2 : b ≠ r := by simpa using hb
    exact old _ _ (S.old b o e2 fun z => hb2 (hM b z)) hb2
  · obtain rfl : b = r := by simpa using hb
    rw [e]; simp
theorem ok_mov (T : Txt K mg w A) (TB : LamX.TabB base mg A.cc__law_moves_right 530) : FnG P w K mg base 10 A.f__law_moves_right A.d__law_moves_right ["_law_things", "_law_thing"] sp_mov := by
  have G_move_merge : FnOk P w K mg base (L2.CX P w) 6 A.f_move_merge A.d_move_merge ["row", "merge"] (sp_fwd A.C_BadPaper) := ok_fwd T
  have G_move_back : FnOk P w K mg base (L2.CX P w) 6 A.f_move_back A.d_move_back ["row", "merge"] (sp_bck A.C_BadPaper) := ok_bck T
  have G_check_merge : FnOk P w K mg base (L2.CX P w) 5 A.f_check_merge A.d_check_merge ["row", "order", "merge"] (sp_check A.C_Order A.C_BadPaper) := ok_check T
  have G__law_word : FnOk P w K mg base CX0 1 A.f__law_word A.d__law_word ["_law_e"] (SepN (R_word A.C_BadPaper)) := ok_word T
  have G__law_moved : FnOk P w K mg base CX0 1 A.f__law_moved A.d__law_moved ["_law_things", "_law_paper"] sp_lmoved := ok_lmoved T
  have G_Order___init__ : FnOk P w K mg base CX0 1 A.f_Order___init__ A.d_Order___init__ ["self", "rule"] (sp_oinit A.C_Order) := ok_oinit T
  have hmem : ((530 : Addr), qMov) ∈ TT := by simp [TT]
  have huni : ∀ p ∈ TT, p.1 = 530 → p.2 = qMov := fun p hp e => TT_ne p hp _ hmem e
  refine Xc.defGC T.cx__law_moves_right sc_l_moves_right (fun vs H Q E h => ?_) (fun Ar outer s H vs Q E cl hr h => ?_)
  · obtain ⟨_, _, _, rfl, _⟩ := h; rfl
  · obtain ⟨r, x, xs, rfl, hx, hl, t, ap, gd, tb, k⟩ := h
    refine ⟨_, (pss_cons (ps_par (i := 2) (j := 3) rfl sc_l_moves_right.nd rfl rfl (by decide) rfl rfl (pa_cons (pe_call G__law_moved (hr.mono (by decide)) rfl T.c__law_moved.m T.c__law_moved.F.kp T.c__law_moved.b .nil pass0 (pa_cons (pv 0) (pa_cons (pv 1) pa_nil))) (pa_cons (pe_callTy call_list_of (by rfl) T.n_list (by decide +kernel) (pa_cons (pv 0) pa_nil)) pa_nil)) (by rfl))
      (pss_cons (ps_set (i := 4) sc_l_moves_right.nd rfl (Or.inr rfl) (pe_make T.i_Order G_Order___init__ (hr.mono (by decide)) rfl T.m_Order T.c_Order___init__.b .nil pass0 (pa_cons (Xh.pe_lamv TB rfl hmem huni rfl (NdefX.ndef_free (fr := []) (by first | rfl | kernel_rfl))) pa_nil)))
      (pss_cons (ps_if (PW.pt (pw_or (pt_cmpR (op_eqD hr.units) (pe_said T TB hmem huni G__law_word rfl rfl (hr.mono (by decide)) (LamX.lamS_by (by first | rfl | kernel_rfl)) rfl (fun _ _ _ _ _ => rfl) (fun _ _ _ _ _ _ _ hr2 => pe_call G_check_merge (hr2.mono (by decide)) rfl T.c_check_merge.m T.c_check_merge.F.kp T.c_check_merge.b .nil (passes_call (takes_of rfl rfl rfl rfl) fun _ _ _ _ z => z) (pa_cons (pv 0) (pa_cons (pv 4) (pa_cons (pv 1) pa_nil))))) (pe_tup (pa_cons pe_str (pa_cons pe_str (pa_cons pe_bl pa_nil)))) (nomark _)) (pw_or1 (pt_cmpR (op_neD hr.units) (pv 0) (pv 3) (nomark _)))))
        (pss_one (ps_ret pe_bl))
        pss_nil)
      (pss_cons (ps_if (PW.pt (pw_or (pt_cmpR op_notN (pe_said T TB hmem huni G__law_word rfl rfl (hr.mono (by decide)) (LamX.lamS_by (by first | rfl | kernel_rfl)) rfl (fun _ _ _ _ _ => rfl) (fun _ _ _ _ _ _ _ hr2 => pe_call G_move_merge (hr2.mono (by decide)) rfl T.c_move_merge.m T.c_move_merge.F.kp T.c_move_merge.b .nil (passes_call (takes_of rfl rfl rfl rfl) fun _ _ _ _ z => z) (pa_cons (pv 0) (pa_cons (pv 1) pa_nil)))) pe_non (nomark _)) (pw_or1 (pt_cmpR (op_neD hr.units) (pv 0) (pv 2) (nomark _)))))
        (pss_one (ps_ret pe_bl))
        pss_nil)
      (pss_one (ps_ret (pe_and (pe_cmpR op_isN (pe_said T TB hmem huni G__law_word rfl rfl (hr.mono (by decide)) (LamX.lamS_by (by first | rfl | kernel_rfl)) rfl (fun _ _ _ _ _ => rfl) (fun _ _ _ _ _ _ _ hr2 => pe_call G_move_back (hr2.mono (by decide)) rfl T.c_move_back.m T.c_move_back.F.kp T.c_move_back.b .nil (passes_call (takes_of rfl rfl rfl rfl) fun _ _ _ _ z => z) (pa_cons (pv 0) (pa_cons (pv 1) pa_nil)))) pe_non (nomark _)) (pe_one (pe_cmpR (op_eqD hr.units) (pv 0) (pv 3) (nomark _)))))))))), ?_⟩
    obtain ⟨p, kq, pq, s, m, e, a, b, pk, rfl, R, W, he⟩ := gd
    have hlm : (xs.map V.int).length = xs.length := List.length_map ..
    have W' := W.fit (n := xs.length) he
    generalize hxs : xs.map V.int = vs at hx hlm
    have gd : Good H (.ref p) xs.length := ⟨p, kq, pq, s, m, e, a, b, pk, rfl, R, W, he⟩
    have kS : ∀ {H' L'}, Hs (noT H) [] H' L' → KeepN H H' := fun S' b u e n => S'.old b u (noT_some e n) (by simp)
    have U := Hs.start1 hx [] (.inl rfl)
    walk_at "st"
    walk_at "rd"
    refine ⟨r, p, kq, pq, s, m, e, a, b, pk, vs, rfl, R, W, hx, by omega, by omega, fun du H1 hdu hdu2 sm1 => ?_⟩
    obtain ⟨_, U1⟩ := U.more1 sm1 hdu hdu2
    clear U
    generalize hz : fwd (pk.map Int.toNat) (s + a).toNat m.toNat (e - b).toNat vs = zs at hdu2 U1
    walk_at "rd"
    intro kp hkp
    obtain ⟨_, U2⟩ := U1.new hkp (.lst vs)
    generalize upd H1 kp (.lst vs) = H2 at U2
    clear U1
    walk_at "rd"
    have tb3 := tb.ext U2.same
    have S3 : Hs (noT H) [] H2 [(kp, .lst vs), (du, .lst zs), (r, .lst vs)] := Xc.Hs.toT U2
    clear U2
    refine use_order S3 (by simp) (by simp) tb3 fun j dx f c' H4 tb4 hjn S4 hf hc => ?_
    have hrule : RuleAt H4 f := ⟨c', hf, hc⟩
    clear S3
    walk_at "rd"
    have k04 := kS S4
    have hj4 := S4.get (a := j) (o := .ins A.C_Order dx (flds f 0)) (by walk_at "mem")
    have nd4 := S4.nd
    have S5 : Hs (noT H) [] H4 [(kp, .lst vs), (du, .lst zs), (r, .lst vs)] := S4.sub (by walk_at "sub")
    clear S4
    refine use_check (j := j) T S5 (by simp) tb4 hj4 hjn (fun q hq => ?_) (fun E' H' R' k2 hR hE => ?_) fun H6 tb6 S6 => ?_
    · rw [List.map_cons, List.nodup_cons] at nd4
      exact fun z => nd4.1 (by rw [← z]; exact List.mem_map_of_mem (f := (·.1)) hq)
    · walk_at "rd"
      have kk := k04.trans k2
      refine ⟨r, j, dx, .ref p, xs, _, rfl, by rw [hxs]; exact kk _ _ hx (fun _ z => by cases z), hl, k2 _ _ hj4 (fun _ z => by cases z), t.more kk.tl, ap.more t kk.tl, fun ng => absurd (gd.more kk.tl) ng, fun _ => ⟨⟨dx, f, 0, k2 _ _ hj4 (fun _ z => by cases z), ?_⟩, fun H'' kj => hR H'' kj, fun v H'' d hv kj hd => hE v H'' d hv kj hd⟩⟩
      obtain ⟨c9, e1, e2⟩ := hrule
      exact ⟨c9, k2 _ _ e1 (fun _ z => by unfold LamO at z; cases z), k2 _ _ e2 (fun _ z => by unfold LamX.CodeO at z; cases z)⟩
    clear S5
    have hz' : zs = (fwd (pk.map Int.toNat) (s + a).toNat m.toNat (e - b).toNat xs).map V.int := by rw [← hz, ← hxs, fwd_map]
    walk_at "rd"
    refine rd_neIs (ns := xs) (ms := xs) S6 (by walk_at "mem") (by walk_at "mem") hxs.symm hxs.symm ?_
    walk_at "rd"
    refine rd_decF (by simp) ?_
    walk_at "rd"
    have k06 := kS S6
    refine use_said (Told := fun v H1 H2 => v = .non ∧ H2 r = some (.lst zs) ∧ ∀ b o, H1 b = some o → b ≠ r → H2 b = some o) (Ref := fun _ _ _ => False) T tb6 (fun E' H' R' k2 hR _ => ?_) (fun v H7 H8 k7 tb7 hv => ?_) fun _ _ _ _ _ _ _ z => z.elim
    · walk_at "rd"
      have kk := k06.trans k2
      refine ⟨r, .ref p, vs, rfl, kk _ _ hx (fun _ z => by cases z), by omega, t.more kk.tl, ap.more t kk.tl, fun p' kq' pq' s' m' e' a' b' pk' e1 R1 W1 he1 H'' g1 g2 => ?_, fun ng => absurd ((by rw [hlm]; exact gd.more kk.tl : Good H' (.ref p) (vs.length : Nat))) ng⟩
      obtain ⟨rfl, rfl, rfl, rfl, rfl, rfl, rfl, rfl, rfl⟩ := ma_inj e1 (R.more kk.tl) R1
      rw [hz] at g1
      exact hR _ _ ⟨rfl, g1, g2⟩
    obtain ⟨rfl, hr8, old8⟩ := hv
    have S7 : Hs (noT H) [] H7 [(kp, .lst vs), (du, .lst zs), (r, .lst vs)] := Xc.Hs.extN S6 (fun b o e n => k7 b o e n) (by simp) (by simp)
    have hr7 := S7.get (a := r) (o := .lst vs) (by walk_at "mem")
    have S8 := row_led S7 (by simp) hr8 old8
    have tb8 : LamX.Tabs TT H8 := tabs_ext tb7 fun b o e _ n2 _ => old8 _ _ e fun z => by rw [z, hr7] at e; exact n2 _ (Option.some.inj e).symm
    have kp8 : ∀ b o, H b = some o → (∀ ps, o ≠ .tbl ps) → b ≠ r → H8 b = some o := fun b o e1 e2 e3 => S8.old1 (noT_some e1 e2) e3
    clear S6 S7
    walk_at "rd"
    refine rd_ndecT rfl ?_
    walk_at "rd"
    refine rd_neIs (ns := (fwd (pk.map Int.toNat) (s + a).toNat m.toNat (e - b).toNat xs)) (ms := (fwd (pk.map Int.toNat) (s + a).toNat m.toNat (e - b).toNat xs)) S8 (by walk_at "mem") (by walk_at "mem") hz' hz' ?_
    walk_at "rd"
    refine rd_decF (by simp) ?_
    walk_at "rd"
    have R8 : MA H8 p kq pq s m e a b pk := ⟨kp8 _ _ R.hp (fun _ z => by cases z) (ne_of R.hp hx (by intro z; cases z)), kp8 _ _ R.hk (fun _ z => by cases z) (ne_of R.hk hx (by intro z; cases z)), kp8 _ _ R.hq (fun _ z => by cases z) (ne_of R.hq hx (by intro z; cases z)), R.ne⟩
    have hlz : zs.length = xs.length := by rw [hz', List.length_map, fwd_len W']
    have back : bck (pk.map Int.toNat) (s + a).toNat (e - b).toNat zs = vs := by
      rw [← hz]
      exact bck_fwd (by rw [hlm]; exact W')
    have lk := th_len t R
    have th8 := ma_th (R := R8) (W := W) lk
    have k08 := kp8
    refine use_said (Told := fun v H1 H2 => v = .non ∧ H2 r = some (.lst vs) ∧ ∀ b o, H1 b = some o → b ≠ r → H2 b = some o) (Ref := fun _ _ _ => False) T tb8 (fun E' H' R' k2 hR _ => ?_) (fun v H9 H10 k9 tb9 hv => ?_) fun _ _ _ _ _ _ _ z => z.elim
    · walk_at "rd"
      have gd8 : Good H8 (.ref p) (zs.length : Nat) := ⟨p, kq, pq, s, m, e, a, b, pk, rfl, R8, W, by omega⟩
      refine ⟨r, .ref p, zs, rfl, k2 _ _ (S8.get (by walk_at "mem")) (fun _ z => by cases z), by omega, th8.1.more k2.tl, th8.2.more th8.1 k2.tl, fun p' kq' pq' s' m' e' a' b' pk' e1 R1 W1 he1 H'' g1 g2 => ?_, fun ng => absurd (gd8.more k2.tl) ng⟩
      obtain ⟨rfl, rfl, rfl, rfl, rfl, rfl, rfl, rfl, rfl⟩ := ma_inj e1 (R8.more k2.tl) R1
      rw [back] at g1
      exact hR _ _ ⟨rfl, g1, g2⟩
    obtain ⟨rfl, hr10, old10⟩ := hv
    have S9 : Hs (noT H) [r] H9 [(kp, .lst vs), (du, .lst zs), (r, .lst zs)] := Xc.Hs.extN S8 (fun b o e n => k9 b o e n) (by simp) (by simp)
    have hr9 := S9.get (a := r) (o := .lst zs) (by walk_at "mem")
    have S10 := row_led S9 (by simp) hr10 old10
    have tb10 : LamX.Tabs TT H10 := tabs_ext tb9 fun b o e _ n2 _ => old10 _ _ e fun z => by rw [z, hr9] at e; exact n2 _ (Option.some.inj e).symm
    clear S8 S9
    walk_at "rd"
    rw [decide_eq_true rfl]
    walk_at "rd"
    walk_at "if1"
    refine rd_eqIs (ns := xs) (ms := xs) S10 (by walk_at "mem") (by walk_at "mem") hxs.symm hxs.symm ?_
    rw [decide_eq_true rfl]
    refine k H10 (fun b o e1 e2 => ?_) tb10
    by_cases hb : b = r
    · subst hb
      rw [hx] at e1
      rw [hr10]; exact e1
    · exact S10.old1 (noT_some e1 e2) hb
end
end K30

namespace K30
open PySem L2 Rs Xc Xd Xh PyProof.Rows
def sp_right : Sp := fun vs H Q _ => ∃ (r : Addr) (x : V) (xs : List Int), vs = [.ref r, x] ∧ H r = some (.lst (xs.map V.int)) ∧ xs.length ≤ 4096 ∧ Th H 4 x ∧ Apart H x ∧ LamX.Tabs TT H ∧ ∀ H', KeepN H H' → LamX.Tabs TT H' → Q (.bl true) H'
/-- a paper of plain tuples -/
def PapT (H : Hp) (v : V) : Prop := ∃ p k q s m e ks ps, v = .ref p ∧ H p = some (.tup [.int s, .int m, .int e, .ref k, .ref q]) ∧ H k = some (.tup ks) ∧ H q = some (.tup ps) ∧ k ≠ q ∧ (s.natAbs < 10 ^ 31 ∧ m.natAbs < 10 ^ 31 ∧ e.natAbs < 10 ^ 31) ∧ (ks.length ≤ 20 ∧ ∀ y ∈ ks, ∃ z : Int, y = .int z ∧ z.natAbs < 10 ^ 31) ∧ (ps.length ≤ 20 ∧ ∀ y ∈ ps, ∃ z : Int, y = .int z ∧ z.natAbs < 10 ^ 31)
def TU (H H' : Hp) : Prop := ∀ a xs, H a = some (.tup xs) → H' a = some (.tup xs)
theorem PapT.more {H H' : Hp} {v : V} (h : PapT H v) (t : TU H H') : PapT H' v := by
  obtain ⟨p, k, q, s, m, e, ks, ps, h0, h1, h2, h3, h4⟩ := h
  exact ⟨p, k, q, s, m, e, ks, ps, h0, t _ _ h1, t _ _ h2, t _ _ h3, h4⟩
theorem TU.same {H H' : Hp} (k : Same H H') : TU H H' := fun a xs => k _ _
theorem TU.keep {H H' : Hp} (k : KeepN H H') : TU H H' := fun a xs e => k _ _ e (fun _ z => by cases z)
theorem PapT.th {H : Hp} {v : V} (h : PapT H v) : Th H 4 v ∧ Apart H v := by
  obtain ⟨p, k, q, s, m, e, ks, ps, rfl, h1, h2, h3, ne, ⟨a1, a2, a3⟩, ⟨b1, b2⟩, c1, c2⟩ := h
  have at_ : ∀ {xs : List V}, (∀ y ∈ xs, ∃ z : Int, y = .int z ∧ z.natAbs < 10 ^ 31) → ∀ y ∈ xs, Th H 2 y := fun h y hy => by
    obtain ⟨z, rfl, hz⟩ := h y hy
    exact .int _ _ hz
  refine ⟨.tup 3 p _ h1 (by simp) fun y hy => ?_, fun p' x y z k' q' e1 e2 => ?_⟩
  · simp only [List.mem_cons, List.not_mem_nil, or_false] at hy
    rcases hy with rfl | rfl | rfl | rfl | rfl
    · exact .int _ _ a1
    · exact .int _ _ a2
    · exact .int _ _ a3
    · exact .tup 2 k _ h2 b1 (at_ b2)
    · exact .tup 2 q _ h3 c1 (at_ c2)
  · cases e1
    have h9 := tup_inj h1 e2
    simp only [List.cons.injEq, V.ref.injEq, and_true] at h9
    obtain ⟨_, _, _, rfl, rfl⟩ := h9
    exact ne
def smV : V → Bool
  | .int i => decide (i.natAbs < 10 ^ 31)
  | _ => false
theorem sm_all {xs : List V} (h : (decide (xs.length ≤ 20) && xs.all smV) = true) : xs.length ≤ 20 ∧ ∀ y ∈ xs, ∃ z : Int, y = .int z ∧ z.natAbs < 10 ^ 31 := by
  rw [Bool.and_eq_true, decide_eq_true_eq, List.all_eq_true] at h
  refine ⟨h.1, fun y hy => ?_⟩
  have h2 := h.2 y hy
  cases y with
  | int i => exact ⟨i, rfl, of_decide_eq_true h2⟩
  | _ => cases h2
/-- an expression that makes a paper -/
def PapE (te : TE) : Prop := ∀ (σ : L2.St) (H : Hp) (Q : VK), (∀ p H', Same H H' → H p = none → PapT H' (.ref p) → Q (.ref p) H') → te σ H Q
theorem pap_e {tk tp : TA} {s m e : Int} {ks ps : List V} (hk : ∀ (σ : L2.St) (H : Hp) (C : List V → Hp → Prop), C ks H → tk σ H C) (hp : ∀ (σ : L2.St) (H : Hp) (C : List V → Hp → Prop), C ps H → tp σ H C)
    (h1 : (decide (ks.length ≤ 20) && ks.all smV) = true) (h2 : (decide (ps.length ≤ 20) && ps.all smV) = true) (h3 : s.natAbs < 10 ^ 31 ∧ m.natAbs < 10 ^ 31 ∧ e.natAbs < 10 ^ 31) :
    PapE (tTup (tCons (tC (.int s)) (tCons (tC (.int m)) (tCons (tC (.int e)) (tCons (tTup tk) (tCons (tTup tp) tNil)))))) := by
  intro σ H Q h
  have k1 := sm_all h1
  have p1 := sm_all h2
  refine rd_tup (rd_cons (rd_c (rd_cons (rd_c (rd_cons (rd_c (rd_cons (rd_tup (hk _ _ _ ⟨by rw [sizeLine_eq]; omega, fun k hkn => ?_⟩))))))))) 
  refine rd_cons (rd_tup (hp _ _ _ ⟨by rw [sizeLine_eq]; omega, fun q hqn => ?_⟩))
  refine rd_nil ⟨by rw [sizeLine_eq]; simp, fun p hpn => ?_⟩
  have e0 : ∀ b o, H b = some o → upd H k (.tup ks) b = some o := fun b o e => by rw [upd_ne (ne_of_none e hkn)]; exact e
  have e1 : ∀ b o, upd H k (.tup ks) b = some o → upd (upd H k (.tup ks)) q (.tup ps) b = some o := fun b o e => by rw [upd_ne (ne_of_none e hqn)]; exact e
  have e2 : ∀ b o, upd (upd H k (.tup ks)) q (.tup ps) b = some o → upd (upd (upd H k (.tup ks)) q (.tup ps)) p (.tup [.int s, .int m, .int e, .ref k, .ref q]) b = some o := fun b o e => by rw [upd_ne (ne_of_none e hpn)]; exact e
  have nkq : k ≠ q := fun z => by rw [← z, upd_same] at hqn; cases hqn
  refine h p _ (fun b o e => e2 _ _ (e1 _ _ (e0 _ _ e))) ?_ ⟨p, k, q, s, m, e, ks, ps, rfl, upd_same, e2 _ _ (e1 _ _ upd_same), e2 _ _ upd_same, nkq, h3, k1, p1⟩
  cases hh : H p with
  | none => rfl
  | some o => rw [e1 _ _ (e0 _ _ hh)] at hpn; cases hpn
/-- expressions that make papers -/
def PapA (n : Nat) (ta : TA) : Prop := ∀ (σ : L2.St) (H : Hp) (C : List V → Hp → Prop), (∀ vs H', Same H H' → vs.length = n → (∀ v ∈ vs, PapT H' v) → C vs H') → ta σ H C
theorem papA_nil : PapA 0 tNil := fun σ H C h => h [] H (fun _ _ e => e) rfl (fun v hv => nomatch hv)
theorem papA_cons {n : Nat} {te : TE} {ta : TA} (h1 : PapE te) (h2 : PapA n ta) : PapA (n + 1) (tCons te ta) := by
  intro σ H C h
  refine rd_cons (h1 σ H _ fun p H1 sm1 _ hp => h2 σ H1 _ fun vs H2 sm2 hl hv => h (.ref p :: vs) H2 (same_trans sm1 sm2) (by simp [hl]) fun v hv2 => ?_)
  rcases List.mem_cons.mp hv2 with rfl | hv2
  · exact hp.more (.same sm2)
  · exact hv v hv2
section
variable {P : Program} {w : World} {K : PySem.W.Frag} {mg : Str → Option Value} {base : Heap} {A : Ad} {H H0 H1 H2 : Hp} {MM : List Addr} {L L' F : Led} {Q : VK} {E : XK} {σ : L2.St}
theorem ok_right (T : Txt K mg w A) (TB : ∀ p ∈ [(A.cc__law_anywhere_right, 537), (A.cc__law_moves_right, 530), (A.cc__law_refused_right, 523)], LamX.TabB base mg p.1 p.2) : FnG P w K mg base 11 A.f__law_right A.d__law_right ["_law_things", "_law_thing"] sp_right := by
  have G__law_anywhere_right : FnG P w K mg base 9 A.f__law_anywhere_right A.d__law_anywhere_right ["_law_thing"] sp_any := ok_any T (TB (A.cc__law_anywhere_right, 537) (by simp))
  have G__law_moves_right : FnG P w K mg base 10 A.f__law_moves_right A.d__law_moves_right ["_law_things", "_law_thing"] sp_mov := ok_mov T (TB (A.cc__law_moves_right, 530) (by simp))
  have G__law_refused_right : FnG P w K mg base 10 A.f__law_refused_right A.d__law_refused_right ["_law_things", "_law_thing"] sp_ref := ok_ref T (TB (A.cc__law_refused_right, 523) (by simp))
  have G__law_fits : FnOk P w K mg base CX0 2 A.f__law_fits A.d__law_fits ["_law_thing", "_law_many"] sp_lfits := ok_lfits T
  refine defG T.c__law_right.F sc_l_right (fun vs H Q E h => ?_) (fun cdv Ar outer s H vs Q E cl hr h => ?_)
  · obtain ⟨_, _, _, rfl, _⟩ := h; rfl
  · obtain ⟨r, x, xs, rfl, hx, hl, t, ap, tb, k⟩ := h
    refine ⟨_, (pss_cons (ps_if (pt_not (pt_val (pe_callG G__law_anywhere_right cl (hr.mono (by decide)) rfl T.c__law_anywhere_right.m T.c__law_anywhere_right.F.kp T.c__law_anywhere_right.b .nil (pa_cons (pv 1) pa_nil))))
        (pss_one (ps_ret pe_bl))
        pss_nil)
      (pss_cons (ps_if (pt_val (pe_call G__law_fits (hr.mono (by decide)) rfl T.c__law_fits.m T.c__law_fits.F.kp T.c__law_fits.b .nil pass0 (pa_cons (pv 1) (pa_cons (pe_callB call_len_seq (by rfl) T.n_len PySem.boot_len (pa_cons (pv 0) pa_nil)) pa_nil))))
        (pss_one (ps_ret (pe_callG G__law_moves_right cl (hr.mono (by decide)) rfl T.c__law_moves_right.m T.c__law_moves_right.F.kp T.c__law_moves_right.b .nil (pa_cons (pv 0) (pa_cons (pv 1) pa_nil)))))
        pss_nil)
      (pss_one (ps_ret (pe_callG G__law_refused_right cl (hr.mono (by decide)) rfl T.c__law_refused_right.m T.c__law_refused_right.F.kp T.c__law_refused_right.b .nil (pa_cons (pv 0) (pa_cons (pv 1) pa_nil))))))), ?_⟩
    walk_at "st"
    walk_at "rd"
    refine ⟨x, rfl, t, ap, tb, fun H1 k1 tb1 => ?_⟩
    have hx1 := k1 _ _ hx (fun _ z => by cases z)
    have S := Hs.start1 hx1 [] (.inl rfl)
    walk_at "rd"
    walk_at "if0"
    have hlm : (xs.map V.int).length = xs.length := List.length_map ..
    refine ⟨x, _, rfl, t.more k1.tl, ap.more t k1.tl, by omega, by omega, fun b H2 hb sm2 => ?_⟩
    rw [hlm] at hb
    have k2 : KeepN H H2 := k1.trans (.same sm2)
    cases b with
    | true =>
      walk_at "rd"
      walk_at "if1"
      exact ⟨r, x, xs, rfl, sm2 _ _ hx1, hl, t.more k2.tl, ap.more t k2.tl, (hb.mp rfl).more (.same sm2), tb1.ext sm2, fun H' k3 tb3 => k H' (k2.trans k3) tb3⟩
    | false =>
      walk_at "rd"
      walk_at "if0"
      exact ⟨r, x, xs, rfl, sm2 _ _ hx1, hl, t.more k2.tl, ap.more t k2.tl, (fun g => by cases hb.mpr (g.less (t.more k1.tl) (.same sm2))), tb1.ext sm2, fun H' k3 tb3 => k H' (k2.trans k3) tb3⟩
end
end K30

namespace K30
open PySem L2 Rs Xc Xd Xh PyProof.Rows
def sp_law (K : PySem.W.Frag) : Sp := fun vs H Q _ => ∃ (a : Addr) (ns : List Int), vs = [.ref a] ∧ SqL K H a (ns.map V.int) ∧ ns.length ≤ 63 ∧ LamX.Tabs TT H ∧ ∀ H', Q (.bl true) H'
section
variable {P : Program} {w : World} {K : PySem.W.Frag} {mg : Str → Option Value} {base : Heap} {A : Ad} {H H0 H1 H2 : Hp} {MM : List Addr} {L L' F : Led} {Q : VK} {E : XK} {σ : L2.St}
local macro_rules | `(tactic| walk_at "rd1") => `(tactic| ((with_reducible refine' K30.use_draw (by assumption) ?c ?o ?b1 ?b2 ?b3 ?b4 ?_); (case c => walk_at "chgF"); (case o => walk_at "own"); (case b1 => omega); (case b2 => omega); (case b3 => omega); (case b4 => omega); intro r l a H S h0 h1 h2 h3))
theorem sq_ext {H' : Hp} {a : Addr} {xs : List V} (h : SqL K H a xs) (k : KeepN H H') : SqL K H' a xs := by
  rcases h with (h | ⟨o, h⟩) | h
  · exact .inl (.inl (k _ _ h (fun _ z => by cases z)))
  · exact .inl (.inr ⟨o, k _ _ h (fun _ z => by cases z)⟩)
  · exact .inr h
theorem rd_plist {TT : List (Addr × Str)} {ta : TA} {n : Nat} (tb : LamX.Tabs TT H) (pa : PapA (n + 1) ta) (hn : n + 1 ≤ 1000) (h : ∀ q vs H', LamX.Tabs TT H' → Same H H' → H' q = some (.lst vs) → (∀ v ∈ vs, PapT H' v) → vs.length = n + 1 → Q (.ref q) H') : tLst ta σ H Q := by
  refine rd_lst (pa σ H _ fun vs H1 sm hl hv => ⟨Rs.sz (by omega), fun q hq => ?_⟩)
  have up : Same H1 (upd H1 q (.lst vs)) := fun b o e => by rw [upd_ne (ne_of_none e hq)]; exact e
  exact h q vs _ ((tb.ext sm).ext up) (same_trans sm up) upd_same (fun v hv2 => (hv v hv2).more (.same up)) hl
theorem rd_pap {TT : List (Addr × Str)} {tk tp : TA} {s m e : Int} {ks ps : List V} (tb : LamX.Tabs TT H) (hk : ∀ (σ : L2.St) (H : Hp) (C : List V → Hp → Prop), C ks H → tk σ H C) (hp : ∀ (σ : L2.St) (H : Hp) (C : List V → Hp → Prop), C ps H → tp σ H C)
    (h1 : (decide (ks.length ≤ 20) && ks.all smV) = true) (h2 : (decide (ps.length ≤ 20) && ps.all smV) = true) (h3 : s.natAbs < 10 ^ 31 ∧ m.natAbs < 10 ^ 31 ∧ e.natAbs < 10 ^ 31)
    (h : ∀ p H', LamX.Tabs TT H' → Same H H' → PapT H' (.ref p) → Q (.ref p) H') : tTup (tCons (tC (.int s)) (tCons (tC (.int m)) (tCons (tC (.int e)) (tCons (tTup tk) (tCons (tTup tp) tNil))))) σ H Q :=
  pap_e hk hp h1 h2 h3 σ H Q fun p H' sm _ hp => h p H' (tb.ext sm) sm hp
local macro_rules | `(tactic| walk_at "papE") => `(tactic| (with_reducible refine' K30.pap_e ?hk ?hp ?h1 ?h2 ?h3; (case hk => (intro σ9 H9 C9 h9; walk_at "rd"; exact h9)); (case hp => (intro σ9 H9 C9 h9; walk_at "rd"; exact h9)); (case h1 => decide +kernel); (case h2 => decide +kernel); (case h3 => decide +kernel)))
local macro_rules | `(tactic| walk_at "papA") => `(tactic| ((repeat (with_reducible refine K30.papA_cons (by walk_at "papE") ?_)); (with_reducible exact K30.papA_nil)))
local macro_rules | `(tactic| walk_at "rdP1") => `(tactic| first
  | ((with_reducible refine' K30.rd_pap (by assumption) ?hk ?hp ?h1 ?h2 ?h3 ?_); (case hk => (intro σ9 H9 C9 h9; walk_at "rd"; exact h9)); (case hp => (intro σ9 H9 C9 h9; walk_at "rd"; exact h9)); (case h1 => decide +kernel); (case h2 => decide +kernel); (case h3 => decide +kernel); intro p9 H9 tb9 sm9 hp9)
  | walk_at "rd1")
local macro_rules | `(tactic| walk_at "rdP") => `(tactic| repeat (walk_at "rdP1"))
local macro_rules | `(tactic| walk_at "if0P") => `(tactic| ((first | (show if false = true then _ else _) | skip); walk_at "rdP"))
theorem st_new {Hc : Hp} {vs : List V} (tb : LamX.Tabs TT Hc) (h : ∀ v ∈ vs, PapT Hc v) (hl : vs.length ≤ 1000) (k : ∀ q H', LamX.Tabs TT H' → Same Hc H' → H' q = some (.lst vs) → (∀ v ∈ vs, PapT H' v) → Q (.ref q) H') : nwL Q Hc vs := by
  refine ⟨Rs.sz (by omega), fun q hq => ?_⟩
  have up : Same Hc (upd Hc q (.lst vs)) := fun b o e => by rw [upd_ne (ne_of_none e hq)]; exact e
  exact k q _ (tb.ext up) up upd_same fun v hv => (h v hv).more (.same up)
theorem st_app {q : Addr} {vs : List V} {v : V} (tb : LamX.Tabs TT H) (e : H q = some (.lst vs)) (ap : ∀ y ∈ vs, PapT H y) (hv : PapT H v) (hl : vs.length ≤ 1000) (k : ∀ H', LamX.Tabs TT H' → H' q = some (.lst (vs ++ [v])) → (∀ y ∈ vs ++ [v], PapT H' y) → Q .non H') : rAppend (.ref q) [v] H Q := by
  have tu : TU H (upd H q (.lst (vs ++ [v]))) := fun a xs ea => by
    rw [upd_ne (ne_of ea e (by intro z; cases z))]; exact ea
  refine ⟨q, vs, v, rfl, rfl, e, Rs.sz' (by omega), k _ (Xc.tabs_upd tb e) upd_same fun y hy => ?_⟩
  rcases List.mem_append.mp hy with h | h
  · exact (ap y h).more tu
  · obtain rfl : y = v := by simpa using h
    exact hv.more tu
theorem st_cat {q p : Addr} {vs ws : List V} (tb : LamX.Tabs TT H) (e1 : H q = some (.lst vs)) (a1 : ∀ y ∈ vs, PapT H y) (e2 : H p = some (.lst ws)) (a2 : ∀ y ∈ ws, PapT H y) (hl : vs.length + ws.length ≤ 1000) (k : ∀ u H', LamX.Tabs TT H' → H' u = some (.lst (vs ++ ws)) → (∀ y ∈ vs ++ ws, PapT H' y) → Q (.ref u) H') : rCat (.ref q) (.ref p) H Q := by
  refine ⟨q, p, vs, ws, rfl, rfl, e1, e2, Rs.sz (by omega), fun u hu => ?_⟩
  have up : Same H (upd H u (.lst (vs ++ ws))) := fun b o e => by rw [upd_ne (ne_of_none e hu)]; exact e
  refine k u _ (tb.ext up) upd_same fun y hy => ?_
  rcases List.mem_append.mp hy with h | h
  · exact (a1 y h).more (.same up)
  · exact (a2 y h).more (.same up)
theorem ok_law (T : Txt K mg w A) (TB : ∀ p ∈ [(A.cc__law_anywhere_right, 537), (A.cc__law_moves_right, 530), (A.cc__law_refused_right, 523)], LamX.TabB base mg p.1 p.2) : FnG P w K mg base 13 A.f_law A.d_law ["_law_script"] (sp_law K) := by
  have G__law_begun : FnOk P w K mg base CX0 1 A.f__law_begun A.d__law_begun ["_law_script", "_law_turn"] (sp_begun K) := ok_begun T
  have G__law_draw : FnOk P w K mg base CX0 1 A.f__law_draw A.d__law_draw ["_law_state", "_law_many"] sp_draw := ok_draw T
  have G__law_merge : FnOk P w K mg base CX0 2 A.f__law_merge A.d__law_merge ["_law_state"] sp_lmerge := ok_lmerge T
  have G__law_spoilt : FnOk P w K mg base CX0 3 A.f__law_spoilt A.d__law_spoilt ["_law_state", "_law_paper"] sp_spoilt := ok_spoilt T
  have G__law_right : FnG P w K mg base 11 A.f__law_right A.d__law_right ["_law_things", "_law_thing"] sp_right := ok_right T TB
  refine defG T.c_law.F sc_law (fun vs H Q E h => ?_) (fun cdv Ar outer s H vs Q E cl hr h => ?_)
  · obtain ⟨a, ns, rfl, _⟩ := h; rfl
  · obtain ⟨sa, ns, rfl, hs, hn, tb, k⟩ := h
    refine ⟨_, (pss_cons (ps_for PassesOwn.never rfl (pi_range1 rfl T.n_range (pa_cons (pe_callB (call_max2 rfl) (by rfl) T.n_max PyProof.Rows.boot_max (pa_cons pe_int (pa_cons (pe_callB (call_min2 rfl) (by rfl) T.n_min PyProof.Rows.boot_min (pa_cons (pe_callB call_len_seq (by rfl) T.n_len PySem.boot_len (pa_cons (pv 0) pa_nil)) (pa_cons pe_int pa_nil))) pa_nil))) pa_nil)) (pg_name (i := 1) sc_law.nd rfl (Or.inl rfl))
        (pss_cons (ps_set (i := 2) sc_law.nd rfl (Or.inl rfl) (pe_call G__law_begun (hr.mono (by decide)) rfl T.c__law_begun.m T.c__law_begun.F.kp T.c__law_begun.b .nil pass0 (pa_cons (pv 0) (pa_cons (pv 1) pa_nil))))
        (pss_cons (ps_set (i := 3) sc_law.nd rfl (Or.inl rfl) (pe_call G__law_merge (hr.mono (by decide)) rfl T.c__law_merge.m T.c__law_merge.F.kp T.c__law_merge.b .nil pass0 (pa_cons (pv 2) pa_nil)))
        (pss_cons (ps_setLc (i := 4) (own := [("_law_k", 7)]) (g := gName 7) (tt := tYes) rfl sc_law.nd rfl rfl (by rfl) (pi_range1 rfl T.n_range (pa_cons (pe_op op_add (pe_ix ix_tup (pv 3) pe_int (fun _ _ => rfl)) (pe_call G__law_draw (hr.mono (by decide)) rfl T.c__law_draw.m T.c__law_draw.F.kp T.c__law_draw.b .nil pass0 (pa_cons (pv 2) (pa_cons pe_int pa_nil)))) pa_nil)) (blkOk_by (N := ["_law_script", "_law_turn", "_law_state", "_law_paper", "_law_things", "_law_again", "_law_some", "_law_k"]) (sc := defScope s_law) (by decide +kernel)) (fun _ _ _ _ _ => (pg_name (i := 7) sc_law.nd rfl (Or.inl rfl))) (fun _ _ _ _ _ => pts_nil) (fun _ _ _ _ _ => (pe_op op_mod (pe_op op_mul pe_int (pv 7)) pe_int)))
        (pss_cons (ps_if (PW.pt (pw_or (pt_not (pt_val (pe_callG G__law_right cl (hr.mono (by decide)) rfl T.c__law_right.m T.c__law_right.F.kp T.c__law_right.b .nil (pa_cons (pv 4) (pa_cons (pv 3) pa_nil))))) (pw_or (pt_not (pt_val (pe_callG G__law_right cl (hr.mono (by decide)) rfl T.c__law_right.m T.c__law_right.F.kp T.c__law_right.b .nil (pa_cons (pe_slice sl_list (pv 4) po_none (po_some (pe_op op_sub (pe_ix ix_tup (pv 3) pe_int (fun _ _ => rfl)) pe_int))) (pa_cons (pv 3) pa_nil))))) (pw_or1 (pt_not (pt_val (pe_callG G__law_right cl (hr.mono (by decide)) rfl T.c__law_right.m T.c__law_right.F.kp T.c__law_right.b .nil (pa_cons (pe_lst pa_nil) (pa_cons (pv 3) pa_nil)))))))))
          (pss_one (ps_ret pe_bl))
          pss_nil)
        (pss_one (ps_for PassesOwn.never rfl (pi_range1 rfl T.n_range (pa_cons pe_int pa_nil)) (pg_name (i := 5) sc_law.nd rfl (Or.inl rfl))
          (pss_one (ps_if (pt_not (pt_val (pe_callG G__law_right cl (hr.mono (by decide)) rfl T.c__law_right.m T.c__law_right.F.kp T.c__law_right.b .nil (pa_cons (pe_callTy call_list_of (by rfl) T.n_list (by decide +kernel) (pa_cons (pv 4) pa_nil)) (pa_cons (pe_call G__law_spoilt (hr.mono (by decide)) rfl T.c__law_spoilt.m T.c__law_spoilt.F.kp T.c__law_spoilt.b .nil pass0 (pa_cons (pv 2) (pa_cons (pv 3) pa_nil))) pa_nil)))))
            (pss_one (ps_ret pe_bl))
            pss_nil)))))))))
      (pss_cons (ps_if (pt_not (pt_val (pe_callG G__law_right cl (hr.mono (by decide)) rfl T.c__law_right.m T.c__law_right.F.kp T.c__law_right.b .nil (pa_cons (pe_listRg rfl rfl T.n_list (prg_1 rfl T.n_range pe_int)) (pa_cons (pe_tup (pa_cons pe_int (pa_cons pe_int (pa_cons pe_int (pa_cons (pe_tup (pa_cons pe_int (pa_cons pe_int pa_nil))) (pa_cons (pe_tup (pa_cons pe_int (pa_cons pe_int pa_nil))) pa_nil)))))) pa_nil)))))
        (pss_one (ps_ret pe_bl))
        pss_nil)
      (pss_cons (ps_set (i := 6) sc_law.nd rfl (Or.inl rfl) (pe_lst (pa_cons (pe_tup (pa_cons pe_int (pa_cons pe_int (pa_cons pe_int (pa_cons (pe_tup (pa_cons pe_int (pa_cons pe_int pa_nil))) (pa_cons (pe_tup (pa_cons pe_int pa_nil)) pa_nil)))))) (pa_cons (pe_tup (pa_cons pe_int (pa_cons pe_int (pa_cons pe_int (pa_cons (pe_tup (pa_cons pe_int (pa_cons pe_int pa_nil))) (pa_cons (pe_tup (pa_cons pe_int pa_nil)) pa_nil)))))) (pa_cons (pe_tup (pa_cons pe_int (pa_cons pe_int (pa_cons pe_int (pa_cons (pe_tup (pa_cons pe_int (pa_cons pe_int pa_nil))) (pa_cons (pe_tup (pa_cons pe_int (pa_cons pe_int pa_nil))) pa_nil)))))) pa_nil)))))
      (pss_cons (ps_expr (pe_bm PySem.F.plainAttrs_list PySem.F.slot_list_append PySem.F.type_list_append mt_append (pv 6) (pa_cons (pe_tup (pa_cons pe_int (pa_cons pe_int (pa_cons pe_int (pa_cons (pe_tup (pa_cons pe_int (pa_cons pe_int pa_nil))) (pa_cons (pe_tup (pa_cons pe_int (pa_cons pe_int (pa_cons pe_int (pa_cons pe_int pa_nil))))) pa_nil)))))) pa_nil)))
      (pss_cons (ps_set (i := 6) sc_law.nd rfl (Or.inl rfl) (pe_op op_cat (pv 6) (pe_lst (pa_cons (pe_tup (pa_cons pe_int (pa_cons pe_int (pa_cons pe_int (pa_cons (pe_tup (pa_cons pe_int (pa_cons pe_int pa_nil))) (pa_cons (pe_tup pa_nil) pa_nil)))))) (pa_cons (pe_tup (pa_cons pe_int (pa_cons pe_int (pa_cons pe_int (pa_cons (pe_tup (pa_cons pe_int (pa_cons pe_int pa_nil))) (pa_cons (pe_tup pa_nil) pa_nil)))))) (pa_cons (pe_tup (pa_cons pe_int (pa_cons pe_int (pa_cons pe_int (pa_cons (pe_tup (pa_cons pe_int (pa_cons pe_int pa_nil))) (pa_cons (pe_tup (pa_cons pe_int (pa_cons pe_int pa_nil))) pa_nil)))))) (pa_cons (pe_tup (pa_cons pe_int (pa_cons pe_int (pa_cons pe_int (pa_cons (pe_tup (pa_cons pe_int (pa_cons pe_int pa_nil))) (pa_cons (pe_tup (pa_cons pe_int (pa_cons pe_int pa_nil))) pa_nil)))))) pa_nil)))))))
      (pss_cons (ps_set (i := 6) sc_law.nd rfl (Or.inl rfl) (pe_op op_cat (pv 6) (pe_lst (pa_cons (pe_tup (pa_cons pe_int (pa_cons pe_int (pa_cons pe_int (pa_cons (pe_tup (pa_cons pe_int (pa_cons pe_int pa_nil))) (pa_cons (pe_tup (pa_cons pe_int (pa_cons pe_int pa_nil))) pa_nil)))))) (pa_cons (pe_tup (pa_cons pe_int (pa_cons pe_int (pa_cons pe_int (pa_cons (pe_tup (pa_cons (pe_un un_neg pe_int) (pa_cons pe_int pa_nil))) (pa_cons (pe_tup (pa_cons pe_int (pa_cons pe_int pa_nil))) pa_nil)))))) (pa_cons (pe_tup (pa_cons pe_int (pa_cons pe_int (pa_cons pe_int (pa_cons (pe_tup (pa_cons pe_int (pa_cons pe_int pa_nil))) (pa_cons (pe_tup (pa_cons pe_int (pa_cons pe_int pa_nil))) pa_nil)))))) pa_nil))))))
      (pss_cons (ps_expr (pe_bm PySem.F.plainAttrs_list PySem.F.slot_list_append PySem.F.type_list_append mt_append (pv 6) (pa_cons (pe_tup (pa_cons pe_int (pa_cons pe_int (pa_cons pe_int (pa_cons (pe_tup (pa_cons pe_int (pa_cons pe_int pa_nil))) (pa_cons (pe_tup (pa_cons pe_int (pa_cons pe_int (pa_cons pe_int (pa_cons pe_int pa_nil))))) pa_nil)))))) pa_nil)))
      (pss_cons (ps_for PassesOwn.never rfl (pi_list (pv 6)) (pg_name (i := 3) sc_law.nd rfl (Or.inl rfl))
        (pss_one (ps_if (pt_not (pt_val (pe_callG G__law_right cl (hr.mono (by decide)) rfl T.c__law_right.m T.c__law_right.F.kp T.c__law_right.b .nil (pa_cons (pe_lst (pa_cons pe_int (pa_cons pe_int (pa_cons pe_int (pa_cons pe_int (pa_cons pe_int (pa_cons pe_int pa_nil))))))) (pa_cons (pv 3) pa_nil)))))
          (pss_one (ps_ret pe_bl))
          pss_nil)))
      (pss_one (ps_ret (pe_callG G__law_right cl (hr.mono (by decide)) rfl T.c__law_right.m T.c__law_right.F.kp T.c__law_right.b .nil (pa_cons (pe_lst pa_nil) (pa_cons (pe_tup (pa_cons pe_int (pa_cons pe_int (pa_cons pe_int (pa_cons (pe_tup (pa_cons pe_int (pa_cons pe_int pa_nil))) (pa_cons (pe_tup pa_nil) pa_nil)))))) pa_nil))))))))))))), ?_⟩
    walk_at "st"
    walk_at "rd"
    refine ⟨sa, _, rfl, Or.inl hs, ?_⟩
    walk_at "rd"
    rw [List.length_map]
    refine fw_range (fun i σ H' => ∃ o1 o2 o3 o4 o5, σ = [some (.ref sa), o1, o2, o3, o4, o5, none, none] ∧ LamX.Tabs TT H' ∧ KeepN H H') ⟨_, _, _, _, _, rfl, tb, KeepN.refl⟩ ?_ ?_
    · rintro i σ H5 hi ⟨o1, o2, o3, o4, o5, rfl, tb5, k5⟩
      have hi12 : i < 12 := by
        split at hi <;> (try split at hi) <;> omega
      have S := Hs.start0 H5
      walk_at "rd"
      refine ⟨sa, ns, _, rfl, sq_ext hs k5, by omega, by omega, fun d l c H6 hd hd' hsm => ?_⟩
      obtain ⟨hd0, S6⟩ := S.more1 hsm hd hd'
      clear S
      walk_at "rd"
      refine ⟨d, l, c, 0, rfl, S6.get (by walk_at "mem"), by omega, by omega, fun p kq pq s m e a b pk l7 a7 H7 n hd7 old7 b1 b2 W Z => ?_⟩
      obtain ⟨n0, S7⟩ := S6.oneN .here (Or.inl hd0) old7 hd7 n
      simp only [List.cons_append, List.nil_append] at S7
      have nd7 := S7.nd
      clear S6
      have := W.s0; have := W.sm; have := W.me; have := Z.e1
      have e2 : atI [V.int s, V.int m, V.int e, V.ref kq, V.ref pq] 2 = some (V.int e) := atI_nat (j := 2) rfl
      walk_at "rd"
      rename_i r7 l8 a8 H8 S8 r0 r1 r2 r3
      clear S7
      refine lcw_range S8 (fun i acc => ∃ zs : List Int, acc = zs.map V.int ∧ zs.length = i) ⟨[], rfl, rfl⟩ ?_ ?_
      · rintro D j acc H9 hj ⟨zs, rfl, hz⟩ hD S9
        have hj2 : (j : Int) ≤ 800 := by omega
        walk_at "lc"
        rename_i y1 y2 y3 y4
        exact rd_lcPut S9 (by walk_at "chg") hD (Rs.sz' (by rw [List.length_map]; omega)) (by walk_at "sub") ⟨zs ++ [y1], by simp, by simp [hz]⟩
      · rintro tq acc H9 ⟨zs, rfl, hzl⟩ htq S9
        clear S8
        have hzl2 : (zs.length : Int) = e + r7 := by omega
        have tb9 : LamX.Tabs TT H9 := tb5.ext S9.same
        have S10 : Hs (noT H5) [] H9 [(tq, .lst (zs.map V.int)), (p, .tup [.int s, .int m, .int e, .ref kq, .ref pq]), (pq, .tup (pk.map V.int)), (kq, .tup [.int a, .int b]), (d, .dK (drw l8 c a8))] := Xc.Hs.toT S9
        clear S9
        have nkq : kq ≠ pq := fun z => by
          simp [z] at nd7
        have ma : ∀ {H' L'}, Hs (noT H5) [] H' L' → (p, HO.tup [.int s, .int m, .int e, .ref kq, .ref pq]) ∈ L' → (pq, HO.tup (pk.map V.int)) ∈ L' → (kq, HO.tup [.int a, .int b]) ∈ L' → MA H' p kq pq s m e a b pk := fun S' m1 m2 m3 => ⟨S'.get m1, S'.get m3, S'.get m2, nkq⟩
        have pl := Z.len
        walk_at "rd"
        have R10 := ma S10 (by walk_at "mem") (by walk_at "mem") (by walk_at "mem")
        refine ⟨tq, .ref p, zs, rfl, S10.get (by walk_at "mem"), by omega, (ma_th (R := R10) (W := W) (by omega)).1, (ma_th (R := R10) (W := W) (by omega)).2, tb9, fun H11 k11 tb11 => ?_⟩
        have S11 := Xc.Hs.extN S10 (fun b o e n => k11 b o e n) (by simp) (by simp)
        have U := S11.refull
        have S11' := fun (_ : True) => S11
        clear S10 S11
        walk_at "rd"
        walk_at "if0"
        rename_i g H12 hg U12
        have hcl : (cutI zs none (some (e - 1))).length ≤ zs.length := by
          unfold cutI
          rw [List.length_take, List.length_drop]
          omega
        obtain ⟨S12, tb12⟩ := seg0 (S11' trivial) tb11 U12
        clear U U12 S11'
        have R12 := ma S12 (by walk_at "mem") (by walk_at "mem") (by walk_at "mem")
        refine ⟨g, .ref p, _, rfl, S12.get (by walk_at "mem"), by omega, (ma_th (R := R12) (W := W) (by omega)).1, (ma_th (R := R12) (W := W) (by omega)).2, tb12, fun H13 k13 tb13 => ?_⟩
        have S13 := Xc.Hs.extN S12 (fun b o e n => k13 b o e n) (by simp) (by simp)
        have U := S13.refull
        have S13' := fun (_ : True) => S13
        clear S12 S13
        walk_at "rd"
        walk_at "if0"
        rename_i g2 H14 hg2 U14
        obtain ⟨S14, tb14⟩ := seg0 (S13' trivial) tb13 U14
        clear U U14 S13'
        have R14 := ma S14 (by walk_at "mem") (by walk_at "mem") (by walk_at "mem")
        refine ⟨g2, .ref p, [], rfl, S14.get (o := .lst []) (by walk_at "mem"), by simp, (ma_th (R := R14) (W := W) (by omega)).1, (ma_th (R := R14) (W := W) (by omega)).2, tb14, fun H15 k15 tb15 => ?_⟩
        have S15 : Hs (noT H5) [] H15 [(tq, .lst (zs.map V.int)), (p, .tup [.int s, .int m, .int e, .ref kq, .ref pq]), (pq, .tup (pk.map V.int)), (kq, .tup [.int a, .int b]), (d, .dK (drw l8 c a8))] := (Xc.Hs.extN S14 (fun b o e n => k15 b o e n) (by simp) (by simp)).sub (by walk_at "sub")
        clear S14
        walk_at "rd"
        walk_at "if0"
        refine fw_range (fun i1 σ H' => ∃ (v1 o5 : Option V) (l' a' : Int), σ = [some (.ref sa), v1, some (.ref d), some (.ref p), some (.ref tq), o5, none, none] ∧ LamX.Tabs TT H' ∧ Hs (noT H5) [] H' [(tq, .lst (zs.map V.int)), (p, .tup [.int s, .int m, .int e, .ref kq, .ref pq]), (pq, .tup (pk.map V.int)), (kq, .tup [.int a, .int b]), (d, .dK (drw l' c a'))] ∧ 0 ≤ a' ∧ a' ≤ 1000 + 10 * i1) ⟨_, _, l8, a8, rfl, tb15, S15, by omega, by omega⟩ ?_ ?_
        · rintro i1 σ H16 hi1 ⟨v1, o5, l1, a1, rfl, tb16, S16, ha0, ha1⟩
          have hi10 : i1 < 10 := by omega
          have hd16 := S16.get (a := d) (o := .dK (drw l1 c a1)) (by walk_at "mem")
          have hdn : noT H5 d = none := noT_none hd
          clear S15
          have U := S16.refullM (M' := [d]) (by simp)
          walk_at "rd"
          intro kp hkp
          obtain ⟨_, U2⟩ := U.new hkp (.lst (zs.map V.int))
          generalize upd H16 kp (.lst (zs.map V.int)) = H17 at U2
          clear U
          walk_at "rd"
          have R17 : MA H17 p kq pq s m e a b pk := ⟨U2.get (by walk_at "mem"), U2.get (by walk_at "mem"), U2.get (by walk_at "mem"), nkq⟩
          refine ⟨d, p, kq, pq, l1, c, a1, s, m, e, a, b, pk, rfl, U2.get (by walk_at "mem"), by omega, by omega, R17, W, Z, fun v l2 a2 H18 hd18 old18 th ap c1 c2 => ?_⟩
          have U3 := U2.one (o' := .dK (drw l2 c a2)) (by walk_at "chg") (.inr (by simp)) old18 hd18
          clear U2
          have S18 : Hs (noT H5) [] H18 _ := Hs.trans S16 U3 (fun b hb => by
            obtain rfl : b = d := by simpa using hb
            exact .inl hdn)
          have tb18 : LamX.Tabs TT H18 := tabs_ext tb16 fun b o e n1 _ _ => U3.old1 e fun z => by rw [z, hd16] at e; exact n1 _ (Option.some.inj e).symm
          clear U3 S16
          refine ⟨kp, v, zs, rfl, S18.get (by walk_at "mem"), by omega, th, ap, tb18, fun H19 k19 tb19 => ?_⟩
          have S19 := Xc.Hs.extN S18 (fun b o e n => k19 b o e n) (by simp) (by simp)
          walk_at "rd"
          walk_at "if0"
          exact ⟨_, _, l2, a2, rfl, tb19, S19.sub (by walk_at "sub"), by omega, by omega⟩
        · rintro σ H16 ⟨v1, o5, l1, a1, rfl, tb16, S16, _, _⟩
          walk_at "rd"
          exact ⟨_, _, _, _, _, rfl, tb16, k5.trans fun b u e n => S16.old b u (noT_some e n) (by simp)⟩
    · rintro σ H5 ⟨o1, o2, o3, o4, o5, rfl, tb5, k5⟩
      have S := Hs.start0 H5
      clear k5 tb
      walk_at "rd"
      refine rd_lstRg ?_
      walk_at "rd"
      refine rd_rg1 ?_
      walk_at "rd"
      refine ⟨RgOk.of_le (by decide) (by decide) (by decide) (by decide), fun r6 hr6 => ?_⟩
      obtain ⟨_, S6⟩ := S.new hr6 (.lst (rgV 0 4096))
      generalize upd H5 r6 (.lst (rgV 0 4096)) = H6 at S6
      have tb6 := tb5.ext S6.same
      have er : rgV 0 4096 = ((List.range 4096).map fun i : Nat => (0 + (i : Nat) : Int)).map V.int := by
        unfold rgV
        rw [List.map_map]
        rfl
      rw [er] at S6
      have hr66 := S6.get (a := r6) (by walk_at "mem")
      clear S
      have S6' := fun (_ : True) => S6
      clear S6
      walk_at "rdP"
      rename_i p7 H7 tb7 sm7 pap7
      refine ⟨r6, _, _, rfl, sm7 _ _ hr66, by simp, pap7.th.1, pap7.th.2, tb7, fun H8 k8 tb8 => ?_⟩
      clear S6' tb6 tb5 tb7 pap7
      walk_at "rdP"
      walk_at "if0P"
      rename_i pa Ha tba sma papa pb Hb tbb smb papb pc Hc tbc smc papc
      refine st_new tbc (fun v hv => ?_) (by simp) fun q1 G1 t1 _ e1 a1 => ?_
      · simp only [List.mem_cons, List.not_mem_nil, or_false] at hv
        rcases hv with rfl | rfl | rfl
        · exact papa.more (.same (same_trans smb smc))
        · exact papb.more (.same smc)
        · exact papc
      clear papa papb papc sma smb smc tba tbb tbc
      walk_at "rd"
      refine Rs.rd_tyL (Hs.start1 e1 [] (.inl rfl)) (by walk_at "mem") ?_
      walk_at "rdP"
      rename_i pd G2 t2 m2 pap2
      refine st_app t2 (m2 _ _ e1) (fun y hy => (a1 y hy).more (.same m2)) pap2 (by simp) fun G3 t3 e3 a3 => ?_
      clear a1 pap2 t2 m2 e1 t1
      walk_at "rdP"
      rename_i pa Ha tba sma papa pb Hb tbb smb papb pc Hc tbc smc papc pd Hd tbd smd papd
      refine st_new tbd (fun v hv => ?_) (by simp) fun q4 G4 t4 m4 e4 a4 => ?_
      · simp only [List.mem_cons, List.not_mem_nil, or_false] at hv
        rcases hv with rfl | rfl | rfl | rfl
        · exact papa.more (.same (same_trans smb (same_trans smc smd)))
        · exact papb.more (.same (same_trans smc smd))
        · exact papc.more (.same smd)
        · exact papd
      have m34 := same_trans sma (same_trans smb (same_trans smc (same_trans smd m4)))
      refine st_cat t4 (m34 _ _ e3) (fun y hy => (a3 y hy).more (.same m34)) e4 a4 (by simp) fun q5 G5 t5 e5 a5 => ?_
      clear papa papb papc papd sma smb smc smd tba tbb tbc tbd m34 a4 e4 t4 m4 a3 e3 t3
      walk_at "rdP"
      rename_i pa Ha tba sma papa pb Hb tbb smb papb pc Hc tbc smc papc
      refine st_new tbc (fun v hv => ?_) (by simp) fun q6 G6 t6 m6 e6 a6 => ?_
      · simp only [List.mem_cons, List.not_mem_nil, or_false] at hv
        rcases hv with rfl | rfl | rfl
        · exact papa.more (.same (same_trans smb smc))
        · exact papb.more (.same smc)
        · exact papc
      have m56 := same_trans sma (same_trans smb (same_trans smc m6))
      refine st_cat t6 (m56 _ _ e5) (fun y hy => (a5 y hy).more (.same m56)) e6 a6 (by simp) fun q7 G7 t7 e7 a7 => ?_
      clear papa papb papc sma smb smc tba tbb tbc m56 a6 e6 t6 m6 a5 e5 t5
      walk_at "rd"
      refine Rs.rd_tyL (Hs.start1 e7 [] (.inl rfl)) (by walk_at "mem") ?_
      walk_at "rdP"
      rename_i pd G8 t8 m8 pap8
      refine st_app t8 (m8 _ _ e7) (fun y hy => (a7 y hy).more (.same m8)) pap8 (by simp) fun G9 t9 e9 a9 => ?_
      clear a7 pap8 t8 m8 e7 t7
      obtain ⟨vs, e9, a9⟩ : ∃ vs, G9 q7 = some (.lst vs) ∧ ∀ y ∈ vs, PapT G9 y := ⟨_, e9, a9⟩
      have S := Hs.start1 e9 [] (.inl rfl)
      walk_at "rd"
      refine fw_list (xs := vs) (fun i σ H' => ∃ o3, σ = [some (.ref sa), o1, o2, o3, o4, o5, some (.ref q7), none] ∧ LamX.Tabs TT H' ∧ KeepN G9 H') ⟨_, rfl, t9, KeepN.refl⟩ (fun i σ H' _ ⟨_, _, _, kk⟩ => SqL.of (kk _ _ e9 (fun _ z => by cases z))) ?_ ?_
      · rintro i y σ H' hi ⟨o3, rfl, t', k'⟩
        have hy := (a9 y (List.mem_of_getElem? hi)).more (TU.keep k')
        clear S
        have S := Hs.start0 H'
        walk_at "rd"
        rename_i g H2 hg S2
        have hy2 := (hy.more (.same S2.same)).th
        refine ⟨g, y, [5, 3, 1, 4, 2, 0], rfl, S2.get (o := .lst [.int 5, .int 3, .int 1, .int 4, .int 2, .int 0]) (by walk_at "mem"), by simp, hy2.1, hy2.2, t'.ext S2.same, fun H3 k3 t3 => ?_⟩
        walk_at "rd"
        walk_at "if0"
        exact ⟨_, rfl, t3, k'.trans ((KeepN.same S2.same).trans k3)⟩
      · rintro σ H' ⟨o3, rfl, t', k'⟩
        clear S
        have S := Hs.start0 H'
        walk_at "rd"
        rename_i g0 J1 hg0 S1 k1 J2 hk1 S2 q1 J3 hq1 S3 p1 J4 hp1 S4
        have nd4 := S4.nd
        have nk : k1 ≠ q1 := fun z => by
          simp [z] at nd4
        have pap : PapT J4 (.ref p1) := ⟨p1, k1, q1, 4095, 4096, 4097, [.int 1, .int 1], [], rfl, S4.get (by walk_at "mem"), S4.get (by walk_at "mem"), S4.get (by walk_at "mem"), nk, by decide +kernel, sm_all (by decide +kernel), sm_all (by decide +kernel)⟩
        exact ⟨g0, .ref p1, [], rfl, S4.get (o := .lst []) (by walk_at "mem"), by simp, pap.th.1, pap.th.2, t'.ext S4.same, fun H3 k3 t3 => k H3⟩
theorem end_law (K : PySem.W.Frag) (H : Hp) (a : Addr) (ns : List Int) (hn : ns.length ≤ 63) (_ : ∀ z ∈ ns, Builtin.Int.intBits z ≤ 1048576) (hT : ∀ p ∈ [537, 530, 523], H p = some (.tbl #[])) (h : SqL K H a (ns.map V.int)) : sp_law K [.ref a] H (fun v _ => v = .bl true) E0 :=
  ⟨a, ns, rfl, h, hn, fun p hp => by
    simp only [TT, List.mem_cons, List.not_mem_nil, or_false] at hp
    rcases hp with rfl | rfl | rfl
    · exact LamX.TabS.nil (hT _ (by simp))
    · exact LamX.TabS.nil (hT _ (by simp))
    · exact LamX.TabS.nil (hT _ (by simp)), fun _ => rfl⟩
end
end K30

namespace K30
end K30
open PySem PySem.W PyProof.Rows
set_option maxRecDepth 100000 in
set_option maxHeartbeats 0 in
theorem PySem.Challenge.cw_runsort_k30_merges_that_fit_holds : PySem.Challenge.rw_runsort_k30_merges_that_fit.Holds := by
  w_on; o_law; k_head; (case hw => w_witness2)
  k_fill
  refine Xc.walkGT (ts := [537, 530, 523]) (n := 63) (k := 13) (st := K30.s_law) (x := "_law_script") (sp := K30.sp_law) rfl (by decide) rfl ⟨rfl, by decide, by decide⟩ (fun w h Y => PySem.W.km_in_of Y) (fun w h Y => PySem.W.km_tabs_of Y) rfl (fun _ _ _ _ _ _ _ => rfl) ?F K30.end_law
  case F =>
    intro w mg h KX G
    obtain ⟨A, T⟩ : ∃ A, K30.Txt _ mg w A := by
      refine' K30.all_mk (w := w) KX G ?a_SortError ?ini_SortError ?dic_SortError ?bex_SortError ?kpc_SortError ?xcl_SortError ?xga_SortError ?xgg_SortError ?xha_SortError ?xhn_SortError ?xht_SortError ?xhm_SortError ?rd_SortError ?rg_SortError ?a_BadPaper ?ini_BadPaper ?ovr_BadPaper ?dic_BadPaper ?sav_BadPaper ?bex_BadPaper ?tyc_BadPaper ?kpc_BadPaper ?xcl_BadPaper ?xga_BadPaper ?xgg_BadPaper ?xha_BadPaper ?xhn_BadPaper ?xht_BadPaper ?xhm_BadPaper ?tk_BadPaper_at ?na_BadPaper_at ?a_BadPaper___init__ ?y_BadPaper___init__ ?l_BadPaper___init__ ?e_BadPaper___init__ ?k_BadPaper___init__ ?v_BadPaper ?a_BadNumber ?a_BadAnswer ?a_BadKind ?a_BadLine ?a_BadText ?a_Busy ?a_Flawed ?a_Gone ?a_NoSuch ?a_Stopped ?a_TooMany ?a_Order ?pg_Order ?hd_Order ?po_Order ?sa_Order ?mk_Order ?kc_Order ?na_Order_own_rule ?na_Order_times_asked ?a_Order___init__ ?i_Order___init__ ?l_Order___init__ ?e_Order___init__ ?k_Order___init__ ?a_Order_counted ?i_Order_counted ?l_Order_counted ?e_Order_counted ?k_Order_counted ?a_Order_ahead ?i_Order_ahead ?l_Order_ahead ?e_Order_ahead ?k_Order_ahead ?a_is_whole ?l_is_whole ?e_is_whole ?k_is_whole ?dd_is_whole ?a_bits ?l_bits ?e_bits ?k_bits ?a_need_row ?l_need_row ?e_need_row ?k_need_row ?a_need_order ?l_need_order ?e_need_order ?k_need_order ?a_need_gallop ?l_need_gallop ?e_need_gallop ?k_need_gallop ?a_is_kept ?l_is_kept ?e_is_kept ?k_is_kept ?a_are_picks ?l_are_picks ?e_are_picks ?k_are_picks ?a_is_merge ?l_is_merge ?e_is_merge ?k_is_merge ?dd_is_merge ?a_need_merge ?l_need_merge ?e_need_merge ?k_need_merge ?dd_need_merge ?a_pick_bound ?l_pick_bound ?e_pick_bound ?k_pick_bound ?a_merge_bound ?l_merge_bound ?e_merge_bound ?k_merge_bound ?dd_merge_bound ?a_next_gallop ?l_next_gallop ?e_next_gallop ?k_next_gallop ?dd_next_gallop ?a_moved_things ?l_moved_things ?e_moved_things ?k_moved_things ?a_move_merge ?l_move_merge ?e_move_merge ?k_move_merge ?a_move_back ?l_move_back ?e_move_back ?k_move_back ?a_fits_there ?l_fits_there ?e_fits_there ?k_fits_there ?a_comes_out ?l_comes_out ?e_comes_out ?k_comes_out ?a_front_stays ?l_front_stays ?e_front_stays ?k_front_stays ?a_end_stays ?l_end_stays ?e_end_stays ?k_end_stays ?a_second_is_so ?l_second_is_so ?e_second_is_so ?k_second_is_so ?a_first_is_so ?l_first_is_so ?e_first_is_so ?k_first_is_so ?a_check_merge ?l_check_merge ?e_check_merge ?k_check_merge ?a__law_begun ?l__law_begun ?e__law_begun ?k__law_begun ?a__law_draw ?l__law_draw ?e__law_draw ?k__law_draw ?a__law_is_whole ?l__law_is_whole ?e__law_is_whole ?k__law_is_whole ?a__law_fits ?l__law_fits ?e__law_fits ?k__law_fits ?a__law_merge ?l__law_merge ?e__law_merge ?k__law_merge ?a__law_put ?l__law_put ?e__law_put ?k__law_put ?a__law_odd_list ?l__law_odd_list ?e__law_odd_list ?k__law_odd_list ?a__law_spoilt ?l__law_spoilt ?e__law_spoilt ?k__law_spoilt ?a__law_word ?l__law_word ?e__law_word ?k__law_word ?a__law_said ?l__law_said ?e__law_said ?k__law_said ?a__law_moved ?l__law_moved ?e__law_moved ?k__law_moved ?a__law_refused_right ?l__law_refused_right ?e__law_refused_right ?nt__law_refused_right ?ht__law_refused_right ?k__law_refused_right ?a__law_moves_right ?l__law_moves_right ?e__law_moves_right ?nt__law_moves_right ?ht__law_moves_right ?k__law_moves_right ?a__law_anywhere_right ?l__law_anywhere_right ?e__law_anywhere_right ?nt__law_anywhere_right ?ht__law_anywhere_right ?k__law_anywhere_right ?a__law_right ?l__law_right ?e__law_right ?k__law_right ?a_law ?l_law ?e_law ?k_law ?g_MOST_THINGS ?r_MOST_THINGS ?g_GALLOP ?r_GALLOP ?g_MOST_GALLOP ?r_MOST_GALLOP ?x_stat ?x_any ?x_kit ?x_i_Order ?x_oha ?x_ohn ?x_oht ?x_ohm ?z_len ?z_min ?z_max ?z_range ?z_repr ?z_isinstance ?z_int ?z_bool ?z_tuple ?z_list ?z_enumerate ?z_sum ?z_all
      (case a_SortError => k_is)
      (case ini_SortError => first | k_is | kx_is | kts_exm | kit_is | kernel_rfl)
      (case dic_SortError => first | k_is | kx_is | kts_exm | kit_is | kernel_rfl)
      (case bex_SortError => first | k_is | kx_is | kts_exm | kit_is | kernel_rfl)
      (case kpc_SortError => first | k_is | kx_is | kts_exm | kit_is | kernel_rfl)
      (case xcl_SortError => first | k_is | kx_is | kts_exm | kit_is | kernel_rfl)
      (case xga_SortError => first | k_is | kx_is | kts_exm | kit_is | kernel_rfl)
      (case xgg_SortError => first | k_is | kx_is | kts_exm | kit_is | kernel_rfl)
      (case xha_SortError => first | k_is | kx_is | kts_exm | kit_is | kernel_rfl)
      (case xhn_SortError => first | k_is | kx_is | kts_exm | kit_is | kernel_rfl)
      (case xht_SortError => first | k_is | kx_is | kts_exm | kit_is | kernel_rfl)
      (case xhm_SortError => first | k_is | kx_is | kts_exm | kit_is | kernel_rfl)
      (case rd_SortError => first | k_is | kx_is | kts_exm | kit_is | kernel_rfl)
      (case rg_SortError => first | k_is | kx_is | kts_exm | kit_is | kernel_rfl)
      (case a_BadPaper => k_is)
      (case ini_BadPaper => first | k_is | kx_is | kts_exm | kit_is | kernel_rfl)
      (case ovr_BadPaper => first | k_is | kx_is | kts_exm | kit_is | kernel_rfl)
      (case dic_BadPaper => first | k_is | kx_is | kts_exm | kit_is | kernel_rfl)
      (case sav_BadPaper => first | k_is | kx_is | kts_exm | kit_is | kernel_rfl)
      (case bex_BadPaper => first | k_is | kx_is | kts_exm | kit_is | kernel_rfl)
      (case tyc_BadPaper => first | k_is | kx_is | kts_exm | kit_is | kernel_rfl)
      (case kpc_BadPaper => first | k_is | kx_is | kts_exm | kit_is | kernel_rfl)
      (case xcl_BadPaper => first | k_is | kx_is | kts_exm | kit_is | kernel_rfl)
      (case xga_BadPaper => first | k_is | kx_is | kts_exm | kit_is | kernel_rfl)
      (case xgg_BadPaper => first | k_is | kx_is | kts_exm | kit_is | kernel_rfl)
      (case xha_BadPaper => first | k_is | kx_is | kts_exm | kit_is | kernel_rfl)
      (case xhn_BadPaper => first | k_is | kx_is | kts_exm | kit_is | kernel_rfl)
      (case xht_BadPaper => first | k_is | kx_is | kts_exm | kit_is | kernel_rfl)
      (case xhm_BadPaper => first | k_is | kx_is | kts_exm | kit_is | kernel_rfl)
      (case tk_BadPaper_at => first | k_is | kx_is | kts_exm | kit_is | kernel_rfl)
      (case na_BadPaper_at => first | k_is | kx_is | kts_exm | kit_is | kernel_rfl)
      (case a_BadPaper___init__ => k_is)
      (case y_BadPaper___init__ => k_is)
      (case l_BadPaper___init__ => k_is)
      (case e_BadPaper___init__ => k_is)
      (case k_BadPaper___init__ => k_is)
      (case v_BadPaper => first | k_is | kx_is | kts_exm | kit_is | kernel_rfl)
      (case a_BadNumber => k_is)
      (case a_BadAnswer => k_is)
      (case a_BadKind => k_is)
      (case a_BadLine => k_is)
      (case a_BadText => k_is)
      (case a_Busy => k_is)
      (case a_Flawed => k_is)
      (case a_Gone => k_is)
      (case a_NoSuch => k_is)
      (case a_Stopped => k_is)
      (case a_TooMany => k_is)
      (case a_Order => k_is)
      (case pg_Order => k_is)
      (case hd_Order => k_is)
      (case po_Order => k_is)
      (case sa_Order => k_is)
      (case mk_Order => k_is)
      (case kc_Order => k_is)
      (case na_Order_own_rule => k_is)
      (case na_Order_times_asked => k_is)
      (case a_Order___init__ => k_is)
      (case i_Order___init__ => k_is)
      (case l_Order___init__ => k_is)
      (case e_Order___init__ => k_is)
      (case k_Order___init__ => k_is)
      (case a_Order_counted => k_is)
      (case i_Order_counted => k_is)
      (case l_Order_counted => k_is)
      (case e_Order_counted => k_is)
      (case k_Order_counted => k_is)
      (case a_Order_ahead => k_is)
      (case i_Order_ahead => k_is)
      (case l_Order_ahead => k_is)
      (case e_Order_ahead => k_is)
      (case k_Order_ahead => k_is)
      (case a_is_whole => k_is)
      (case l_is_whole => k_is)
      (case e_is_whole => k_is)
      (case k_is_whole => k_is)
      (case dd_is_whole => (intro q hq; simp only [List.mem_cons, List.not_mem_nil, or_false] at hq; rcases hq with rfl | rfl <;> (dsimp only; refine' Rs.ex_u ?_ ?_; rotate_left; k_is; first | exact ⟨_, rfl⟩ | exact rfl)))
      (case a_bits => k_is)
      (case l_bits => k_is)
      (case e_bits => k_is)
      (case k_bits => k_is)
      (case a_need_row => k_is)
      (case l_need_row => k_is)
      (case e_need_row => k_is)
      (case k_need_row => k_is)
      (case a_need_order => k_is)
      (case l_need_order => k_is)
      (case e_need_order => k_is)
      (case k_need_order => k_is)
      (case a_need_gallop => k_is)
      (case l_need_gallop => k_is)
      (case e_need_gallop => k_is)
      (case k_need_gallop => k_is)
      (case a_is_kept => k_is)
      (case l_is_kept => k_is)
      (case e_is_kept => k_is)
      (case k_is_kept => k_is)
      (case a_are_picks => k_is)
      (case l_are_picks => k_is)
      (case e_are_picks => k_is)
      (case k_are_picks => k_is)
      (case a_is_merge => k_is)
      (case l_is_merge => k_is)
      (case e_is_merge => k_is)
      (case k_is_merge => k_is)
      (case dd_is_merge => (intro q hq; simp only [List.mem_cons, List.not_mem_nil, or_false] at hq; rcases hq with rfl <;> (dsimp only; refine' Rs.ex_u ?_ ?_; rotate_left; k_is; first | exact ⟨_, rfl⟩ | exact rfl)))
      (case a_need_merge => k_is)
      (case l_need_merge => k_is)
      (case e_need_merge => k_is)
      (case k_need_merge => k_is)
      (case dd_need_merge => (intro q hq; simp only [List.mem_cons, List.not_mem_nil, or_false] at hq; rcases hq with rfl <;> (dsimp only; refine' Rs.ex_u ?_ ?_; rotate_left; k_is; first | exact ⟨_, rfl⟩ | exact rfl)))
      (case a_pick_bound => k_is)
      (case l_pick_bound => k_is)
      (case e_pick_bound => k_is)
      (case k_pick_bound => k_is)
      (case a_merge_bound => k_is)
      (case l_merge_bound => k_is)
      (case e_merge_bound => k_is)
      (case k_merge_bound => k_is)
      (case dd_merge_bound => (intro q hq; simp only [List.mem_cons, List.not_mem_nil, or_false] at hq; rcases hq with rfl <;> (dsimp only; refine' Rs.ex_u ?_ ?_; rotate_left; k_is; first | exact ⟨_, rfl⟩ | exact rfl)))
      (case a_next_gallop => k_is)
      (case l_next_gallop => k_is)
      (case e_next_gallop => k_is)
      (case k_next_gallop => k_is)
      (case dd_next_gallop => (intro q hq; simp only [List.mem_cons, List.not_mem_nil, or_false] at hq; rcases hq with rfl <;> (dsimp only; refine' Rs.ex_u ?_ ?_; rotate_left; k_is; first | exact ⟨_, rfl⟩ | exact rfl)))
      (case a_moved_things => k_is)
      (case l_moved_things => k_is)
      (case e_moved_things => k_is)
      (case k_moved_things => k_is)
      (case a_move_merge => k_is)
      (case l_move_merge => k_is)
      (case e_move_merge => k_is)
      (case k_move_merge => k_is)
      (case a_move_back => k_is)
      (case l_move_back => k_is)
      (case e_move_back => k_is)
      (case k_move_back => k_is)
      (case a_fits_there => k_is)
      (case l_fits_there => k_is)
      (case e_fits_there => k_is)
      (case k_fits_there => k_is)
      (case a_comes_out => k_is)
      (case l_comes_out => k_is)
      (case e_comes_out => k_is)
      (case k_comes_out => k_is)
      (case a_front_stays => k_is)
      (case l_front_stays => k_is)
      (case e_front_stays => k_is)
      (case k_front_stays => k_is)
      (case a_end_stays => k_is)
      (case l_end_stays => k_is)
      (case e_end_stays => k_is)
      (case k_end_stays => k_is)
      (case a_second_is_so => k_is)
      (case l_second_is_so => k_is)
      (case e_second_is_so => k_is)
      (case k_second_is_so => k_is)
      (case a_first_is_so => k_is)
      (case l_first_is_so => k_is)
      (case e_first_is_so => k_is)
      (case k_first_is_so => k_is)
      (case a_check_merge => k_is)
      (case l_check_merge => k_is)
      (case e_check_merge => k_is)
      (case k_check_merge => k_is)
      (case a__law_begun => k_is)
      (case l__law_begun => k_is)
      (case e__law_begun => k_is)
      (case k__law_begun => k_is)
      (case a__law_draw => k_is)
      (case l__law_draw => k_is)
      (case e__law_draw => k_is)
      (case k__law_draw => k_is)
      (case a__law_is_whole => k_is)
      (case l__law_is_whole => k_is)
      (case e__law_is_whole => k_is)
      (case k__law_is_whole => k_is)
      (case a__law_fits => k_is)
      (case l__law_fits => k_is)
      (case e__law_fits => k_is)
      (case k__law_fits => k_is)
      (case a__law_merge => k_is)
      (case l__law_merge => k_is)
      (case e__law_merge => k_is)
      (case k__law_merge => k_is)
      (case a__law_put => k_is)
      (case l__law_put => k_is)
      (case e__law_put => k_is)
      (case k__law_put => k_is)
      (case a__law_odd_list => k_is)
      (case l__law_odd_list => k_is)
      (case e__law_odd_list => k_is)
      (case k__law_odd_list => k_is)
      (case a__law_spoilt => k_is)
      (case l__law_spoilt => k_is)
      (case e__law_spoilt => k_is)
      (case k__law_spoilt => k_is)
      (case a__law_word => k_is)
      (case l__law_word => k_is)
      (case e__law_word => k_is)
      (case k__law_word => k_is)
      (case a__law_said => k_is)
      (case l__law_said => k_is)
      (case e__law_said => k_is)
      (case k__law_said => k_is)
      (case a__law_moved => k_is)
      (case l__law_moved => k_is)
      (case e__law_moved => k_is)
      (case k__law_moved => k_is)
      (case a__law_refused_right => k_is)
      (case l__law_refused_right => k_is)
      (case e__law_refused_right => k_is)
      (case nt__law_refused_right => first | k_is | kernel_rfl)
      (case ht__law_refused_right => first | k_is | kernel_rfl)
      (case k__law_refused_right => k_is)
      (case a__law_moves_right => k_is)
      (case l__law_moves_right => k_is)
      (case e__law_moves_right => k_is)
      (case nt__law_moves_right => first | k_is | kernel_rfl)
      (case ht__law_moves_right => first | k_is | kernel_rfl)
      (case k__law_moves_right => k_is)
      (case a__law_anywhere_right => k_is)
      (case l__law_anywhere_right => k_is)
      (case e__law_anywhere_right => k_is)
      (case nt__law_anywhere_right => first | k_is | kernel_rfl)
      (case ht__law_anywhere_right => first | k_is | kernel_rfl)
      (case k__law_anywhere_right => k_is)
      (case a__law_right => k_is)
      (case l__law_right => k_is)
      (case e__law_right => k_is)
      (case k__law_right => k_is)
      (case a_law => k_is)
      (case l_law => k_is)
      (case e_law => k_is)
      (case k_law => k_is)
      (case g_MOST_THINGS => k_is)
      (case r_MOST_THINGS => first | exact ⟨_, rfl⟩ | exact rfl)
      (case g_GALLOP => k_is)
      (case r_GALLOP => first | exact ⟨_, rfl⟩ | exact rfl)
      (case g_MOST_GALLOP => k_is)
      (case r_MOST_GALLOP => first | exact ⟨_, rfl⟩ | exact rfl)
      (case x_stat => first | k_is | kx_is | kts_exm | kit_is | kernel_rfl)
      (case x_any => first | k_is | kx_is | kts_exm | kit_is | kernel_rfl)
      (case x_kit => first | k_is | kx_is | kts_exm | kit_is | kernel_rfl)
      (case x_i_Order => first | k_is | kx_is | kts_exm | kit_is | kernel_rfl)
      (case x_oha => first | k_is | kx_is | kts_exm | kit_is | kernel_rfl)
      (case x_ohn => first | k_is | kx_is | kts_exm | kit_is | kernel_rfl)
      (case x_oht => first | k_is | kx_is | kts_exm | kit_is | kernel_rfl)
      (case x_ohm => first | k_is | kx_is | kts_exm | kit_is | kernel_rfl)
      (case z_len => k_is)
      (case z_min => k_is)
      (case z_max => k_is)
      (case z_range => k_is)
      (case z_repr => k_is)
      (case z_isinstance => k_is)
      (case z_int => k_is)
      (case z_bool => k_is)
      (case z_tuple => k_is)
      (case z_list => k_is)
      (case z_enumerate => k_is)
      (case z_sum => k_is)
      (case z_all => k_is)
    refine ⟨[(A.cc__law_anywhere_right, 537), (A.cc__law_moves_right, 530), (A.cc__law_refused_right, 523)], rfl, ?_, ?_, _, _, T.c_law, fun base TB => K30.ok_law T TB⟩
    · intro p hp; simp only [List.mem_cons, List.not_mem_nil, or_false] at hp; rcases hp with rfl | rfl | rfl; exact T.nt__law_anywhere_right; exact T.nt__law_moves_right; exact T.nt__law_refused_right
    · intro p hp; simp only [List.mem_cons, List.not_mem_nil, or_false] at hp; rcases hp with rfl | rfl | rfl; exact T.ht__law_anywhere_right; exact T.ht__law_moves_right; exact T.ht__law_refused_right
