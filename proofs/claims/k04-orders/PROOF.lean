import PyProof.Rows.All
import Wide.All
import OpenK.AllK
import Wide.FinOn
import HandS.ForMost
import HandS.EndBits
import HandS.Defaults
import HandS.WideBits
import HandS.Style
import HandS.IsInst
import HandS.NoneIn
import HandS.More
import HandS.MakeKwOnly
import HandS.CallLocal
import HandS.SortKw
import HandS.TupMul
import HandS.TupAny
import KE.DataMinMax
import KE.KMinKey
import HandS.FStr
import HandS.SlotsOwn
import HandS.Codes
import HandS.Walk
import HandS.ExcInit
import KE.KExcInit
import HandS.ExcField
import HandS.ExcIs
import HandS.ExcOwn
import HandS.Lambda
import HandS.TryMany
import KE.KExcIs
import PyProof.Rows.RuleDivmod
import HandS.EndTab
import KE.KNestM
import HandS.WordsExc
import HandS.Conv
import HandS.SetFor
import PyProof.Rows.IntBool
import PyProof.StrReplace2
import HandS.DeepEq
import PyProof.Rows.SeqMore
import PyProof.Draws
import PyProof.EnumMake
import PyProof.TupleIter
import PyProof.ListStr
import HandS.ClsMeth
import HandS.ExcValue
import PyProof.StrBlock2
import PyProof.ReprNest
import KE.GoesEnumKw
import KE.GoesMore
import KE.GoesZip
import HandS.Nested
import PyProof.IsiBase
import PyProof.FactsAll.set
import PyProof.FactsAll.object
import HandS.MakeKw
import KE.KExcLine
import KE.RegKTryMore
import PySem.Challenge.RW_runsort_k04_whole_orders_of_orders
set_option Elab.async false
set_option maxRecDepth 100000
set_option maxHeartbeats 4000000
namespace Rs
open PySem PySem.Spec PyProof.Rows L2

/-! ### a promise that is kept while no text of a container is under way -/
def Clr (A : Around) : Prop := A.guards = some []
theorem Clr.deep {A : Around} (c : Clr A) (e : Env) : Clr (A.deeper e) := c

structure FnG (P : Program) (w : World) (K : PySem.W.Frag) (mg : Str → Option Value) (base : Heap) (k : Nat) (f : Addr) (fd : FuncData) (ps : List Str) (sp : Sp) : Prop where
  many : ∀ vs H Q E, sp vs H Q E → vs.length = ps.length
  go : ∀ (A : Around) (o : List Env) (s : Shared) (H : Hp) (us : List Value) (a : Args) (vs : List V) (Q : VK) (E : XK), Clr A → Room k A → Env0 P w K mg base A o s H →
    BindsTo s fd a (ps.zip us) → Vals vs us → sp vs H Q E → codeAny (model P w) A (.call (.ref f) a) (CR CX0 o P w H s Q E) s
theorem FnG.up {P : Program} {w : World} {K : PySem.W.Frag} {mg : Str → Option Value} {base : Heap} {j k : Nat} {f : Addr} {fd : FuncData} {ps : List Str} {sp : Sp}
    (F : FnG P w K mg base j f fd ps sp) (h : j ≤ k) : FnG P w K mg base k f fd ps sp :=
  ⟨F.many, fun A o s H us a vs Q E c r => F.go A o s H us a vs Q E c (r.mono h)⟩
theorem FnG.of {P : Program} {w : World} {K : PySem.W.Frag} {mg : Str → Option Value} {base : Heap} {k : Nat} {f : Addr} {fd : FuncData} {ps : List Str} {sp : Sp}
    (F : FnOk P w K mg base CX0 k f fd ps sp) : FnG P w K mg base k f fd ps sp :=
  ⟨F.len, fun A o s H us a vs Q E _ r e b v h => F.run A o s H a us vs Q E r e b v h⟩

section
variable {P : Program} {w : World} {K : PySem.W.Frag} {mg : Str → Option Value} {base : Heap}
/-- a def by its body, as FnG -/
theorem defG {x qual : Str} {st : Stmt} {f : Addr} {fd : FuncData} {N ps : List Str} {k : Nat} {sp : Sp} (F : Fun K x qual st f fd) (S : FnScope N ps (defScope st))
    (many : ∀ vs H Q E, sp vs H Q E → vs.length = ps.length)
    (body : ∀ (cdv : Value) (A : Around) (o : List Env) (s : Shared) (H : Hp) (vs : List V) (Q : VK) (E : XK), Clr A →
      Room k (A.deeper (envOfC qual (defScope st) s.heap.objs.size f cdv)) → sp vs H Q E →
      ∃ t, PSs (cxOf CX0 P w K mg base N qual (defScope st) f cdv A o s H E).nox (defBody st) t ∧ t { nx := fun _ H' => Q .non H', rt := Q } (start N vs) H) :
    FnG P w K mg base (k + 1) f fd ps sp := by
  obtain ⟨oc, od, kV, doc, pm, an, cdv, ct, osl, rfl, lk, hcd⟩ := F.ex
  refine ⟨many, ?_⟩
  intro A o s H us a vs Q E c r e0 hb rv hsp
  obtain ⟨t, ht, hq⟩ := body cdv A o s H vs Q E c (r.deeper _) hsp
  have inK : ∀ b ob, K.lookup b = some ob → s.heap.get? b = some ob := fun b ob e => (e0.bs b ob (e0.mod.kin b ob e)).1
  have noL : s.heap.NoLimit := e0.mod.nolimit.keeps fun b ob e => (e0.bs b ob e).1
  refine codeAny_call_function r.depth (inK _ _ lk) rfl S.co S.gen rfl (PySem.W.codeRec_of inK hcd) (hb _ _ _ _ ?_)
  refine wpAny_newFunctionEnv_cells S.kind ?_ ?_
  · rintro ⟨n, v⟩ hy
    rcases S.par n (List.of_mem_zip hy).1 with q | q
    · exact Or.inl q
    · exact Or.inr ⟨q, PySem.W.cellsFrom_some _ _ _ (Or.inl q)⟩
  · intro env he s1 x1
    subst he
    refine ⟨noL.keeps x1.toInCall.keep, codeAny_func ?_⟩
    have J := inv_start (CX := CX0) (mg := mg) (E := E) (qual := qual) S r.hd e0 (many _ _ _ _ hsp) rv x1
    refine wpAny_mono (ht.nox.run [] s1 _ H _ J hq) ?_ ?_
    · intro fl s2 h2
      cases fl with
      | next => obtain ⟨_, H2, J2, q2⟩ := h2; exact ⟨V.non, H2, J2.os, J2.bare, J2.base, J2.hok, rfl, q2⟩
      | ret u => obtain ⟨v, _, H2, J2, r2, q2⟩ := h2; exact ⟨v, H2, J2.os, J2.bare, J2.base, J2.hok, r2, q2⟩
      | brk => obtain ⟨_, _, _, q2⟩ := h2; exact q2.elim
      | cont => obtain ⟨_, _, _, q2⟩ := h2; exact q2.elim
    · intro e s2 h2; exact h2
end

section
variable {X : Cx} {k : Nat} {f : Addr} {fd : FuncData} {ps : List Str} {sp : Sp} {dvs : List V} {ds : List Value} {x : Str} {p pos : Pos} {e : Expr} {es : List Expr} {t : TA}
theorem goG {pins : List (Addr × Obj)} {σ : L2.St} {H : Hp} {s : Shared} {Q : VK} {us : List Value} {vs : List V} (F : FnG X.prog X.w X.K X.mg X.base k f fd ps sp) (c : Clr X.A) (hr : Room k X.A)
    (hb : Binds X.K fd ps ds) (hd : Vals dvs ds) (I : Inv X pins σ H s) (r : Vals vs us) (h : sp (vs ++ dvs) H Q E0) : wpAny (model X.prog X.w) X.A (call (.ref f) us) (EP X pins σ Q) X.xe s := by
  have r2 := r.append hd
  have hl : (us ++ ds).length = ps.length := r2.length.symm.trans (F.many _ _ _ _ h)
  apply wpAny_call
  refine codeAny_mono (F.go X.A X.stack s H (us ++ ds) ⟨us, []⟩ (vs ++ dvs) Q E0 c hr I.env0 (hb s us I.kIn hl) r2 h) ?_
  intro q s2 h2
  match q, h2 with
  | .error _, h2 => exact h2.elim
  | .ok (.ret _), h2 => exact I.after h2
  | .ok .next, h2 => exact h2.elim
  | .ok .brk, h2 => exact h2.elim
  | .ok .cont, h2 => exact h2.elim
/-- f(e, ..) of such a def -/
theorem pe_callG (F : FnG X.prog X.w X.K X.mg X.base k f fd ps sp) (c : Clr X.A) (hr : Room k X.A) (hg : Gl X x) (hm : X.mg x = some (.ref f)) (hk : PySem.W.keepIn X.K (.ref f) = true)
    (hb : Binds X.K fd ps ds) (hd : Vals dvs ds) (ha : PA X (e :: es) t) (hdb : (x == ("__debug__" : Str)) = false := by decide)
    (he : starEach (e :: es) X.env = (false, eval e X.env) :: starEach es X.env := by rfl) (hpl : (backTo pos (starEach es X.env)).any (·.1) = false := by rfl) :
    PE X (.Call (.Name x p) (e :: es) [] pos) (tCall sp dvs E0 t) := by
  constructor
  intro pins s σ H Q I h
  apply wpAny_Call_Name_kw
  refine ld_glob I hg hm ?_ hdb
  refine PySem.W.callWith_K (h₀ := X.base) I.ok.mod.kin hk ?_ he hpl
  refine thn (ha.run pos pins s σ H _ I h) ?_
  rintro us s1 ⟨vs, H1, I1, r, q⟩
  exact ⟨I1.kIn, goG F c hr hb hd I1 r q⟩
theorem pe_callG0 (F : FnG X.prog X.w X.K X.mg X.base k f fd ps sp) (c : Clr X.A) (hr : Room k X.A) (hg : Gl X x) (hm : X.mg x = some (.ref f)) (hk : PySem.W.keepIn X.K (.ref f) = true)
    (hb : Binds X.K fd ps ds) (hd : Vals dvs ds) (hdb : (x == ("__debug__" : Str)) = false := by decide) : PE X (.Call (.Name x p) [] [] pos) (tCall sp dvs E0 tNil) := by
  constructor
  intro pins s σ H Q I h
  apply wpAny_Call_Name_kw
  refine ld_glob I hg hm ?_ hdb
  exact PySem.W.callWith_K0 I.kIn hk (goG (us := []) F c hr hb hd I .nil h)
end

/-! ### repr of data -/
/-- data that can be shown -/
structure Shw (d : PyData) : Prop where
  ok : d.showable = true
  sz : d.shown.length ≤ sizeLine
def rRepr (K : PySem.W.Frag) : List V → Hp → VK → Prop := fun xs H Q => ∃ x d, xs = [x] ∧ Dp K H x d ∧ Shw d ∧ d.depth ≤ 50 ∧ Q (.str d.shown) H
mutual
theorem dp_noDict {K : PySem.W.Frag} {H : Hp} : ∀ (d : PyData) (v : V), Dp K H v d → d.hasDict = false
  | .none, _, _ => by simp only [PyData.hasDict]
  | .bool _, _, _ => by simp only [PyData.hasDict]
  | .int _, _, _ => by simp only [PyData.hasDict]
  | .str _, _, _ => by simp only [PyData.hasDict]
  | .list ds, _, h => by
    cases h with
    | lst _ ha => simp only [PyData.hasDict]; exact dps_noDict ds _ ha
  | .tuple ds, _, h => by
    cases h with
    | tup _ ha => simp only [PyData.hasDict]; exact dps_noDict ds _ ha
  | .dict _, _, h => by cases h
theorem dps_noDict {K : PySem.W.Frag} {H : Hp} : ∀ (ds : List PyData) (vs : List V), DpAll K H vs ds → PyData.hasDictAll ds = false
  | [], _, _ => by simp only [PyData.hasDictAll]
  | d :: ds, _, h => by
    cases h with
    | cons h1 h2 => simp only [PyData.hasDictAll, dp_noDict d _ h1, dps_noDict ds _ h2, Bool.or_self]
end
section
variable {X : Cx}
theorem call_repr {k : Nat} (c : Clr X.A) (hr : Room k X.A) : CallR X (.builtin "repr") (rRepr X.K) := by
  intro pins s σ H xs us Q I r h
  obtain ⟨x, d, rfl, hd, hs, hdp, q⟩ := h
  cases r with
  | cons r1 r2 =>
    cases r2
    rename_i u
    have nd := dp_noDict d x hd
    obtain ⟨as, rd⟩ := Dp.reads I d x u hd r1
    have fin : ∀ h' t tk, (∀ b o, s.heap.get? b = some o → h'.get? b = some o) → EP X pins σ Q (.str d.shown t) { s with heap := h', toks := tk } :=
      fun h' t tk kp => ⟨.str d.shown, H, I.kept kp, ⟨t, rfl⟩, q⟩
    have un := hr.units
    have room : X.A.units + (d.depth + 1) < cLine := by omega
    cases x with
    | ref a =>
      cases (show u = Value.ref a from r1)
      exact repr_of_reads' (s := s) rd hs.ok (PyData.noDict_hsm nd) c room (fun _ _ e => e) fin hs.sz
    | non =>
      cases (show u = Value.none from r1)
      cases hd
      have e : PyData.shown .none = ("None" : Str) := by simp only [PyData.shown]
      rw [e] at q
      exact PySem.P.repr_of_none ⟨.str _, H, I.tok _, ⟨_, rfl⟩, q⟩
    | bl b =>
      cases (show u = Value.bool b from r1)
      cases hd
      have e : PyData.shown (.bool b) = ((if b then "True" else "False" : String) : Str) := by cases b <;> simp only [PyData.shown] <;> rfl
      rw [e] at q
      cases b <;> exact PySem.P.repr_of_bool ⟨.str _, H, I.tok _, ⟨_, rfl⟩, q⟩
    | int i =>
      obtain ⟨t, rfl⟩ := (show ∃ t, u = Value.int i t from r1)
      cases hd
      have e : PyData.shown (.int i) = ((toString i : String) : Str) := by simp only [PyData.shown]
      have z : i.natAbs.log2 < 1920 := by simpa [PyData.showable] using hs.ok
      rw [e] at q
      exact PySem.P.repr_of_int z ⟨.str _, H, I.tok _, ⟨_, rfl⟩, q⟩
    | str x =>
      obtain ⟨t, rfl⟩ := (show ∃ t, u = Value.str x t from r1)
      cases hd
      have e : PyData.shown (.str x) = reprText x := by simp only [PyData.shown]
      have z := hs.sz
      rw [e] at q z
      exact PySem.P.repr_of_str ⟨.str _, H, I.tok _, ⟨_, rfl⟩, q⟩ z
    | byt _ => cases hd
    | flt _ => cases hd
    | ty _ => cases hd
end

/-! ### slices with a step -/
/-- the places that a slice takes -/
def slIx (n : Nat) (lo hi st : Option Int) : List Nat := sliceRange (sliceBounds lo hi st n).1 (sliceBounds lo hi st n).2.1 (sliceBounds lo hi st n).2.2
def pickV (xs : List V) (lo hi st : Option Int) : List V := (slIx xs.length lo hi st).filterMap (xs[·]?)
theorem vals_pick {xs : List V} {us : List Value} (r : Vals xs us) : ∀ ix : List Nat, Vals (ix.filterMap (xs[·]?)) (ix.filterMap (us[·]?))
  | [] => .nil
  | i :: ix => by
    have ih := vals_pick r ix
    cases e : xs[i]? with
    | none =>
      have e' := r.none_of e
      rw [List.filterMap_cons_none e, List.filterMap_cons_none e']
      exact ih
    | some x =>
      obtain ⟨u, e', ru⟩ := r.get e
      rw [List.filterMap_cons_some e, List.filterMap_cons_some e']
      exact .cons ru ih
def tSl3 (K : PySem.W.Frag) (te : TE) (tl th ts : TO) : TE := fun σ H Q => te σ H fun x H1 => tl σ H1 fun l H2 => th σ H2 fun u H3 => ts σ H3 fun st H4 => ∃ a xs, x = .ref a ∧ SqL K H4 a xs ∧ st ≠ some 0 ∧
  ∀ p, H4 p = none → Q (.ref p) (upd H4 p (.lst (pickV xs l u st)))
section
variable {X : Cx}
theorem pe_slice3 {e : Expr} {te : TE} {lo hi st : Option Expr} {tl th ts : TO} {p2 pos : Pos} (he : PE X e te) (hl : PO X lo tl) (hh : PO X hi th) (hs : PO X st ts)
    (hsub : ∀ ov iv, subscripted (.Slice lo hi st p2) false ov iv = operate [ov, iv] (getItem ov iv) := by intro _ _; with_unfolding_all rfl) : PE X (.Subscript e (.Slice lo hi st p2) pos) (tSl3 X.K te tl th ts) := by
  constructor
  intro pins s σ H Q I h
  refine PyProof.Rows.Subscript_ (thn (he.run pins s σ H _ I h) ?_)
  rintro v s1 ⟨x, H1, I1, r1, q1⟩
  refine wpAny_Slice (thn (hl.run pins s1 σ H1 _ I1 q1) ?_)
  rintro vl s2 ⟨l, H2, I2, pl, q2⟩
  refine thn (hh.run pins s2 σ H2 _ I2 q2) ?_
  rintro vu s3 ⟨u, H3, I3, pu, q3⟩
  refine thn (hs.run pins s3 σ H3 _ I3 q3) ?_
  rintro vs s4 ⟨c, H4, I4, ps, a, xs, ex, hx, h0, q4⟩
  subst ex
  cases r1
  have I5 : Inv X pins σ H4 { s4 with heap := s4.heap.push { cls := .type "slice", data := .fields #[vl, vu, vs] } } := I4.kept (t' := s4.toks) fun b ob q => Heap.get?_push_of_some _ q
  obtain ⟨its, rv, ht, hz⟩ := I5.list hx
  have hlen : its.length = xs.length := rv.length.symm
  show wpAny (model X.prog X.w) X.A (subscriptTail e (.Slice lo hi st p2) (.ref a) (.ref s4.heap.objs.size)) (EP X pins σ Q) X.xe _
  refine tail_any (ops := [.ref a, .ref s4.heap.objs.size]) ht.isList.typeIs PySem.slot_list_getitem.lookup ?_ (hsub _ _)
  refine wpAny_getItem_list_slice ht.isList (Heap.IsSliceOf.new _ vl vu vs) pl pu ps h0 ?_ (by rw [List.size_toArray, hlen]; exact hz)
  have hp : PySem.slicePick its.toArray l u c = ((slIx xs.length l u c).filterMap (its[·]?)).toArray := by
    unfold PySem.slicePick slIx
    rw [List.size_toArray, hlen]
    simp only [List.getElem?_toArray]
  have hn := PySem.slicePick_size_le its.toArray l u c
  rw [hp, List.size_toArray, List.size_toArray, hlen] at hn
  rw [hp]
  refine ⟨.ref _, _, I5.laid (t' := s4.toks) (o := .lst (pickV xs l u c)) (fun b ob q => Heap.get?_push_of_some _ q) (Nat.le_refl _) ?_, rfl, q4 _ (I5.hok.fresh (Nat.le_refl _))⟩
  refine ⟨?_, _, 0, vals_pick rv _, Heap.get?_push_size _ rfl⟩
  have e := (vals_pick rv (slIx xs.length l u c)).length
  show (List.filterMap (fun i => xs[i]?) (slIx xs.length l u c)).length ≤ sizeLine
  rw [e]
  exact Nat.le_trans hn hz
end

/-! ### a call by keywords alone -/
section
variable {X : Cx} {CX : CXT} {k : Nat} {f : Addr} {fd : FuncData} {ps ks : List Str} {sp : Sp} {E : XK} {x : Str} {p pos : Pos} {kws : List Keyword} {tk : TA} {g : List Value → List Value → List Value} {gV : List V → List V → List V}
theorem pe_callK0 (F : FnOk X.prog X.w X.K X.mg X.base CX k f fd ps sp) (hr : Room k X.A) (hg : Gl X x) (hm : X.mg x = some (.ref f)) (hk : PySem.W.keepIn X.K (.ref f) = true) (hb : KBn X.K fd ps 0 ks g gV) (hx : Passes CX X E)
    (hkw : PK X kws tk) (hall : (backToKw pos (keywordEach kws X.env)).all (·.1.isSome) = true := by rfl) (hks : (backToKw pos (keywordEach kws X.env)).filterMap (·.1) = ks := by rfl)
    (hdb : (x == ("__debug__" : Str)) = false := by decide) : PE X (.Call (.Name x p) [] kws pos) (tCallN 0 ks.length sp gV E tNil tk) := by
  constructor
  intro pins s σ H Q I h
  apply wpAny_Call_Name_kw
  refine ld_glob I hg hm ?_ hdb
  have np : ((backTo pos (starEach [] X.env)).any (·.1) || (backToKw pos (keywordEach kws X.env)).any (·.1.isNone)) = false := by
    have z : ∀ l : List (Option Str × Sem Value), l.all (·.1.isSome) = true → l.any (·.1.isNone) = false := by
      intro l hl
      induction l with
      | nil => rfl
      | cons q l ih =>
        simp only [List.all_cons, Bool.and_eq_true] at hl
        simp only [List.any_cons, ih hl.2, Bool.or_false]
        cases e : q.1 with
        | none => rw [e] at hl; exact absurd hl.1 (by decide)
        | some _ => rfl
    rw [z _ hall]; rfl
  refine PySem.W.callWith_KW0 (h₀ := X.base) I.ok.mod.kin hk hall ?_ np
  refine thn (hkw.run pos pins s σ H _ I h) ?_
  rintro ws s1 ⟨zs, H1, I1, rz, _, l2, q⟩
  refine ⟨I1.kIn, ?_⟩
  rw [hks]
  exact run_fnN (us := []) F hr hb hx I1 .nil rz rfl l2 q
end

/-! ### the law's own call -/
/-- the heap that knows of nothing but the script (at a, where it stands apart) -/
def scriptH (own : Bool) (a : Addr) (o : Obj) (ns : List Int) : Hp := fun b => if own = true ∧ b = a then some (.frz o (.lst (ns.map V.int))) else none
theorem scriptH_only (own : Bool) (a : Addr) (o : Obj) (ns : List Int) : Only (scriptH own a o ns) := fun b => by
  unfold scriptH
  split
  · exact Or.inr ⟨_, _, rfl⟩
  · exact Or.inl rfl
theorem scriptH_some {own : Bool} {a b : Addr} {o : Obj} {ns : List Int} {u : HO} (h : scriptH own a o ns b = some u) : own = true ∧ b = a ∧ u = .frz o (.lst (ns.map V.int)) := by
  unfold scriptH at h
  split at h
  · rename_i z; exact ⟨z.1, z.2, (Option.some.inj h).symm⟩
  · cases h
theorem lawG {P : Program} {w : World} {K : PySem.W.Frag} {mg mb : Str → Option Value} {k : Nat} {fa a : Addr} {fd : FuncData} {x : Str} {sp : Sp} {s : Shared} {vs : List Value} {ns : List Int}
    (KX : K.In s.heap) (hm : s.heap.Ns mainGlobals mg) (hb : s.heap.Ns builtinsNs mb) (hbb : ∀ x : Str, x ≠ "__name__" → mb x = bootBuiltins x) (hlim : s.heap.NoLimit) (hg : s.gens = #[])
    (ha : s.heap.get? a = some { cls := .type "list", data := .seq vs.toArray }) (hi : IntsAre vs ns) (hl : ns.length ≤ sizeLine) (hr : Room k callerA)
    (F : ∀ base : Heap, K.In base → base.Ns mainGlobals mg → FnG P w K mg base k fa fd [x] sp) (hbind : ∀ (s : Shared) (u : Value), BindsTo s fd ⟨[u], []⟩ [(x, u)])
    (hsp : ∀ H : Hp, Only H → SqL K H a (ns.map V.int) → sp [.ref a] H (fun v _ => v = .bl true) E0) :
    codeAny (model P w) callerA (.call (.ref fa) ⟨[.ref a], []⟩) (fun r s' => r = .ok (.ret (.bool true)) ∧ OldK s.heap s'.heap ∧ s'.os = s.os ∧ AllBare s'.gens) s := by
  have rv := vals_ints hi
  have lv := hi.length
  -- own: the script is no object of the written part
  have key : ∀ own : Bool, (own = true → K.lookup a = none) → (own = false → ∃ o, K.lookup a = some o) →
      codeAny (model P w) callerA (.call (.ref fa) ⟨[.ref a], []⟩) (fun r s' => r = .ok (.ret (.bool true)) ∧ OldK s.heap s'.heap ∧ s'.os = s.os ∧ AllBare s'.gens) s := by
    intro own h1 h2
    have hO := scriptH_only own a { cls := .type "list", data := .seq vs.toArray } ns
    have hS := fun {b : Addr} {u : HO} => scriptH_some (own := own) (a := a) (b := b) (o := { cls := .type "list", data := .seq vs.toArray }) (ns := ns) (u := u)
    generalize eH : scriptH own a { cls := .type "list", data := .seq vs.toArray } ns = H at hO hS
    have frs0 : ∀ {b : Addr} {o : Obj} {es : Array DictEntry} {n : Nat}, s.heap.get? b = some o → o.data = .dict es n → H b = none := by
      intro b o es n e d
      cases q : H b with
      | none => rfl
      | some u =>
        obtain ⟨_, rfl, _⟩ := hS q
        rw [ha] at e
        cases e
        have d' : Data.seq vs.toArray _ = Data.dict es n := d
        cases d'
    have ns0 : ∀ {b : Addr} {m : Str → Option Value}, s.heap.Ns b m → (hidT s.heap H).Ns b m := by
      rintro b m ⟨o, es, n, e, d, r⟩
      exact ⟨o, es, n, hidT_get e (frs0 e d), d, r⟩
    have K0 : K.In (hidT s.heap H) := by
      intro b o e
      refine hidT_get (KX b o e) ?_
      cases q : H b with
      | none => rfl
      | some u =>
        obtain ⟨z, rfl, _⟩ := hS q
        rw [h1 z] at e
        cases e
    have hok : HOk P w H s.heap := by
      intro b u q
      obtain ⟨_, rfl, rfl⟩ := hS q
      exact ⟨ha, by rw [List.length_map]; exact hl, vs, _, rv, ha⟩
    have M0 : Mod K mg (hidT s.heap H) := by
      refine ⟨K0, ns0 hm, ⟨mb, ns0 hb, hbb⟩, ?_⟩
      obtain ⟨mc, q1, q2⟩ := hlim
      exact ⟨mc, ns0 q1, q2⟩
    have env : Env0 P w K mg (hidT s.heap H) callerA [] s H := by
      refine ⟨rfl, M0, fun b o e => of_hidT e, Nat.le_of_eq (hidT_size _ _), trivial, ?_, hok, .of_eq hg⟩
      intro b hb'
      cases hb'
    have sq : SqL K H a (ns.map V.int) := by
      cases own with
      | true => exact Or.inl (Or.inr ⟨_, by rw [← eH]; exact if_pos ⟨rfl, rfl⟩⟩)
      | false =>
        obtain ⟨o, e⟩ := h2 rfl
        have e' := KX a o e
        rw [ha] at e'
        cases e'
        exact Or.inr ⟨_, vs.toArray, _, e, rfl, rfl, rfl, by rw [List.size_toArray, lv]; exact hl, by simpa using rv⟩
    refine codeAny_mono ((F _ K0 (ns0 hm)).go callerA [] s H [.ref a] ⟨[.ref a], []⟩ [.ref a] _ E0 rfl hr env (hbind s (.ref a)) (.cons rfl .nil) (hsp H hO sq)) ?_
    intro r s' h
    match r, h with
    | .error _, h => exact h.elim
    | .ok .next, h => exact h.elim
    | .ok .brk, h => exact h.elim
    | .ok .cont, h => exact h.elim
    | .ok (.ret u), h =>
      obtain ⟨v, H', os, bare, un, hok', r', q⟩ := h
      cases (show v = .bl true from q)
      cases (show u = Value.bool true from r')
      refine ⟨rfl, OldK.of_keep ?_, os, bare⟩
      intro b o e
      cases q : H b with
      | none => exact un.keep b o e q (fun z => nomatch z) (fun z => nomatch z)
      | some u =>
        obtain ⟨_, rfl, rfl⟩ := hS q
        rw [ha] at e
        cases e
        obtain ⟨e2, _⟩ := hok' b _ (un.frzs b _ _ q)
        exact e2
  cases hk : K.lookup a with
  | some o => exact key false (fun z => Bool.noConfusion z) (fun _ => ⟨o, hk⟩)
  | none => exact key true (fun _ => hk) (fun z => Bool.noConfusion z)
theorem walkG {l : PySem.W.OpenLaw} {n k : Nat} {q : Program} {loose : List Str} {XP : (Str → Option Value) → Heap → Prop} {YP : World → Heap → Prop} {d : DefRec} {K : Params → PySem.W.Frag} {sp : PySem.W.Frag → Sp} {x : Str}
    (hn : l.most = some n) (hn2 : n ≤ sizeLine) (hdf : d.params.defaults = []) (hr : Room k callerA) (hY : ∀ (w : World) (h : Heap), YP w h → (K w.params).In h)
    (F : ∀ (w : World) (mg : Str → Option Value) (fa : Addr) (h : Heap), (K w.params).In h → h.Ns mainGlobals mg → mg d.name = some (.ref fa) →
      ∃ fd : FuncData, (∀ (s : Shared) (u : Value), BindsTo s fd ⟨[u], []⟩ [(x, u)]) ∧
        ∀ base : Heap, (K w.params).In base → base.Ns mainGlobals mg → FnG l.prog w (K w.params) mg base k fa fd [x] (sp (K w.params)))
    (hsp : ∀ (K : PySem.W.Frag) (H : Hp) (a : Addr) (ns : List Int), ns.length ≤ n → (∀ z ∈ ns, Builtin.Int.intBits z ≤ 1048576) → SqL K H a (ns.map V.int) → sp K [.ref a] H (fun v _ => v = .bl true) E0) :
    PySem.W.WalkO q loose XP YP l.row.toRowW d [] (fun f vs => PySem.call f vs) := by
  apply Att.attach_callB hn hdf
  intro w s0 s1 mg mb fa o pm cd doc a vs ns G Y ho hd hcd hmg hobj hints hlen hbits hg
  have KX := hY w _ Y
  obtain ⟨fd, hb, hF⟩ := F w mg fa _ KX G.T.g hmg
  exact lawG KX G.T.g G.T.b G.T.builtins G.T.nolimit hg hobj hints (Nat.le_trans hlen hn2) hr hF hb fun H _ hS => hsp _ H a ns hlen hbits hS
end Rs

namespace Rs
open PySem PySem.Spec PyProof.Rows L2

/-! ### what is known of the heap -/
abbrev Led := List (Addr × HO)
/-- H0: the heap at the entry; M: the objects of it that may have changed; L: what stands now -/
structure Hs (H0 : Hp) (M : List Addr) (H : Hp) (L : Led) : Prop where
  nd : (L.map (·.1)).Nodup
  is : ∀ q ∈ L, H q.1 = some q.2
  old : ∀ b o, H0 b = some o → b ∉ M → H b = some o
  mu : ∀ b ∈ M, H b ≠ none
/-- one entry exchanged -/
inductive Chg (a : Addr) (o o' : HO) : Led → Led → Prop where
  | here {L : Led} : Chg a o o' ((a, o) :: L) ((a, o') :: L)
  | there {q : Addr × HO} {L L' : Led} : Chg a o o' L L' → Chg a o o' (q :: L) (q :: L')
theorem Chg.keys {a : Addr} {o o' : HO} {L L' : Led} (c : Chg a o o' L L') : L'.map (·.1) = L.map (·.1) := by
  induction c with
  | here => rfl
  | there _ ih => simp only [List.map_cons, ih]
theorem Chg.mem {a : Addr} {o o' : HO} {L L' : Led} (c : Chg a o o' L L') : (a, o) ∈ L := by
  induction c with
  | here => exact List.mem_cons_self
  | there _ ih => exact List.mem_cons_of_mem _ ih
theorem Chg.of {a : Addr} {o o' : HO} {L L' : Led} (c : Chg a o o' L L') (nd : (L.map (·.1)).Nodup) : ∀ q ∈ L', q = (a, o') ∨ (q ∈ L ∧ q.1 ≠ a) := by
  induction c with
  | @here L =>
    intro q hq
    rcases List.mem_cons.mp hq with e | hq
    · exact Or.inl e
    · refine Or.inr ⟨List.mem_cons_of_mem _ hq, ?_⟩
      intro e
      simp only [List.map_cons, List.nodup_cons] at nd
      exact nd.1 (e ▸ List.mem_map_of_mem hq)
  | @there p L L' c ih =>
    intro q hq
    simp only [List.map_cons, List.nodup_cons] at nd
    rcases List.mem_cons.mp hq with e | hq
    · subst e
      refine Or.inr ⟨List.mem_cons_self, ?_⟩
      intro e
      exact nd.1 (e ▸ List.mem_map_of_mem (f := (·.1)) c.mem)
    · rcases ih nd.2 q hq with e | ⟨h1, h2⟩
      · exact Or.inl e
      · exact Or.inr ⟨List.mem_cons_of_mem _ h1, h2⟩
section
variable {H0 H H' : Hp} {M : List Addr} {L L' : Led} {a : Addr} {o o' : HO}
theorem Hs.new (S : Hs H0 M H L) (hp : H a = none) (o : HO) : H0 a = none ∧ Hs H0 M (upd H a o) ((a, o) :: L) := by
  have n0 : H0 a = none := by
    cases e : H0 a with
    | none => rfl
    | some u =>
      by_cases hm : a ∈ M
      · exact absurd hp (S.mu a hm)
      · have := S.old a u e hm
        rw [hp] at this
        cases this
  have ne : ∀ q ∈ L, q.1 ≠ a := fun q hq e => by
    have := S.is q hq
    rw [e, hp] at this
    cases this
  refine ⟨n0, ?_, ?_, ?_, ?_⟩
  · simp only [List.map_cons, List.nodup_cons]
    refine ⟨fun hm => ?_, S.nd⟩
    obtain ⟨q, hq, e⟩ := List.mem_map.mp hm
    exact ne q hq e
  · intro q hq
    rcases List.mem_cons.mp hq with e | hq
    · subst e; exact upd_same
    · rw [upd_ne (ne q hq)]; exact S.is q hq
  · intro b u e hm
    have hb : b ≠ a := fun z => by rw [z, n0] at e; cases e
    rw [upd_ne hb]
    exact S.old b u e hm
  · intro b hb
    unfold upd
    split
    · simp
    · exact S.mu b hb
theorem Hs.put (S : Hs H0 M H L) (c : Chg a o o' L L') (hm : H0 a = none ∨ a ∈ M) : Hs H0 M (upd H a o') L' := by
  refine ⟨by rw [c.keys]; exact S.nd, ?_, ?_, ?_⟩
  · intro q hq
    rcases c.of S.nd q hq with e | ⟨h1, h2⟩
    · subst e; exact upd_same
    · rw [upd_ne h2]; exact S.is q h1
  · intro b u e hb
    have ne : b ≠ a := fun z => by
      subst z
      rcases hm with z | z
      · rw [z] at e; cases e
      · exact hb z
    rw [upd_ne ne]
    exact S.old b u e hb
  · intro b hb
    unfold upd
    split
    · simp
    · exact S.mu b hb
/-- behind a call that changed at most the objects of C (each fresh or in M), and left L' -/
theorem Hs.call (S : Hs H0 M H L) {C : List Addr} (k : ∀ b u, H b = some u → b ∉ C → H' b = some u) (hC : ∀ b ∈ C, (H0 b = none ∨ b ∈ M) ∧ H' b ≠ none) (nd : (L'.map (·.1)).Nodup)
    (is : ∀ q ∈ L', H' q.1 = some q.2) : Hs H0 M H' L' := by
  refine ⟨nd, is, ?_, ?_⟩
  · intro b u e hb
    refine k b u (S.old b u e hb) fun hc => ?_
    rcases (hC b hc).1 with z | z
    · rw [z] at e; cases e
    · exact hb z
  · intro b hb
    by_cases hc : b ∈ C
    · exact (hC b hc).2
    · intro z
      cases e : H b with
      | none => exact S.mu b hb e
      | some u =>
        rw [k b u e hc] at z
        cases z
/-- nothing was changed -/
theorem Hs.more (S : Hs H0 M H L) (k : Same H H') : Hs H0 M H' L :=
  S.call (C := []) (fun b u e _ => k b u e) (fun b hb => nomatch hb) S.nd fun q hq => k _ _ (S.is q hq)
/-- nothing was changed, one object is new -/
theorem Hs.more1 (S : Hs H0 M H L) (k : Same H H') (hp : H a = none) (h' : H' a = some o) : H0 a = none ∧ Hs H0 M H' ((a, o) :: L) := by
  obtain ⟨n0, S'⟩ := S.new hp o
  refine ⟨n0, (S.more k).call (C := []) (fun b u e _ => e) (fun b hb => nomatch hb) S'.nd ?_⟩
  intro q hq
  rcases List.mem_cons.mp hq with e | hq
  · subst e; exact h'
  · exact k _ _ (S.is q hq)
/-- one object was changed, to o' -/
theorem Hs.one (S : Hs H0 M H L) (c : Chg a o o' L L') (hm : H0 a = none ∨ a ∈ M) (k : ∀ b u, H b = some u → b ≠ a → H' b = some u) (h' : H' a = some o') : Hs H0 M H' L' := by
  have S' := S.put c hm
  refine S.call (C := [a]) (fun b u e hb => k b u e fun z => hb (by simp [z])) ?_ S'.nd ?_
  · intro b hb
    have e : b = a := by simpa using hb
    subst e
    exact ⟨hm, by rw [h']; simp⟩
  · intro q hq
    rcases c.of S.nd q hq with e | ⟨h1, h2⟩
    · subst e; exact h'
    · exact k _ _ (S.is q h1) h2
/-- one object was changed, one is new -/
theorem Hs.one1 {p : Addr} {u : HO} (S : Hs H0 M H L) (c : Chg a o o' L L') (hm : H0 a = none ∨ a ∈ M) (k : ∀ b u, H b = some u → b ≠ a → H' b = some u) (h' : H' a = some o') (hp : H p = none) (hp' : H' p = some u) : H0 p = none ∧ Hs H0 M H' ((p, u) :: L') := by
  have S' := S.one c hm k h'
  have S2 := S.new hp u
  refine ⟨S2.1, ?_, ?_, S'.old, S'.mu⟩
  · simp only [List.map_cons, List.nodup_cons]
    refine ⟨fun hq => ?_, S'.nd⟩
    rw [c.keys] at hq
    obtain ⟨q, hq, e⟩ := List.mem_map.mp hq
    have := S.is q hq
    rw [e, hp] at this
    cases this
  · intro q hq
    rcases List.mem_cons.mp hq with e | hq
    · subst e; exact hp'
    · exact S'.is q hq
theorem Hs.sub (S : Hs H0 M H L) (h : L'.Sublist L) : Hs H0 M H L' := ⟨S.nd.sublist (h.map _), fun q hq => S.is q (h.subset hq), S.old, S.mu⟩
theorem Hs.start (H : Hp) (M : List Addr) (L : Led) (nd : (L.map (·.1)).Nodup) (is : ∀ q ∈ L, H q.1 = some q.2) (hM : ∀ b ∈ M, H b ≠ none) : Hs H M H L := ⟨nd, is, fun b u e _ => e, hM⟩
theorem Hs.start0 (H : Hp) : Hs H [] H [] := ⟨List.nodup_nil, fun q hq => (nomatch hq), fun b u e _ => e, fun b hb => nomatch hb⟩
theorem Hs.start1 {H : Hp} {a : Addr} {o : HO} (h : H a = some o) (M : List Addr) (hM : M = [] ∨ M = [a]) : Hs H M H [(a, o)] := by
  refine ⟨by simp, fun q hq => ?_, fun b u e _ => e, fun b hb => ?_⟩
  · have e : q = (a, o) := by simpa using hq
    subst e; exact h
  · rcases hM with rfl | rfl
    · cases hb
    · have e : b = a := by simpa using hb
      subst e; rw [h]; simp
theorem Hs.get (S : Hs H0 M H L) (m : (a, o) ∈ L) : H a = some o := S.is _ m
theorem Hs.old1 {d b : Addr} {u : HO} (S : Hs H0 [d] H L) (e : H0 b = some u) (hb : b ≠ d) : H b = some u := S.old b u e (by simpa using hb)
theorem Hs.same (S : Hs H0 [] H L) : Same H0 H := fun b o e => S.old b o e (fun z => nomatch z)
theorem Hs.lst {K : PySem.W.Frag} {xs : List V} (S : Hs H0 M H L) (m : (a, HO.lst xs) ∈ L) : SqL K H a xs := SqL.of (S.is _ m)
theorem Hs.tup {K : PySem.W.Frag} {xs : List V} (S : Hs H0 M H L) (m : (a, HO.tup xs) ∈ L) : SqT K H a xs := SqT.of (S.is _ m)
/-- the script, or what else stands in the written part, at a list -/
theorem Hs.sq {K : PySem.W.Frag} {xs : List V} (S : Hs H0 M H L) (h : SqL K H0 a xs) (hm : a ∉ M) : SqL K H a xs := by
  rcases h with (h | ⟨u, h⟩) | h
  · exact Or.inl (Or.inl (S.old _ _ h hm))
  · exact Or.inl (Or.inr ⟨u, S.old _ _ h hm⟩)
  · exact Or.inr h
end

/-! ### readings, step by step -/
/-- the slots at the entry -/
def stV : List Str → List V → L2.St
  | [], _ => []
  | _ :: N, vs => vs.head? :: stV N vs.tail
theorem start_eq : ∀ (N : List Str) (vs : List V), vs.length ≤ N.length → L2.start N vs = stV N vs
  | [], [], _ => by simp [L2.start, stV]
  | [], v :: vs, h => by simp at h
  | n :: N, [], _ => by
    have ih := start_eq N [] (Nat.zero_le _)
    simp only [stV, List.tail_nil, ← ih]
    simp [L2.start, List.replicate_succ]
  | n :: N, v :: vs, h => by
    have ih := start_eq N vs (by simpa using h)
    simp only [stV, List.tail_cons, ← ih]
    simp [L2.start]
section
variable {σ : L2.St} {H H0 : Hp} {M : List Addr} {L L' : Led} {Q : VK} {v x y : V} {nx : L2.St → Hp → Prop} {rt : VK} {bk ct : L2.St → Hp → Prop} {t u : TS} {te ta tb tc : TE} {g : TG} {tt tu : TT} {r r' : R2} {A B : Prop}
theorem rd_start {t : TS} {D : Ends} {N : List Str} {vs : List V} (h : t D (stV N vs) H) (hl : vs.length ≤ N.length := by exact Nat.le_of_ble_eq_true rfl) : t D (L2.start N vs) H := by rw [start_eq N vs hl]; exact h
theorem rd_seq (h : t ⟨fun σ H => u ⟨nx, rt, bk, ct⟩ σ H, rt, bk, ct⟩ σ H) : tSeq t u ⟨nx, rt, bk, ct⟩ σ H := h
theorem rd_asg (h : te σ H fun x H1 => g x σ H1 nx) : tAsg te g ⟨nx, rt, bk, ct⟩ σ H := h
theorem rd_name {i : Nat} {σ' : L2.St} {N : L2.St → Hp → Prop} (e : σ.set i (some v) = σ') (h : N σ' H) : gName i v σ H N := by subst e; exact h
theorem rd_ret (h : te σ H rt) : tRet te ⟨nx, rt, bk, ct⟩ σ H := h
theorem rd_retN (h : rt .non H) : tRetN ⟨nx, rt, bk, ct⟩ σ H := h
theorem rd_drop (h : te σ H fun _ H1 => nx σ H1) : tDrop te ⟨nx, rt, bk, ct⟩ σ H := h
theorem rd_next (h : nx σ H) : tNext ⟨nx, rt, bk, ct⟩ σ H := h
theorem rd_ifS (h : tt σ H fun b H1 => if b = true then t ⟨nx, rt, bk, ct⟩ σ H1 else u ⟨nx, rt, bk, ct⟩ σ H1) : tIfS tt t u ⟨nx, rt, bk, ct⟩ σ H := h
theorem rd_par {i j : Nat} {ta : TA} (h : ta σ H fun vs H1 => ∃ v w, vs = [v, w] ∧ nx ((σ.set i (some v)).set j (some w)) H1) : tPar i j ta ⟨nx, rt, bk, ct⟩ σ H := h
theorem rd_par3 {i j l : Nat} {ta : TA} (h : ta σ H fun vs H1 => ∃ u v w, vs = [u, v, w] ∧ nx (((σ.set i (some u)).set j (some v)).set l (some w)) H1) : tPar3 i j l ta ⟨nx, rt, bk, ct⟩ σ H := h
theorem rd_two {R : V → V → Prop} (h : R x y) : ∃ v w, [x, y] = [v, w] ∧ R v w := ⟨_, _, rfl, h⟩
theorem rd_three {z : V} {R : V → V → V → Prop} (h : R x y z) : ∃ u v w, [x, y, z] = [u, v, w] ∧ R u v w := ⟨_, _, _, rfl, h⟩
theorem rd_var {i : Nat} (e : σ[i]? = some (some v)) (h : Q v H) : tVar i σ H Q := ⟨v, e, h⟩
theorem rd_c (h : Q v H) : tC v σ H Q := h
theorem rd_op (h : ta σ H fun x H1 => tb σ H1 fun y H2 => r x y H2 Q) : tOp r ta tb σ H Q := h
theorem rd_un {r : V → Hp → VK → Prop} (h : ta σ H fun x H1 => r x H1 Q) : tUn r ta σ H Q := h
theorem rd_I0 {f : Int → Int → V} {i j : Int} (h : Q (f i j) H) : rI0 f (.int i) (.int j) H Q := ⟨i, j, rfl, rfl, h⟩
theorem rd_I {C : Int → Int → Prop} {f : Int → Int → V} {i j : Int} (hc : C i j) (h : Q (f i j) H) : rI C f (.int i) (.int j) H Q := ⟨i, j, rfl, rfl, hc, h⟩
theorem rd_U {f : Int → V} {i : Int} (h : Q (f i) H) : rU f (.int i) H Q := ⟨i, rfl, h⟩
theorem rd_eqI {i j : Int} (h : Q (.bl (decide (i = j))) H) : rEq (.int i) (.int j) H Q := by
  refine ⟨rfl, ?_⟩
  have e : decide (V.int i = V.int j) = decide (i = j) := by simp
  rw [e]; exact h
theorem rd_neI {i j : Int} (h : Q (.bl (decide (¬ i = j))) H) : rNe (.int i) (.int j) H Q := by
  refine ⟨rfl, ?_⟩
  have e : (!decide (V.int i = V.int j)) = decide (¬ i = j) := by simp
  rw [e]; exact h
theorem rd_eqS {i j : Str} (h : Q (.bl (decide (i = j))) H) : rEq (.str i) (.str j) H Q := by
  refine ⟨rfl, ?_⟩
  have e : decide (V.str i = V.str j) = decide (i = j) := by simp
  rw [e]; exact h
theorem rd_neS {i j : Str} (h : Q (.bl (decide (¬ i = j))) H) : rNe (.str i) (.str j) H Q := by
  refine ⟨rfl, ?_⟩
  have e : (!decide (V.str i = V.str j)) = decide (¬ i = j) := by simp
  rw [e]; exact h
theorem rd_eqB {i j : Bool} (h : Q (.bl (decide (i = j))) H) : rEq (.bl i) (.bl j) H Q := by
  refine ⟨rfl, ?_⟩
  have e : decide (V.bl i = V.bl j) = decide (i = j) := by simp
  rw [e]; exact h
theorem rd_test {Q : Bool → Hp → Prop} (h : te σ H fun x H' => ∃ k, x = .bl k ∧ Q k H') : tTest te σ H Q := h
theorem rd_tB {Q : Bool → Hp → Prop} (h : te σ H fun x H' => ∃ k, x = .bl k ∧ Q k H') : tB te σ H Q := h
theorem rd_bl {b : Bool} {R : Bool → Prop} (h : R b) : ∃ k, V.bl b = .bl k ∧ R k := ⟨b, rfl, h⟩
theorem rd_and {Q : Bool → Hp → Prop} (h : tt σ H fun c H1 => if c = true then tu σ H1 Q else Q false H1) : tAnd tt tu σ H Q := h
theorem rd_or {Q : Bool → Hp → Prop} (h : tt σ H fun c H1 => if c = true then Q true H1 else tu σ H1 Q) : tOr tt tu σ H Q := h
theorem rd_not {Q : Bool → Hp → Prop} (h : tt σ H fun c H1 => Q (!c) H1) : tNot tt σ H Q := h
theorem rd_andV (h : ta σ H fun x H1 => ∃ c, x = .bl c ∧ if c = true then tb σ H1 Q else Q (.bl false) H1) : tAndV ta tb σ H Q := h
theorem rd_orV (h : ta σ H fun x H1 => ∃ c, x = .bl c ∧ if c = true then Q (.bl true) H1 else tb σ H1 Q) : tOrV ta tb σ H Q := h
theorem rd_notV (h : ta σ H fun x H1 => ∃ c, x = .bl c ∧ Q (.bl (!c)) H1) : tNotV ta σ H Q := h
theorem rd_if (h : tt σ H fun c H1 => if c = true then ta σ H1 Q else tb σ H1 Q) : tIf tt ta tb σ H Q := h
theorem rd_cons {tr : TA} {Q : List V → Hp → Prop} (h : te σ H fun x H1 => tr σ H1 fun xs H2 => Q (x :: xs) H2) : tCons te tr σ H Q := h
theorem rd_nil {Q : List V → Hp → Prop} (h : Q [] H) : tNil σ H Q := h
/-- what is wanted of a new object -/
def nw (Q : VK) (H : Hp) (o : HO) : Prop := ∀ p, H p = none → Q (.ref p) (upd H p o)
def nwL (Q : VK) (H : Hp) (xs : List V) : Prop := xs.length ≤ sizeLine ∧ nw Q H (.lst xs)
def nwT (Q : VK) (H : Hp) (xs : List V) : Prop := xs.length ≤ sizeLine ∧ nw Q H (.tup xs)
theorem rd_tup {ta : TA} (h : ta σ H fun xs H1 => nwT Q H1 xs) : tTup ta σ H Q := h
theorem rd_lst {ta : TA} (h : ta σ H fun xs H1 => nwL Q H1 xs) : tLst ta σ H Q := h
theorem rd_cb {r : List V → Hp → VK → Prop} {ta : TA} (h : ta σ H fun vs H1 => r vs H1 Q) : tCB r ta σ H Q := h
theorem rd_call {sp : Sp} {dvs : List V} {E : XK} {ta : TA} (h : ta σ H fun vs H1 => sp (vs ++ dvs) H1 Q E) : tCall sp dvs E ta σ H Q := h
theorem rd_call0 {sp : Sp} {E : XK} {ta : TA} (h : ta σ H fun vs H1 => sp vs H1 Q E) : tCall sp [] E ta σ H Q := by
  have e : (fun (vs : List V) H1 => sp (vs ++ []) H1 Q E) = fun vs H1 => sp vs H1 Q E := by funext vs H1; rw [List.append_nil]
  show ta σ H (fun vs H1 => sp (vs ++ []) H1 Q E)
  rw [e]; exact h
theorem rd_callN {n m : Nat} {sp : Sp} {gV : List V → List V → List V} {E : XK} {ta tk : TA} (h : ta σ H fun vs H1 => tk σ H1 fun zs H2 => vs.length = n ∧ zs.length = m ∧ sp (gV vs zs) H2 Q E) : tCallN n m sp gV E ta tk σ H Q := h
theorem rd_chain (h : ta σ H fun x H1 => tb σ H1 fun y H2 => r x y H2 fun z H3 => ∃ k, z = .bl k ∧ (if k = true then tc σ H3 fun w H4 => r' y w H4 Q else Q (.bl false) H3)) : tChain r r' ta tb tc σ H Q := h
theorem rd_bits (h : te σ H fun x H1 => ∃ i, x = .int i ∧ Q (.int (Builtin.Int.intBits i : Nat)) H1) : tBits te σ H Q := h
theorem rd_int1 {i : Int} {R : Int → Prop} (h : R i) : ∃ j, V.int i = .int j ∧ R j := ⟨i, rfl, h⟩
theorem rd_int2 {i j : Int} {R : Int → Int → Prop} (h : R i j) : ∃ i' j', [V.int i, V.int j] = [.int i', .int j'] ∧ R i' j' := ⟨i, j, rfl, h⟩
theorem rd_dget {td ty : TE} (h : td σ H fun x H1 => ty σ H1 fun y H2 => ∃ a v, x = .ref a ∧ DGet H2 a y (some v) ∧ Q v H2) : tDGet td ty σ H Q := h
theorem rd_dput {td ty tv : TE} (h : tv σ H fun v H1 => td σ H1 fun x H2 => ty σ H2 fun y H3 => ∃ a H4, x = .ref a ∧ DPut H3 a y v H4 ∧ nx σ H4) : sDPut td ty tv ⟨nx, rt, bk, ct⟩ σ H := h
theorem rd_slice3 {K : PySem.W.Frag} {tl th ts : TO} (h : te σ H fun x H1 => tl σ H1 fun l H2 => th σ H2 fun u H3 => ts σ H3 fun st H4 => ∃ a xs, x = .ref a ∧ SqL K H4 a xs ∧ st ≠ some 0 ∧ nw Q H4 (.lst (pickV xs l u st))) : tSl3 K te tl th ts σ H Q := h
theorem rd_sl {r : V → Option Int → Option Int → Hp → VK → Prop} {tl th : TO} (h : te σ H fun x H1 => tl σ H1 fun l H2 => th σ H2 fun u H3 => r x l u H3 Q) : tSl r te tl th σ H Q := h
theorem rd_noPart {Q : Option Int → Hp → Prop} (h : Q none H) : tNoPart σ H Q := h
theorem rd_part {Q : Option Int → Hp → Prop} (h : te σ H fun x H1 => ∃ i, x = .int i ∧ Q (some i) H1) : tPart te σ H Q := h
theorem sz {n : Nat} (h : n ≤ 1000000) : n ≤ sizeLine := Nat.le_trans h (by decide)
theorem sz' {n : Nat} (h : n ≤ 1000000) : n < sizeLine := Nat.lt_of_le_of_lt h (by decide)
theorem rd_mod {i j : Int} (hj : 0 < j) (h : ∀ r, r = i % j → 0 ≤ r → r < j → Q (.int r) H) : rI (fun _ j => 0 < j) (fun i j => .int (i % j)) (.int i) (.int j) H Q :=
  ⟨i, j, rfl, rfl, hj, h _ rfl (Int.emod_nonneg _ (by omega)) (Int.emod_lt_of_pos _ hj)⟩
theorem rd_div {i j : Int} (hj : 0 < j) (hb : j < 2 ^ 64) (h : Q (.int (i / j)) H) : rI CDivW (fun i j => .int (i / j)) (.int i) (.int j) H Q :=
  ⟨i, j, rfl, rfl, wide_div (b := 64) hj (by omega) (by decide) (by decide), h⟩
theorem rd_mulL {i j : Int} (h0 : -(2 ^ 64) < i) (h1 : i < 2 ^ 64) (h : Q (.int (i * j)) H) : rI CMul (fun i j => .int (i * j)) (.int i) (.int j) H Q := ⟨i, j, rfl, rfl, .inl ⟨h0, h1⟩, h⟩
theorem rd_mulR {i j : Int} (h0 : -(2 ^ 64) < j) (h1 : j < 2 ^ 64) (h : Q (.int (i * j)) H) : rI CMul (fun i j => .int (i * j)) (.int i) (.int j) H Q := ⟨i, j, rfl, rfl, .inr ⟨h0, h1⟩, h⟩
theorem rd_pow {f : Int → Int → V} {i j : Int} (h0 : 0 ≤ j) (h1 : j ≤ 1000000) (h2 : i.natAbs < 2 ^ 64) (h : Q (f i j) H) : rI CPow f (.int i) (.int j) H Q := ⟨i, j, rfl, rfl, ⟨h0, h1, h2⟩, h⟩
/-! tests -/
theorem rd_dec {p : Prop} [Decidable p] (h1 : p → A) (h2 : ¬ p → B) : if decide p = true then A else B := by
  by_cases h : p
  · rw [if_pos (decide_eq_true h)]; exact h1 h
  · rw [if_neg (by simp [h])]; exact h2 h
theorem rd_decT {p : Prop} [Decidable p] (h : p) (h1 : A) : if decide p = true then A else B := by rw [if_pos (decide_eq_true h)]; exact h1
theorem rd_decF {p : Prop} [Decidable p] (h : ¬ p) (h1 : B) : if decide p = true then A else B := by rw [if_neg (by simp [h])]; exact h1
theorem rd_ite {b : Bool} (h1 : b = true → A) (h2 : b = false → B) : if b = true then A else B := by
  cases b with
  | true => rw [if_pos rfl]; exact h1 rfl
  | false => rw [if_neg Bool.false_ne_true]; exact h2 rfl
theorem rd_iteT (h : A) : if true = true then A else B := by rw [if_pos rfl]; exact h
theorem rd_iteF (h : B) : if false = true then A else B := by rw [if_neg Bool.false_ne_true]; exact h
theorem rd_ndec {p : Prop} [Decidable p] (h1 : ¬ p → A) (h2 : p → B) : if (!decide p) = true then A else B := by
  by_cases h : p
  · rw [if_neg (by simp [h])]; exact h2 h
  · rw [if_pos (by simp [h])]; exact h1 h
theorem rd_ndecT {p : Prop} [Decidable p] (h : p) (h2 : B) : if (!decide p) = true then A else B := by rw [if_neg (by simp [h])]; exact h2
theorem rd_ndecF {p : Prop} [Decidable p] (h : ¬ p) (h1 : A) : if (!decide p) = true then A else B := by rw [if_pos (by simp [h])]; exact h1
theorem rd_nT (h : B) : if (!true) = true then A else B := by rw [if_neg (by decide)]; exact h
theorem rd_nF (h : A) : if (!false) = true then A else B := by rw [if_pos (by decide)]; exact h
/-! with the ledger -/
theorem rd_newL {xs : List V} (S : Hs H0 M H L) (hz : xs.length ≤ sizeLine) (h : ∀ p H', H0 p = none → Hs H0 M H' ((p, .lst xs) :: L) → Q (.ref p) H') : nwL Q H xs :=
  ⟨hz, fun p hp => h p _ (S.new hp (.lst xs)).1 (S.new hp (.lst xs)).2⟩
theorem rd_newT {xs : List V} (S : Hs H0 M H L) (hz : xs.length ≤ sizeLine) (h : ∀ p H', H0 p = none → Hs H0 M H' ((p, .tup xs) :: L) → Q (.ref p) H') : nwT Q H xs :=
  ⟨hz, fun p hp => h p _ (S.new hp (.tup xs)).1 (S.new hp (.tup xs)).2⟩
theorem rd_newO {o : HO} (S : Hs H0 M H L) (h : ∀ p H', H0 p = none → Hs H0 M H' ((p, o) :: L) → Q (.ref p) H') : nw Q H o :=
  fun p hp => h p _ (S.new hp o).1 (S.new hp o).2
theorem rd_ixL {K : PySem.W.Frag} {a : Addr} {xs : List V} {i : Int} (S : Hs H0 M H L) (m : (a, HO.lst xs) ∈ L) (e : atI xs i = some v) (h : Q v H) : rIxL K (.ref a) (.int i) H Q := ⟨a, xs, i, v, rfl, rfl, S.lst m, e, h⟩
theorem atI_any {α : Type} {xs : List α} {i : Int} (h0 : 0 ≤ i) (h1 : i < xs.length) : ∃ v, v ∈ xs ∧ xs[i.toNat]? = some v ∧ atI xs i = some v := by
  have hl : i.toNat < xs.length := by omega
  have e : xs[i.toNat]? = some xs[i.toNat] := by simp [hl]
  refine ⟨xs[i.toNat], List.getElem_mem hl, e, ?_⟩
  have z : ((i.toNat : Nat) : Int) = i := by omega
  have q := atI_nat e
  rw [z] at q
  exact q
theorem rd_ixAny {K : PySem.W.Frag} {a : Addr} {xs : List V} {i : Int} (S : Hs H0 M H L) (m : (a, HO.lst xs) ∈ L) (h0 : 0 ≤ i) (h1 : i < xs.length) (h : ∀ v, v ∈ xs → xs[i.toNat]? = some v → Q v H) : rIxL K (.ref a) (.int i) H Q := by
  obtain ⟨v, hv, e, he⟩ := atI_any h0 h1
  exact ⟨a, xs, i, v, rfl, rfl, S.lst m, he, h v hv e⟩
theorem rd_ixT {K : PySem.W.Frag} {a : Addr} {xs : List V} {i : Int} (S : Hs H0 M H L) (m : (a, HO.tup xs) ∈ L) (e : atI xs i = some v) (h : Q v H) : rIxT K (.ref a) (.int i) H Q := ⟨a, xs, i, v, rfl, rfl, S.tup m, e, h⟩
theorem rd_len {K : PySem.W.Frag} {a : Addr} {xs : List V} (S : Hs H0 M H L) {R : List V → Prop} (m : (a, HO.lst xs) ∈ L) (h : R xs) : ∃ p ys, [V.ref a] = [.ref p] ∧ (SqL K H p ys ∨ SqT K H p ys) ∧ R ys := ⟨a, xs, rfl, Or.inl (S.lst m), h⟩
theorem rd_lenT {K : PySem.W.Frag} {a : Addr} {xs : List V} (S : Hs H0 M H L) {R : List V → Prop} (m : (a, HO.tup xs) ∈ L) (h : R xs) : ∃ p ys, [V.ref a] = [.ref p] ∧ (SqL K H p ys ∨ SqT K H p ys) ∧ R ys := ⟨a, xs, rfl, Or.inr (S.tup m), h⟩
theorem rd_getS {a : Addr} {kvs : List (Key × V)} {k : Str} (S : Hs H0 M H L) (m : (a, HO.dK kvs) ∈ L) (e : valV kvs (.inr k) = some v) {R : V → Prop} (h : R v) : ∃ a' v', V.ref a = .ref a' ∧ DGet H a' (.str k) (some v') ∧ R v' :=
  ⟨a, v, rfl, by rw [← e]; exact DGet.k (k := Sum.inr k) (S.is _ m), h⟩
theorem rd_putS {a : Addr} {kvs kvs' : List (Key × V)} {k : Str} {R : Hp → Prop} (S : Hs H0 M H L) (c : Chg a (.dK kvs) (.dK kvs') L L') (hm : H0 a = none ∨ a ∈ M) (hl : kvs.length < sizeLine) (e : putK kvs (.inr k) v = kvs')
    (h : ∀ H', Hs H0 M H' L' → R H') : ∃ a' H4, V.ref a = .ref a' ∧ DPut H a' (.str k) v H4 ∧ R H4 := by
  subst e
  exact ⟨a, _, rfl, DPut.k (k := Sum.inr k) (S.is _ c.mem) hl, h _ (S.put c hm)⟩
theorem gt_ref {K : PySem.W.Frag} {a : Addr} {xs : List V} {n : Nat} {ts : TGs} {N : L2.St → Hp → Prop} (S : Hs H0 M H L) (m : (a, HO.tup xs) ∈ L) (hn : xs.length = n) (h : ts xs σ H N) : gTup K n ts (.ref a) σ H N := ⟨a, xs, rfl, S.tup m, hn, h⟩
theorem gt_cons {ts : TGs} {w : V} {vs : List V} {N : L2.St → Hp → Prop} (h : g w σ H fun σ' H' => ts vs σ' H' N) : gCons g ts (w :: vs) σ H N := ⟨w, vs, rfl, h⟩
theorem gt_nil {N : L2.St → Hp → Prop} (h : N σ H) : gNil [] σ H N := ⟨rfl, h⟩
end
/-! ### a def as it is called by its name -/
structure Cal (K : PySem.W.Frag) (mg : Str → Option Value) (x : Str) (st : Stmt) (ps : List Str) (f : Addr) (fd : FuncData) : Prop where
  F : Fun K x x st f fd
  b : Binds K fd ps []
  m : mg x = some (.ref f)
end Rs

namespace Rs
open PySem PySem.Spec PyProof.Rows L2

/-! ### kinds of values -/
inductive Kn where
  | int | bool | str | none | list | tup | dict
  deriving DecidableEq
def Kn.nm : Kn → String
  | .int => "int" | .bool => "bool" | .str => "str" | .none => "NoneType" | .list => "list" | .tup => "tuple" | .dict => "dict"
inductive Kin (K : PySem.W.Frag) (H : Hp) : V → Kn → Prop where
  | int (i : Int) : Kin K H (.int i) .int
  | bl (b : Bool) : Kin K H (.bl b) .bool
  | str (x : Str) : Kin K H (.str x) .str
  | non : Kin K H .non .none
  | ref {a : Addr} {k : Kn} (h : TyX K H (.ref a) (.type k.nm)) (n : k = .list ∨ k = .tup ∨ k = .dict) : Kin K H (.ref a) k
section
variable {K : PySem.W.Frag} {H H0 : Hp} {M : List Addr} {L : Led} {x : V} {k : Kn} {Q : VK} {a : Addr}
theorem Kin.ty (h : Kin K H x k) : TyX K H x (.type k.nm) := by
  cases h with
  | int i => exact .base (.int i)
  | bl b => exact .base (.bl b)
  | str x => exact .base (.str x)
  | non => exact .base .non
  | ref h n => exact h
theorem Kin.lst {xs : List V} (h : H a = some (.lst xs)) : Kin K H (.ref a) .list := .ref (.base (.lst h)) (.inl rfl)
theorem Kin.tup {xs : List V} (h : H a = some (.tup xs)) : Kin K H (.ref a) .tup := .ref (.base (.tup h)) (.inr (.inl rfl))
theorem Kin.dK {kvs : List (Key × V)} (h : H a = some (.dK kvs)) : Kin K H (.ref a) .dict := .ref (.base (.dK h)) (.inr (.inr rfl))
theorem kit_int (k : Kn) : kitB k.nm "int" = some (k == .int || k == .bool) := by cases k <;> decide +kernel
theorem kit_bool (k : Kn) : kitB k.nm "bool" = some (k == .bool) := by cases k <;> decide +kernel
theorem kit_list (k : Kn) : kitB k.nm "list" = some (k == .list) := by cases k <;> decide +kernel
theorem kit_tuple (k : Kn) : kitB k.nm "tuple" = some (k == .tup) := by cases k <;> decide +kernel
theorem kit_str (k : Kn) : kitB k.nm "str" = some (k == .str) := by cases k <;> decide +kernel
theorem rd_isi {T : String} {b : Bool} (h : Kin K H x k) (e : kitB k.nm T = some b) (q : Q (.bl b) H) : rIsi K [x, .ty T] H Q := ⟨x, .ty T, .type k.nm, .type T, b, rfl, .ty T, h.ty, kit_ty e, q⟩
end
/-- a def with keyword-only defaults, as it is called by its name -/
structure CalK (K : PySem.W.Frag) (mg : Str → Option Value) (x : Str) (st : Stmt) (f : Addr) (fd : FuncData) : Prop where
  F : Fun K x x st f fd
  m : mg x = some (.ref f)
/-- whether a thing is a whole number from l to m -/
def isWh (x : V) (l m : Int) : Bool := match x with
  | .int t => decide (l ≤ t) && decide (t ≤ m)
  | _ => false
theorem isWh_int (t l m : Int) : isWh (.int t) l m = (decide (l ≤ t) && decide (t ≤ m)) := rfl

/-! ### more readings -/
section
variable {X : Cx}
/-- a module's constant -/
theorem pe_gl {x : Str} {v : V} {pos : Pos} (hg : Gl X x) (h : ∃ u, X.mg x = some u ∧ RelV v u) (hd : (x == ("__debug__" : Str)) = false := by decide) : PE X (.Name x pos) (tC v) := by
  obtain ⟨u, h1, h2⟩ := h
  exact pe_glob hg h1 h2 hd
end
/-- the keys of written pairs -/
def toK : List (V × V) → List (Key × V)
  | [] => []
  | (.int i, v) :: r => (.inl i, v) :: toK r
  | (.str x, v) :: r => (.inr x, v) :: toK r
  | _ :: r => toK r
def dspEnd (Q : VK) (p : Addr) (ps : List (V × V)) (H : Hp) : Prop := H p = some (.dK []) ∧ ∃ kvs : List (Key × V), ps = kvs.map (fun kv => (kV kv.1, kv.2)) ∧ kvs.length ≤ 15 ∧ Q (.ref p) (upd H p (.dK (mergeK [] kvs)))
def forW (J : It) (g : TG) (tb : TS) (D : Ends) (σ : L2.St) (H : Hp) : Prop := ∃ W : Nat → Nat → L2.St → Hp → Prop, (∃ m, W 0 m σ H) ∧ ∀ i m σ H, W i m σ H →
  (J.stop i H ∧ D.nx σ H) ∨ (J.go i H ∧ ∃ N : L2.St → Hp → Prop, (∀ σ' H', N σ' H' → ∃ m', m' < m ∧ W (i + 1) m' σ' H') ∧ ∀ x H', J.yld i H x H' → g x σ H' fun σ2 H2 => tb { D with nx := N, ct := N, bk := D.nx } σ2 H2)
def wl (W : Nat → L2.St → Hp → Prop) (m : Nat) (tw : TS) (nx : L2.St → Hp → Prop) (rt : VK) (σ : L2.St) (H : Hp) : Prop := ∃ N : L2.St → Hp → Prop, (∀ σ' H', N σ' H' → ∃ m', m' < m ∧ W m' σ' H') ∧ tw ⟨N, rt, nx, N⟩ σ H
def rng1 (R : It → Hp → Prop) (vs : List V) (H : Hp) : Prop := ∃ j : Int, vs = [.int j] ∧ -(2 ^ 62) ≤ j ∧ j < 2 ^ 62 ∧ R (Itr 0 j.toNat) H
def rng2 (R : It → Hp → Prop) (vs : List V) (H : Hp) : Prop := ∃ i j : Int, vs = [.int i, .int j] ∧ (-(2 ^ 62) ≤ i ∧ i < 2 ^ 62 ∧ -(2 ^ 62) ≤ j ∧ j < 2 ^ 62) ∧ R (Itr i (j - i).toNat) H
def lstI (K : PySem.W.Frag) (R : It → Hp → Prop) (x : V) (H : Hp) : Prop := ∃ a, x = .ref a ∧ (∃ xs, SqL K H a xs) ∧ R (Itl K a) H
def tupI (K : PySem.W.Frag) (R : It → Hp → Prop) (x : V) (H : Hp) : Prop := ∃ a, x = .ref a ∧ (∃ xs, SqT K H a xs) ∧ R (Itt K a) H
section
variable {σ : L2.St} {H H0 : Hp} {M : List Addr} {L L' : Led} {Q : VK} {v x y : V} {nx : L2.St → Hp → Prop} {rt : VK} {bk ct : L2.St → Hp → Prop} {t u : TS} {te ta tb tc : TE} {g : TG} {tt tu : TT} {tw : TS} {wi : TI}
theorem rd_disp {trs : List (TE × TE)} (S : Hs H0 M H L) (h : ∀ p H', H0 p = none → Hs H0 M H' ((p, .dK []) :: L) → tPairs trs σ H' fun ps H2 => dspEnd Q p ps H2) : tDisp trs σ H Q :=
  fun p hp => h p _ (S.new hp (.dK [])).1 (S.new hp (.dK [])).2
theorem rd_dspEnd {p : Addr} {ps : List (V × V)} {kvs : List (Key × V)} (S : Hs H0 M H L) (c : Chg p (.dK []) (.dK kvs) L L') (hm : H0 p = none ∨ p ∈ M) (e : ps = (toK ps).map fun kv => (kV kv.1, kv.2)) (hl : (toK ps).length ≤ 15)
    (ek : mergeK [] (toK ps) = kvs) (h : ∀ H', Hs H0 M H' L' → Q (.ref p) H') : dspEnd Q p ps H := by
  subst ek
  exact ⟨S.is _ c.mem, toK ps, e, hl, h _ (S.put c hm)⟩
theorem rd_prs {r : List (TE × TE)} {R : List (V × V) → Hp → Prop} (h : ta σ H fun k H1 => tb σ H1 fun v H2 => tPairs r σ H2 fun ps H3 => R ((k, v) :: ps) H3) : tPairs ((ta, tb) :: r) σ H R := h
theorem rd_prs0 {R : List (V × V) → Hp → Prop} (h : R [] H) : tPairs [] σ H R := h
theorem rd_for (h : wi σ H fun J H1 => forW J g tw ⟨nx, rt, bk, ct⟩ σ H1) : tFor wi g tw ⟨nx, rt, bk, ct⟩ σ H := h
theorem rd_rng1 {ta : TA} {R : It → Hp → Prop} (h : ta σ H fun vs H1 => rng1 R vs H1) : iRng1 ta σ H R := h
theorem rd_rng2 {ta : TA} {R : It → Hp → Prop} (h : ta σ H fun vs H1 => rng2 R vs H1) : iRng2 ta σ H R := h
theorem rd_rng1v {R : It → Hp → Prop} {j : Int} (h1 : -(2 ^ 62) ≤ j) (h2 : j < 2 ^ 62) (h : R (Itr 0 j.toNat) H) : rng1 R [.int j] H := ⟨j, rfl, h1, h2, h⟩
theorem rd_rng2v {R : It → Hp → Prop} {i j : Int} (h1 : -(2 ^ 62) ≤ i) (h2 : i < 2 ^ 62) (h3 : -(2 ^ 62) ≤ j) (h4 : j < 2 ^ 62) (h : R (Itr i (j - i).toNat) H) : rng2 R [.int i, .int j] H := ⟨i, j, rfl, ⟨h1, h2, h3, h4⟩, h⟩
theorem rd_iList {K : PySem.W.Frag} {R : It → Hp → Prop} (h : te σ H fun x H1 => lstI K R x H1) : iList K te σ H R := h
theorem rd_iTup {K : PySem.W.Frag} {R : It → Hp → Prop} (h : te σ H fun x H1 => tupI K R x H1) : iTup K te σ H R := h
theorem rd_lstI {K : PySem.W.Frag} {R : It → Hp → Prop} {a : Addr} {xs : List V} (S : Hs H0 M H L) (m : (a, HO.lst xs) ∈ L) (h : R (Itl K a) H) : lstI K R (.ref a) H := ⟨a, rfl, ⟨xs, S.lst m⟩, h⟩
theorem rd_tupI {K : PySem.W.Frag} {R : It → Hp → Prop} {a : Addr} {xs : List V} (S : Hs H0 M H L) (m : (a, HO.tup xs) ∈ L) (h : R (Itt K a) H) : tupI K R (.ref a) H := ⟨a, rfl, ⟨xs, S.tup m⟩, h⟩
/-- over lo, lo + 1, .. -/
theorem fw_range {lo : Int} {n : Nat} (Pv : Nat → L2.St → Hp → Prop) (h0 : Pv 0 σ H) (hs : ∀ i σ H, i < n → Pv i σ H → g (.int (lo + i)) σ H fun σ2 H2 => tw ⟨Pv (i + 1), rt, nx, Pv (i + 1)⟩ σ2 H2) (hd : ∀ σ H, Pv n σ H → nx σ H) :
    forW (Itr lo n) g tw ⟨nx, rt, bk, ct⟩ σ H := for_range Pv h0 hs hd
/-- over a list that stays as it is -/
theorem fw_list {K : PySem.W.Frag} {a : Addr} {xs : List V} (Pv : Nat → L2.St → Hp → Prop) (h0 : Pv 0 σ H) (hl : ∀ i σ H, i ≤ xs.length → Pv i σ H → SqL K H a xs)
    (hs : ∀ i x σ H, xs[i]? = some x → Pv i σ H → g x σ H fun σ2 H2 => tw ⟨Pv (i + 1), rt, nx, Pv (i + 1)⟩ σ2 H2) (hd : ∀ σ H, Pv xs.length σ H → nx σ H) : forW (Itl K a) g tw ⟨nx, rt, bk, ct⟩ σ H := for_list Pv h0 hl hs hd
theorem fw_tup {K : PySem.W.Frag} {a : Addr} {xs : List V} (Pv : Nat → L2.St → Hp → Prop) (h0 : Pv 0 σ H) (hl : ∀ i σ H, i ≤ xs.length → Pv i σ H → SqT K H a xs)
    (hs : ∀ i x σ H, xs[i]? = some x → Pv i σ H → g x σ H fun σ2 H2 => tw ⟨Pv (i + 1), rt, nx, Pv (i + 1)⟩ σ2 H2) (hd : ∀ σ H, Pv xs.length σ H → nx σ H) : forW (Itt K a) g tw ⟨nx, rt, bk, ct⟩ σ H := for_tup Pv h0 hl hs hd
/-- while: W a word with a number that falls -/
theorem rd_while (W : Nat → L2.St → Hp → Prop) (m0 : Nat) (h0 : W m0 σ H) (hs : ∀ m σ H, W m σ H → tt σ H fun b H1 => if b = true then wl W m tw nx rt σ H1 else nx σ H1) : tWhile tt tw ⟨nx, rt, bk, ct⟩ σ H := ⟨W, ⟨m0, h0⟩, hs⟩
theorem rd_wl {W : Nat → L2.St → Hp → Prop} {m : Nat} (h : tw ⟨fun σ' H' => ∃ m', m' < m ∧ W m' σ' H', rt, nx, fun σ' H' => ∃ m', m' < m ∧ W m' σ' H'⟩ σ H) : wl W m tw nx rt σ H := ⟨_, fun _ _ h => h, h⟩
end
end Rs

namespace Rs
open PySem PySem.Spec PyProof.Rows L2

/-! ### plain data: how far it reaches -/
mutual
/-- whole numbers below 10 ^ 12, short texts of small signs, no dicts -/
def tame : PyData → Bool
  | .none | .bool _ => true
  | .int i => decide (i.natAbs < 10 ^ 12)
  | .str x => PyData.strOk x && decide (x.cps.size ≤ 40) && x.cps.toList.all fun c => decide (c < 16 ^ 8)
  | .list xs | .tuple xs => tames xs
  | .dict _ => false
def tames : List PyData → Bool
  | [] => true
  | x :: xs => tame x && tames xs
end
mutual
/-- how many there are in all -/
def cnt : PyData → Nat
  | .list xs | .tuple xs => 1 + cnts xs
  | _ => 1
def cnts : List PyData → Nat
  | [] => 0
  | x :: xs => cnt x + cnts xs
end
mutual
theorem tame_show : ∀ d : PyData, tame d = true → d.showable = true ∧ d.canLay0 = true ∧ d.intsShort 13 = true ∧ d.weight + 1 ≤ 46 * cnt d
  | .none, _ => by simp [PyData.showable, PyData.canLay0, PyData.intsShort, PyData.weight, cnt]
  | .bool _, _ => by simp [PyData.showable, PyData.canLay0, PyData.intsShort, PyData.weight, cnt]
  | .int i, h => by
    have h1 : i.natAbs < 10 ^ 12 := by simpa [tame] using h
    have h2 : i.natAbs.log2 < 40 := by
      by_cases z : i.natAbs = 0
      · rw [z]; decide
      · exact (Nat.log2_lt z).mpr (by omega)
    have h3 := PyData.shown_int_le h1
    refine ⟨by simp [PyData.showable]; omega, by simp [PyData.canLay0], by simp [PyData.intsShort]; omega, ?_⟩
    simp only [PyData.weight, cnt]
    split <;> omega
  | .str x, h => by
    simp only [tame, Bool.and_eq_true, decide_eq_true_eq] at h
    refine ⟨by simp [PyData.showable], by simpa [PyData.canLay0] using h.1.1, by simp [PyData.intsShort], ?_⟩
    simp only [PyData.weight, cnt]
    omega
  | .list xs, h => by
    obtain ⟨h1, h2, h3, h4⟩ := tames_show xs (by simpa [tame] using h)
    refine ⟨by simpa [PyData.showable] using h1, by simpa [PyData.canLay0] using h2, by simpa [PyData.intsShort] using h3, ?_⟩
    simp only [PyData.weight, cnt]
    omega
  | .tuple xs, h => by
    obtain ⟨h1, h2, h3, h4⟩ := tames_show xs (by simpa [tame] using h)
    refine ⟨by simpa [PyData.showable] using h1, by simpa [PyData.canLay0] using h2, by simpa [PyData.intsShort] using h3, ?_⟩
    simp only [PyData.weight, cnt]
    omega
  | .dict _, h => by simp [tame] at h
theorem tames_show : ∀ xs : List PyData, tames xs = true → PyData.showableAll xs = true ∧ PyData.canLayAll0 xs = true ∧ PyData.intsShortAll 13 xs = true ∧ PyData.weightAll xs ≤ 46 * cnts xs
  | [], _ => by simp [PyData.showableAll, PyData.canLayAll0, PyData.intsShortAll, PyData.weightAll, cnts]
  | x :: xs, h => by
    have h' : tame x = true ∧ tames xs = true := by simpa [tames] using h
    obtain ⟨a1, a2, a3, a4⟩ := tame_show x h'.1
    obtain ⟨b1, b2, b3, b4⟩ := tames_show xs h'.2
    simp only [PyData.showableAll, PyData.canLayAll0, PyData.intsShortAll, PyData.weightAll, cnts, a1, a2, a3, b1, b2, b3, Bool.and_self, true_and]
    omega
end
theorem shw_of {d : PyData} (h : tame d = true) (hc : cnt d ≤ 20000) : Shw d := by
  obtain ⟨h1, h2, h3, h4⟩ := tame_show d h
  exact ⟨h1, PyData.shown_fits (B := 13) (by decide) (by decide) (PyData.leavesShort_of_canLay0 13 d h2 h3) (by omega)⟩
theorem shaped_of {d : PyData} (h : tame d = true) (hd : d.depth ≤ 64) : SeqAt.shaped d = true := by
  obtain ⟨_, h2, _, _⟩ := tame_show d h
  unfold SeqAt.shaped
  rw [h2, Bool.true_and]
  exact decide_eq_true hd
/-! ### lists of whole numbers -/
def dI (ns : List Int) : PyData := .list (ns.map .int)
section
variable {K : PySem.W.Frag} {H H0 : Hp} {M : List Addr} {L L' : Led} {Q : VK} {a b : Addr}
theorem dps_ints : ∀ ns : List Int, DpAll K H (ns.map V.int) (ns.map .int)
  | [] => .nil
  | n :: ns => .cons (.int n) (dps_ints ns)
theorem dp_ints {ns : List Int} (h : SqL K H a (ns.map V.int)) : Dp K H (.ref a) (dI ns) := .lst h (dps_ints ns)
theorem depth_ints : ∀ ns : List Int, PyData.depthAll (ns.map .int) = 0
  | [] => by simp [PyData.depthAll]
  | n :: ns => by simp [PyData.depthAll, PyData.depth, depth_ints ns]
theorem depth_dI (ns : List Int) : (dI ns).depth = 1 := by simp [dI, PyData.depth, depth_ints]
theorem canLay_ints : ∀ ns : List Int, PyData.canLayAll0 (ns.map .int) = true
  | [] => by simp [PyData.canLayAll0]
  | n :: ns => by simp [PyData.canLayAll0, PyData.canLay0, canLay_ints ns]
theorem shaped_dI (ns : List Int) : SeqAt.shaped (dI ns) = true := by
  unfold SeqAt.shaped
  rw [depth_dI]
  simp [dI, PyData.canLay0, canLay_ints]
theorem eqv_ints : ∀ ns ms : List Int, PyData.eqvAll (ns.map .int) (ms.map .int) = decide (ns = ms)
  | [], [] => by simp [PyData.eqvAll]
  | [], m :: ms => by simp [PyData.eqvAll]
  | n :: ns, [] => by simp [PyData.eqvAll]
  | n :: ns, m :: ms => by
    simp only [List.map_cons, PyData.eqvAll, PyData.eqv, eqv_ints ns ms, List.cons.injEq, Bool.decide_and]
    rfl
theorem eqv_dI (ns ms : List Int) : PyData.eqv (dI ns) (dI ms) = decide (ns = ms) := by
  simp only [dI, PyData.eqv, eqv_ints]
theorem tames_ints : ∀ ns : List Int, (∀ n ∈ ns, n.natAbs < 10 ^ 12) → tames (ns.map .int) = true
  | [], _ => by simp [tames]
  | n :: ns, h => by
    simp only [List.map_cons, tames, tame, Bool.and_eq_true, decide_eq_true_eq]
    exact ⟨h n List.mem_cons_self, tames_ints ns fun m hm => h m (List.mem_cons_of_mem _ hm)⟩
theorem cnts_ints : ∀ ns : List Int, cnts (ns.map .int) = ns.length
  | [] => by simp [cnts]
  | n :: ns => by simp only [List.map_cons, cnts, cnt, cnts_ints ns, List.length_cons]; omega
theorem shw_dI {ns : List Int} (h : ∀ n ∈ ns, n.natAbs < 10 ^ 12) (hl : ns.length ≤ 10000) : Shw (dI ns) :=
  shw_of (by simp [dI, tame, tames_ints ns h]) (by simp only [dI, cnt, cnts_ints]; omega)
/-- == and != of two lists of whole numbers -/
theorem rd_eqIs {xs ys : List V} {ns ms : List Int} (S : Hs H0 M H L) (m1 : (a, HO.lst xs) ∈ L) (m2 : (b, HO.lst ys) ∈ L) (e1 : xs = ns.map V.int) (e2 : ys = ms.map V.int) (h : Q (.bl (decide (ns = ms))) H) : rEqD K (.ref a) (.ref b) H Q := by
  subst e1 e2
  exact ⟨_, _, dp_ints (S.lst m1), dp_ints (S.lst m2), shaped_dI ns, shaped_dI ms, by rw [eqv_dI]; exact h⟩
theorem rd_neIs {xs ys : List V} {ns ms : List Int} (S : Hs H0 M H L) (m1 : (a, HO.lst xs) ∈ L) (m2 : (b, HO.lst ys) ∈ L) (e1 : xs = ns.map V.int) (e2 : ys = ms.map V.int) (h : Q (.bl (decide (¬ ns = ms))) H) : rNeD K (.ref a) (.ref b) H Q := by
  subst e1 e2
  refine ⟨_, _, dp_ints (S.lst m1), dp_ints (S.lst m2), shaped_dI ns, shaped_dI ms, ?_⟩
  rw [eqv_dI]
  have e : (!decide (ns = ms)) = decide (¬ ns = ms) := by simp
  rw [e]; exact h
theorem rd_reprI {xs : List V} {ns : List Int} (S : Hs H0 M H L) (m : (a, HO.lst xs) ∈ L) (e : xs = ns.map V.int) (hb : ∀ n ∈ ns, n.natAbs < 10 ^ 12) (hl : ns.length ≤ 10000) (h : Q (.str (dI ns).shown) H) : rRepr K [.ref a] H Q := by
  subst e
  exact ⟨.ref a, dI ns, rfl, dp_ints (S.lst m), shw_dI hb hl, by rw [depth_dI]; decide, h⟩
theorem pick_ints (ns : List Int) (lo hi st : Option Int) : ∃ ks : List Int, pickV (ns.map V.int) lo hi st = ks.map V.int ∧ (∀ k ∈ ks, k ∈ ns) := by
  have e : ∀ ix : List Nat, ix.filterMap ((ns.map V.int)[·]?) = (ix.filterMap (ns[·]?)).map V.int := fun ix => by
    induction ix with
    | nil => rfl
    | cons i ix ih =>
      cases h : ns[i]? with
      | none => rw [List.filterMap_cons_none (by rw [List.getElem?_map, h]; rfl), List.filterMap_cons_none h, ih]
      | some z => rw [List.filterMap_cons_some (by rw [List.getElem?_map, h]; rfl), List.filterMap_cons_some h, ih]; rfl
  refine ⟨(slIx (ns.map V.int).length lo hi st).filterMap (ns[·]?), e _, fun k hk => ?_⟩
  obtain ⟨i, _, hi⟩ := List.mem_filterMap.mp hk
  exact List.mem_of_getElem? hi
end
/-- how keywords are put in the parameters' order -/
theorem kb_of {K : PySem.W.Frag} {x qual : Str} {st : Stmt} {f : Addr} {fd : FuncData} {ps ks : List Str} {n : Nat} (F : Fun K x qual st f fd) (ix : List Nat)
    (h : ∀ (kV doc pm : Value) (an : Option Addr) (cdv ct : Value) (us ws : List Value), us.length = n → ws.length = ks.length →
      bindArgs (PySem.W.fnOf x qual (defArgs st) (defBody st) (defScope st) .none kV doc pm an cdv ct) ⟨us, ks.zip ws⟩ = pure (ps.zip (us ++ ix.filterMap (ws[·]?)))) :
    KBn K fd ps n ks (fun us ws => us ++ ix.filterMap (ws[·]?)) (fun us ws => us ++ ix.filterMap (ws[·]?)) := by
  obtain ⟨oc, od, kV, doc, pm, an, cdv, ct, osl, rfl, lk, hcd⟩ := F.ex
  exact ⟨fun s us ws _ h1 h2 => .of_eq (h kV doc pm an cdv ct us ws h1 h2), fun r1 r2 => r1.append (vals_pick r2 ix)⟩
end Rs

namespace Rs
open PySem PySem.Spec PyProof.Rows L2
section
variable {K : PySem.W.Frag} {mg : Str → Option Value} {h : Heap}
theorem ex_calK {x : Str} {st : Stmt} {f : Addr} {oc : Value} {od an : Option Addr} {osl : Array (Option Value)} {kV doc pm cdv ct : Value} (X : K.In h) (G : h.Ns mainGlobals mg) (a : PySem.W.nsIn K mainGlobals x = some (some (.ref f)))
    (l : K.lookup f = some ⟨oc, od, .func (PySem.W.fnOf x x (defArgs st) (defBody st) (defScope st) .none kV doc pm an cdv ct), osl⟩) (c : PySem.W.codeIn K cdv x = true) (k : PySem.W.keepIn K (.ref f) = true) : ∃ f fd, CalK K mg x st f fd :=
  ⟨_, _, fun_mk l c k, PySem.W.mg_of X G a⟩
theorem ex_cal {x : Str} {st : Stmt} {ps : List Str} {f : Addr} {oc : Value} {od an : Option Addr} {osl : Array (Option Value)} {kV doc pm cdv ct : Value} (X : K.In h) (G : h.Ns mainGlobals mg) (a : PySem.W.nsIn K mainGlobals x = some (some (.ref f)))
    (l : K.lookup f = some ⟨oc, od, .func (PySem.W.fnOf x x (defArgs st) (defBody st) (defScope st) .none kV doc pm an cdv ct), osl⟩) (c : PySem.W.codeIn K cdv x = true) (k : PySem.W.keepIn K (.ref f) = true)
    (b : ∀ (kV doc pm : Value) (an : Option Addr) (cdv ct : Value) (us : List Value), us.length = ps.length → bindArgs (PySem.W.fnOf x x (defArgs st) (defBody st) (defScope st) .none kV doc pm an cdv ct) ⟨us, []⟩ = pure (ps.zip us)) : ∃ f fd, Cal K mg x st ps f fd :=
  ⟨_, _, fun_mk l c k, (fun_mk l c k).binds b, PySem.W.mg_of X G a⟩
theorem ex_gl {x : Str} {v : V} {u : Value} (X : K.In h) (G : h.Ns mainGlobals mg) (a : PySem.W.nsIn K mainGlobals x = some (some u)) (r : RelV v u) : ∃ u, mg x = some u ∧ RelV v u := ⟨u, PySem.W.mg_of X G a, r⟩
end
/-- the end, the law's def by its facts -/
theorem walkE {l : PySem.W.OpenLaw} {n k : Nat} {q : Program} {loose : List Str} {XP : (Str → Option Value) → Heap → Prop} {YP : World → Heap → Prop} {d : DefRec} {K : Params → PySem.W.Frag} {sp : PySem.W.Frag → Sp} {st : Stmt} {x : Str}
    (hn : l.most = some n) (hn2 : n ≤ sizeLine) (hdf : d.params.defaults = []) (hr : Room k callerA) (hY : ∀ (w : World) (h : Heap), YP w h → (K w.params).In h) (hx : d.name = "law")
    (hb : ∀ (kV doc pm : Value) (an : Option Addr) (cdv ct u : Value), bindArgs (PySem.W.fnOf "law" "law" (defArgs st) (defBody st) (defScope st) .none kV doc pm an cdv ct) ⟨[u], []⟩ = pure [(x, u)])
    (F : ∀ (w : World) (mg : Str → Option Value) (h : Heap), (K w.params).In h → h.Ns mainGlobals mg →
      ∃ (fa : Addr) (fd : FuncData), Cal (K w.params) mg "law" st [x] fa fd ∧ ∀ base : Heap, FnG l.prog w (K w.params) mg base k fa fd [x] (sp (K w.params)))
    (hsp : ∀ (K : PySem.W.Frag) (H : Hp) (a : Addr) (ns : List Int), ns.length ≤ n → (∀ z ∈ ns, Builtin.Int.intBits z ≤ 1048576) → SqL K H a (ns.map V.int) → sp K [.ref a] H (fun v _ => v = .bl true) E0) :
    PySem.W.WalkO q loose XP YP l.row.toRowW d [] (fun f vs => PySem.call f vs) := by
  refine walkG (x := x) hn hn2 hdf hr hY (fun w mg fa h KX G hmg => ?_) hsp
  obtain ⟨f, fd, C, ok⟩ := F w mg h KX G
  rw [hx] at hmg
  have e := C.m.symm.trans hmg
  cases e
  obtain ⟨oc, od, kV, doc, pm, an, cdv, ct, osl, rfl, lk, hcd⟩ := C.F.ex
  exact ⟨_, fun s u => .of_eq (hb kV doc pm an cdv ct u), fun base _ _ => ok base⟩
end Rs

namespace Rs
open PySem PySem.Spec PyProof.Rows L2

/-- xs[i:j] = another list -/
def gSlc (to : TE) (tl th : L2.St → Hp → (Option Int → Hp → Prop) → Prop) : TG := fun v σ H Q => to σ H fun o H1 => tl σ H1 fun l H2 => th σ H2 fun u H3 => ∃ (a b : Addr) (xs ys : List V) (i j : Int), o = .ref a ∧ v = .ref b ∧ l = some i ∧ u = some j ∧
  H3 a = some (.lst xs) ∧ H3 b = some (.lst ys) ∧ a ≠ b ∧ 0 ≤ i ∧ i ≤ j ∧ j ≤ xs.length ∧ xs.length + ys.length ≤ sizeLine ∧ Q σ (upd H3 a (.lst (xs.take i.toNat ++ ys ++ xs.drop j.toNat)))
theorem pg_slc {X : Cx} {o : Expr} {lo hi : Option Expr} {p2 pos : Pos} {to : TE} {tl th : L2.St → Hp → (Option Int → Hp → Prop) → Prop} (ho : PE X o to) (hl : PO X lo tl) (hh : PO X hi th)
    (ha : ∀ v, assign (.Subscript o (.Slice lo hi none p2) pos) X.env v = (do
      let ov ← holding [v] (eval o X.env)
      let iv ← holding [v, ov] (eval (.Slice lo hi none p2) X.env)
      standAt pos
      holding [v, ov, iv] (setItem ov iv v)
      release [iv, v, ov] []) := by intro _; rfl) : PG X (.Subscript o (.Slice lo hi none p2) pos) (gSlc to tl th) := by
  refine ⟨fun pins s σ H v u Q I r h => ?_⟩
  rw [ha]
  refine wpAny_bind (wpAny_holding (thn (ho.run pins s σ H _ I h) fun ov s1 ⟨x, H1, I1, r1, q1⟩ => ?_))
  refine wpAny_bind (wpAny_holding ?_)
  refine wpAny_Slice (thn (hl.run pins s1 σ H1 _ I1 q1) fun vl s2 ⟨l, H2, I2, pl, q2⟩ => thn (hh.run pins s2 σ H2 _ I2 q2) fun vu s3 ⟨w, H3, I3, pu, q3⟩ => ?_)
  rw [evalPart_none]
  refine wpAny_pure ?_
  have I4 : Inv X pins σ H3 { s3 with heap := s3.heap.push { cls := .type "slice", data := .fields #[vl, vu, .none] } } := I3.kept (t' := s3.toks) fun b ob q => Heap.get?_push_of_some _ q
  obtain ⟨a, b, xs, ys, i, j, rfl, rfl, rfl, rfl, hA, hB, hne, h0, h1, h2, h3, q⟩ := q3
  cases r1
  cases r
  cases pl
  cases pu
  refine wpAny_bind (wpAny_standAt (wpAny_bind (wpAny_holding ?_)))
  refine set_slice I4 hA hB hne (Heap.IsSliceOf.new ..) ⟨_, rfl⟩ ⟨_, rfl⟩ h0 h1 h2 h3 fun s5 I5 => ?_
  exact wpAny_release ⟨σ, _, I5, q⟩

/-! ### classes -/
/-- a method as it stands behind the top -/
structure CalM (K : PySem.W.Frag) (x qual : Str) (st : Stmt) (ps : List Str) (f : Addr) (fd : FuncData) : Prop where
  F : Fun K x qual st f fd
  b : Binds K fd ps []
section
variable {K : PySem.W.Frag} {mg : Str → Option Value} {h : Heap}
theorem ex_calM {C : Addr} {x qual : Str} {st : Stmt} {ps : List Str} {f : Addr} {oc : Value} {od an : Option Addr} {osl : Array (Option Value)} {kV doc pm cdv ct : Value} (a : PySem.W.findIn K (.ref C) x = some (some (.ref f))) (i : PySem.W.isFn K (.ref f) = true)
    (l : K.lookup f = some ⟨oc, od, .func (PySem.W.fnOf x qual (defArgs st) (defBody st) (defScope st) .none kV doc pm an cdv ct), osl⟩) (c : PySem.W.codeIn K cdv qual = true) (k : PySem.W.keepIn K (.ref f) = true)
    (b : ∀ (kV doc pm : Value) (an : Option Addr) (cdv ct : Value) (us : List Value), us.length = ps.length → bindArgs (PySem.W.fnOf x qual (defArgs st) (defBody st) (defScope st) .none kV doc pm an cdv ct) ⟨us, []⟩ = pure (ps.zip us)) :
    ∃ f fd, Meth K C x f ∧ CalM K x qual st ps f fd := ⟨_, _, ⟨a, i, k⟩, fun_mk l c k, (fun_mk l c k).binds b⟩
/-- an __init__ with keyword-only defaults -/
structure CalI (K : PySem.W.Frag) (C : Addr) (qual : Str) (st : Stmt) (kws : List (Str × V)) (f : Addr) (fd : FuncData) : Prop where
  M : Mk K C f
  F : FunD K "__init__" qual (defArgs st) (defBody st) (defScope st) [] kws f fd
theorem ex_calI {C D : Addr} {qual : Str} {st : Stmt} {kws : List (Str × V)} {f : Addr} {oc : Value} {od an : Option Addr} {osl : Array (Option Value)} {doc pm cdv ct : Value} (m : PySem.W.makesIn K C = true) (kc : PySem.W.keepIn K (.ref C) = true)
    (a : PySem.W.findIn K (.ref C) "__init__" = some (some (.ref f))) (i : PySem.W.isFn K (.ref f) = true)
    (l : K.lookup f = some ⟨oc, od, .func (PySem.W.fnOf "__init__" qual (defArgs st) (defBody st) (defScope st) .none (.ref D) doc pm an cdv ct), osl⟩) (c : PySem.W.codeIn K cdv qual = true) (k : PySem.W.keepIn K (.ref f) = true)
    (d : ∀ q ∈ kws, ∃ u, PySem.W.nsIn K D q.1 = some (some u) ∧ RelV q.2 u) : ∃ f fd, CalI K C qual st kws f fd :=
  ⟨_, _, ⟨m, a, i, kc⟩, ⟨⟨oc, od, .none, .ref D, doc, pm, an, cdv, ct, osl, rfl, l, c, Or.inl ⟨rfl, rfl⟩, Or.inr ⟨D, rfl, d⟩⟩, k⟩⟩
end
end Rs

namespace Rs
open PySem PySem.Spec PyProof.Rows L2

/-- the part of a list of whole numbers -/
def cutI (ns : List Int) (lo hi : Option Int) : List Int := (ns.drop (HT.sIx ns.length 0 lo)).take (HT.sIx ns.length ns.length hi - HT.sIx ns.length 0 lo)
theorem cutV_map (ns : List Int) (lo hi : Option Int) : cutV (ns.map V.int) lo hi = (cutI ns lo hi).map V.int := by
  unfold cutV cutI
  rw [List.map_take, List.map_drop, List.length_map]
theorem cutI_le (ns : List Int) (lo hi : Option Int) : (cutI ns lo hi).length ≤ ns.length := by
  unfold cutI
  rw [List.length_take, List.length_drop]
  omega
section
variable {σ : L2.St} {H H0 : Hp} {M : List Addr} {L L' : Led} {Q : VK} {v x y : V} {nx : L2.St → Hp → Prop} {rt : VK} {bk ct : L2.St → Hp → Prop} {t u : TS} {te ta tb tc : TE} {g : TG} {tt tu : TT} {tw : TS} {wi : TI} {K : PySem.W.Frag} {a p : Addr}
/-! attributes -/
theorem rd_fld {f : Str} (h : ta σ H fun x H1 => ∃ a C dx fs v, x = .ref a ∧ H1 a = some (.ins C dx fs) ∧ Cls K C ∧ NoAttr K C f ∧ fs.lookup f = some v ∧ Q v H1) : tFld K ta f σ H Q := h
theorem rd_fldV {f : Str} {C dx : Addr} {fs : List (Str × V)} {R : V → Prop} (S : Hs H0 M H L) (m : (a, HO.ins C dx fs) ∈ L) (c : Cls K C) (n : NoAttr K C f) (e : fs.lookup f = some v) (h : R v) :
    ∃ a' C dx fs v', V.ref a = .ref a' ∧ H a' = some (.ins C dx fs) ∧ Cls K C ∧ NoAttr K C f ∧ fs.lookup f = some v' ∧ R v' := ⟨a, C, dx, fs, v, rfl, S.is _ m, c, n, e, h⟩
theorem rd_sfld {f : Str} {tv : TE} (h : tv σ H fun y H1 => ta σ H1 fun x H2 => ∃ a C dx fs, x = .ref a ∧ H2 a = some (.ins C dx fs) ∧ Cls K C ∧ NoAttr K C f ∧ fs.length < 1000 ∧ nx σ (upd H2 a (.ins C dx (putF f y fs)))) : sFld K ta tv f ⟨nx, rt, bk, ct⟩ σ H := h
theorem rd_sfldV {f : Str} {C dx : Addr} {fs fs' : List (Str × V)} {R : Hp → Prop} (S : Hs H0 M H L) (ch : Chg a (.ins C dx fs) (.ins C dx fs') L L') (hm : H0 a = none ∨ a ∈ M) (c : Cls K C) (n : NoAttr K C f) (hl : fs.length < 1000) (e : putF f y fs = fs') (h : ∀ H', Hs H0 M H' L' → R H') :
    ∃ a' C dx fs, V.ref a = .ref a' ∧ H a' = some (.ins C dx fs) ∧ Cls K C ∧ NoAttr K C f ∧ fs.length < 1000 ∧ R (upd H a' (.ins C dx (putF f y fs))) := by
  subst e
  exact ⟨a, C, dx, fs, rfl, S.is _ ch.mem, c, n, hl, h _ (S.put ch hm)⟩
theorem rd_meth {C : Addr} {m : Str} {sp : Sp} {E : XK} {t : TA} (h : ta σ H fun x H1 => ∃ a dx fs, x = .ref a ∧ H1 a = some (.ins C dx fs) ∧ fs.lookup m = none ∧ t σ H1 fun vs H2 => sp (x :: vs) H2 Q E) : tMeth C m sp [] E ta t σ H Q := by
  have e : ∀ x, (fun (vs : List V) H2 => sp (x :: (vs ++ [])) H2 Q E) = fun vs H2 => sp (x :: vs) H2 Q E := fun x => by funext vs H2; rw [List.append_nil]
  show ta σ H fun x H1 => ∃ a dx fs, x = .ref a ∧ H1 a = some (.ins C dx fs) ∧ fs.lookup m = none ∧ t σ H1 fun vs H2 => sp (x :: (vs ++ [])) H2 Q E
  simp only [List.append_nil]
  exact h
theorem rd_methV {C dx : Addr} {m : Str} {fs : List (Str × V)} {R : Prop} (S : Hs H0 M H L) (hm : (a, HO.ins C dx fs) ∈ L) (e : fs.lookup m = none) (h : R) : ∃ a' dx fs, V.ref a = .ref a' ∧ H a' = some (.ins C dx fs) ∧ fs.lookup m = none ∧ R :=
  ⟨a, dx, fs, rfl, S.is _ hm, e, h⟩
theorem rd_mkK {C : Addr} {n m : Nat} {sp : Sp} {gV : List V → List V → List V} {E : XK} {t tk : TA} (h : t σ H fun vs H1 => tk σ H1 fun zs H2 => vs.length = n ∧ zs.length = m ∧ ∀ x dx, H2 x = none → H2 dx = none → dx ≠ x →
    sp (gV (.ref x :: vs) zs) (upd (upd H2 dx (.own x)) x (.ins C dx [])) (fun v H3 => v = .non ∧ Q (.ref x) H3) E) : tMakeK C n m sp gV E t tk σ H Q := h
theorem rd_mkV {C : Addr} {R : Addr → Hp → Prop} (S : Hs H0 M H L) (h : ∀ x dx H', H0 x = none → Hs H0 M H' ((x, .ins C dx []) :: L) → R x H') : ∀ x dx, H x = none → H dx = none → dx ≠ x → R x (upd (upd H dx (.own x)) x (.ins C dx [])) := by
  intro x dx hx hd ne
  obtain ⟨_, S1⟩ := S.new hd (.own x)
  have hx' : upd H dx (HO.own x) x = none := by rw [upd_ne (Ne.symm ne)]; exact hx
  obtain ⟨n0, S2⟩ := S1.new hx' (.ins C dx [])
  exact h x dx _ n0 (S2.sub (List.Sublist.cons_cons _ (List.Sublist.cons _ (List.Sublist.refl _))))
theorem rd_callL {i : Nat} {f : Addr} {sp : Sp} {E : XK} {t : TA} (e : σ[i]? = some (some (.ref f))) (h : t σ H fun vs H1 => sp vs H1 Q E) : tCallL i f sp [] E t σ H Q := by
  refine ⟨e, ?_⟩
  simp only [List.append_nil]
  exact h
/-! methods of lists -/
theorem rd_bm {T : String} {r : V → List V → Hp → VK → Prop} {t : TA} (h : ta σ H fun x H1 => tyV K T x H1 ∧ t σ H1 fun xs H2 => r x xs H2 Q) : tBM K T r ta t σ H Q := h
theorem rd_bm0 {T : String} {r : V → List V → Hp → VK → Prop} (h : ta σ H fun x H1 => tyV K T x H1 ∧ r x [] H1 Q) : tBM0 K T r ta σ H Q := h
theorem rd_tyL {xs : List V} {R : Prop} (S : Hs H0 M H L) (m : (a, HO.lst xs) ∈ L) (h : R) : tyV K "list" (.ref a) H ∧ R := ⟨Or.inl ⟨rfl, xs, S.lst m⟩, h⟩
theorem rd_app {xs : List V} (S : Hs H0 M H L) (c : Chg a (.lst xs) (.lst (xs ++ [y])) L L') (hm : H0 a = none ∨ a ∈ M) (hl : xs.length < sizeLine) (h : ∀ H', Hs H0 M H' L' → Q .non H') : rAppend (.ref a) [y] H Q :=
  ⟨a, xs, y, rfl, rfl, S.is _ c.mem, hl, h _ (S.put c hm)⟩
/-! calls over lists -/
theorem rd_sumI {xs : List V} {ns : List Int} (S : Hs H0 M H L) (m : (a, HO.lst xs) ∈ L) (e : xs = ns.map V.int) (h : Q (.int ns.sum) H) : rSum K [.ref a] H Q := ⟨a, ns, rfl, by subst e; exact S.lst m, h⟩
theorem rd_slL {xs : List V} {ns : List Int} {lo hi : Option Int} (S : Hs H0 M H L) (m : (a, HO.lst xs) ∈ L) (e : xs = ns.map V.int) (h : ∀ p H', H0 p = none → Hs H0 M H' ((p, .lst ((cutI ns lo hi).map V.int)) :: L) → Q (.ref p) H') : rSlL K (.ref a) lo hi H Q := by
  subst e
  refine ⟨a, _, rfl, S.lst m, ?_⟩
  rw [cutV_map]
  exact rd_newO S h
theorem rd_catL {xs ys : List V} {b : Addr} (S : Hs H0 M H L) (m : (a, HO.lst xs) ∈ L) (m2 : (b, HO.lst ys) ∈ L) (hz : xs.length + ys.length ≤ sizeLine) (h : ∀ p H', H0 p = none → Hs H0 M H' ((p, .lst (xs ++ ys)) :: L) → Q (.ref p) H') : rCat (.ref a) (.ref b) H Q :=
  ⟨a, b, xs, ys, rfl, rfl, S.is _ m, S.is _ m2, hz, rd_newO S h⟩
theorem rd_repL {xs : List V} {k : Int} (S : Hs H0 M H L) (m : (a, HO.lst xs) ∈ L) (h1 : 0 ≤ k) (h2 : k < 2 ^ 63) (hz : xs.length * k.toNat ≤ sizeLine) (h : ∀ p H', H0 p = none → Hs H0 M H' ((p, .lst (List.replicate k.toNat xs).flatten) :: L) → Q (.ref p) H') : rRep (.ref a) (.int k) H Q :=
  ⟨a, k, xs, rfl, rfl, S.is _ m, by omega, h2, hz, rd_newO S h⟩
def revR (K : PySem.W.Frag) (Q : VK) (x : V) (H1 : Hp) : Prop := ∃ a xs, x = .ref a ∧ SqL K H1 a xs ∧ ∀ p, H1 p = none → Q (.ref p) (upd H1 p (.lst xs.reverse))
theorem rd_revL (h : te σ H fun x H1 => revR K Q x H1) : tRevL K te σ H Q := h
theorem rd_revV {xs : List V} (S : Hs H0 M H L) (m : (a, HO.lst xs) ∈ L) (h : ∀ p H', H0 p = none → Hs H0 M H' ((p, .lst xs.reverse) :: L) → Q (.ref p) H') : revR K Q (.ref a) H := ⟨a, xs, rfl, S.lst m, rd_newO S h⟩
theorem rd_isN (h : Q (.bl (decide (x = .non))) H) : (fun x y H Q => y = V.non ∧ Q (.bl (decide (x = .non))) H : R2) x .non H Q := ⟨rfl, h⟩
theorem rd_notN (h : Q (.bl (!decide (x = .non))) H) : (fun x y H Q => y = V.non ∧ Q (.bl (!decide (x = .non))) H : R2) x .non H Q := ⟨rfl, h⟩
/-! targets -/
theorem gt_unl {xs : List V} {n : Nat} {ts : TGs} {N : L2.St → Hp → Prop} (S : Hs H0 M H L) (m : (a, HO.lst xs) ∈ L) (hn : xs.length = n) (h : ts xs σ H N) : gUnl K n ts (.ref a) σ H N := ⟨a, xs, rfl, S.lst m, hn, h⟩
theorem gt_sub {to ti : TE} {ts : TSet} {N : L2.St → Hp → Prop} (h : to σ H fun o H1 => ti σ H1 fun i H2 => ts o i v H2 fun H3 => N σ H3) : gSub to ti ts v σ H N := h
theorem gt_setL {xs : List V} {k : Int} {j : Nat} {N : Hp → Prop} (S : Hs H0 M H L) (c : Chg a (.lst xs) (.lst (xs.set j v)) L L') (hm : H0 a = none ∨ a ∈ M) (e : ixN xs.length k = some j) (h : ∀ H', Hs H0 M H' L' → N H') : rSetL (.ref a) (.int k) v H N :=
  ⟨a, xs, k, j, rfl, rfl, S.is _ c.mem, e, h _ (S.put c hm)⟩
theorem gt_slc {to : TE} {tl th : L2.St → Hp → (Option Int → Hp → Prop) → Prop} {N : L2.St → Hp → Prop} (h : to σ H fun o H1 => tl σ H1 fun l H2 => th σ H2 fun u H3 => ∃ (a b : Addr) (xs ys : List V) (i j : Int), o = .ref a ∧ v = .ref b ∧ l = some i ∧ u = some j ∧
    H3 a = some (.lst xs) ∧ H3 b = some (.lst ys) ∧ a ≠ b ∧ 0 ≤ i ∧ i ≤ j ∧ j ≤ xs.length ∧ xs.length + ys.length ≤ sizeLine ∧ N σ (upd H3 a (.lst (xs.take i.toNat ++ ys ++ xs.drop j.toNat)))) : gSlc to tl th v σ H N := h
theorem gt_slcV {b : Addr} {xs ys zs : List V} {i j : Int} {N : Hp → Prop} (S : Hs H0 M H L) (c : Chg a (.lst xs) (.lst zs) L L') (m : (b, HO.lst ys) ∈ L) (hne : a ≠ b) (hm : H0 a = none ∨ a ∈ M) (h0 : 0 ≤ i) (h1 : i ≤ j) (h2 : j ≤ xs.length) (hz : xs.length + ys.length ≤ sizeLine)
    (e : xs.take i.toNat ++ ys ++ xs.drop j.toNat = zs) (h : ∀ H', Hs H0 M H' L' → N H') : ∃ (a' b' : Addr) (xs ys : List V) (i' j' : Int), V.ref a = .ref a' ∧ V.ref b = .ref b' ∧ some i = some i' ∧ some j = some j' ∧
    H a' = some (.lst xs) ∧ H b' = some (.lst ys) ∧ a' ≠ b' ∧ 0 ≤ i' ∧ i' ≤ j' ∧ j' ≤ xs.length ∧ xs.length + ys.length ≤ sizeLine ∧ N (upd H a' (.lst (xs.take i'.toNat ++ ys ++ xs.drop j'.toNat))) := by
  subst e
  exact ⟨a, b, xs, ys, i, j, rfl, rfl, rfl, rfl, S.is _ c.mem, S.is _ m, hne, h0, h1, h2, hz, h _ (S.put c hm)⟩
/-! a comprehension over a range, all its steps without new objects left behind but the list itself -/
def lcW (J : It) (g : TG) (tt : TT) (te : TE) (vs : List Nat) (σ : L2.St) (H1 : Hp) (Q : VK) : Prop := ∀ D, H1 D = none → ∃ W : Nat → Nat → Hp → Prop, (∃ m, W 0 m (upd H1 D (.lst []))) ∧ ∀ i m H, W i m H →
  (J.stop i H ∧ Q (.ref D) H) ∨ (J.go i H ∧ ∃ Nx : Hp → Prop, (∀ H', Nx H' → ∃ m', m' < m ∧ W (i + 1) m' H') ∧ ∀ x H', J.yld i H x H' → g x (wipe σ vs) H' fun σ2 H2 => wipe σ2 vs = wipe σ vs ∧ tt σ2 H2 fun b H3 =>
    if b = true then te σ2 H3 fun y H4 => ∃ acc, H4 D = some (.lst acc) ∧ acc.length < sizeLine ∧ Nx (upd H4 D (.lst (acc ++ [y]))) else Nx H3)
theorem rd_lc {vs : List Nat} (h : wi σ H fun J H1 => lcW J g tt te vs σ H1 Q) : tLc wi g tt te vs σ H Q := h
def lcSkip (H0 : Hp) (M : List Addr) (L : Led) (R1 : List V → Prop) (D : Addr) (H : Hp) : Prop := H0 D = none ∧ ∃ acc, R1 acc ∧ Hs H0 M H ((D, .lst acc) :: L)
def lcPut (H0 : Hp) (M : List Addr) (L : Led) (R1 : List V → Prop) (D : Addr) (y : V) (H : Hp) : Prop := ∃ acc, H D = some (.lst acc) ∧ acc.length < sizeLine ∧ lcSkip H0 M L R1 D (upd H D (.lst (acc ++ [y])))
theorem rd_lcPut {D : Addr} {acc : List V} {L2 L3 : Led} {R1 : List V → Prop} (S : Hs H0 M H L2) (c : Chg D (.lst acc) (.lst (acc ++ [y])) L2 L3) (n : H0 D = none) (hl : acc.length < sizeLine) (sub : ((D, HO.lst (acc ++ [y])) :: L).Sublist L3) (r : R1 (acc ++ [y])) : lcPut H0 M L R1 D y H :=
  ⟨acc, S.is _ c.mem, hl, n, _, r, (S.put c (Or.inl n)).sub sub⟩
theorem rd_lcSkip {D : Addr} {acc : List V} {L2 : Led} {R1 : List V → Prop} (S : Hs H0 M H L2) (n : H0 D = none) (sub : ((D, HO.lst acc) :: L).Sublist L2) (r : R1 acc) : lcSkip H0 M L R1 D H := ⟨n, _, r, S.sub sub⟩
theorem lcw_range {lo : Int} {n : Nat} {vs : List Nat} (S : Hs H0 M H L) (R : Nat → List V → Prop) (r0 : R 0 [])
    (hs : ∀ D i acc H', i < n → R i acc → H0 D = none → Hs H0 M H' ((D, .lst acc) :: L) → g (.int (lo + i)) (wipe σ vs) H' fun σ2 H2 => wipe σ2 vs = wipe σ vs ∧ tt σ2 H2 fun b H3 => if b = true then te σ2 H3 fun y H4 => lcPut H0 M L (R (i + 1)) D y H4 else lcSkip H0 M L (R (i + 1)) D H3)
    (hd : ∀ D acc H', R n acc → H0 D = none → Hs H0 M H' ((D, .lst acc) :: L) → Q (.ref D) H') : lcW (Itr lo n) g tt te vs σ H Q := by
  intro D hD
  have S1 := S.new hD (.lst [])
  refine lc_range (fun i H' => lcSkip H0 M L (R i) D H') ⟨S1.1, [], r0, S1.2⟩ ?_ ?_
  · rintro i H' hi ⟨n0, acc, r, S'⟩
    exact hs D i acc H' hi r n0 S'
  · rintro H' ⟨n0, acc, r, S'⟩
    exact hd D acc H' r n0 S'
theorem lcw_list {a : Addr} {xs : List V} {vs : List Nat} (S : Hs H0 M H L) (R : Nat → List V → Prop) (r0 : R 0 []) (hl : ∀ H' acc D, Hs H0 M H' ((D, .lst acc) :: L) → SqL K H' a xs)
    (hs : ∀ D i x acc H', xs[i]? = some x → R i acc → H0 D = none → Hs H0 M H' ((D, .lst acc) :: L) → g x (wipe σ vs) H' fun σ2 H2 => wipe σ2 vs = wipe σ vs ∧ tt σ2 H2 fun b H3 => if b = true then te σ2 H3 fun y H4 => lcPut H0 M L (R (i + 1)) D y H4 else lcSkip H0 M L (R (i + 1)) D H3)
    (hd : ∀ D acc H', R xs.length acc → H0 D = none → Hs H0 M H' ((D, .lst acc) :: L) → Q (.ref D) H') : lcW (Itl K a) g tt te vs σ H Q := by
  intro D hD
  have S1 := S.new hD (.lst [])
  refine lc_list (xs := xs) (fun i H' => lcSkip H0 M L (R i) D H') ⟨S1.1, [], r0, S1.2⟩ (fun i H' _ ⟨_, acc, _, S'⟩ => hl H' acc D S') ?_ ?_
  · rintro i x H' hi ⟨n0, acc, r, S'⟩
    exact hs D i x acc H' hi r n0 S'
  · rintro H' ⟨n0, acc, r, S'⟩
    exact hd D acc H' r n0 S'
theorem lcw_tup {a : Addr} {xs : List V} {vs : List Nat} (S : Hs H0 M H L) (R : Nat → List V → Prop) (r0 : R 0 []) (hl : ∀ H' acc D, Hs H0 M H' ((D, .lst acc) :: L) → SqT K H' a xs)
    (hs : ∀ D i x acc H', xs[i]? = some x → R i acc → H0 D = none → Hs H0 M H' ((D, .lst acc) :: L) → g x (wipe σ vs) H' fun σ2 H2 => wipe σ2 vs = wipe σ vs ∧ tt σ2 H2 fun b H3 => if b = true then te σ2 H3 fun y H4 => lcPut H0 M L (R (i + 1)) D y H4 else lcSkip H0 M L (R (i + 1)) D H3)
    (hd : ∀ D acc H', R xs.length acc → H0 D = none → Hs H0 M H' ((D, .lst acc) :: L) → Q (.ref D) H') : lcW (Itt K a) g tt te vs σ H Q := by
  intro D hD
  have S1 := S.new hD (.lst [])
  refine lc_tup (xs := xs) (fun i H' => lcSkip H0 M L (R i) D H') ⟨S1.1, [], r0, S1.2⟩ (fun i H' _ ⟨_, acc, _, S'⟩ => hl H' acc D S') ?_ ?_
  · rintro i x H' hi ⟨n0, acc, r, S'⟩
    exact hs D i x acc H' hi r n0 S'
  · rintro H' ⟨n0, acc, r, S'⟩
    exact hd D acc H' r n0 S'
end
end Rs
namespace Rs
open PySem PySem.Spec PyProof.Rows L2
/-- an expression that the proof never comes to -/
def tNevE : TE := fun _ _ _ => False
theorem pe_nev {X : Cx} {e : Expr} : PE X e tNevE := ⟨fun _ _ _ _ _ _ h => h.elim⟩
end Rs
namespace Rs
open PySem PySem.Spec PyProof.Rows L2
theorem ex_u {K : PySem.W.Frag} {D : Addr} {x : Str} {v : V} {u : Value} (a : PySem.W.nsIn K D x = some (some u)) (r : RelV v u) : ∃ u, PySem.W.nsIn K D x = some (some u) ∧ RelV v u := ⟨u, a, r⟩
end Rs

namespace Rs
open PySem PySem.Spec PyProof.Rows L2
section
variable {H0 H H' : Hp} {M : List Addr} {L L' N : Led} {a p : Addr} {o o' : HO} {K : PySem.W.Frag}
theorem Hs.perm (S : Hs H0 M H L) (h : L'.Perm L) : Hs H0 M H L' := ⟨(h.map (·.1)).nodup_iff.mpr S.nd, fun q hq => S.is q (h.mem_iff.mp hq), S.old, S.mu⟩
/-- the objects of N are new, each another -/
structure NewL (H H' : Hp) (N : Led) : Prop where
  nd : (N.map (·.1)).Nodup
  nw : ∀ q ∈ N, H q.1 = none
  is : ∀ q ∈ N, H' q.1 = some q.2
/-- one object was changed, those of N are new -/
theorem Hs.oneN (S : Hs H0 M H L) (c : Chg a o o' L L') (hm : H0 a = none ∨ a ∈ M) (k : ∀ b u, H b = some u → b ≠ a → H' b = some u) (h' : H' a = some o') (n : NewL H H' N) : (∀ q ∈ N, H0 q.1 = none) ∧ Hs H0 M H' (N ++ L') := by
  have S' := S.one c hm k h'
  refine ⟨fun q hq => (S.new (n.nw q hq) q.2).1, ?_, ?_, S'.old, S'.mu⟩
  · rw [List.map_append, List.nodup_append]
    refine ⟨n.nd, S'.nd, ?_⟩
    intro x hx y hy e
    subst e
    obtain ⟨q, hq, rfl⟩ := List.mem_map.mp hx
    rw [c.keys] at hy
    obtain ⟨r, hr, e⟩ := List.mem_map.mp hy
    have := S.is r hr
    rw [e, n.nw q hq] at this
    cases this
  · intro q hq
    rcases List.mem_append.mp hq with h | h
    · exact n.is q h
    · exact S'.is q h
/-- nothing was changed, those of N are new -/
theorem Hs.moreN (S : Hs H0 M H L) (k : Same H H') (n : NewL H H' N) : (∀ q ∈ N, H0 q.1 = none) ∧ Hs H0 M H' (N ++ L) := by
  have S' := S.more k
  refine ⟨fun q hq => (S.new (n.nw q hq) q.2).1, ?_, ?_, S'.old, S'.mu⟩
  · rw [List.map_append, List.nodup_append]
    refine ⟨n.nd, S'.nd, ?_⟩
    intro x hx y hy e
    subst e
    obtain ⟨q, hq, rfl⟩ := List.mem_map.mp hx
    obtain ⟨r, hr, e⟩ := List.mem_map.mp hy
    have := S.is r hr
    rw [e, n.nw q hq] at this
    cases this
  · intro q hq
    rcases List.mem_append.mp hq with h | h
    · exact n.is q h
    · exact S'.is q h
/-- what a ledger tells of new ones -/
theorem Hs.news (S : Hs H0 M H L) (h : N.Sublist L) (n : ∀ q ∈ N, H0 q.1 = none) : NewL H0 H N := ⟨S.nd.sublist (h.map _), n, fun q hq => S.is q (h.subset hq)⟩
/-- plain data that a ledger holds: refs of tuples of whole numbers -/
def TupL (rs : List V) (T : Led) : Prop := (∀ r ∈ rs, ∃ q ∈ T, r = .ref q.1) ∧ ∀ q ∈ T, ∃ ns : List Int, q.2 = .tup (ns.map V.int)
theorem TupL.nil : TupL [] [] := ⟨fun r h => (nomatch h), fun q h => (nomatch h)⟩
theorem TupL.app {rs rs2 : List V} {T T2 : Led} (h : TupL rs T) (h2 : TupL rs2 T2) : TupL (rs ++ rs2) (T2 ++ T) := by
  refine ⟨fun r hr => ?_, fun q hq => ?_⟩
  · rcases List.mem_append.mp hr with z | z
    · obtain ⟨q, hq, e⟩ := h.1 r z; exact ⟨q, List.mem_append_right _ hq, e⟩
    · obtain ⟨q, hq, e⟩ := h2.1 r z; exact ⟨q, List.mem_append_left _ hq, e⟩
  · rcases List.mem_append.mp hq with z | z
    · exact h2.2 q z
    · exact h.2 q z
theorem TupL.snoc {rs : List V} {T : Led} (h : TupL rs T) (q : Addr) (ns : List Int) : TupL (rs ++ [.ref q]) ((q, .tup (ns.map V.int)) :: T) :=
  h.app (T2 := [(q, .tup (ns.map V.int))]) ⟨fun r hr => ⟨_, List.mem_cons_self, by simpa using hr⟩, fun z hz => ⟨ns, by simp at hz; rw [hz]⟩⟩
theorem dpT {rs : List V} {T : Led} (h : TupL rs T) (is : ∀ q ∈ T, H q.1 = some q.2) : ∃ nss : List (List Int), nss.length = rs.length ∧ DpAll K H rs (nss.map fun ns => .tuple (ns.map .int)) := by
  induction rs with
  | nil => exact ⟨[], rfl, .nil⟩
  | cons r rs ih =>
    obtain ⟨nss, e, d⟩ := ih ⟨fun x hx => h.1 x (List.mem_cons_of_mem _ hx), h.2⟩
    obtain ⟨q, hq, rfl⟩ := h.1 r List.mem_cons_self
    obtain ⟨ns, e2⟩ := h.2 q hq
    have hi := is q hq
    rw [e2] at hi
    exact ⟨ns :: nss, by simp [e], .cons (.tup (SqT.of hi) (dps_ints ns)) d⟩
theorem lay_T : ∀ nss : List (List Int), PyData.canLayAll0 (nss.map fun ns => .tuple (ns.map .int)) = true ∧ PyData.depthAll (nss.map fun ns => .tuple (ns.map .int)) ≤ 1
  | [] => by simp [PyData.canLayAll0, PyData.depthAll]
  | ns :: nss => by
    obtain ⟨a, b⟩ := lay_T nss
    simp only [List.map_cons, PyData.canLayAll0, PyData.canLay0, canLay_ints, a, Bool.and_self, PyData.depthAll, PyData.depth, depth_ints, true_and]
    omega
/-- a list of such tuples: data -/
theorem dpLT {rs : List V} {T : Led} (h : TupL rs T) (S : Hs H0 M H L) (m : (a, HO.lst rs) ∈ L) (sub : ∀ q ∈ T, q ∈ L) : ∃ nss : List (List Int), nss.length = rs.length ∧ Dp K H (.ref a) (.list (nss.map fun ns => .tuple (ns.map .int))) ∧ SeqAt.shaped (.list (nss.map fun ns => .tuple (ns.map .int))) = true := by
  obtain ⟨nss, e, d⟩ := dpT (K := K) (H := H) h fun q hq => S.is q (sub q hq)
  obtain ⟨y, z⟩ := lay_T nss
  refine ⟨nss, e, .lst (S.lst m) d, ?_⟩
  unfold SeqAt.shaped
  have e1 : PyData.canLay0 (.list (nss.map fun ns => .tuple (ns.map .int))) = true := by simp only [PyData.canLay0, y]
  rw [e1, Bool.true_and]
  refine decide_eq_true ?_
  simp only [PyData.depth]
  omega
theorem eqv_nil (xs : List PyData) : PyData.eqv (.list xs) (.list []) = decide (xs.length = 0) := by
  cases xs <;> simp [PyData.eqv, PyData.eqvAll]
/-- == [] and != [] of a list of such tuples -/
theorem rd_eqT0 {Q : VK} {rs : List V} {T : Led} {b : Addr} (h : TupL rs T) (S : Hs H0 M H L) (m : (a, HO.lst rs) ∈ L) (m2 : (b, HO.lst []) ∈ L) (sub : ∀ q ∈ T, q ∈ L) (k : Q (.bl (decide (rs.length = 0))) H) : rEqD K (.ref a) (.ref b) H Q := by
  obtain ⟨nss, e, d, sh⟩ := dpLT (K := K) h S m sub
  refine ⟨_, .list [], d, .lst (S.lst m2) .nil, sh, by decide, ?_⟩
  rw [eqv_nil, List.length_map, e]
  exact k
theorem rd_neT0 {Q : VK} {rs : List V} {T : Led} {b : Addr} (h : TupL rs T) (S : Hs H0 M H L) (m : (a, HO.lst rs) ∈ L) (m2 : (b, HO.lst []) ∈ L) (sub : ∀ q ∈ T, q ∈ L) (k : Q (.bl (!decide (rs.length = 0))) H) : rNeD K (.ref a) (.ref b) H Q := by
  obtain ⟨nss, e, d, sh⟩ := dpLT (K := K) h S m sub
  refine ⟨_, .list [], d, .lst (S.lst m2) .nil, sh, by decide, ?_⟩
  rw [eqv_nil, List.length_map, e]
  exact k
end
end Rs
namespace Rs
open PySem PySem.Spec PyProof.Rows L2
theorem rd_nn {R : Prop} (h : R) : V.non = V.non ∧ R := ⟨rfl, h⟩
end Rs
namespace Rs
open PySem PySem.Spec PyProof.Rows L2
section
variable {σ : L2.St} {H : Hp} {nx : L2.St → Hp → Prop} {rt : VK} {bk ct : L2.St → Hp → Prop} {te : TE}
theorem rd_aug {i : Nat} {v : V} {rd : V → V → Hp → VK → Prop} (e : σ[i]? = some (some v)) (h : te σ H fun y H1 => rd v y H1 fun z H2 => nx (σ.set i (some z)) H2) : tAug i te rd ⟨nx, rt, bk, ct⟩ σ H := ⟨v, e, h⟩
theorem rd_ipI {f : Int → Int → Int} {Q : VK} {i j : Int} (h : Q (.int (f i j)) H) : ipI f (.int i) (.int j) H Q := ⟨i, j, rfl, rfl, h⟩
end
end Rs
namespace Rs
open PySem PySem.Spec PyProof.Rows L2
theorem Hs.made {C x dx : Addr} {H0 H : Hp} {M : List Addr} {L : Led} (S : Hs H0 M H L) (hx : H x = none) (hd : H dx = none) (ne : dx ≠ x) : H0 x = none ∧ Hs H0 M (upd (upd H dx (.own x)) x (.ins C dx [])) ((x, .ins C dx []) :: L) := by
  obtain ⟨_, S1⟩ := S.new hd (.own x)
  have hx' : upd H dx (HO.own x) x = none := by rw [upd_ne (Ne.symm ne)]; exact hx
  obtain ⟨n0, S2⟩ := S1.new hx' (.ins C dx [])
  exact ⟨n0, S2.sub (List.Sublist.cons_cons _ (List.Sublist.cons _ (List.Sublist.refl _)))⟩
end Rs

namespace Rs
open PySem PySem.Spec PyProof.Rows L2

/-! ### sum and max over tuples, with a start, with a default -/
section
variable {prog : Program} {w : World} {A : Around} {s : Shared} {R : Result → Shared → Prop} {E : Value → Shared → Prop}
/-- a walk with one more in front, that is over -/
theorem walk_more {I : Addr} {fp wr : List Addr} {n : Nat} {P : Nat → Value → Prop} {St : Nat → Heap → Prop} (W : Walks prog w A I fp wr n P St) :
    Walks prog w A I fp wr (n + 1) (fun i v => 0 < i ∧ P (i - 1) v) (fun i h => 0 < i ∧ St (i - 1) h) where
  sub := W.sub
  frame := fun i h h' st k => ⟨st.1, W.frame _ h h' st.2 k⟩
  item := fun i s Q E hi st hq => by
    obtain ⟨j, rfl⟩ : ∃ j, i = j + 1 := ⟨i - 1, by have := st.1; omega⟩
    refine W.item j s Q E (by omega) st.2 fun v h' tk p st' k => hq v h' tk ⟨Nat.succ_pos _, p⟩ ⟨Nat.succ_pos _, st'⟩ k
  done := fun s Q E st hq => W.done s Q E st.2 hq
  self := fun i s Q E st hq => W.self _ s Q E st.2 hq
theorem sumK_args (a v : Value) : argsOk "sum" ⟨[a], [(Str.ofString "start", v)]⟩ := by unfold argsOk; kernel_rfl
theorem maxD_args (a v : Value) : argsOk "max" ⟨[a], [(Str.ofString "default", v)]⟩ := by unfold argsOk; kernel_rfl
def shiftV (k : Int) (val : Nat → Int) : Nat → Int
  | 0 => k
  | i + 1 => val i
theorem preSum_shift (k : Int) (val : Nat → Int) : ∀ n, preSum (shiftV k val) (n + 1) = k + preSum val n
  | 0 => by simp [preSum, shiftV]
  | n + 1 => by
    rw [preSum, preSum_shift k val n, preSum]
    simp [shiftV]
    omega
/-- sum(x, start=k) -/
theorem sum_from {x : Value} {k : Int} {tok : Tok} {Q : Value → Shared → Prop}
    (h : wpAny (model prog w) A.in1 (pyIter x) (fun it s₂ => ∃ I fp wr n P St val, it = .ref I ∧ Walks prog w A.in1 I fp wr n P St ∧ St 0 s₂.heap ∧ (∀ b ∈ fp, b < s₂.heap.objs.size) ∧ (∀ i v, P i v → ∃ t, v = .int (val i) t) ∧
      ∀ h' tk t', (∀ b o, b ∉ wr → s₂.heap.get? b = some o → h'.get? b = some o) → Q (.int (k + preSum val n) t') { s₂ with heap := h', toks := tk }) E s) :
    wpAny (model prog w) A (call (.builtin "sum") [x] [(Str.ofString "start", .int k tok)]) Q E s := by
  refine PyProof.Rows.kmk_tree F.kind_sum F.plain_sum F.entry_sum (sumK_args _ _) ?_
  unfold Builtin.«sum»
  simp only [List.length_cons, List.length_nil]
  rw [if_neg (by decide)]
  refine wpAny_bind (wpAny_of_eq (a := [some (.int k tok)]) rfl ?_)
  refine wpAny_bind (wpAny_mono h (fun it s₂ q => ?_) fun _ _ e => e)
  obtain ⟨I, fp, wr, n, P, St, val, rfl, W, st, hfp, hval, hQ⟩ := q
  have hv' : ∀ i v, (0 < i ∧ P (i - 1) v) → ∃ t, v = .int (shiftV k val i) t := fun i v z => by
    obtain ⟨j, rfl⟩ : ∃ j, i = j + 1 := ⟨i - 1, by omega⟩
    exact hval j v z.2
  have hS : s₂.heap.objs.size ∉ fp := fun m => Nat.lt_irrefl _ (hfp _ m)
  show wpAny _ A.in1 (if (_ : Bool) = true then _ else _) _ _ _
  split
  · refine wpAny_bind (wpAny_rule (wpAny_bind (wpAny_mkInt (wpAny_bind (wpAny_pure ?_)))))
    simp only [List.forIn_cons, List.forIn_nil]
    refine wpAny_bind (wpAny_bind (wpAny_bind (wpAny_isInstance (T := "int") (b := false) (typeIs_int _ _ _) PySem.sub_int_str ?_)))
    refine wpAny_pure (wpAny_bind (wpAny_bind (wpAny_isInstance (T := "int") (b := false) (typeIs_int _ _ _) PySem.sub_int_bytes ?_)))
    refine wpAny_pure (wpAny_bind (wpAny_bind (wpAny_isInstance (T := "int") (b := false) (typeIs_int _ _ _) PySem.sub_int_bytearray ?_)))
    refine wpAny_pure (wpAny_pure ?_)
    refine wpAny_bind (wpAny_newObj_type (wpAny_pure ⟨plainId_quiet F.plain_sum_loop _, codeAny_sum_loopG (walk_more W) (shiftV k val) hv' s₂.heap.objs.size hS n 1 _ _ 0 0 (Or.inl rfl) rfl (by omega)
      ⟨Nat.one_pos, W.frame _ _ _ st fun b _ o e => Heap.get?_push_of_some _ e⟩ (by rw [show preSum (shiftV k val) 1 = k by simp [preSum, shiftV]]; exact Heap.get?_push_size _ rfl) fun h' tk t' kp => ?_⟩))
    rw [preSum_shift]
    exact hQ h' tk t' fun b o hb e => kp b o hb (Nat.ne_of_lt (Heap.lt_size e)) (Heap.get?_push_of_some _ e)
  · refine wpAny_bind (wpAny_pure ?_)
    simp only [List.forIn_cons, List.forIn_nil]
    refine wpAny_bind (wpAny_bind (wpAny_bind (wpAny_isInstance (T := "int") (b := false) (typeIs_int _ _ _) PySem.sub_int_str ?_)))
    refine wpAny_pure (wpAny_bind (wpAny_bind (wpAny_isInstance (T := "int") (b := false) (typeIs_int _ _ _) PySem.sub_int_bytes ?_)))
    refine wpAny_pure (wpAny_bind (wpAny_bind (wpAny_isInstance (T := "int") (b := false) (typeIs_int _ _ _) PySem.sub_int_bytearray ?_)))
    refine wpAny_pure (wpAny_pure ?_)
    refine wpAny_bind (wpAny_newObj_type (wpAny_pure ⟨plainId_quiet F.plain_sum_loop _, codeAny_sum_loopG (walk_more W) (shiftV k val) hv' s₂.heap.objs.size hS n 1 _ _ 0 2 (Or.inr rfl) rfl (by omega)
      ⟨Nat.one_pos, W.frame _ _ _ st fun b _ o e => Heap.get?_push_of_some _ e⟩ (by rw [show preSum (shiftV k val) 1 = k by simp [preSum, shiftV]]; exact Heap.get?_push_size _ rfl) fun h' tk t' kp => ?_⟩))
    rw [preSum_shift]
    exact hQ h' tk t' fun b o hb e => kp b o hb (Nat.ne_of_lt (Heap.lt_size e)) (Heap.get?_push_of_some _ e)
/-- max(x, default=d): the loop -/
theorem max_loopD {I : Addr} {fp wr : List Addr} {n : Nat} {P : Nat → Value → Prop} {St : Nat → Heap → Prop} (W : Walks prog w A.in1 I fp wr n P St) (val : Nat → Int) (hval : ∀ i v, P i v → ∃ t, v = .int (val i) t) (T : Addr) (hT : T ∉ fp) (d : Value) :
    ∀ (k i : Nat) (s : Shared) (c : Nat) (best : Option (Int × Tok)), n - i = k → i ≤ n → St i s.heap →
      s.heap.get? T = some { cls := .type "list", dict := none, data := .seq (match best with | none => #[] | some b => #[.int b.1 b.2, .int b.1 b.2]) c, slots := #[] } →
      (∀ v h' tk, (best = none → i = n → v = d) → (best ≠ none ∨ i < n → ∃ m t, v = .int m t ∧ ((∃ b, best = some b ∧ m = b.1) ∨ ∃ j, i ≤ j ∧ j < n ∧ m = val j) ∧ (∀ b, best = some b → b.1 ≤ m) ∧ ∀ j, i ≤ j → j < n → val j ≤ m) →
        (∀ b o, b ∉ wr → b ≠ T → s.heap.get? b = some o → h'.get? b = some o) → R (.ok (.ret v)) { s with heap := h', toks := tk }) →
      codeAny (model prog w) A (.builtin "max.loop" ⟨[.ref I, .none, .ref T], [(Str.ofString "default", d)]⟩) R s := by
  have hTw : T ∉ wr := fun z => hT (W.sub _ z)
  have hname : (toString "max" ++ toString ".loop" : String) = "max.loop" := by decide
  intro k
  induction k with
  | zero =>
    intro i s c best hk hi hst hS hR
    have hin : i = n := by omega
    subst hin
    refine codeAny_builtin F.entry_max_loop ?_
    rw [Around.under_plainId F.plain_max_loop _]
    show wpAny _ A.in1 (seqItems? (.ref T) >>= _) _ _ s
    refine wpAny_bind (wpAny_seqItems hS rfl ?_)
    show wpAny _ A.in1 (tryCatch (pyNext (.ref I)) _ >>= _) _ _ s
    refine wpAny_bind (wpAny_tryCatch (W.done s _ _ hst fun h' tk kp => ?_))
    have hS' := kp T _ hTw hS
    cases best with
    | none =>
      show wpAny _ A.in1 (rule _ >>= _) _ _ _
      refine wpAny_bind (wpAny_rule (wpAny_pure ?_))
      exact hR d h' tk (fun _ _ => rfl) (fun z => by rcases z with z | z; exact absurd rfl z; omega) fun b o hb _ e => kp b o hb e
    | some b =>
      show wpAny _ A.in1 (updateSeq T (fun _ => #[]) >>= _) _ _ _
      refine wpAny_bind ?_
      refine wpAny_updateSeq hS' rfl (wpAny_bind (wpAny_letGo (wpAny_pure ?_)))
      refine hR (.int b.1 b.2) _ tk (fun z => nomatch z) (fun _ => ⟨b.1, b.2, rfl, Or.inl ⟨b, rfl, rfl⟩, fun b' e => by cases e; exact Int.le_refl _, fun j h1 h2 => by omega⟩) fun b o hb hbT e => (Heap.get?_update_other _ _ (Ne.symm hbT)).trans (kp b o hb e)
  | succ k ih =>
    intro i s c best hk hi hst hS hR
    have hlt : i < n := by omega
    refine codeAny_builtin F.entry_max_loop ?_
    rw [Around.under_plainId F.plain_max_loop _]
    show wpAny _ A.in1 (seqItems? (.ref T) >>= _) _ _ s
    refine wpAny_bind (wpAny_seqItems hS rfl ?_)
    show wpAny _ A.in1 (tryCatch (pyNext (.ref I)) _ >>= _) _ _ s
    refine wpAny_bind (wpAny_tryCatch (W.item i s _ _ hlt hst fun v h' tk hP hst' kp => ?_))
    have hS' := kp T _ hTw hS
    obtain ⟨t, rfl⟩ := hval i v hP
    have next : ∀ (b : Int × Tok) (h2 : Heap) (tk2 c2 : Nat), (b.1 = val i ∨ ∃ b0, best = some b0 ∧ b.1 = b0.1) → val i ≤ b.1 → (∀ b0, best = some b0 → b0.1 ≤ b.1) → St (i + 1) h2 →
        h2.get? T = some { cls := .type "list", dict := none, data := .seq #[.int b.1 b.2, .int b.1 b.2] c2, slots := #[] } → (∀ y o, y ∉ wr → y ≠ T → s.heap.get? y = some o → h2.get? y = some o) →
        codeAny (model prog w) A (.builtin "max.loop" ⟨[.ref I, .none, .ref T], [(Str.ofString "default", d)]⟩) R { s with heap := h2, toks := tk2 } := by
      intro b h2 tk2 c2 e1 e2 e3 st2 g2 kp2
      refine ih (i + 1) { s with heap := h2, toks := tk2 } c2 (some b) (by clear e1 e2 e3; omega) hlt st2 g2 fun v h3 tk3 _ z kp3 => ?_
      obtain ⟨m, t3, rfl, z1, z2, z3⟩ := z (Or.inl (by simp))
      have zb := z2 b rfl
      refine hR _ h3 tk3 (fun _ q => by omega) (fun _ => ⟨m, t3, rfl, ?_, fun b0 q => Int.le_trans (e3 b0 q) zb, fun j h1 h2 => ?_⟩) fun y o hy hyT e => kp3 y o hy hyT (kp2 y o hy hyT e)
      · rcases z1 with ⟨b', q1, rfl⟩ | ⟨j, q1, q2, rfl⟩
        · cases q1
          rcases e1 with e1 | ⟨b0, q2, e1⟩
          · exact Or.inr ⟨i, Nat.le_refl _, hlt, e1⟩
          · exact Or.inl ⟨b0, q2, e1⟩
        · exact Or.inr ⟨j, by omega, q2, rfl⟩
      · by_cases q : j = i
        · subst q; omega
        · exact z3 j (by omega) h2
    cases best with
    | none =>
      show wpAny _ A.in1 (updateSeq T (fun _ => #[.int (val i) t, .int (val i) t]) >>= _) _ _ _
      refine wpAny_bind ?_
      refine wpAny_updateSeq hS' rfl ?_
      rw [hname]
      refine wpAny_pure ⟨plainId_quiet F.plain_max_loop _, next (val i, t) _ _ _ (Or.inl rfl) (Int.le_refl _) (fun b0 q => nomatch q) (W.frame _ _ _ hst' fun b hb o e => ?_) (Heap.get?_update_self _ hS' rfl) fun b o hb hbT e => ?_⟩
      · exact (Heap.get?_update_other _ _ (fun z : T = b => hT (z ▸ hb))).trans e
      · exact (Heap.get?_update_other _ _ (Ne.symm hbT)).trans (kp b o hb e)
    | some b =>
      have cmp := CmpOf.ints_gt (prog := prog) (w := w) (A := A.in1) (P := fun (z : Nat) v => ∃ t, v = Value.int (if z = 0 then val i else b.1) t) (fun z => if z = 0 then val i else b.1) (fun _ _ z => z)
      show wpAny _ A.in1 (tryCatch (holding [Value.int (val i) t, Value.int (val i) t] (richCompare .Gt (.int (val i) t) (.int b.1 b.2) >>= _)) _ >>= _) _ _ _
      refine wpAny_bind (wpAny_tryCatch (wpAny_holding (wpAny_bind (cmp 0 1 _ _ _ _ _ ⟨t, rfl⟩ ⟨b.2, rfl⟩ ?_))))
      refine wpAny_bind (wpAny_holding (wpAny_truthy_bool ?_))
      refine wpAny_bind (wpAny_letGo (wpAny_pure ?_))
      simp only [if_true, Nat.one_ne_zero, if_false]
      by_cases q : val i > b.1
      · rw [decide_eq_true q]
        simp only [if_true]
        refine wpAny_bind ?_
        refine wpAny_updateSeq hS' rfl (wpAny_bind (wpAny_letGo ?_))
        rw [hname]
        refine wpAny_pure ⟨plainId_quiet F.plain_max_loop _, next (val i, t) _ _ _ (Or.inl rfl) (Int.le_refl _) (fun b0 z => by cases z; exact Int.le_of_lt q) (W.frame _ _ _ hst' fun y hb o e => ?_) (Heap.get?_update_self _ hS' rfl) fun y o hb hbT e => ?_⟩
        · exact (Heap.get?_update_other _ _ (fun z : T = y => hT (z ▸ hb))).trans e
        · exact (Heap.get?_update_other _ _ (Ne.symm hbT)).trans (kp y o hb e)
      · rw [decide_eq_false q]
        simp only [Bool.false_eq_true, if_false]
        refine wpAny_bind (wpAny_letGo ?_)
        rw [hname]
        exact wpAny_pure ⟨plainId_quiet F.plain_max_loop _, next b _ _ c (Or.inr ⟨b, rfl, rfl⟩) (by omega) (fun b0 z => by cases z; exact Int.le_refl _) hst' hS' fun y o hb _ e => kp y o hb e⟩
/-- max(x, default=d) -/
theorem max_dflt {x d : Value} {Q : Value → Shared → Prop}
    (h : wpAny (model prog w) A.in1 (pyIter x) (fun it s₂ => ∃ I fp wr n P St, ∃ val : Nat → Int, it = .ref I ∧ Walks prog w A.in1 I fp wr n P St ∧ St 0 s₂.heap ∧ (∀ b ∈ fp, b < s₂.heap.objs.size) ∧ (∀ i v, P i v → ∃ t, v = .int (val i) t) ∧
      ∀ v h' tk, (n = 0 → v = d) → (0 < n → ∃ m t, v = .int m t ∧ (∃ j, j < n ∧ m = val j) ∧ ∀ j, j < n → val j ≤ m) → (∀ b o, b ∉ wr → s₂.heap.get? b = some o → h'.get? b = some o) → Q v { s₂ with heap := h', toks := tk }) E s) :
    wpAny (model prog w) A (call (.builtin "max") [x] [(Str.ofString "default", d)]) Q E s := by
  have hname : (toString "max" ++ toString ".loop" : String) = "max.loop" := by decide
  refine PyProof.Rows.kmk_tree F.kind_max F.plain_max F.entry_max (maxD_args _ _) ?_
  show wpAny _ A.in1 (Builtin.Builtins.bindParams "max" ["key", "default"] 0 ⟨[], [(Str.ofString "default", d)]⟩ >>= _) _ _ s
  refine wpAny_bind (wpAny_of_eq (a := [none, some d]) rfl ?_)
  refine wpAny_bind (wpAny_pure ?_)
  refine wpAny_bind (wpAny_mono h (fun it s₂ q => ?_) fun _ _ e => e)
  obtain ⟨I, fp, wr, n, P, St, val, rfl, W, st, hfp, hval, hQ⟩ := q
  refine wpAny_bind (wpAny_newObj_type ?_)
  have hT : s₂.heap.objs.size ∉ fp := fun m => Nat.lt_irrefl _ (hfp _ m)
  rw [hname]
  refine wpAny_pure ⟨plainId_quiet F.plain_max_loop _, max_loopD W val hval s₂.heap.objs.size hT d n 0 _ 0 none (by omega) (Nat.zero_le _) (W.frame _ _ _ st fun b _ o e => Heap.get?_push_of_some _ e) (Heap.get?_push_size _ rfl) fun v h' tk z1 z2 kp => ?_⟩
  refine hQ v h' tk (fun z => z1 rfl z.symm) (fun z => ?_) fun b o hb e => kp b o hb (Nat.ne_of_lt (Heap.lt_size e)) (Heap.get?_push_of_some _ e)
  obtain ⟨m, t, e, y1, _, y3⟩ := z2 (Or.inr z)
  refine ⟨m, t, e, ?_, fun j hj => y3 j (Nat.zero_le _) hj⟩
  rcases y1 with ⟨b, q, _⟩ | ⟨j, _, q, r⟩
  · cases q
  · exact ⟨j, q, r⟩
end
end Rs
namespace Rs
open PySem PySem.Spec PyProof.Rows L2
theorem preSum_take (ns : List Int) : ∀ n, n ≤ ns.length → preSum (fun i => ns.getD i 0) n = (ns.take n).sum
  | 0, _ => by simp [preSum]
  | n + 1, h => by
    rw [preSum, preSum_take ns n (by omega), List.take_succ, List.getElem?_eq_getElem (by omega), List.sum_append]
    simp [List.getD_eq_getElem?_getD, List.getElem?_eq_getElem (show n < ns.length by omega)]
theorem preSum_all (ns : List Int) : preSum (fun i => ns.getD i 0) ns.length = ns.sum := by rw [preSum_take ns _ (Nat.le_refl _), List.take_length]
theorem vals_at {ns : List Int} {us : List Value} (r : Vals (ns.map V.int) us) (i : Nat) (v : Value) (h : us.toArray[i]? = some v) : ∃ t, v = .int (ns.getD i 0) t := by
  rw [List.getElem?_toArray] at h
  obtain ⟨hl, e⟩ := List.getElem?_eq_some_iff.mp h
  have hl2 : i < ns.length := by rw [← r.length, List.length_map] at hl; exact hl
  have e1 : (ns.map V.int)[i]? = some (.int (ns.getD i 0)) := by rw [List.getElem?_map, List.getD_eq_getElem?_getD, List.getElem?_eq_getElem hl2]; rfl
  obtain ⟨u, e2, ru⟩ := r.get e1
  rw [h] at e2
  cases e2
  exact ru
section
variable {prog : Program} {w : World} {A : Around} {s : Shared} {E : Value → Shared → Prop}
/-- iter(l) of a list, of a tuple: a walk over its items -/
theorem walk_list {l : Addr} {its : Array Value} {Q : Value → Shared → Prop} (hh : A.handled = none) (hl : s.heap.IsList l its)
    (h : ∀ s₂ : Shared, s₂ = { s with heap := s.heap.push { cls := .type "list_iterator", data := .fields #[.ref l, .int 0 0] } } → ∀ (St : Nat → Heap → Prop), Walks prog w A s.heap.objs.size [s.heap.objs.size, l] [s.heap.objs.size] its.size (fun i v => its[i]? = some v) St → St 0 s₂.heap →
      (∀ b ∈ [s.heap.objs.size, l], b < s₂.heap.objs.size) → Q (.ref s.heap.objs.size) s₂) : wpAny (model prog w) A (pyIter (.ref l)) Q E s := by
  have hlt : l < s.heap.objs.size := by obtain ⟨_, e, _⟩ := hl; exact Heap.lt_size e
  refine wpAny_pyIter_list hl (h _ rfl _ (Walks.list (A := A) hh _ l (Nat.ne_of_lt hlt) its) ⟨⟨_, Heap.get?_push_size _ rfl, rfl, rfl⟩, hl.push _⟩ ?_)
  intro b hb
  show b < (s.heap.push _).objs.size
  rw [Heap.size_push]
  simp only [List.mem_cons, List.not_mem_nil, or_false] at hb
  rcases hb with rfl | rfl
  · exact Nat.lt_succ_self _
  · exact Nat.lt_succ_of_lt hlt
theorem walk_tup {l : Addr} {its : Array Value} {Q : Value → Shared → Prop} (hh : A.handled = none) (hl : s.heap.IsTuple l its)
    (h : ∀ s₂ : Shared, s₂ = { s with heap := s.heap.push { cls := .type "tuple_iterator", data := .fields #[.ref l, .int 0 0] } } → ∀ (St : Nat → Heap → Prop), Walks prog w A s.heap.objs.size [s.heap.objs.size, l] [s.heap.objs.size] its.size (fun i v => its[i]? = some v) St → St 0 s₂.heap →
      (∀ b ∈ [s.heap.objs.size, l], b < s₂.heap.objs.size) → Q (.ref s.heap.objs.size) s₂) : wpAny (model prog w) A (pyIter (.ref l)) Q E s := by
  have hlt : l < s.heap.objs.size := by obtain ⟨_, e, _⟩ := hl; exact Heap.lt_size e
  refine wpAny_pyIter_tuple hl (h _ rfl _ (Walks.tuple (A := A) hh _ l (Nat.ne_of_lt hlt) its) ⟨⟨_, Heap.get?_push_size _ rfl, rfl, rfl⟩, hl.push _⟩ ?_)
  intro b hb
  show b < (s.heap.push _).objs.size
  rw [Heap.size_push]
  simp only [List.mem_cons, List.not_mem_nil, or_false] at hb
  rcases hb with rfl | rfl
  · exact Nat.lt_succ_self _
  · exact Nat.lt_succ_of_lt hlt
end
section
variable {X : Cx}
/-- what stood, stands -/
theorem it_old {s : Shared} {o : Obj} {h' : Heap} (k : ∀ b u, b ∉ [s.heap.objs.size] → (s.heap.push o).get? b = some u → h'.get? b = some u) : ∀ b u, s.heap.get? b = some u → h'.get? b = some u := fun b u e =>
  k b u (fun z => absurd (Heap.lt_size e) ((List.mem_singleton.mp z) ▸ Nat.lt_irrefl _)) (Heap.get?_push_of_some _ e)
def rSumT (K : PySem.W.Frag) : List V → Hp → VK → Prop := fun vs H Q => ∃ (a : Addr) (ns : List Int), vs = [V.ref a] ∧ SqT K H a (ns.map V.int) ∧ Q (.int ns.sum) H
theorem cr_sumT (hc : X.calm = true) : CallR X (.builtin "sum") (rSumT X.K) := by
  intro pins s σ H vs us Q I r h
  obtain ⟨a, ns, rfl, hs, q⟩ := h
  obtain ⟨its, rv, ht, hz⟩ := I.tuple hs
  rw [Vals.ref1 r]
  obtain ⟨o, e1, e2, n, e3⟩ := id ht
  refine call_sum_walkG (walk_tup (A := X.A.in1) (I.ok.hd hc) ⟨o, e1, e2, n, e3⟩ fun s₂ es St W st hfp => ?_)
  subst es
  refine ⟨_, _, _, _, _, _, fun i => ns.getD i 0, rfl, W, st, hfp, vals_at rv, fun h' tk t' hk => ⟨.int _, H, I.kept (it_old hk), ⟨_, rfl⟩, ?_⟩⟩
  rw [List.size_toArray, ← rv.length, List.length_map, preSum_all]
  exact q
def rSumK (K : PySem.W.Frag) : List V → List V → Hp → VK → Prop := fun vs zs H Q => ∃ (a : Addr) (ns : List Int) (k : Int), vs = [V.ref a] ∧ zs = [V.int k] ∧ SqL K H a (ns.map V.int) ∧ Q (.int (k + ns.sum)) H
theorem cr_sumK (hc : X.calm = true) : CallRK X (.builtin "sum") [Str.ofString "start"] (rSumK X.K) := by
  intro pins s σ H vs zs us ws Q I r rz h
  obtain ⟨a, ns, k, rfl, rfl, hs, q⟩ := h
  obtain ⟨its, rv, ht, hz⟩ := I.list hs
  rw [Vals.ref1 r]
  obtain ⟨u, rfl, t, rfl⟩ := vals1 rz
  refine sum_from (walk_list (A := X.A.in1) (I.ok.hd hc) ht.isList fun s₂ es St W st hfp => ?_)
  subst es
  refine ⟨_, _, _, _, _, _, fun i => ns.getD i 0, rfl, W, st, hfp, vals_at rv, fun h' tk t' hk => ⟨.int _, H, I.kept (it_old hk), ⟨_, rfl⟩, ?_⟩⟩
  rw [List.size_toArray, ← rv.length, List.length_map, preSum_all]
  exact q
def maxD (d : Int) : List Int → Int
  | [] => d
  | x :: xs => xs.foldl max x
theorem fold_max : ∀ (xs : List Int) (x : Int), (xs.foldl max x = x ∨ xs.foldl max x ∈ xs) ∧ x ≤ xs.foldl max x ∧ ∀ y ∈ xs, y ≤ xs.foldl max x
  | [], x => ⟨Or.inl rfl, Int.le_refl _, fun y h => (nomatch h)⟩
  | z :: xs, x => by
    obtain ⟨h1, h2, h3⟩ := fold_max xs (max x z)
    simp only [List.foldl_cons]
    have a1 : x ≤ max x z := by omega
    have a2 : z ≤ max x z := by omega
    refine ⟨?_, by omega, fun y hy => ?_⟩
    · rcases h1 with h1 | h1
      · rw [h1]
        by_cases c : x ≤ z
        · right; rw [show max x z = z by omega]; exact List.mem_cons_self
        · left; omega
      · exact Or.inr (List.mem_cons_of_mem _ h1)
    · rcases List.mem_cons.mp hy with rfl | hy
      · omega
      · exact h3 y hy
theorem maxD_is {d m : Int} {ns : List Int} (h0 : ns ≠ []) (h1 : m ∈ ns) (h2 : ∀ y ∈ ns, y ≤ m) : maxD d ns = m := by
  cases ns with
  | nil => exact absurd rfl h0
  | cons x xs =>
    obtain ⟨a, b, c⟩ := fold_max xs x
    show xs.foldl max x = m
    have z1 : xs.foldl max x ≤ m := by
      rcases a with a | a
      · rw [a]; exact h2 x List.mem_cons_self
      · exact h2 _ (List.mem_cons_of_mem _ a)
    have z2 : m ≤ xs.foldl max x := by
      rcases List.mem_cons.mp h1 with rfl | h
      · exact b
      · exact c m h
    omega
def rMaxDT (K : PySem.W.Frag) : List V → List V → Hp → VK → Prop := fun vs zs H Q => ∃ (a : Addr) (ns : List Int) (d : Int), vs = [V.ref a] ∧ zs = [V.int d] ∧ SqT K H a (ns.map V.int) ∧ Q (.int (maxD d ns)) H
theorem cr_maxDT (hc : X.calm = true) : CallRK X (.builtin "max") [Str.ofString "default"] (rMaxDT X.K) := by
  intro pins s σ H vs zs us ws Q I r rz h
  obtain ⟨a, ns, d, rfl, rfl, hs, q⟩ := h
  obtain ⟨its, rv, ht, hz⟩ := I.tuple hs
  rw [Vals.ref1 r]
  obtain ⟨u, rfl, t, rfl⟩ := vals1 rz
  obtain ⟨o, e1, e2, n, e3⟩ := id ht
  refine max_dflt (walk_tup (A := X.A.in1) (I.ok.hd hc) ⟨o, e1, e2, n, e3⟩ fun s₂ es St W st hfp => ?_)
  subst es
  have hl : its.toArray.size = ns.length := by rw [List.size_toArray, ← rv.length, List.length_map]
  refine ⟨_, _, _, _, _, _, fun i => ns.getD i 0, rfl, W, st, hfp, vals_at rv, fun v h' tk z1 z2 hk => ?_⟩
  rw [hl] at z1 z2
  by_cases h0 : ns = []
  · subst h0
    rw [z1 rfl]
    exact ⟨.int d, H, I.kept (it_old hk), ⟨t, rfl⟩, q⟩
  · have hp : 0 < ns.length := List.length_pos_iff.mpr h0
    obtain ⟨m, t2, rfl, ⟨j, hj, rfl⟩, hm⟩ := z2 hp
    refine ⟨.int _, H, I.kept (it_old hk), ⟨t2, rfl⟩, ?_⟩
    have em : maxD d ns = ns.getD j 0 := by
      refine maxD_is h0 ?_ fun y hy => ?_
      · rw [List.getD_eq_getElem?_getD, List.getElem?_eq_getElem hj]
        exact List.getElem_mem hj
      · obtain ⟨i, hi, rfl⟩ := List.mem_iff_getElem.mp hy
        have z : ns.getD i 0 ≤ ns.getD j 0 := hm i hi
        rw [List.getD_eq_getElem?_getD, List.getElem?_eq_getElem hi] at z
        exact z
    show Q (.int (ns.getD j 0)) H
    rw [← em]
    exact q
end
end Rs
namespace Rs
open PySem PySem.Spec PyProof.Rows L2
/-! ### a tuple's slice with a step -/
def ixT (n : Nat) (lo hi : Option Int) (st : Int) : List Nat := (List.range (Builtin.Slice.slicePlaces (Builtin.Slice.sliceAdjust lo hi st n).1 (Builtin.Slice.sliceAdjust lo hi st n).2 st)).map fun (k : Nat) => ((Builtin.Slice.sliceAdjust lo hi st n).1 + (k : Int) * st).toNat
def pickT (xs : List V) (lo hi : Option Int) (st : Int) : List V := (ixT xs.length lo hi st).filterMap (xs[·]?)
def pickI (ns : List Int) (lo hi : Option Int) (st : Int) : List Int := (ixT ns.length lo hi st).filterMap (ns[·]?)
theorem pickT_map (ns : List Int) (lo hi : Option Int) (st : Int) : pickT (ns.map V.int) lo hi st = (pickI ns lo hi st).map V.int := by
  unfold pickT pickI
  rw [List.length_map]
  generalize ixT ns.length lo hi st = ix
  induction ix with
  | nil => rfl
  | cons i ix ih =>
    cases h : ns[i]? with
    | none => rw [List.filterMap_cons_none (by rw [List.getElem?_map, h]; rfl), List.filterMap_cons_none h, ih]
    | some z => rw [List.filterMap_cons_some (by rw [List.getElem?_map, h]; rfl), List.filterMap_cons_some h, ih]; rfl
section
variable {prog : Program} {w : World} {A : Around} {s : Shared} {E : Value → Shared → Prop}
theorem part_ {v : Value} {o : Option Int} {Q : Option Int → Shared → Prop} (p : IsPart v o) (h : Q o s) : wpAny (model prog w) A (Builtin.Slice.slicePartIndex v) Q E s := HT.slicePart_ p h
theorem stepped {sl : Addr} {vl vu vs : Value} {lo hi : Option Int} {st : Int} {n : Nat} {Q : Int × Int × Nat → Shared → Prop} (hs : s.heap.IsSliceOf sl vl vu vs) (pl : IsPart vl lo) (pu : IsPart vu hi) (ps : IsPart vs (some st)) (h0 : st ≠ 0)
    (h : Q ((Builtin.Slice.sliceAdjust lo hi st n).1, st, Builtin.Slice.slicePlaces (Builtin.Slice.sliceAdjust lo hi st n).1 (Builtin.Slice.sliceAdjust lo hi st n).2 st) s) : wpAny (model prog w) A (Builtin.Slice.sliceApplied (.ref sl) (pure (n : Int))) Q E s := by
  obtain ⟨os, hos, hcs, hds⟩ := id hs
  unfold Builtin.Slice.sliceApplied Builtin.Slice.sliceFields
  refine wpAny_bind (wpAny_bind (wpAny_field hos hds (x := vl) rfl (wpAny_bind (wpAny_field hos hds (x := vu) rfl (wpAny_bind (wpAny_field hos hds (x := vs) rfl (wpAny_pure ?_)))))))
  refine wpAny_bind (part_ ps ?_)
  show wpAny _ _ (if (st == 0) = true then _ else _) _ _ s
  rw [if_neg (by simpa using h0)]
  exact wpAny_bind (part_ pl (wpAny_bind (part_ pu (wpAny_bind (wpAny_pure (wpAny_pure h))))))
theorem getItem_step {t sl : Addr} {items : Array Value} {vl vu vs : Value} {lo hi : Option Int} {st : Int} {Q : Value → Shared → Prop} (ht : IsTup s.heap t items) (hs : s.heap.IsSliceOf sl vl vu vs) (pl : IsPart vl lo) (pu : IsPart vu hi) (ps : IsPart vs (some st))
    (h0 : st ≠ 0) (h1 : st ≠ 1) (hz : ((ixT items.size lo hi st).filterMap (items[·]?)).length ≤ sizeLine)
    (h : Q (.ref s.heap.objs.size) { s with heap := s.heap.push { cls := .type "tuple", data := .seq ((ixT items.size lo hi st).filterMap (items[·]?)).toArray } }) : wpAny (model prog w) A (getItem (.ref t) (.ref sl)) Q E s := by
  obtain ⟨os, hos, hcs, hds⟩ := id hs
  have hT : s.TypeIs (.ref sl) "slice" := ⟨os, hos, hcs⟩
  have hk : sizeOk (.seq ((ixT items.size lo hi st).filterMap (items[·]?)).toArray) := by
    show ((ixT items.size lo hi st).filterMap (items[·]?)).toArray.size ≤ sizeLine
    rw [List.size_toArray]
    exact hz
  have ep : ((List.range (Builtin.Slice.slicePlaces (Builtin.Slice.sliceAdjust lo hi st items.size).1 (Builtin.Slice.sliceAdjust lo hi st items.size).2 st)).filterMap fun (k : Nat) => items[((Builtin.Slice.sliceAdjust lo hi st items.size).1 + (k : Int) * st).toNat]?) = (ixT items.size lo hi st).filterMap (items[·]?) := by
    unfold ixT
    rw [List.filterMap_map]
    rfl
  unfold getItem
  try with_reducible refine wpAny_holding ?_
  first | refine wpAny_bind (wpAny_pure ?_) | skip
  refine wpAny_bind (wpAny_sequenceKey ht.typeIs (by decide) ?_)
  refine wpAny_bind (wpAny_callSpecial?_slot (name := Str.ofString "__getitem__") ht.typeIs PyProof.Rows.slot_tuple_getitem (wpAny_call_entry PyProof.Rows.slot_tuple_getitem ht.typeIs entry_tuple_getitem ?_ (args_tuple_getitem _ _)))
  show wpAny _ _ (Builtin.Tuple.tupleItemsOf (.ref t) >>= _) _ _ s
  refine wpAny_bind (tupleItemsOf_ ht ?_)
  refine wpAny_bind (wpAny_typeOf hT ?_)
  rw [if_pos (by decide)]
  refine wpAny_bind (stepped hs pl pu ps h0 ?_)
  show wpAny _ _ (if (_ && st == 1 && _) = true then _ else _) _ _ s
  rw [if_neg (by
    have e : (st == 1) = false := by simpa using h1
    simp [e])]
  rw [ep]
  first
    | exact wpAny_bind (m := Builtin.Tuple.tupleExact _) (wpAny_newObj_type (wpAny_pure ⟨_, rfl, wpAny_pure h⟩) hk)
    | exact wpAny_bind (m := Builtin.Tuple.tupleExact _) (wpAny_newObj_type (wpAny_bind (wpAny_pure (wpAny_pure ⟨_, rfl, wpAny_pure h⟩))) hk)
    | exact wpAny_bind (wpAny_bind (m := Builtin.Tuple.tupleExact _) (wpAny_newObj_type (wpAny_pure (wpAny_pure ⟨_, rfl, wpAny_pure h⟩)) hk))
    | exact wpAny_bind (wpAny_bind (m := Builtin.Tuple.tupleExact _) (wpAny_newObj_type (wpAny_pure ⟨_, rfl, wpAny_pure h⟩) hk))
end
def tSlT3 (K : PySem.W.Frag) (te : TE) (tl th ts : TO) : TE := fun σ H Q => te σ H fun x H1 => tl σ H1 fun l H2 => th σ H2 fun u H3 => ts σ H3 fun st H4 => ∃ a xs k, x = .ref a ∧ SqT K H4 a xs ∧ st = some k ∧ k ≠ 0 ∧ k ≠ 1 ∧ (pickT xs l u k).length ≤ sizeLine ∧
  ∀ p, H4 p = none → Q (.ref p) (upd H4 p (.tup (pickT xs l u k)))
theorem pe_slT3 {X : Cx} {e : Expr} {te : TE} {lo hi st : Option Expr} {tl th ts : TO} {p2 pos : Pos} (he : PE X e te) (hl : PO X lo tl) (hh : PO X hi th) (hs : PO X st ts)
    (hsub : ∀ ov iv, subscripted (.Slice lo hi st p2) false ov iv = operate [ov, iv] (getItem ov iv) := by intro _ _; with_unfolding_all rfl) : PE X (.Subscript e (.Slice lo hi st p2) pos) (tSlT3 X.K te tl th ts) := by
  constructor
  intro pins s σ H Q I h
  refine PyProof.Rows.Subscript_ (thn (he.run pins s σ H _ I h) ?_)
  rintro v s1 ⟨x, H1, I1, r1, q1⟩
  refine wpAny_Slice (thn (hl.run pins s1 σ H1 _ I1 q1) ?_)
  rintro vl s2 ⟨l, H2, I2, pl, q2⟩
  refine thn (hh.run pins s2 σ H2 _ I2 q2) ?_
  rintro vu s3 ⟨u, H3, I3, pu, q3⟩
  refine thn (hs.run pins s3 σ H3 _ I3 q3) ?_
  rintro vs s4 ⟨c, H4, I4, ps, a, xs, k, ex, hx, ek, h0, h1, hz, q4⟩
  subst ex ek
  cases r1
  have I5 : Inv X pins σ H4 { s4 with heap := s4.heap.push { cls := .type "slice", data := .fields #[vl, vu, vs] } } := I4.kept (t' := s4.toks) fun b ob q => Heap.get?_push_of_some _ q
  obtain ⟨its, rv, ht, hz2⟩ := I5.tuple hx
  have hlen : its.length = xs.length := rv.length.symm
  have ei : ∀ ix : List Nat, ix.filterMap (its.toArray[·]?) = ix.filterMap (its[·]?) := fun ix => by simp only [List.getElem?_toArray]
  have vp := vals_pick rv (ixT xs.length l u k)
  show wpAny (model X.prog X.w) X.A (subscriptTail e (.Slice lo hi st p2) (.ref a) (.ref s4.heap.objs.size)) (EP X pins σ Q) X.xe _
  refine tail_any (ops := [.ref a, .ref s4.heap.objs.size]) ht.typeIs PyProof.Rows.slot_tuple_getitem.lookup ?_ (hsub _ _)
  refine getItem_step ht (Heap.IsSliceOf.new _ vl vu vs) pl pu ps h0 h1 ?_ ?_
  · rw [ei, List.size_toArray, hlen, ← vp.length]
    exact hz
  · rw [ei, show its.toArray.size = xs.length by rw [List.size_toArray, hlen]]
    refine ⟨.ref _, _, I5.laid (t' := s4.toks) (o := .tup (pickT xs l u k)) (fun b ob q => Heap.get?_push_of_some _ q) (Nat.le_refl _) ?_, rfl, q4 _ (I5.hok.fresh (Nat.le_refl _))⟩
    exact ⟨hz, _, vp, IsTup.new _ _⟩
end Rs

namespace Rs
open PySem PySem.Spec PyProof.Rows L2
/-- a def with keyword-only defaults -/
structure CalD (K : PySem.W.Frag) (mg : Str → Option Value) (x : Str) (st : Stmt) (kws : List (Str × V)) (f : Addr) (fd : FuncData) : Prop where
  F : FunD K x x (defArgs st) (defBody st) (defScope st) [] kws f fd
  m : mg x = some (.ref f)
def slR3 (K : PySem.W.Frag) (Q : VK) (x : V) (l u st : Option Int) (H : Hp) : Prop := ∃ a xs k, x = .ref a ∧ SqT K H a xs ∧ st = some k ∧ k ≠ 0 ∧ k ≠ 1 ∧ (pickT xs l u k).length ≤ sizeLine ∧ ∀ p, H p = none → Q (.ref p) (upd H p (.tup (pickT xs l u k)))
section
variable {σ : L2.St} {H H0 : Hp} {M : List Addr} {L L' : Led} {Q : VK} {v x y : V} {nx : L2.St → Hp → Prop} {rt : VK} {bk ct : L2.St → Hp → Prop} {t u : TS} {te ta tb tc : TE} {K : PySem.W.Frag} {a p : Addr}
theorem rd_sumT {xs : List V} {ns : List Int} (S : Hs H0 M H L) (m : (a, HO.tup xs) ∈ L) (e : xs = ns.map V.int) (h : Q (.int ns.sum) H) : rSumT K [.ref a] H Q := ⟨a, ns, rfl, by subst e; exact S.tup m, h⟩
theorem rd_cbk {r : List V → List V → Hp → VK → Prop} {t tk : TA} (h : t σ H fun vs H1 => tk σ H1 fun zs H2 => r vs zs H2 Q) : tCKw r t tk σ H Q := h
theorem rd_sumK {xs : List V} {ns : List Int} {k : Int} (S : Hs H0 M H L) (m : (a, HO.lst xs) ∈ L) (e : xs = ns.map V.int) (h : Q (.int (k + ns.sum)) H) : rSumK K [.ref a] [.int k] H Q := ⟨a, ns, k, rfl, rfl, by subst e; exact S.lst m, h⟩
theorem rd_maxDT {xs : List V} {ns : List Int} {k : Int} (S : Hs H0 M H L) (m : (a, HO.tup xs) ∈ L) (e : xs = ns.map V.int) (h : Q (.int (maxD k ns)) H) : rMaxDT K [.ref a] [.int k] H Q := ⟨a, ns, k, rfl, rfl, by subst e; exact S.tup m, h⟩
theorem rd_slT3 {tl th ts : TO} (h : te σ H fun x H1 => tl σ H1 fun l H2 => th σ H2 fun u H3 => ts σ H3 fun st H4 => slR3 K Q x l u st H4) : tSlT3 K te tl th ts σ H Q := h
theorem rd_slR3 {xs : List V} {ns : List Int} {l u : Option Int} {k : Int} (S : Hs H0 M H L) (m : (a, HO.tup xs) ∈ L) (e : xs = ns.map V.int) (h0 : k ≠ 0) (h1 : k ≠ 1) (hz : (pickI ns l u k).length ≤ sizeLine)
    (h : ∀ p H', H0 p = none → Hs H0 M H' ((p, .tup ((pickI ns l u k).map V.int)) :: L) → Q (.ref p) H') : slR3 K Q (.ref a) l u (some k) H := by
  subst e
  refine ⟨a, _, k, rfl, S.tup m, rfl, h0, h1, ?_, ?_⟩
  · rw [pickT_map, List.length_map]; exact hz
  · rw [pickT_map]; exact rd_newO S h
theorem rd_slTp {xs ys : List V} {lo hi : Option Int} (S : Hs H0 M H L) (m : (a, HO.tup xs) ∈ L) (w : ¬ (HT.sIx xs.length 0 lo = 0 ∧ HT.sIx xs.length xs.length hi = xs.length)) (e : cutV xs lo hi = ys) (h : ∀ p H', H0 p = none → Hs H0 M H' ((p, .tup ys) :: L) → Q (.ref p) H') : rSlT K (.ref a) lo hi H Q := by
  subst e
  exact ⟨a, xs, rfl, S.tup m, w, rd_newO S h⟩
theorem rd_repT {xs : List V} {k : Int} (S : Hs H0 M H L) (m : (a, HO.tup xs) ∈ L) (h0 : xs ≠ []) (h1 : 2 ≤ k) (h2 : k ≤ 1000) (h3 : xs.length ≤ 1000) (h : ∀ p H', H0 p = none → Hs H0 M H' ((p, .tup (List.replicate k.toNat xs).flatten) :: L) → Q (.ref p) H') : rRepT K (.ref a) (.int k) H Q :=
  ⟨a, k, xs, rfl, rfl, S.tup m, h0, h1, h2, h3, rd_newO S h⟩
theorem rd_catT {xs ys : List V} {b : Addr} (S : Hs H0 M H L) (m : (a, HO.tup xs) ∈ L) (m2 : (b, HO.tup ys) ∈ L) (h0 : xs ≠ []) (h1 : ys ≠ []) (hz : xs.length + ys.length ≤ sizeLine) (h : ∀ p H', H0 p = none → Hs H0 M H' ((p, .tup (xs ++ ys)) :: L) → Q (.ref p) H') : rCatT K (.ref a) (.ref b) H Q :=
  ⟨a, b, xs, ys, rfl, rfl, S.tup m, S.tup m2, h0, hz, fun z => absurd z h1, fun _ => rd_newO S h⟩
theorem rd_all {xs : List V} {bs : List Bool} (S : Hs H0 M H L) (m : (a, HO.lst xs) ∈ L) (e : xs = bs.map V.bl) (h : Q (.bl (bs.all id)) H) : rAll K [.ref a] H Q := ⟨a, bs, rfl, by subst e; exact S.lst m, h⟩
theorem rd_int1b {b : Bool} {R : Int → Prop} (h : R (if b then 1 else 0)) : (∃ i, [V.bl b] = [V.int i] ∧ R i) ∨ ∃ k, [V.bl b] = [.bl k] ∧ R (if k then 1 else 0) := Or.inr ⟨b, rfl, h⟩
end
theorem rd_yes {σ : L2.St} {H : Hp} {Q : Bool → Hp → Prop} (h : Q true H) : tYes σ H Q := h
theorem pick_le (ns : List Int) (lo : Option Int) (h : lo = none ∨ lo = some 1) : (pickI ns lo none 2).length ≤ ns.length := by
  unfold pickI
  refine Nat.le_trans (List.length_filterMap_le _ _) ?_
  unfold ixT
  rw [List.length_map, List.length_range]
  rcases h with rfl | rfl
  · simp [Builtin.Slice.sliceAdjust, Builtin.Slice.slicePlaces]
    split <;> omega
  · simp [Builtin.Slice.sliceAdjust, Builtin.Slice.slicePlaces]
    split <;> omega
theorem pick_mem {ns : List Int} {lo hi : Option Int} {k z : Int} (h : z ∈ pickI ns lo hi k) : z ∈ ns := by
  obtain ⟨i, _, hi⟩ := List.mem_filterMap.mp h
  exact List.mem_of_getElem? hi
end Rs

namespace Rs
open PySem PySem.Spec PyProof.Rows L2
section
variable {X : Cx} {CX : CXT} {k n : Nat} {f C : Addr} {fd : FuncData} {ps ks : List Str} {sp : Sp} {E : XK} {m : Str} {p pos apos : Pos} {o : Expr} {kws : List Keyword} {ta : TE} {tk : TA} {g : List Value → List Value → List Value} {gV : List V → List V → List V}
/-- o.m(k = v, ..) -/
def tMethK (C : Addr) (m : Str) (n : Nat) (sp : Sp) (gV : List V → List V → List V) (E : XK) (ta : TE) (tk : TA) : TE := fun σ H Q => ta σ H fun x H1 => ∃ a dx fs, x = .ref a ∧ H1 a = some (.ins C dx fs) ∧ fs.lookup m = none ∧ tk σ H1 fun zs H2 => zs.length = n ∧ sp (gV [x] zs) H2 Q E
theorem pe_methK {pl : Sem Bool} (he : PE X o ta) (c : Cls X.K C) (hm : Meth X.K C m f) (F : FnOk X.prog X.w X.K X.mg X.base CX k f fd ps sp) (hr : Room k X.A) (hb : KBn X.K fd ps 1 ks g gV) (hx : Passes CX X E) (hkw : PK X kws tk)
    (hall : (backToKw pos (keywordEach kws X.env)).all (·.1.isSome) = true := by rfl) (hks : (backToKw pos (keywordEach kws X.env)).filterMap (·.1) = ks := by rfl)
    (ht : eval (.Call (.Attribute o m apos) [] kws pos) X.env = (do
      let ov ← eval o X.env
      standAt apos.atName
      let (f, first) ← holding [ov] (getMethod ov m pl)
      callWith pos f first (backTo pos (starEach [] X.env)) (backToKw pos (keywordEach kws X.env))) := by rfl) :
    PE X (.Call (.Attribute o m apos) [] kws pos) (tMethK C m ks.length sp gV E ta tk) := by
  constructor
  intro pins s σ H Q I h
  refine PySem.W.methodCall_KW (pl := pl) (thn (he.run pins s σ H _ I h) ?_) ht
  rintro u s1 ⟨x, H1, I1, rx, a, dx, fs, ex, ea, l, q⟩
  subst ex
  obtain rfl : u = Value.ref a := rx
  refine getmeth_ok I1 ea c hm l ?_
  have np : ((backTo pos (starEach [] X.env)).any (·.1) || (backToKw pos (keywordEach kws X.env)).any (·.1.isNone)) = false := by
    have z : ∀ l : List (Option Str × Sem Value), l.all (·.1.isSome) = true → l.any (·.1.isNone) = false := by
      intro l hl
      induction l with
      | nil => rfl
      | cons q l ih =>
        simp only [List.all_cons, Bool.and_eq_true] at hl
        simp only [List.any_cons, ih hl.2, Bool.or_false]
        cases e : q.1 with
        | none => rw [e] at hl; exact absurd hl.1 (by decide)
        | some _ => rfl
    rw [z _ hall]; rfl
  refine PySem.W.callWith_KW0 (first := [.ref a]) (h₀ := X.base) I1.ok.mod.kin hm.kp hall ?_ np
  refine thn (hkw.run pos pins s1 σ H1 _ I1 q) ?_
  rintro ws s2 ⟨zs, H2, I2, rz, l2, q2⟩
  refine ⟨I2.kIn, ?_⟩
  rw [hks]
  exact run_fnN (us := [.ref a]) (vs := [.ref a]) F hr hb hx I2 (.cons rfl .nil) rz rfl l2 q2
/-- a def called by a builtin -/
theorem run_in {A : Around} {pins : List (Addr × Obj)} {σ : L2.St} {H : Hp} {s : Shared} {Q : VK} {a : Addr} (F : FnOk X.prog X.w X.K X.mg X.base CX k f fd ["self"] sp) (hr : Room k A) (e0 : Env0 X.prog X.w X.K X.mg X.base A X.stack s H) (hb : Binds X.K fd ["self"] []) (hx : Passes CX X E)
    (I : Inv X pins σ H s) (h : sp [.ref a] H Q E) : wpAny (model X.prog X.w) A (call (.ref f) [.ref a]) (EP X pins σ Q) X.xe s := by
  refine wpAny_call (codeAny_mono (F.run A X.stack s H ⟨[.ref a], []⟩ [.ref a] [.ref a] Q E hr e0 (hb s [.ref a] I.kIn rfl) (.cons rfl .nil) h) fun r s' hq => ?_)
  cases r with
  | error e => exact hx pins σ H s e s' I hq
  | ok fl =>
    cases fl with
    | ret u => exact I.after hq
    | next => exact False.elim hq
    | brk => exact False.elim hq
    | cont => exact False.elim hq
def rLenO (C : Addr) (sp : Sp) (E : XK) : List V → Hp → VK → Prop := fun xs H Q => ∃ a dx fs, xs = [V.ref a] ∧ H a = some (.ins C dx fs) ∧ sp [.ref a] H (fun z H' => ∃ n : Int, z = .int n ∧ 0 ≤ n ∧ n < 2 ^ 63 ∧ Q (.int n) H') E
theorem call_lenO (hs : PySem.W.findIn X.K (.ref C) "__len__" = some (some (.ref f))) (hf : PySem.W.isFn X.K (.ref f) = true) (F : FnOk X.prog X.w X.K X.mg X.base CX k f fd ["self"] sp) (hr : Room (k + 1) X.A) (hb : Binds X.K fd ["self"] []) (hx : Passes CX X E) : CallR X (.builtin "len") (rLenO C sp E) := by
  intro pins s σ H xs us Q I r h
  obtain ⟨a, dx, fs, rfl, ha, q⟩ := h
  rw [Vals.ref1 r]
  obtain ⟨mA, O, _, _, _, _⟩ := ins_get I.hok ha
  obtain ⟨od, J, _⟩ := O.look
  obtain ⟨m, fr⟩ := I.fr
  refine PySem.W.len_K fr I.ok.mod.kin J hs hf (wpAny_mono (run_in F hr.in1 I.env0.in1 hb hx I q) (fun w s' z => ?_) fun _ _ x => x)
  obtain ⟨z', H', I', rz, n, e, h0, h1, qz⟩ := z
  subst e
  obtain ⟨t, rfl⟩ := rz
  exact ⟨⟨h0, h1⟩, .int n, H', I'.tok _, ⟨_, rfl⟩, qz⟩
def rReprO (C : Addr) (sp : Sp) (E : XK) : List V → Hp → VK → Prop := fun xs H Q => ∃ a dx fs, xs = [V.ref a] ∧ H a = some (.ins C dx fs) ∧ sp [.ref a] H (fun z H' => ∃ x : Str, z = .str x ∧ Q (.str x) H') E
theorem call_reprO (hs : PySem.W.findIn X.K (.ref C) "__repr__" = some (some (.ref f))) (hf : PySem.W.isFn X.K (.ref f) = true) (F : FnOk X.prog X.w X.K X.mg X.base CX k f fd ["self"] sp) (hr : Room (k + 1) X.A) (hb : Binds X.K fd ["self"] []) (hx : Passes CX X E) : CallR X (.builtin "repr") (rReprO C sp E) := by
  intro pins s σ H xs us Q I r h
  obtain ⟨a, dx, fs, rfl, ha, q⟩ := h
  rw [Vals.ref1 r]
  obtain ⟨mA, O, _, _, _, _⟩ := ins_get I.hok ha
  obtain ⟨od, J, _⟩ := O.look
  obtain ⟨m, fr⟩ := I.fr
  have hu : X.A.in1.units < cLine := Nat.lt_of_le_of_lt (Nat.le_add_right _ _) hr.in1.units
  refine PySem.W.repr_K hu fr I.ok.mod.kin J hs hf (wpAny_mono (run_in F hr.in1 I.env0.in1 hb hx I q) (fun w s' z => ?_) fun _ _ x => x)
  obtain ⟨z', H', I', rz, x, e, qz⟩ := z
  subst e
  obtain ⟨t, rfl⟩ := rz
  exact ⟨.str x, H', I', ⟨_, rfl⟩, qz⟩
end
end Rs

namespace Rs
open PySem PySem.Spec PyProof.Rows L2
section
variable {H0 H H' : Hp} {M : List Addr} {L L1 L2 L' N : Led} {a p : Addr} {o o' u u' : HO} {K : PySem.W.Frag} {Q : VK}
/-- two objects were changed, those of N are new -/
theorem Hs.twoN (S : Hs H0 M H L) (c1 : Chg a o o' L L1) (c2 : Chg p u u' L1 L2) (ha : H0 a = none ∨ a ∈ M) (hp : H0 p = none ∨ p ∈ M) (ne : a ≠ p) (k : ∀ b w, H b = some w → b ≠ a → b ≠ p → H' b = some w) (e1 : H' a = some o') (e2 : H' p = some u') (n : NewL H H' N) :
    (∀ q ∈ N, H0 q.1 = none) ∧ Hs H0 M H' (N ++ L2) := by
  have S1 := S.put c1 ha
  have S2 := S1.put c2 hp
  have h1 : H a = some o := S.is _ c1.mem
  have h2 : H p ≠ none := by
    have := S1.is _ c2.mem
    rw [upd_ne (Ne.symm ne)] at this
    rw [this]; simp
  refine S2.moreN (fun b w e => ?_) ⟨n.nd, fun q hq => ?_, n.is⟩
  · by_cases hb : b = p
    · subst hb; rw [upd_same] at e; cases e; exact e2
    · rw [upd_ne hb] at e
      by_cases hb2 : b = a
      · subst hb2; rw [upd_same] at e; cases e; exact e1
      · rw [upd_ne hb2] at e
        exact k b w e hb2 hb
  · have z := n.nw q hq
    rw [upd_ne (fun y => h2 (by rw [← y]; exact z)), upd_ne (fun y => by rw [y, h1] at z; cases z)]
    exact z
theorem rd_popAt {xs xs' : List V} {i : Nat} {y : V} (S : Hs H0 M H L) (c : Chg a (.lst xs) (.lst xs') L L') (hm : H0 a = none ∨ a ∈ M) (hk : xs[i]? = some y) (hz : i < 2 ^ 40) (e : xs.eraseIdx i = xs') (h : ∀ H', Hs H0 M H' L' → Q y H') : rPopAt (.ref a) [.int i] H Q := by
  subst e
  have hl : i < xs.length := (List.getElem?_eq_some_iff.mp hk).1
  refine ⟨a, xs, i, i, y, rfl, rfl, S.is _ c.mem, by omega, by omega, ?_, hk, h _ (S.put c hm)⟩
  unfold seqIndex?
  simp
  omega
theorem rd_pop {xs xs' : List V} {y : V} (S : Hs H0 M H L) (c : Chg a (.lst xs) (.lst xs') L L') (hm : H0 a = none ∨ a ∈ M) (e : xs = xs' ++ [y]) (h : ∀ H', Hs H0 M H' L' → Q y H') : rPop (.ref a) [] H Q := by
  subst e
  refine ⟨a, _, y, rfl, rfl, S.is _ c.mem, by simp, ?_⟩
  have e2 : (xs' ++ [y]).dropLast = xs' := by simp
  rw [e2]
  exact h _ (S.put c hm)
theorem rd_clear {xs : List V} (S : Hs H0 M H L) (c : Chg a (.lst xs) (.lst []) L L') (hm : H0 a = none ∨ a ∈ M) (h : ∀ H', Hs H0 M H' L' → Q .non H') : rClear (.ref a) [] H Q := ⟨a, xs, rfl, rfl, S.is _ c.mem, h _ (S.put c hm)⟩
/-- a list of refs of tuples of whole numbers, just these -/
structure TL (rs : List V) (T : Led) (ts : List (List Int)) : Prop where
  rs : rs = T.map fun q => .ref q.1
  ts : T.map (·.2) = ts.map fun t => HO.tup (t.map V.int)
theorem TL.nil : TL [] [] [] := ⟨rfl, rfl⟩
theorem TL.snoc {rs : List V} {T : Led} {ts : List (List Int)} (h : TL rs T ts) (q : Addr) (t : List Int) : TL (rs ++ [V.ref q]) (T ++ [(q, .tup (t.map V.int))]) (ts ++ [t]) := ⟨by simp [h.rs], by simp [h.ts]⟩
theorem TL.len {rs : List V} {T : Led} {ts : List (List Int)} (h : TL rs T ts) : rs.length = ts.length := by
  have := congrArg List.length h.ts
  rw [h.rs]
  simpa using this
def dT (ts : List (List Int)) : PyData := .list (ts.map fun t => .tuple (t.map .int))
theorem dpTL : ∀ {T : Led} {ts : List (List Int)}, T.map (·.2) = (ts.map fun t => HO.tup (t.map V.int)) → (∀ q ∈ T, H q.1 = some q.2) → DpAll K H (T.map fun q => .ref q.1) (ts.map fun t => .tuple (t.map .int))
  | [], [], _, _ => .nil
  | [], t :: ts, h, _ => by simp at h
  | q :: T, [], h, _ => by simp at h
  | q :: T, t :: ts, h, is => by
    simp only [List.map_cons, List.cons.injEq] at h
    have hi := is q List.mem_cons_self
    rw [h.1] at hi
    exact .cons (.tup (SqT.of hi) (dps_ints t)) (dpTL h.2 fun z hz => is z (List.mem_cons_of_mem _ hz))
theorem dp_TL {rs : List V} {T : Led} {ts : List (List Int)} (h : TL rs T ts) (S : Hs H0 M H L) (m : (a, HO.lst rs) ∈ L) (sub : ∀ q ∈ T, q ∈ L) : Dp K H (.ref a) (dT ts) := by
  refine .lst (S.lst m) ?_
  rw [h.rs]
  exact dpTL h.ts fun q hq => S.is q (sub q hq)
theorem tame_T : ∀ {ts : List (List Int)}, (∀ t ∈ ts, ∀ n ∈ t, n.natAbs < 10 ^ 12) → tames (ts.map fun t => .tuple (t.map .int)) = true
  | [], _ => by simp [tames]
  | t :: ts, h => by
    have h1 := tames_ints t (h t List.mem_cons_self)
    have h2 := tame_T (ts := ts) fun z hz => h z (List.mem_cons_of_mem _ hz)
    simp only [List.map_cons, tames, tame, h1, h2, Bool.and_self]
theorem cnt_T : ∀ {ts : List (List Int)}, (∀ t ∈ ts, t.length ≤ 10) → cnts (ts.map fun t => .tuple (t.map .int)) ≤ 11 * ts.length
  | [], _ => by simp [cnts]
  | t :: ts, h => by
    have h1 := h t List.mem_cons_self
    have h2 := cnt_T (ts := ts) fun z hz => h z (List.mem_cons_of_mem _ hz)
    simp only [List.map_cons, cnts, cnt, cnts_ints, List.length_cons]
    omega
theorem shw_T {ts : List (List Int)} (h : ∀ t ∈ ts, t.length ≤ 10 ∧ ∀ n ∈ t, n.natAbs < 10 ^ 12) (hl : ts.length ≤ 1000) : Shw (dT ts) := by
  refine shw_of ?_ ?_
  · simp [dT, tame, tame_T fun t ht => (h t ht).2]
  · have := cnt_T fun t ht => (h t ht).1
    simp only [dT, cnt]
    omega
theorem depth_T (ts : List (List Int)) : (dT ts).depth ≤ 2 := by
  obtain ⟨_, b⟩ := lay_T ts
  simp only [dT, PyData.depth]
  omega
theorem rd_reprT {rs : List V} {T : Led} {ts : List (List Int)} (h : TL rs T ts) (S : Hs H0 M H L) (m : (a, HO.lst rs) ∈ L) (sub : ∀ q ∈ T, q ∈ L) (hb : ∀ t ∈ ts, t.length ≤ 10 ∧ ∀ n ∈ t, n.natAbs < 10 ^ 12) (hl : ts.length ≤ 1000) (k : Q (.str (dT ts).shown) H) : rRepr K [.ref a] H Q :=
  ⟨.ref a, dT ts, rfl, dp_TL h S m sub, shw_T hb hl, Nat.le_trans (depth_T ts) (by decide), k⟩
end
end Rs

namespace Rs
open PySem PySem.Spec PyProof.Rows L2
section
variable {H : Hp} {σ : L2.St} {ts : List TE} {te : TE} {acc : Str} {J : Str → Hp → Prop}
theorem len_app (x y : Str) : (x ++ y).length = x.length + y.length := by
  rw [TL.len_tl, TL.len_tl, TL.len_tl, TL.tl_append, List.length_append]
theorem len_num {n : Int} (h0 : 0 ≤ n) (h : n < 10 ^ 12) : (((toString n : String)) : Str).length ≤ 12 := by
  obtain ⟨k, rfl⟩ : ∃ k : Nat, n = k := ⟨n.toNat, by omega⟩
  have e := TL.tl_num k
  show (Str.ofString (toString (k : Int))).length ≤ 12
  rw [TL.len_tl, e]
  exact TL.numL_len (by decide) (by omega)
theorem rd_jsS {y : Str} (hz : acc.length ≤ 1000) (hy : y.length ≤ 1000) (h : tJs ts (acc ++ y) σ H J) : tJs (tC (.str y) :: ts) acc σ H J := ⟨y, rfl, by rw [len_app]; exact sz (by omega), h⟩
def kF (ts : List TE) (acc : Str) (σ : L2.St) (J : Str → Hp → Prop) : VK := fun x H1 => (∃ y : Str, x = .str y ∧ y.length ≤ sizeLine ∧ ∃ z : Str, V.str y = .str z ∧ (acc ++ z).length ≤ sizeLine ∧ tJs ts (acc ++ z) σ H1 J) ∨
  ∃ i : Int, x = .int i ∧ i.natAbs.log2 < 1920 ∧ ∃ z : Str, V.str (toString i) = .str z ∧ (acc ++ z).length ≤ sizeLine ∧ tJs ts (acc ++ z) σ H1 J
theorem rd_jsF (h : te σ H (kF ts acc σ J)) : tJs (tFmt te :: ts) acc σ H J := h
theorem rd_kFI {n : Int} (h0 : 0 ≤ n) (h1 : n < 10 ^ 12) (hz : acc.length ≤ 1000) (h : tJs ts (acc ++ toString n) σ H J) : kF ts acc σ J (.int n) H := by
  refine Or.inr ⟨n, rfl, ?_, toString n, rfl, ?_, h⟩
  · by_cases e : n.natAbs = 0
    · rw [e]; decide
    · exact (Nat.log2_lt e).2 (Nat.lt_of_lt_of_le (show n.natAbs < 2 ^ 40 by omega) (Nat.pow_le_pow_right (by omega) (by omega)))
  · have := len_num h0 h1
    rw [len_app]
    exact sz (by omega)
theorem rd_jsN (h : J acc H) : tJs [] acc σ H J := h
end
end Rs

namespace Rs
open PySem PySem.Spec PyProof.Rows L2
section
variable {X : Cx}
theorem ix_tupK {K : PySem.W.Frag} (h : X.K = K) : IxR X (rIxT K) := by subst h; exact ix_tup
end
end Rs

namespace Rs
open PySem PySem.Spec PyProof.Rows L2
/-! ### promises by ledgers -/
section
variable {H0 H H' : Hp} {M C : List Addr} {L L' LL F : Led}
/-- what is known behind a call: C the objects that may have changed, L what was known of, L' what is known now -/
theorem Hs.frame (S : Hs H0 M H (L ++ F)) (S' : Hs H C H' L') (hC : ∀ c ∈ C, c ∈ L.map (·.1) ∧ (H0 c = none ∨ c ∈ M)) (hk : ∀ q ∈ L', q.1 ∈ L.map (·.1) ∨ H q.1 = none) : Hs H0 M H' (L' ++ F) := by
  have nd := S.nd
  rw [List.map_append, List.nodup_append] at nd
  obtain ⟨_, nF, dis⟩ := nd
  refine ⟨?_, ?_, ?_, ?_⟩
  · rw [List.map_append, List.nodup_append]
    refine ⟨S'.nd, nF, ?_⟩
    intro x hx y hy e
    subst e
    obtain ⟨q, hq, rfl⟩ := List.mem_map.mp hx
    rcases hk q hq with h | h
    · exact dis _ h _ hy rfl
    · obtain ⟨r, hr, e⟩ := List.mem_map.mp hy
      have := S.is r (List.mem_append_right _ hr)
      rw [e, h] at this
      cases this
  · intro q hq
    rcases List.mem_append.mp hq with h | h
    · exact S'.is q h
    · refine S'.old _ _ (S.is q (List.mem_append_right _ h)) fun hc => ?_
      exact dis _ (hC _ hc).1 _ (List.mem_map_of_mem (f := (·.1)) h) rfl
  · intro b o e hb
    refine S'.old _ _ (S.old b o e hb) fun hc => ?_
    rcases (hC _ hc).2 with z | z
    · rw [z] at e; cases e
    · exact hb z
  · intro b hb
    by_cases hc : b ∈ C
    · exact S'.mu b hc
    · cases e : H b with
      | none => exact absurd e (S.mu b hb)
      | some u => rw [S'.old b u e hc]; simp
theorem Hs.none0 (S : Hs H0 M H L) {a : Addr} (h : H a = none) : H0 a = none := (S.new h (.lst [])).1
end
end Rs
namespace Rs
open PySem PySem.Spec PyProof.Rows L2
abbrev SepR := List V → List Addr → Led → (V → Led → Prop) → Prop
/-- R: the arguments, the objects that may change, what is known ahead, what is promised -/
def Sep (R : SepR) : Sp := fun vs H Q _ => ∃ C L post, R vs C L post ∧ (L.map (·.1)).Nodup ∧ (∀ q ∈ L, H q.1 = some q.2) ∧ (∀ c ∈ C, c ∈ L.map (·.1)) ∧
  ∀ v H' L', post v L' → Hs H C H' L' → (∀ q ∈ L', q.1 ∈ L.map (·.1) ∨ H q.1 = none) → Q v H'
theorem Sep.led {H : Hp} {C : List Addr} {L : Led} (nd : (L.map (·.1)).Nodup) (is : ∀ q ∈ L, H q.1 = some q.2) (hC : ∀ c ∈ C, c ∈ L.map (·.1)) : Hs H C H L := by
  refine Hs.start H C L nd is fun b hb => ?_
  obtain ⟨q, hq, e⟩ := List.mem_map.mp (hC b hb)
  rw [← e, is q hq]; simp
/-- one entry taken out -/
inductive Pick (q : Addr × HO) : Led → Led → Prop where
  | here {L : Led} : Pick q (q :: L) L
  | there {r : Addr × HO} {L L' : Led} : Pick q L L' → Pick q (r :: L) (r :: L')
  | app {N L L' : Led} : Pick q L L' → Pick q (N ++ L) (N ++ L')
theorem Pick.perm {q : Addr × HO} {L L' : Led} (h : Pick q L L') : L.Perm (q :: L') := by
  induction h with
  | here => exact .refl _
  | there _ ih => exact (List.Perm.cons _ ih).trans (.swap _ _ _)
  | app _ ih => exact (List.Perm.append_left _ ih).trans List.perm_middle
/-- several taken out -/
inductive Sel : Led → Led → Led → Prop where
  | nil {L : Led} : Sel [] L L
  | cons {q : Addr × HO} {K L L' F : Led} : Pick q L L' → Sel K L' F → Sel (q :: K) L F
theorem Sel.perm {K L F : Led} (h : Sel K L F) : L.Perm (K ++ F) := by
  induction h with
  | nil => exact .refl _
  | cons p _ ih => exact p.perm.trans (.cons _ ih)
section
variable {H0 H H' : Hp} {M C : List Addr} {L L' LL F : Led} {R : SepR} {vs : List V} {post : V → Led → Prop} {Q : VK} {E : XK}
theorem sep_use (S : Hs H0 M H LL) (r : R vs C L post) (pm : LL.Perm (L ++ F)) (hC : ∀ c ∈ C, c ∈ L.map (·.1) ∧ (H0 c = none ∨ c ∈ M))
    (h : ∀ v H' L', post v L' → (∀ q ∈ L', q.1 ∈ L.map (·.1) ∨ H0 q.1 = none) → Hs H0 M H' (L' ++ F) → Q v H') : Sep R vs H Q E := by
  have S1 := S.perm pm.symm
  refine ⟨C, L, post, r, ?_, fun q hq => S1.is q (List.mem_append_left _ hq), fun c hc => (hC c hc).1, fun v H' L' p S' hk => ?_⟩
  · have := S1.nd
    rw [List.map_append, List.nodup_append] at this
    exact this.1
  · refine h v H' L' p (fun q hq => ?_) (S1.frame S' hC hk)
    rcases hk q hq with z | z
    · exact Or.inl z
    · exact Or.inr (S.none0 z)
/-- what is said of own objects, told of those of a ledger -/
theorem own_of {K : Led} (h : ∀ q ∈ L', q.1 ∈ L.map (·.1) ∨ H0 q.1 = none) (hL : ∀ q ∈ L, H0 q.1 = none ∨ q.1 ∈ M) : ∀ q ∈ L', H0 q.1 = none ∨ q.1 ∈ M := fun q hq => by
  rcases h q hq with z | z
  · obtain ⟨r, hr, e⟩ := List.mem_map.mp z
    rw [← e]; exact hL r hr
  · exact Or.inl z
end
end Rs
namespace Rs
open PySem PySem.Spec PyProof.Rows L2
/-! ### ledgers put in another order, by counting -/
open Classical in
noncomputable def one (a b : Addr × HO) : Nat := if b = a then 1 else 0
noncomputable def cn (a : Addr × HO) : Led → Nat
  | [] => 0
  | b :: L => one a b + cn a L
theorem cn_nil (a : Addr × HO) : cn a [] = 0 := rfl
theorem cn_cons (a b : Addr × HO) (L : Led) : cn a (b :: L) = one a b + cn a L := rfl
theorem cn_app (a : Addr × HO) : ∀ L L' : Led, cn a (L ++ L') = cn a L + cn a L'
  | [], L' => by simp [cn]
  | b :: L, L' => by rw [List.cons_append, cn_cons, cn_cons, cn_app a L L']; omega
theorem one_self (a : Addr × HO) : one a a = 1 := by simp [one]
theorem one_ne {a b : Addr × HO} (h : b ≠ a) : one a b = 0 := by simp [one, h]
theorem cn_pos {a : Addr × HO} : ∀ {L : Led}, 0 < cn a L ↔ a ∈ L
  | [] => by simp [cn]
  | b :: L => by
    rw [cn_cons]
    by_cases h : b = a
    · subst h; rw [one_self]; simp; omega
    · rw [one_ne h]
      have := cn_pos (a := a) (L := L)
      simp [Ne.symm h, this]
theorem cn_le {L : Led} (h : (L.map (·.1)).Nodup) (a : Addr × HO) : cn a L ≤ 1 := by
  induction L with
  | nil => simp [cn]
  | cons b L ih =>
    rw [List.map_cons, List.nodup_cons] at h
    rw [cn_cons]
    by_cases e : b = a
    · subst e
      rw [one_self]
      have : cn b L = 0 := by
        by_cases z : 0 < cn b L
        · exact absurd (List.mem_map_of_mem (f := (·.1)) (cn_pos.mp z)) h.1
        · omega
      omega
    · rw [one_ne e]; have := ih h.2; omega
theorem nodup_re {L L' : Led} (h : (L.map (·.1)).Nodup) (c : ∀ a, cn a L' ≤ cn a L) : (L'.map (·.1)).Nodup := by
  have sub : ∀ q ∈ L', q ∈ L := fun q hq => cn_pos.mp (Nat.lt_of_lt_of_le (cn_pos.mpr hq) (c q))
  have c1 : ∀ a, cn a L' ≤ 1 := fun a => Nat.le_trans (c a) (cn_le h a)
  have inj : ∀ {L : Led}, (L.map (·.1)).Nodup → ∀ q ∈ L, ∀ r ∈ L, q.1 = r.1 → q = r := by
    intro L
    induction L with
    | nil => intro _ q hq; cases hq
    | cons b L ih =>
      intro h q hq r hr e
      rw [List.map_cons, List.nodup_cons] at h
      rcases List.mem_cons.mp hq with rfl | hq'
      · rcases List.mem_cons.mp hr with rfl | hr'
        · rfl
        · exact absurd (by rw [e]; exact List.mem_map_of_mem (f := (·.1)) hr') h.1
      · rcases List.mem_cons.mp hr with rfl | hr'
        · exact absurd (by rw [← e]; exact List.mem_map_of_mem (f := (·.1)) hq') h.1
        · exact ih h.2 q hq' r hr' e
  clear c
  induction L' with
  | nil => simp
  | cons b L' ih =>
    rw [List.map_cons, List.nodup_cons]
    refine ⟨fun hm => ?_, ih (fun q hq => sub q (List.mem_cons_of_mem _ hq)) fun a => ?_⟩
    · obtain ⟨r, hr, e⟩ := List.mem_map.mp hm
      have := inj h _ (sub r (List.mem_cons_of_mem _ hr)) _ (sub b List.mem_cons_self) e
      subst this
      have z := c1 r
      rw [cn_cons, one_self] at z
      have := cn_pos.mpr hr
      omega
    · have := c1 a; rw [cn_cons] at this; omega
theorem Hs.re {H0 H : Hp} {M : List Addr} {L L' : Led} (S : Hs H0 M H L) (c : ∀ a, cn a L' ≤ cn a L) : Hs H0 M H L' :=
  ⟨nodup_re S.nd c, fun q hq => S.is q (cn_pos.mp (Nat.lt_of_lt_of_le (cn_pos.mpr hq) (c q))), S.old, S.mu⟩
section
variable {H0 H H' : Hp} {M C : List Addr} {L L' LL F : Led} {R : SepR} {vs : List V} {post : V → Led → Prop} {Q : VK} {E : XK}
theorem sep_use' (S : Hs H0 M H LL) (r : R vs C L post) (pm : ∀ a, cn a (L ++ F) ≤ cn a LL) (hC : ∀ c ∈ C, c ∈ L.map (·.1) ∧ (H0 c = none ∨ c ∈ M))
    (h : ∀ v H' L', post v L' → (∀ q ∈ L', q.1 ∈ L.map (·.1) ∨ H0 q.1 = none) → Hs H0 M H' (L' ++ F) → Q v H') : Sep R vs H Q E :=
  sep_use (S.re pm) r (.refl _) hC h
end
end Rs
namespace Rs
open PySem PySem.Spec PyProof.Rows L2
theorem Chg.app {a : Addr} {o o' : HO} {L L' : Led} (h : Chg a o o' L L') : ∀ N : Led, Chg a o o' (N ++ L) (N ++ L')
  | [] => h
  | _ :: N => .there (h.app N)
theorem Chg.appR {a : Addr} {o o' : HO} {L L' N : Led} (h : Chg a o o' L L') : Chg a o o' (N ++ L) (N ++ L') := h.app N
theorem Chg.appL {a : Addr} {o o' : HO} {L L' N : Led} (h : Chg a o o' L L') : Chg a o o' (L ++ N) (L' ++ N) := by
  induction h with
  | here => exact .here
  | there _ ih => exact .there ih
end Rs

namespace Rs
open PySem PySem.Spec PyProof.Rows L2
section
variable {σ : L2.St} {H H0 : Hp} {M : List Addr} {L L' : Led} {Q : VK} {v x y : V} {nx : L2.St → Hp → Prop} {rt : VK} {bk ct : L2.St → Hp → Prop} {ta : TA} {g : TG} {tw : TS} {K : PySem.W.Frag}
def enI (K : PySem.W.Frag) (R : It → Hp → Prop) (vs : List V) (H : Hp) : Prop := ∃ a xs, vs = [V.ref a] ∧ SqL K H a xs ∧ R (Ite K a) H
theorem rd_enum {R : It → Hp → Prop} (h : ta σ H fun vs H1 => enI K R vs H1) : iEnum K ta σ H R := h
theorem rd_enI {R : It → Hp → Prop} {a : Addr} {xs : List V} (S : Hs H0 M H L) (m : (a, HO.lst xs) ∈ L) (h : R (Ite K a) H) : enI K R [.ref a] H := ⟨a, xs, rfl, S.lst m, h⟩
/-- over enumerate of a list that stays as it is -/
theorem fw_enum {a : Addr} {xs : List V} (Pv : Nat → L2.St → Hp → Prop) (h0 : Pv 0 σ H) (hl : ∀ i σ H, i ≤ xs.length → Pv i σ H → SqL K H a xs)
    (hs : ∀ i x σ H T, xs[i]? = some x → Pv i σ H → H T = none → g (.ref T) σ (upd H T (.tup [.int (i : Nat), x])) fun σ2 H2 => tw ⟨Pv (i + 1), rt, nx, Pv (i + 1)⟩ σ2 H2) (hd : ∀ σ H, Pv xs.length σ H → nx σ H) : forW (Ite K a) g tw ⟨nx, rt, bk, ct⟩ σ H := by
  refine for_it walk_enum Pv h0 hl ?_ hd
  rintro i x σ H H' hi hp ⟨T, y, z, rfl, hT, rfl, e1, e2⟩
  cases e1
  exact hs i z σ H T e2 hp hT
/-- an own new object, as the rules hand it -/
theorem Hs.newAt (S : Hs H0 M H L) {p : Addr} {o : HO} (hp : H p = none) : H0 p = none ∧ Hs H0 M (upd H p o) ((p, o) :: L) := S.new hp o
theorem rd_methK {C : Addr} {m : Str} {n : Nat} {sp : Sp} {gV : List V → List V → List V} {E : XK} {te : TE} {tk : TA} (h : te σ H fun x H1 => ∃ a dx fs, x = .ref a ∧ H1 a = some (.ins C dx fs) ∧ fs.lookup m = none ∧ tk σ H1 fun zs H2 => zs.length = n ∧ sp (gV [x] zs) H2 Q E) : tMethK C m n sp gV E te tk σ H Q := h
end
end Rs

namespace Rs
open PySem PySem.Spec PyProof.Rows L2
abbrev SepM := List V → List Addr → Led → (V → Led → Led → Prop) → Prop
/-- a promise by ledgers; the new objects told apart -/
def SepN (R : SepM) : Sp := fun vs H Q _ => ∃ C L post, R vs C L post ∧ (L.map (·.1)).Nodup ∧ (∀ q ∈ L, H q.1 = some q.2) ∧ (∀ c ∈ C, c ∈ L.map (·.1)) ∧
  ∀ v H' N L', post v N L' → Hs H C H' (N ++ L') → (∀ q ∈ L', q.1 ∈ L.map (·.1)) → (∀ q ∈ N, H q.1 = none) → Q v H'
section
variable {H0 H H' : Hp} {M C : List Addr} {L L' LL F : Led} {R : SepM} {vs : List V} {post : V → Led → Led → Prop} {Q : VK} {E : XK}
theorem sepn_use (S : Hs H0 M H LL) (r : R vs C L post) (pm : ∀ a, cn a (L ++ F) ≤ cn a LL) (hC : ∀ c ∈ C, c ∈ L.map (·.1) ∧ (H0 c = none ∨ c ∈ M))
    (h : ∀ v H' N L', post v N L' → (∀ q ∈ N, H0 q.1 = none) → Hs H0 M H' (N ++ (L' ++ F)) → Q v H') : SepN R vs H Q E := by
  have S1 := S.re pm
  refine ⟨C, L, post, r, ?_, fun q hq => S1.is q (List.mem_append_left _ hq), fun c hc => (hC c hc).1, fun v H' N L' p S' h1 h2 => ?_⟩
  · have := S1.nd
    rw [List.map_append, List.nodup_append] at this
    exact this.1
  · refine h v H' N L' p (fun q hq => S.none0 (h2 q hq)) ?_
    rw [← List.append_assoc]
    refine S1.frame S' hC fun q hq => ?_
    rcases List.mem_append.mp hq with z | z
    · exact Or.inr (h2 q z)
    · exact Or.inl (h1 q z)
end
end Rs

namespace Rs
open PySem PySem.Spec PyProof.Rows L2
section
variable {H H0 : Hp} {M : List Addr} {L L' : Led} {Q : VK} {a : Addr}
theorem rd_rev {xs : List V} (S : Hs H0 M H L) (c : Chg a (.lst xs) (.lst xs.reverse) L L') (hm : H0 a = none ∨ a ∈ M) (h : ∀ H', Hs H0 M H' L' → Q .non H') : rReverse (.ref a) [] H Q := ⟨a, xs, rfl, rfl, S.is _ c.mem, h _ (S.put c hm)⟩
end
end Rs
namespace Rs
open PySem PySem.Spec PyProof.Rows L2
theorem at_nat {ns : List Int} {i : Nat} (h : i < ns.length) : atI (ns.map V.int) (i : Int) = some (.int (ns.getD i 0)) := by
  have e : ixN (ns.map V.int).length (i : Int) = some i := by
    unfold ixN
    rw [if_pos (by omega)]
    simp [h]
  unfold atI
  rw [e]
  show (ns.map V.int)[i]? = _
  rw [List.getElem?_map, List.getD_eq_getElem?_getD, List.getElem?_eq_getElem h]
  rfl
end Rs

/-! Xe1: own exceptions over a built-in base whose __new__ may be another's (KeyError: LookupError's) -/
namespace Xc
open PySem
/-- what is told of the base B; NB is the one whose __new__ is taken -/
structure XB (B NB newId initId : String) (bm : List Value) : Prop where
  nf : ExcNewFacts NB newId
  quiet : newId.startsWith "lifetime." = false
  nsplit : splitId newId = some (NB, "__new__")
  nkind : builtinKind newId = some .builtinFn
  nrow : Manifest.signature? newId = some ⟨.any, NB, NB, .cls, [⟨"args", .varPos, false⟩, ⟨"kwargs", .varKw, false⟩]⟩
  canon : Manifest.canonical newId = Manifest.canonical "BaseException.__new__"
  hasN : bm.contains (.type NB) = true
  has : bm.contains (.type B) = true
  noA : bm.contains (.type "AttributeError") = false
  noN : bm.contains (.type "NameError") = false
  starN : (NB != "*") = true
  star : (B != "*") = true
  ini : Slot B "__init__" initId
  ientry : entryFor table initId = some Builtin.«BaseException.__init__»
  isplit : splitId initId = some (B, "__init__")
  ikind : builtinKind initId = some .slot
  irow : Manifest.signature? initId = some ⟨.positional, "*", B, .self, [⟨"args", .varPos, false⟩]⟩
theorem XB.of {B newId initId : String} {bm : List Value} (F : ExcBaseFacts B newId initId bm) : XB B B newId initId bm :=
  ⟨F.toExcNewFacts, F.quiet, F.newSplit, F.newKind, F.newRow, F.canon, F.hasB, F.hasB, F.noAttr, F.noName, F.noStar, F.noStar, F.init, F.initEntry, F.initSplit, F.initKind, F.initRow⟩
/-- a class over it, with its own ones between -/
def ClX (h : Heap) (C : Addr) (bmB : List Value) (newId : String) : Prop := ∃ nm N qn bs bm hdct sn sub ab col dd k0 k1 k2 k3 k5, h.get? C = some (excClassObj nm qn C N bs bm hdct sn sub ab col dd k0 k1 k2 k3 k5 newId) ∧ ∀ T : String, bm.contains (.type T) = bmB.contains (.type T)
section
variable {M : Model} {A : Around} {E : Value → Shared → Prop} {h : Heap} {g : Array GenState} {d : Drawn} {t : Nat} {os : OsState} {C : Addr} {bmB : List Value} {B NB newId initId : String}
theorem xb_checkN (F : XB B NB newId initId bmB) (hx : ClX h C bmB newId) {xs : List Value} {Q : Unit → Shared → Prop} (k : Q () ⟨h, g, d, t, os⟩) : wpAny M A (checkBuiltinCall newId ⟨.ref C :: xs, []⟩) Q E ⟨h, g, d, t, os⟩ := by
  obtain ⟨nm, N, qn, bs, bm, hdct, sn, sub, ab, col, dd, k0, k1, k2, k3, k5, hC, hT⟩ := hx
  have c1 : (Value.ref C :: bm).contains (.type NB) = true := by
    rw [List.contains_cons, hT NB, F.hasN]
    exact Bool.or_true _
  have c2 := F.starN
  simp only [checkBuiltinCall, F.nkind, F.nsplit, F.nrow]
  repeat (first
    | refine wpAny_loadPart_at hC ?_
    | (refine wpAny_isSubtype_exc hC ?_; rw [c1])
    | refine wpAny_staticBase_exc hC ?_
    | refine wpAny_madeBy_exc hC ?_
    | simp only [bne_self_eq_false, Bool.false_eq_true, if_false]
    | wp_step)
  exact k
theorem xb_checkI (F : XB B NB newId initId bmB) (hx : ClX h C bmB newId) {e : Addr} {oe : Obj} {xs : List Value} {Q : Unit → Shared → Prop} (he : h.get? e = some oe) (hc : oe.cls = .ref C) (k : Q () ⟨h, g, d, t, os⟩) :
    wpAny M A (checkBuiltinCall initId ⟨.ref e :: xs, []⟩) Q E ⟨h, g, d, t, os⟩ := by
  obtain ⟨nm, N, qn, bs, bm, hdct, sn, sub, ab, col, dd, k0, k1, k2, k3, k5, hC, hT⟩ := hx
  have c1 : (Value.ref C :: bm).contains (.type B) = true := by
    rw [List.contains_cons, hT B, F.has]
    exact Bool.or_true _
  have c2 := F.star
  simp only [checkBuiltinCall, F.ikind, F.isplit, F.irow]
  repeat (first
    | (with_reducible refine wpAny_loadPart_at he ?_; rw [hc])
    | with_reducible refine wpAny_loadPart_at hC ?_
    | (with_reducible refine wpAny_isSubtype_exc hC ?_; rw [c1])
    | wp_step)
  refine wpAny_onRaise ?_
  have z : ∀ (a b : String) (n : Nat), Bind.check ⟨.positional, "*", B, .self, [⟨"args", .varPos, false⟩]⟩ a b n (List.map (fun x => x.fst) ({ pos := Value.ref e :: xs } : Args).kw) = pure () := fun a b n => check_star_args _ _ _ _ _ _
  rw [z]
  exact wpAny_pure k
end
section
variable {prog : Program} {w : World} {A : Around} {E : Value → Shared → Prop} {R : Result → Shared → Prop} {h : Heap} {g : Array GenState} {d : Drawn} {t : Nat} {os : OsState} {C : Addr} {bmB : List Value} {B NB newId initId : String}
theorem xb_new (F : XB B NB newId initId bmB) (hx : ClX h C bmB newId) {xs : List Value} (hl : xs.length ≤ sizeLine)
    (k : R (.ok (.ret (.ref (h.objs.size + 1)))) ⟨(h.push (W.kdv_tup xs)).push (PySem.HandSPX.excO C h.objs.size), g, d, t, os⟩) :
    codeAny (model prog w) A (.builtin newId ⟨.ref C :: xs, []⟩) R ⟨h, g, d, t, os⟩ := by
  obtain ⟨nm, N, qn, bs, bm, hdct, sn, sub, ab, col, dd, k0, k1, k2, k3, k5, hC, hT⟩ := hx
  have e1 := F.nf.ends
  have c1 : (Value.ref C :: bm).contains (.type NB) = true := by
    rw [List.contains_cons, hT NB, F.hasN]
    exact Bool.or_true _
  have c2 : (Value.ref C :: bm).contains (.type "AttributeError") = false := by
    rw [List.contains_cons, hT _, F.noA]
    rfl
  have c3 : (Value.ref C :: bm).contains (.type "NameError") = false := by
    rw [List.contains_cons, hT _, F.noN]
    rfl
  have hrest := hl
  refine codeAny_builtinAt F.nf.entry ?_
  unfold Builtin.«BaseException.__new__»
  refine wpAt_bind ?_
  show wpAt _ _ _ (stack >>= _) _ _ _
  refine wpAt_bind (wpAt_stack fun p z => wpAt_of_wpAny ?_)
  wp_walk
  refine wpAt_of_wpAny ?_
  rw [F.nf.owner]
  repeat (first
    | with_reducible refine wpAny_madeHere_exc F.canon hC ?_
    | with_reducible refine wpAny_loadPart_at hC ?_
    | (with_reducible refine wpAny_isSubtype_exc hC ?_; first | rw [c1] | rw [c2] | rw [c3])
    | wp_step)
  show R _ _
  rw [Heap.size_push]
  exact k
theorem xb_tcall (F : XB B NB newId initId bmB) (hx : ClX h C bmB newId) {xs : List Value} {fI : Addr} {Q : Fin → Shared → Prop}
    (li : W.Looks (model prog w) h (typeLookup (.ref C) "__init__") (some (.ref fI))) (lb : ∀ z, W.Looks (model prog w) h (bindSpecial (.ref fI) z) (.ref fI, [z])) (hl : xs.length ≤ sizeLine)
    (k : codeAny (model prog w) A (.call (.ref fI) ⟨.ref (h.objs.size + 1) :: xs, []⟩)
      (fun r s' => match r with | .ok (.ret v) => v = .none ∧ Q (.done (.ret (.ref (h.objs.size + 1)))) s' | .ok _ => False | .error e => E e s')
      ⟨(h.push (W.kdv_tup xs)).push (PySem.HandSPX.excO C h.objs.size), g, d, t, os⟩) :
    wpAny (model prog w) A (Builtin.«type.__call__» ⟨.ref C :: xs, []⟩) Q E ⟨h, g, d, t, os⟩ := by
  have hx0 := hx
  obtain ⟨nm, N, qn, bs, bm, hdct, sn, sub, ab, col, dd, k0, k1, k2, k3, k5, hC, hT⟩ := hx
  repeat (first
    | with_reducible refine wpAny_loadPart_at hC ?_
    | with_reducible refine wpAny_madeBy_exc hC ?_
    | wp_step)
  refine codeAny_call_builtin_code (Code.quiet_builtin _ F.quiet) (xb_checkN F hx0 ?_)
  refine xb_new F hx0 hl ?_
  show wpAny _ _ _ _ _ _
  have kp : ∀ b o, h.get? b = some o → ((h.push (W.kdv_tup xs)).push (PySem.HandSPX.excO C h.objs.size)).get? b = some o := fun b o z => Heap.get?_push_of_some _ (Heap.get?_push_of_some _ z)
  have hC2 := kp _ _ hC
  have hg : ((h.push (W.kdv_tup xs)).push (PySem.HandSPX.excO C h.objs.size)).get? (h.objs.size + 1) = some (PySem.HandSPX.excO C h.objs.size) := by heap_get
  have c1 : (Value.ref C :: bm).contains (.ref C) = true := by simp
  have i1 := li.keeps kp
  have b1 := (lb (.ref (h.objs.size + 1))).keeps kp
  unfold isInstance
  repeat (first
    | with_reducible refine wpAny_loadPart_at hg ?_
    | (with_reducible refine wpAny_isSubtype_exc hC2 ?_; rw [c1])
    | wp_step)
  show wpAny _ _ (typeLookup (.ref C) _) _ _ _
  refine i1.at ?_
  refine wpAny_holding (wpAny_bind (b1.at ?_))
  refine wpAny_bind (wpAny_call (codeAny_mono k fun r s' z => ?_))
  cases r with
  | error e => exact z
  | ok fl =>
    cases fl with
    | ret v =>
      obtain ⟨rfl, z⟩ := z
      first
        | exact wpAny_pure (wpAny_pure z)
        | (wp_walk; exact z)
    | next => exact z.elim
    | brk => exact z.elim
    | cont => exact z.elim
theorem xb_call (F : XB B NB newId initId bmB) (hx : ClX h C bmB newId) {xs : List Value} {fI : Addr}
    (li : W.Looks (model prog w) h (typeLookup (.ref C) "__init__") (some (.ref fI))) (lb : ∀ z, W.Looks (model prog w) h (bindSpecial (.ref fI) z) (.ref fI, [z])) (hl : xs.length ≤ sizeLine)
    (k : codeAny (model prog w) (A.under (.builtin "type.__call__" ⟨.ref C :: xs, []⟩)) (.call (.ref fI) ⟨.ref (h.objs.size + 1) :: xs, []⟩) (W.InitBack (h.objs.size + 1) R)
      ⟨(h.push (W.kdv_tup xs)).push (PySem.HandSPX.excO C h.objs.size), g, d, t, os⟩) :
    codeAny (model prog w) A (.call (.ref C) ⟨xs, []⟩) R ⟨h, g, d, t, os⟩ := by
  have hx0 := hx
  obtain ⟨nm, N, qn, bs, bm, hdct, sn, sub, ab, col, dd, k0, k1, k2, k3, k5, hC, hT⟩ := hx
  have f1 := tc_lookup
  have f2 := tc_bind (.ref C)
  have ty : (⟨h, g, d, t, os⟩ : Shared).TypeIs (.ref C) "type" := ⟨_, hC, rfl⟩
  refine codeAny_of_tree ?_
  show wpAny _ _ (callAny (.ref C) _) _ _ _
  repeat (any_goals (first
    | assumption
    | with_reducible refine wpAny_loadPart_at hC ?_
    | wp_step))
  refine ⟨rfl, ?_⟩
  refine codeAny_call_builtin_at (Code.quiet_builtin _ (by decide +kernel)) entry_typeCall (wpAny_check_type_call_sub hC (xb_tcall F hx0 li lb hl ?_))
  refine codeAny_mono k fun r s' z => ?_
  cases r with
  | error e => exact z
  | ok fl => cases fl <;> exact z
/-- B.__init__(e, ..): the arguments are kept anew -/
theorem xb_init (F : XB B NB newId initId bmB) (hx : ClX h C bmB newId) {e t0 : Addr} {xs : List Value} (he : h.get? e = some (PySem.HandSPX.excO C t0)) (hl : xs.length ≤ sizeLine)
    (k : ∀ h' t1, (∀ b o, b ≠ e → h.get? b = some o → h'.get? b = some o) → h'.get? e = some (PySem.HandSPX.excO C t1) → R (.ok (.ret .none)) ⟨h', g, d, t, os⟩) :
    codeAny (model prog w) A (.call (.builtin initId) ⟨.ref e :: xs, []⟩) R ⟨h, g, d, t, os⟩ := by
  have hrest := hl
  refine codeAny_call_builtin F.ini.plain F.ientry (xb_checkI F hx he rfl ?_)
  wp_walk
  refine k _ h.objs.size (fun b o nb z => ?_) ?_
  · rw [Heap.get?_update_other _ _ (Ne.symm nb)]
    exact Heap.get?_push_of_some _ z
  · rw [Heap.get?_update_self _ (Heap.get?_push_of_some _ he) rfl]
    rfl
end
/-! KeyError -/
theorem xb_KeyError : XB "KeyError" "LookupError" "LookupError.__new__" "KeyError.__init__" [.type "KeyError", .type "LookupError", .type "Exception", .type "BaseException", .type "object"] where
  nf := PySem.F.excBase_LookupError.toExcNewFacts
  quiet := PySem.F.excBase_LookupError.quiet
  nsplit := PySem.F.excBase_LookupError.newSplit
  nkind := PySem.F.excBase_LookupError.newKind
  nrow := PySem.F.excBase_LookupError.newRow
  canon := PySem.F.excBase_LookupError.canon
  hasN := by decide +kernel
  has := by decide +kernel
  noA := by decide +kernel
  noN := by decide +kernel
  starN := by decide +kernel
  star := by decide +kernel
  ini := .of (owner := "KeyError") (n := "__init__") (by rw [typeLookup_type, builtinLookup_eq_fast]; kernel_rfl) (by decide +kernel) (by decide +kernel) (by decide +kernel) (by first | exact .inl (by decide +kernel) | exact .inr (by decide +kernel)) (by rw [isSubtype_type]; kernel_rfl)
  ientry := entryFor_alias (id' := "BaseException.__init__") (by rw [fastTable_eq_tree]; kernel_rfl) (by first | rfl | decide +kernel) (by decide +kernel) (by rw [fastTable_eq_tree]; kernel_rfl)
  isplit := by kernel_rfl
  ikind := by kernel_rfl
  irow := by kernel_rfl
theorem store_KeyError : StoreFacts "KeyError" [.type "KeyError", .type "LookupError", .type "Exception", .type "BaseException", .type "object"] "object.__setattr__" "object" :=
  ⟨by kernel_rfl,
    .of (owner := "object") (n := "__setattr__") (by rw [typeLookup_type, builtinLookup_eq_fast]; kernel_rfl) (by decide +kernel) (by decide +kernel) (by decide +kernel) (by first | exact .inl (by decide +kernel) | exact .inr (by decide +kernel)) (by rw [isSubtype_type]; kernel_rfl),
    PySem.F.store_Exception.entry, by decide +kernel, by decide +kernel, by decide +kernel, PySem.F.store_Exception.args, fun z => by kernel_rfl⟩
end Xc

/-! Xc1: own exceptions over any built-in base, with an own __init__ -/
namespace Xc
open PySem PySem.Spec PyProof.Rows L2
/-- C: an own class over the built-in B (others of one's own between) -/
structure Own (K : PySem.W.Frag) (C : Addr) (B newId initId : String) (bmB : List Value) : Prop where
  fb : ∃ NB, XB B NB newId initId bmB
  st : StoreFacts B bmB "object.__setattr__" "object"
  ini : PySem.W.excInitIn K C bmB newId = true
  ovr : PySem.W.excOver K C bmB = true
  dic : PySem.W.hasDictIn K C = true
  sav : PySem.W.findIn K (.ref C) "__setattr__" = some (some (.builtin "object.__setattr__"))
  bex : PySem.W.subIn K (.ref C) (.type "BaseException") = some true
  tyc : PySem.W.typeIn K (.ref C) = some (.type "type")
  kpc : PySem.W.keepIn K (.ref C) = true
section
variable {X : Cx} {pins : List (Addr × Obj)} {σ : L2.St} {H : Hp} {s : Shared} {a C dx : Addr} {f : Str} {y : V} {u : Value} {fs : List (Str × V)} {Q : Unit → Shared → Prop} {E : Value → Shared → Prop} {A : Around} {B newId initId : String} {bmB : List Value}
theorem put0 (T : Own X.K C B newId initId bmB) (I : Inv X pins σ H s) (e : H a = some (exo a C none)) (hno : PySem.W.takerIn X.K C f = some none) (ry : RelV y u)
    (k : ∀ d1 s1, H d1 = none → d1 ≠ a → Inv X pins σ (upd (upd H d1 (exd d1 [(f, y)])) a (exo a C (some d1))) s1 → Q () s1) : wpAny (model X.prog X.w) A (setAttr (.ref a) f u) Q E s := by
  obtain ⟨tA, hA⟩ := exo_at I.hok e
  obtain ⟨hp, gn, dr, tk0, osS⟩ := s
  have J : PySem.W.InstAt hp a { cls := .ref C, dict := none, data := .fields #[.ref tA, .none, .none, .none, .bool false, .none] } C none := ⟨hA, rfl, rfl, trivial⟩
  refine PySem.W.set_plain I.kIn J T.sav (PySem.W.osa_openX T.st I.kIn J T.ovr hno fun _ => ?_)
  obtain ⟨cd, hcd, hdc⟩ := PySem.W.any_some T.dic
  refine wpAny_bind (wpAny_pure (wpAny_bind (PySem.W.instanceDict_exc hA (PySem.W.looks_clsIn I.kIn hcd) hdc ?_)))
  have lt : a < hp.objs.size := Heap.lt_size hA
  show wpAny _ _ (Builtin.ObjectAttr.storeInDict hp.objs.size _ f u) _ _ _
  refine PySem.HandSPX.store_in_new ⟨_, #[], _, (Heap.get?_update_ne _ _ _ _ (Nat.ne_of_gt lt)).trans (Heap.get?_push_at rfl rfl), rfl, fun e he => absurd he (by simp), fun _ => rfl⟩ fun h2 tk2 hn sb => ?_
  have new : H hp.objs.size = none := I.hok.fresh (Nat.le_refl _)
  have neA : hp.objs.size ≠ a := Nat.ne_of_gt lt
  have oldK : ∀ b o, b ≠ a → hp.get? b = some o → h2.get? b = some o := fun b o hb q =>
    (sb.2 b (Nat.ne_of_lt (Heap.lt_size q))).trans ((Heap.get?_update_ne _ _ _ _ hb).trans (Heap.get?_push_of_some _ q))
  have atA : h2.get? a = some { cls := .ref C, dict := some hp.objs.size, data := .fields #[.ref tA, .none, .none, .none, .bool false, .none] } :=
    (sb.2 a (Ne.symm neA)).trans (Heap.get?_update_self _ (Heap.get?_push_of_some _ hA) rfl)
  have nn : ∀ {b : Addr}, H b = none → b ≠ a := fun {b} n z => by
    rw [z, e] at n; cases n
  have nD : ∀ {b : Addr} {o : Obj}, hp.get? b = some o → b ≠ hp.objs.size := fun {b o} q => Nat.ne_of_lt (Heap.lt_size q)
  refine k hp.objs.size ⟨h2, gn, dr, tk2, osS⟩ new neA (I.un (t' := tk2) ⟨fun b o q n _ _ => oldK b o (nn n) q, fun b o q n _ _ => ⟨o.slots, oldK b o (nn n) q⟩, fun b o q n _ => by
      rw [upd_ne (nn n), upd_ne (nD q)]; exact n, fun b o q _ => ?_, fun b xs q => by rw [upd_ne (at_ne e q exo_tup), upd_ne (ne_of_none q new)]; exact q,
      fun b o v q => by rw [upd_ne (at_ne e q exo_frz), upd_ne (ne_of_none q new)]; exact q, fun b ps q => ⟨#[], by rw [upd_ne (at_ne e q exo_tbl), upd_ne (ne_of_none q new), q]; simp⟩⟩ fun b o q => ?_)
  · by_cases hb : b = a
    · exact ⟨_, by rw [hb]; exact atA⟩
    · exact ⟨o, oldK b o hb q⟩
  · by_cases hb : b = a
    · subst hb; rw [upd_same] at q; cases q; exact exo_ok atA
    · rw [upd_ne hb] at q
      by_cases hd : b = hp.objs.size
      · subst hd; rw [upd_same] at q; cases q
        exact exd_ok hn (relO_put (fs := []) ry fun g => True.intro)
      · rw [upd_ne hd] at q
        refine (I.hok b o q).stay (fun c v hc z => oldK c v ?_ z) (fun c hc => by rw [upd_ne (at_ne e hc exo_own), upd_ne (ne_of_none hc new)]; exact hc)
          (fun c xs hc => by rw [upd_ne (at_ne e hc exo_tup), upd_ne (ne_of_none hc new)]; exact hc)
        rcases hc with hc | hc
        · rw [hc]; exact hb
        · exact at_ne e hc exo_own
theorem put1 (T : Own X.K C B newId initId bmB) (I : Inv X pins σ H s) (e : H a = some (exo a C (some dx))) (ed : H dx = some (exd dx fs)) (hl : fs.length ≤ 900) (hno : PySem.W.takerIn X.K C f = some none) (ry : RelV y u)
    (k : ∀ s1, Inv X pins σ (upd H dx (exd dx ((f, y) :: fs))) s1 → Q () s1) : wpAny (model X.prog X.w) A (setAttr (.ref a) f u) Q E s := by
  obtain ⟨tA, hA⟩ := exo_at I.hok e
  obtain ⟨mA, hns, rel⟩ := exd_at I.hok ed
  have wi := within_of rel
  obtain ⟨hp, gn, dr, tk0, osS⟩ := s
  obtain ⟨oD, _, _, hoD, _, _⟩ := hns.count wi
  have J : PySem.W.InstAt hp a { cls := .ref C, dict := some dx, data := .fields #[.ref tA, .none, .none, .none, .bool false, .none] } C (some oD) := ⟨hA, rfl, rfl, hoD⟩
  refine PySem.W.set_plain I.kIn J T.sav (PySem.W.osa_openX T.st I.kIn J T.ovr hno fun _ => ?_)
  obtain ⟨cd, hcd, hdc⟩ := PySem.W.any_some T.dic
  refine wpAny_bind (wpAny_pure (wpAny_bind (wpAny_bind (wpAny_loadPart hA (wpAny_bind ((PySem.W.looks_clsIn I.kIn hcd).at ?_))))))
  rw [hdc]
  refine wpAny_pure (a := some dx) ?_
  refine PySem.OEX.store_in_old hns wi (by rw [List.length_map]; omega) fun h2 tk2 hn sb => ?_
  obtain ⟨oN, _, _, eN, _⟩ := id hn
  exact k _ (I.write (t' := tk2) (x := dx) (e := dx) (o := exd dx ((f, y) :: fs)) (by rw [ed]; exact True.intro) (.inl rfl) (fun b o hb q => (sb.2 b hb).trans q) ⟨oN, eN⟩ (exd_ok hn (relO_put ry rel)))
/-- B.__init__(self, ..): the args are laid anew, nothing of them is told -/
theorem binit {us : List Value} {Q : Value → Shared → Prop} (T : Own X.K C B newId initId bmB) (I : Inv X pins σ H s) (e : H a = some (exo a C none)) (hl : us.length ≤ sizeLine) (k : ∀ s1, Inv X pins σ H s1 → Q .none s1) :
    wpAny (model X.prog X.w) A (call (.builtin initId) (.ref a :: us)) Q E s := by
  obtain ⟨tA, hA⟩ := exo_at I.hok e
  have hC := PySem.W.excInit_of I.kIn T.ini
  obtain ⟨NB, fb⟩ := T.fb
  obtain ⟨hp, gn, dr, tk0, osS⟩ := s
  refine wpAny_call (xb_init fb hC hA hl fun h2 t2 kp hx => ?_)
  have J := I.write (t' := tk0) (x := a) (e := a) (o := exo a C none) (by rw [e]; exact True.intro) (.inl rfl) kp ⟨_, hx⟩ (exo_ok hx)
  have same : upd H a (exo a C none) = H := by
    funext b
    by_cases hb : b = a
    · subst hb; rw [upd_same, e]
    · rw [upd_ne hb]
  exact k _ (same ▸ J)
end
/-! ### the rules -/
/-- B.__init__(self, ..) -/
def tBI (K : PySem.W.Frag) (B newId initId : String) (bmB : List Value) (ta : TA) : TE := fun σ H Q => ta σ H fun vs H1 => ∃ (a C : Addr) (ws : List V), vs = .ref a :: ws ∧ ws.length ≤ 1000 ∧ Own K C B newId initId bmB ∧ H1 a = some (exo a C none) ∧ Q .non H1
/-- self.f = e -/
def tPut (K : PySem.W.Frag) (B newId initId : String) (bmB : List Value) (f : Str) (to te : TE) : TS := fun D σ H => te σ H fun y H1 => to σ H1 fun x H2 => ∃ a C : Addr, x = .ref a ∧ Own K C B newId initId bmB ∧ PySem.W.takerIn K C f = some none ∧
  ((H2 a = some (exo a C none) ∧ ∀ dx, H2 dx = none → dx ≠ a → D.nx σ (upd (upd H2 dx (exd dx [(f, y)])) a (exo a C (some dx)))) ∨
    ∃ (dx : Addr) (fs : List (Str × V)), H2 a = some (exo a C (some dx)) ∧ H2 dx = some (exd dx fs) ∧ fs.length ≤ 900 ∧ D.nx σ (upd H2 dx (exd dx ((f, y) :: fs))))
section
variable {X : Cx} {o e : Expr} {es : List Expr} {to te : TE} {ta : TA} {f : Str} {p p' p1 p2 pos : Pos} {B newId initId : String} {bmB : List Value}
theorem pe_binit {n : Str} {pl : Sem Bool} {C : Addr} (_o : Own X.K C B newId initId bmB) (hg : Gl X n) (hm : X.mg n = none) (hv : bootBuiltins n = some (.type B)) (hty : typeOf (.type B) = pure (.type "type")) (hst : Manifest.isStub B = false) (hin : PySem.W.handedIn (.builtin initId) = true)
    (vV : PySem.W.findCls X.K (.type B) (.type "type") "__init__" = some (.val (.builtin initId))) (ha : PA X (e :: es) ta)
    (hc : eval (.Call (.Attribute (.Name n p1) "__init__" p2) (e :: es) [] pos) X.env = (do
      let ov ← eval (.Name n p1) X.env
      standAt p2.atName
      let (fn, fst) ← holding [ov] (getMethod ov "__init__" pl)
      callWith pos fn fst (backTo pos (starEach (e :: es) X.env)) (backToKw pos (keywordEach [] X.env))) := by rfl)
    (hn1 : n ≠ "__name__" := by decide) (hn2 : (n == ("__debug__" : Str)) = false := by decide) (he : starEach (e :: es) X.env = (false, eval e X.env) :: starEach es X.env := by rfl) (hp : (backTo pos (starEach es X.env)).any (·.1) = false := by rfl) :
    PE X (.Call (.Attribute (.Name n p1) "__init__" p2) (e :: es) [] pos) (tBI X.K B newId initId bmB ta) := by
  refine ⟨fun pins s σ H Q I k => PySem.W.methodCall_KW (ld_blt I hg hm hv ?_ hn1 hn2) hc⟩
  obtain ⟨m, fr⟩ := I.fr
  refine PySem.W.method_type fr I.ok.mod.kin hty hst vV hin ?_
  show wpAny _ _ (callWith pos (Value.builtin initId) [] (backTo pos (starEach (e :: es) X.env)) []) _ _ _
  refine PyProof.Rows.callWith_method1 (thn (ha.run pos pins _ σ H _ (I.tok _) k) fun us s1 ⟨vs, H1, I1, rv, a, C, ws, ev, hl, T, ea, q⟩ => ?_) he hp
  subst ev
  cases rv with
  | @cons _ u1 _ ur rA rW =>
    obtain rfl : u1 = Value.ref a := rA
    exact binit T I1 ea (by rw [← Paired.length rW, sizeLine_eq]; omega) fun s2 J => ⟨.non, H1, J, rfl, q⟩
theorem ps_put {C : Addr} (_o : Own X.K C B newId initId bmB) (ho : PE X o to) (he : PE X e te) (hs : swapsWith e (some (.Attribute o f p')) pos.line X.env = pure false := by rfl) : PS X (.Assign [.Attribute o f p'] e pos) (tPut X.K B newId initId bmB f to te) := by
  refine ⟨fun pins s σ H D I k => plainObj_wpAny_Assign_Attribute (thn (he.run pins s σ H _ I k) fun v s1 ⟨y, H1, I1, ry, k1⟩ => thn (ho.run pins s1 σ H1 _ I1 k1) fun u s2 ⟨x, H2, I2, rx, a, C, ex, T, hno, q⟩ => ?_) hs⟩
  subst ex
  obtain rfl : u = Value.ref a := rx
  rcases q with ⟨ea, q⟩ | ⟨dx, fs, ea, ed, hl, q⟩
  · exact put0 T I2 ea hno ry fun dx s3 n1 n2 J => ⟨σ, _, J, q dx n1 n2⟩
  · exact put1 T I2 ea ed hl hno ry fun s3 J => ⟨σ, _, J, q⟩
/-- C(e, ..) with C's own __init__ -/
theorem pmk_own {CX : CXT} {x : Str} {C fI : Addr} {k : Nat} {fd : FuncData} {ps : List Str} {sp : Sp} {ds : List Value} {dvs : List V} (T : Own X.K C B newId initId bmB) (iC : PySem.W.findIn X.K (.ref C) "__init__" = some (some (.ref fI))) (tI : PySem.W.typeIn X.K (.ref fI) = some (.type "function"))
    (F1 : FnOk X.prog X.w X.K X.mg X.base CX k fI fd ps sp) (hr : Room (k + 1) X.A) (hb : Binds X.K fd ps ds) (hd : Vals dvs ds) (hx : Passes CX X (fun _ _ _ => False)) (hg : Gl X x) (hm : X.mg x = some (.ref C)) (ha : PA X (e :: es) ta)
    (hdb : (x == ("__debug__" : Str)) = false := by decide) (he : starEach (e :: es) X.env = (false, eval e X.env) :: starEach es X.env := by rfl) (hp : (backTo pos (starEach es X.env)).any (·.1) = false := by rfl) :
    PMk X (.Call (.Name x p) (e :: es) [] pos) (tMkO C sp dvs ta) := by
  intro pins s σ H Q I hh
  refine wpAny_Call_Name_kw (ld_glob I hg hm ?_ hdb)
  refine PySem.W.callWith_K (h₀ := X.base) I.ok.mod.kin T.kpc (thn (ha.run pos pins s σ H _ I hh) fun us s1 ⟨vs, H1, I1, rv, hz, k1⟩ => ⟨I1.kIn, ?_⟩) he hp
  show wpAny _ _ (call (.ref C) us) _ _ _
  have hC := PySem.W.excInit_of I1.kIn T.ini
  obtain ⟨NB, fb⟩ := T.fb
  obtain ⟨hp1, gn, dr, tk, osS⟩ := s1
  have up1 : hp1.objs.size ≤ hp1.objs.size + 1 := Nat.le_succ _
  have new : H1 (hp1.objs.size + 1) = none := I1.hok.fresh up1
  have body := k1 (hp1.objs.size + 1) new
  have kept : ∀ b o, hp1.get? b = some o → ((hp1.push (PySem.W.kdv_tup us)).push (PySem.HandSPX.excO C hp1.objs.size)).get? b = some o := fun b o q => Heap.get?_push_of_some _ (Heap.get?_push_of_some _ q)
  have there : ((hp1.push (PySem.W.kdv_tup us)).push (PySem.HandSPX.excO C hp1.objs.size)).get? (hp1.objs.size + 1) = some (PySem.HandSPX.excO C hp1.objs.size) := by heap_get
  have I2 : Inv X pins σ (upd H1 (hp1.objs.size + 1) (exo (hp1.objs.size + 1) C none)) ⟨(hp1.push (PySem.W.kdv_tup us)).push (PySem.HandSPX.excO C hp1.objs.size), gn, dr, tk, osS⟩ :=
    I1.laid (t' := tk) (a := hp1.objs.size + 1) (o := exo (hp1.objs.size + 1) C none) (h' := (hp1.push (PySem.W.kdv_tup us)).push (PySem.HandSPX.excO C hp1.objs.size)) kept up1 (exo_ok there)
  have rels : Vals (V.ref (hp1.objs.size + 1) :: (vs ++ dvs)) (Value.ref (hp1.objs.size + 1) :: (us ++ ds)) := .cons rfl (rv.append hd)
  have len1 : (Value.ref (hp1.objs.size + 1) :: us ++ ds).length = ps.length := (F1.len _ _ _ _ body).symm.trans rels.length |>.symm
  have lus : us.length ≤ sizeLine := by rw [← Paired.length rv, sizeLine_eq]; omega
  refine wpAny_call (xb_call fb hC (PySem.W.looks_findIn I1.kIn iC) (fun self => PySem.W.bind_fn I1.kIn self tI) lus
    (codeAny_mono (F1.run _ X.stack _ _ ⟨Value.ref (hp1.objs.size + 1) :: us, []⟩ (Value.ref (hp1.objs.size + 1) :: (us ++ ds)) _ _ (fun _ _ _ => False) (hr.make C us []) (I2.env0.make C us []) (hb _ (Value.ref (hp1.objs.size + 1) :: us) I2.kIn len1) rels body) fun r s2 z => ?_))
  cases r with
  | error er => exact hx pins σ _ _ er s2 I2 z
  | ok fl =>
    cases fl with
    | ret u =>
      obtain ⟨v, H2, o2, b2, u2, hok2, rv2, ev, d, fs, ea, ed, hd1, q2⟩ := z
      subst ev
      obtain ⟨h2, g2, d2, t2, os2⟩ := s2
      exact ⟨rv2, mk_end (raises_own T.bex T.tyc) I1 up1 kept u2 hok2 o2 b2 ea ed hd1 q2⟩
    | next => exact False.elim z
    | brk => exact False.elim z
    | cont => exact False.elim z
end
end Xc

/-! Xc2: except (A, B, ..) as e: the exception is kept as a value -/
namespace Xc
open PySem PySem.Spec PySem.Calls PyProof.Rows L2 PySem.W
section
variable {M : Model} {A : Around} {E : Value → Shared → Prop} {s : Shared} {β : Type}
theorem loop_all {f : Value → β → Sem (ForInStep β)} {r : β} : ∀ {cs : List Value} {Q : β → Shared → Prop}, (∀ c ∈ cs, ∀ Q : ForInStep β → Shared → Prop, Q (.yield r) s → wpAny M A (f c r) Q E s) → Q r s → wpAny M A (forIn cs r f) Q E s
  | [], Q, _, k => by rw [List.forIn_nil]; exact wpAny_pure k
  | c :: cs, Q, h, k => by
    rw [List.forIn_cons]
    refine wpAny_bind (h c List.mem_cons_self _ ?_)
    exact loop_all (fun c hc => h c (List.mem_cons_of_mem _ hc)) k
theorem loop_any {f : Value → β → Sem (ForInStep β)} {r d : β} {K : Frag} {cls : Value} : ∀ {cs : List Value} {b : Bool} {Q : β → Shared → Prop}, exmAny K cls cs = some b →
    (∀ c b, exmOne K cls c = some b → ∀ Q : ForInStep β → Shared → Prop, Q (if b = true then .done d else .yield r) s → wpAny M A (f c r) Q E s) → Q (if b = true then d else r) s → wpAny M A (forIn cs r f) Q E s
  | [], b, Q, e, _, k => by
    obtain rfl : false = b := Option.some.inj e
    rw [List.forIn_nil]; exact wpAny_pure k
  | c :: cs, b, Q, e, h, k => by
    obtain ⟨b1, d1, e1, e2, rfl⟩ := exmAny_cons e
    rw [List.forIn_cons]
    refine wpAny_bind (h c b1 e1 _ ?_)
    cases b1 with
    | true => exact wpAny_pure k
    | false =>
      rw [Bool.false_or] at k
      exact loop_any e2 h k
end
section
variable {M : Model} {K : Frag}
theorem exm_of_any {cls : Value} : ∀ {cs : List Value} {b : Bool}, exmAny K cls cs = some b → ∀ c ∈ cs, ∃ b, exmOne K cls c = some b
  | [], _, _, c, hc => nomatch hc
  | x :: cs, b, e, c, hc => by
    obtain ⟨b1, d1, e1, e2, _⟩ := exmAny_cons e
    rcases List.mem_cons.mp hc with rfl | hc
    · exact ⟨_, e1⟩
    · exact exm_of_any e2 c hc
theorem exm_tupN {cs : List Value} {cls : Value} {tp e : Addr} {b : Bool} {h : Heap} (X : K.In h) (LT : Looks M h (typeOf (.ref e)) cls) (hp : h.get? tp = some { cls := .type "tuple", data := .seq cs.toArray }) (hx : exmAny K cls cs = some b) :
    Looks M h (excMatches (.ref e) (.ref tp)) b := by
  intro A Q E s k q
  obtain ⟨hh, g, d, tk, os⟩ := s
  have isT : Looks M h (isInstance (.ref tp) (.type "tuple")) true := ((Looks.ld hp).andThen .now).andThen (Looks.of_pure isSubtype_tuple_tuple)
  have hp2 := k _ _ hp
  have LT2 := LT.keeps k
  have X2 := X.keeps k
  unfold excMatches
  refine wpAny_bind ((isT.keeps k).at ?_)
  dsimp only
  rw [if_pos rfl]
  first
    | refine wpAny_bind (wpAny_seqItems hp2 rfl ?_)
    | refine wpAny_bind (wpAny_bind (wpAny_seqItems hp2 rfl (wpAny_pure ?_)))
  dsimp only [Option.getD_some, Option.getD]
  refine wpAny_bind (wpAny_pure ?_)
  refine wpAny_bind (loop_all (fun c hc Q' q' => ?_) ?_)
  · obtain ⟨b1, e1⟩ := exm_of_any hx c hc
    obtain ⟨l1, _⟩ := exm_cls (M := M) X2 e1
    refine wpAny_bind (l1.at ?_)
    simp only [Bool.not_true, Bool.false_eq_true, if_false]
    exact wpAny_pure q'
  · refine wpAny_bind (LT2.at ?_)
    refine wpAny_bind (loop_any (d := (some true, ())) hx (fun c b1 e1 Q' q' => ?_) ?_)
    · obtain ⟨_, l2⟩ := exm_cls (M := M) X2 e1
      refine wpAny_bind (l2.at ?_)
      cases b1 with
      | true =>
        rw [if_pos rfl] at q' ⊢
        exact wpAny_pure q'
      | false =>
        rw [if_neg Bool.false_ne_true] at q' ⊢
        exact wpAny_pure q'
    · cases b with
      | true => exact wpAny_pure q
      | false => exact wpAny_pure q
end
end Xc
namespace Xc
open PySem PySem.Spec PySem.Calls PyProof.Rows L2
/-- the names of a clause and their classes -/
inductive Nms (X : Cx) : List Expr → List Value → Prop
  | nil : Nms X [] []
  | cons {x : Str} {c : Value} {np : Pos} {es : List Expr} {cs : List Value} : Names X x c → Nms X es cs → Nms X (.Name x np :: es) (c :: cs)
theorem Nms.len {X : Cx} {es : List Expr} {cs : List Value} (h : Nms X es cs) : cs.length = es.length := by
  induction h with
  | nil => rfl
  | cons _ _ ih => simp [ih]
theorem nms_eval {X : Cx} {pins : List (Addr × Obj)} {σ : L2.St} {H : Hp} {s : Shared} {pos : Pos} {E : Value → Shared → Prop} (I : Inv X pins σ H s) {es : List Expr} {cs : List Value} (h : Nms X es cs) :
    ∀ {Q : List Value → Shared → Prop}, Q cs s → wpAny (model X.prog X.w) X.A (spliced (backTo pos (starEach es X.env))) Q E s := by
  induction h with
  | nil => intro Q k; exact wpAny_items_nil k
  | @cons x c np es cs hx _ ih =>
    intro Q k
    refine wpAny_items_cons ?_
    obtain ⟨hg, hdbg, hm | ⟨hm, hv, hnn⟩⟩ := hx
    · exact ld_glob I hg hm (ih k) hdbg
    · exact ld_blt I hg hm hv (ih k) hnn hdbg
/-- a caught exception, held -/
def Exv (a : Addr) (cls : Value) (d : Option Addr) : HO := .ext fun h => ∃ (oe : Obj) (vs : Array Value), h.get? a = some oe ∧ Zc cls d oe ∧ oe.data = .fields vs
theorem exv_ok {P : Program} {w : World} {H : Hp} {h : Heap} {a : Addr} {cls : Value} {d : Option Addr} {oe : Obj} {vs : Array Value} (e : h.get? a = some oe) (z : Zc cls d oe) (hd : oe.data = .fields vs) : ObjOk P w H h a (Exv a cls d) :=
  ⟨⟨oe, vs, e, z, hd⟩, ⟨oe, e⟩, fun _ _ ⟨o, v, q, r⟩ k => ⟨o, v, k o q, r⟩⟩
theorem exv_at {P : Program} {w : World} {H : Hp} {h : Heap} {a : Addr} {cls : Value} {d : Option Addr} (ok : HOk P w H h) (e : H a = some (Exv a cls d)) : ∃ oe vs, h.get? a = some oe ∧ Zc cls d oe ∧ oe.data = .fields vs := by
  have x : ObjOk P w H h a (.ext fun h => ∃ (oe : Obj) (vs : Array Value), h.get? a = some oe ∧ Zc cls d oe ∧ oe.data = .fields vs) := ok a _ e
  exact x.1
section
variable {X : Cx} {pins : List (Addr × Obj)} {σ : L2.St} {H : Hp} {s : Shared}
theorem track {a : Addr} {o : HO} (I : Inv X pins σ H s) (na : H a = none) (n0 : ∀ u, X.s_0.heap.get? a = some u → X.H_0 a = none → a ∈ X.ex) (nL : a ≠ X.env.locals) (nC : ∀ x c, X.env.cells.lookup x = some c → c ≠ a) (nP : ∀ p ∈ X.pn ++ pins, p.1 ≠ a)
    (ok : ObjOk X.prog X.w (upd H a o) s.heap a o) : Inv X pins σ (upd H a o) s := by
  have ne : ∀ {b : Addr} {u : HO}, H b = some u → b ≠ a := fun {b u} e z => by rw [z, na] at e; cases e
  refine ⟨I.ok, I.os, I.bare, ⟨I.base.keep, I.base.slot, fun b u e n hx => ?_, I.base.there, fun b xs e => ?_, fun b u v e => ?_, fun b ps e => ?_⟩, I.loc, I.cell, ?_, fun x c e => ?_, fun p hp => ?_, fun b u e => ?_, I.len⟩
  · by_cases hb : b = a
    · subst hb; exact absurd (n0 u e n) hx
    · rw [upd_ne hb]; exact I.base.free b u e n hx
  · have q := I.base.tups b xs e
    rw [upd_ne (ne q)]; exact q
  · have q := I.base.frzs b u v e
    rw [upd_ne (ne q)]; exact q
  · obtain ⟨more, q⟩ := I.base.tbls b ps e
    exact ⟨more, by rw [upd_ne (ne q)]; exact q⟩
  · rw [upd_ne (Ne.symm nL)]; exact I.free
  · rw [upd_ne (nC x c e)]; exact I.freeC x c e
  · obtain ⟨q1, q2, q3, q4, q5⟩ := I.pin p hp
    exact ⟨q1, by rw [upd_ne (nP p hp)]; exact q2, q3, q4, q5⟩
  · by_cases hb : b = a
    · subst hb; rw [upd_same] at e; cases e; exact ok
    · rw [upd_ne hb] at e
      exact (I.hok b u e).stay (fun c v _ q => q) (fun c q => by rw [upd_ne (ne q)]; exact q) fun c xs q => by rw [upd_ne (ne q)]; exact q
end
theorem fly_keeps {B h h' : Heap} {l : List Env} {a : Addr} {Z : Obj → Prop} (fl : HandSPX.FlyingZ B l a Z h) (k : ∀ b o, h.get? b = some o → h'.get? b = some o) : HandSPX.FlyingZ B l a Z h' := by
  obtain ⟨f1, f2, f3, oe, vs, T, oT, ts, he, hz, hd, h1, hn, ht, hT, hdT, h3⟩ := fl
  exact ⟨fun b o q => k b o (f1 b o q), f2, f3.of_keeps fun b o q _ => ⟨o, k b o q, rfl⟩, oe, vs, T, oT, ts, k _ _ he, hz, hd, h1, hn, ht, k _ _ hT, hdT, h3⟩
/-- what 'except (A, B, ..) as n' wishes; slot i is n's -/
def wKeep (K : PySem.W.Frag) (cs : List Value) (i : Nat) (ts : Addr → Value → Option Addr → TS) (Wout : WX) (D : Ends) : WX := fun cls d σ H =>
  ∃ b, PySem.W.exmAny K cls cs = some b ∧ (b = true → ∀ a, H a = none → ts a cls d { nx := fun σ' H' => D.nx (σ'.set i none) (upd H' a (Exv a cls d)), rt := fun v H' => D.rt v (upd H' a (Exv a cls d)), bk := fun σ' H' => D.bk (σ'.set i none) (upd H' a (Exv a cls d)), ct := fun σ' H' => D.ct (σ'.set i none) (upd H' a (Exv a cls d)) } (σ.set i (some (.ref a))) H) ∧
    (b = false → Wout cls d σ H)
section
variable {X : Cx} {n : Str} {cs : List Value} {i kt : Nat} {body suite : List Stmt} {b₀ : Stmt} {es : List Expr} {tpos pos pos' : Pos} {tb : WX → TS} {ts : Addr → Value → Option Addr → TS} {Wout : WX}
theorem ps_try_keep (hs : X.stack = X.env :: X.outer) (hf : X.env.frame = some X.env.locals) (hN : X.N.Nodup) (hi : X.N[i]? = some n) (hln : X.env.kindOf n = some .local) (hc : Nms X es cs) (hz : cs.length ≤ 100) (tk : Takes X Wout)
    (hb : ∀ (W : WX) (pn : List (Addr × Obj)) (xe : Value → Shared → Prop), Takes (X.tr pn xe) W → PassesOwn (model X.prog X.w) X.A X.env xe → PSs (X.tr pn xe) body (tb W))
    (hsu : ∀ (a : Addr) (oe : Obj) (cls : Value) (d : Option Addr) (pn : List (Addr × Obj)), Zc cls d oe → (∃ vs, oe.data = .fields vs) → PSs (X.suite a ((a, oe) :: pn)) (b₀ :: suite) (ts a cls d)) :
    PS X (.Try body [.ExceptHandler (some (.Tuple es kt tpos)) (some n) (b₀ :: suite) pos'] [] [] pos) (fun D σ H => tb (wKeep X.K cs i ts Wout D) D σ H) := by
  refine ⟨fun pins s σ H D I kk => ?_⟩
  have okX := I.ok
  have frm : X.A.frames = some (X.env :: X.outer) := by rw [okX.frames, hs]
  have lcl : Loc X.env.scope n := .inl hln
  refine wpAny_Try_except (wpAny_mono ((hb (wKeep X.K cs i ts Wout D) (X.pn ++ pins) (fun e s1 => wpAny (model X.prog X.w) X.A (noteFrame e X.env) (fun _ s2 => wpAny (model X.prog X.w) X.A (setFlight e none) (fun _ s3 =>
    wpAny (model X.prog X.w) X.A (handleBy e X.env [.ExceptHandler (some (.Tuple es kt tpos)) (some n) (b₀ :: suite) pos']) (SP X pins D) X.xe s3) X.xe s2) X.xe s1) (fun u s1 xx => ?_) PassesOwn.looking).run [] s σ H D (I.toTry _) kk) (fun fl s1 z => ?_) (fun _ _ z => z))
  · obtain ⟨a, B, sI, pins1, σ1, H1, cls, d, rfl, J0, nb, up, sky, na, osE, agE, b, hb1, yes, no⟩ := xx
    have J : Inv X pins σ1 H1 sI := J0.ofTry okX
    have sky1 : Sky B (X.env :: X.outer) a (Zc cls d) X.env.locals s1.heap := by rw [← hs]; exact sky
    show wpAny (model X.prog X.w) X.A (noteFrame (.ref a) X.env) _ _ _
    refine Sky.land Zc.steady frm hf sky1 fun h3 fl3 up3 => ?_
    have J3 : Inv X pins σ1 H1 { s1 with heap := h3 } := J.landed nb fl3.1 (up.trans up3) osE agE
    obtain ⟨oe3, vs3, he3, hz3, hd3⟩ := fl3.there
    have nfr : a ∉ frs (X.env :: X.outer) := fun hm => by
      obtain ⟨_, o1, q1, nf1⟩ := fl3.2.2.1.mem hm
      rw [he3] at q1; cases q1
      exact nf1 _ hd3
    have nL : a ≠ X.env.locals := fun z => nfr (List.mem_filterMap.mpr ⟨X.env, List.mem_cons_self, by rw [hf, z]⟩)
    have nF : a ∉ X.fs := fun hm => by
      obtain ⟨e1, he1, q1⟩ := List.mem_filterMap.mp hm
      exact nfr (List.mem_filterMap.mpr ⟨e1, List.mem_cons_of_mem _ he1, q1⟩)
    have nst : a ∉ frs X.stack := by rw [hs]; exact nfr
    have bn : B.get? a = none := fl3.2.1
    have n0 : ∀ u, X.s_0.heap.get? a = some u → X.H_0 a = none → a ∈ X.ex := fun u e1 e2 => Classical.byContradiction fun hx => by
      have q1 := nb a u (J.base.keep a u e1 e2 nF hx) nst
      rw [bn] at q1; cases q1
    have nP : ∀ p ∈ X.pn ++ pins, p.1 ≠ a := fun p hp z => by
      obtain ⟨q1, q2, q3, q4, q5⟩ := J.pin p hp
      have q6 : p.1 ∉ frs X.stack := by rw [z]; exact nst
      have q7 := nb p.1 p.2 q1 q6
      rw [z, bn] at q7; cases q7
    have S3 := J3.suite he3 hd3 na nL nF
    refine wpAny_handleBy_cons (codeAny_handlers_test ?_) (by intro q; cases q)
    refine wpAny_Tuple (nms_eval (X := X.suite a ((a, oe3) :: (X.pn ++ pins))) S3 (by
      have g : ∀ {es cs}, Nms X es cs → Nms (X.suite a ((a, oe3) :: (X.pn ++ pins))) es cs := fun h => by
        induction h with
        | nil => exact .nil
        | cons hx _ ih => exact .cons hx ih
      exact g hc) ⟨by rw [sizeLine_eq]; omega, ?_⟩)
    have kp : ∀ b o, h3.get? b = some o → (h3.push { cls := .type "tuple", data := .seq cs.toArray }).get? b = some o := fun _ _ q => Heap.get?_push_of_some _ q
    have LT : PySem.W.Looks (model X.prog X.w) (h3.push { cls := .type "tuple", data := .seq cs.toArray }) (typeOf (.ref a)) cls := fun A Q E s k q => wpAny_typeOf_ref (k _ _ (kp _ _ he3)) (by rw [hz3.1]; exact q)
    refine (exm_tupN (M := model X.prog X.w) (J3.kIn.keeps kp) LT (Heap.get?_push_size h3 rfl) hb1).here ?_
    have fl4 := fly_keeps fl3 kp
    have up4 : sI.heap.UpToSlots (h3.push { cls := .type "tuple", data := .seq cs.toArray }) := (up.trans up3).trans (Heap.UpToSlots.of_keeps kp)
    cases b with
    | true =>
      refine codeAny_handlers_suite_as (HandSPX.lands_againZ fl4 fun h5 fl5 up5 => ?_)
      have J5 : Inv X pins σ1 H1 { s1 with heap := h5 } := J.landed nb fl5.1 (up4.trans up5) osE agE
      obtain ⟨oe5, vs5, he5, hz5, hd5⟩ := fl5.there
      have S5 := J5.suite he5 hd5 na nL nF
      refine store_ok (X := X.suite a ((a, oe5) :: (X.pn ++ pins))) (v := .ref a) S5 hN hi lcl rfl (fun s6 S6 => ?_) (.inr hln)
      refine wpAny_mono ((hsu a oe5 cls d (X.pn ++ pins) hz5 ⟨_, hd5⟩).run [] s6 _ H1 _ S6 (yes rfl a na)) (fun fl s7 z => ?_) (fun _ _ z => False.elim z)
      have fin : ∀ {σ7 : L2.St} {H7 : Hp} {Q : Shared → Prop}, Inv (X.suite a ((a, oe5) :: (X.pn ++ pins))) [] σ7 H7 s7 → (∀ s8, Inv X pins (σ7.set i none) (upd H7 a (Exv a cls d)) s8 → Q s8) →
          wpAny (model X.prog X.w) X.A (do bindName X.env n .none; unbindBehindTheSuite X.env n pos') (fun _ s8 => Q s8) X.xe s7 := fun {σ7 H7 Q} S7 hq => by
        obtain ⟨p1, p2, p3, p4, p5⟩ := S7.pin (a, oe5) (List.mem_append_left _ List.mem_cons_self)
        have J7 := S7.unsuite okX
        refine gone_ok (track J7 p2 n0 nL (fun x c e z => ?_) nP (exv_ok p1 hz5 hd5)) hN hi hln hq
        obtain ⟨v, oc, q1, q2⟩ := J7.cell x c e
        rw [z, p1] at q1; cases q1
        rw [hd5] at q2; cases q2
      cases fl with
      | next =>
        obtain ⟨σ7, H7, S7, q7⟩ := z
        exact fin S7 fun s8 J8 => ⟨_, _, J8, q7⟩
      | brk =>
        obtain ⟨σ7, H7, S7, q7⟩ := z
        exact fin S7 fun s8 J8 => ⟨_, _, J8, q7⟩
      | cont =>
        obtain ⟨σ7, H7, S7, q7⟩ := z
        exact fin S7 fun s8 J8 => ⟨_, _, J8, q7⟩
      | ret u =>
        obtain ⟨v7, σ7, H7, S7, r7, q7⟩ := z
        exact fin S7 fun s8 J8 => ⟨_, _, _, J8, r7, q7⟩
    | false =>
      show wpAny _ X.A (handleBy (.ref a) X.env []) _ _ _
      refine wpAny_handleBy_nil ?_
      obtain ⟨k1, k2, k3, oe, vs, T, oT, ts1, he, hz, hd, h1, hr⟩ := id fl4
      unfold PySem.passOn
      refine wpAny_bind (wpAny_field he hd h1 ?_)
      rw [if_neg (show ¬ ((Value.ref T == Value.none) = true) from by simp)]
      have last : wpAny (model X.prog X.w) X.A (setFlight (.ref a) X.env.frame) (fun _ s5 => wpAny (model X.prog X.w) X.A (throw (.ref a) : Sem Flow) (SP X pins D) X.xe s5) X.xe { s1 with heap := h3.push { cls := .type "tuple", data := .seq cs.toArray } } := by
        rw [hf]
        refine HandSPX.setFlight_upZ fl4 fun h5 hh5 up5 => wpAny_throw (tk _ _ ⟨a, B, sI, pins, σ1, H1, cls, d, rfl, J, nb, up4.trans up5, .inr (.inr (by rw [hs]; exact hh5)), na, osE, agE, no rfl⟩)
      first
        | exact wpAny_bind (wpAny_pure (wpAny_bind last))
        | exact wpAny_bind last
  · cases fl with
    | next =>
      obtain ⟨σ1, H1, J1, q⟩ := z
      exact wpAny_execs_nil ⟨σ1, H1, J1.ofTry okX, q⟩
    | brk =>
      obtain ⟨σ1, H1, J1, q⟩ := z
      exact ⟨σ1, H1, J1.ofTry okX, q⟩
    | cont =>
      obtain ⟨σ1, H1, J1, q⟩ := z
      exact ⟨σ1, H1, J1.ofTry okX, q⟩
    | ret u =>
      obtain ⟨v, σ1, H1, J1, r, q⟩ := z
      exact ⟨v, σ1, H1, J1.ofTry okX, r, q⟩
end
end Xc

/-! Xc3: held exceptions looked at; divmod -/
namespace Xc
open PySem PySem.Spec PySem.Calls PyProof.Rows L2 Rs
/-- what a class says when its instances are looked at -/
structure Lk (K : PySem.W.Frag) (C : Addr) : Prop where
  cl : (PySem.W.clsIn K C).isSome = true
  ga : PySem.W.findIn K (.ref C) "__getattribute__" = some (some (.builtin "BaseException.__getattribute__"))
  gg : PySem.W.findIn K (.ref C) "__getattr__" = some none
  bx : PySem.W.subIn K (.ref C) (.type "BaseException") = some true
  hd : PySem.W.hasDictIn K C = true
  ha : PySem.W.findIn K (.ref C) "__class__" = some (some (.builtin "object.__class__"))
  hn : PySem.W.specialIn K (.builtin "object.__class__") "__get__" = some (some (.builtin "getset_descriptor.__get__"))
  ht : PySem.W.takesIn K (.builtin "object.__class__") = some true
  hm : PySem.W.mroIn K C (.type "object") = some true
/-- held at a: an exception of the class at C, its fields fs in the dict at dx -/
structure Held (H : Hp) (a C dx : Addr) (fs : List (Str × V)) : Prop where
  ex : H a = some (Exv a (.ref C) (some dx))
  dk : H dx = some (.xd fs)
section
variable {X : Cx} {pins : List (Addr × Obj)} {σ : L2.St} {H : Hp} {s : Shared} {a C dx : Addr} {fs : List (Str × V)}
theorem held_inst (I : Inv X pins σ H s) (h : Held H a C dx fs) : ∃ (oe od : Obj) (mA : Str → Option Value), PySem.W.InstAt s.heap a oe C (some od) ∧ (∀ f, RelO (fs.lookup f) (mA f)) ∧ ∀ n : Str, PySem.W.lookIn n od = some (mA n) := by
  obtain ⟨oe, vs, h1, h2, h3⟩ := exv_at I.hok h.ex
  have hx : ObjOk X.prog X.w H s.heap dx (.xd fs) := I.hok dx _ h.dk
  obtain ⟨mA, hns, hr⟩ := hx
  obtain ⟨od, ho, hl⟩ := lookIn_ns hns
  exact ⟨oe, od, mA, ⟨h1, h2.1, by unfold PySem.W.notCls; rw [h3] <;> rfl, by rw [h2.2]; exact ho⟩, hr, hl⟩
/-- isinstance(e, c) of a held one -/
def rIsX (K : PySem.W.Frag) : List V → Hp → VK → Prop := fun xs H Q => ∃ (a C dx : Addr) (fs : List (Str × V)) (c : V) (u : Value) (b : Bool), xs = [.ref a, c] ∧ ClsV c u ∧ Lk K C ∧ Held H a C dx fs ∧ PySem.W.kitOne K (.ref C) u = some b ∧ Q (.bl b) H
theorem call_isX : CallR X (.builtin "isinstance") (rIsX X.K) := by
  intro pins s σ H xs us Q I r h
  obtain ⟨a, C, dx, fs, c, u, b, rfl, k, l, hh, e, q⟩ := h
  obtain ⟨u1, u2, rfl, r1, r2⟩ := vals2 r
  have e2 := k.eq r2
  subst e2
  cases (show u1 = Value.ref a from r1)
  obtain ⟨oe, od, mA, J, _, _⟩ := held_inst I hh
  exact PySem.W.kia_one (PySem.W.kitx_exc l.cl l.ga l.gg l.bx l.ha l.hn l.ht l.hm) I.kIn J e (fun z => nomatch z) fun tk => ⟨.bl b, H, I.tok tk, rfl, q⟩
/-- e.f of a held one -/
def tXv (K : PySem.W.Frag) (f : Str) (te : TE) : TE := fun σ H Q => te σ H fun x H1 => ∃ (a C dx : Addr) (fs : List (Str × V)) (v : V), x = .ref a ∧ Lk K C ∧ PySem.W.findIn K (.ref C) f = some none ∧ Held H1 a C dx fs ∧ fs.lookup f = some v ∧ Q v H1
theorem pe_xv {e : Expr} {te : TE} {pos : Pos} {n : Str} (he : PE X e te) (hb : attributeBase e n X.env (eval e X.env) = eval e X.env := by rfl) : PE X (.Attribute e n pos) (tXv X.K n te) := by
  refine ⟨fun pins s σ H Q I h => attr_of hb (thn (he.run pins s σ H _ I h) fun u s1 hh => ?_)⟩
  obtain ⟨x, H1, I1, rx, a, C, dx, fs, v, ex, l, hno, hd, lk, q⟩ := hh
  subst ex
  obtain rfl : u = Value.ref a := rx
  obtain ⟨oe, od, mA, J, hr, hl⟩ := held_inst I1 hd
  obtain ⟨u2, hu, ru⟩ := RelO.some_of (v := v) (o := mA n) (by rw [← lk]; exact hr n)
  exact HandSPX.exc_get I1.kIn J l.ga l.gg l.bx (PySem.W.findObj_own l.hd hno rfl (by rw [hl, hu])) (handed_of ru) ⟨v, H1, I1.tok _, ru, q⟩
/-- divmod of whole numbers -/
def rDm : List V → Hp → VK → Prop := fun xs H Q => ∃ (a b : Int), xs = [.int a, .int b] ∧ 0 < b ∧ b < 2 ^ 30 ∧ -(2 ^ 30) < a ∧ a < 2 ^ 30 ∧ ∀ p, H p = none → Q (.ref p) (upd H p (.tup [.int (a / b), .int (a % b)]))
theorem call_dm : CallR X (.builtin "divmod") rDm := by
  intro pins s σ H xs us Q I r h
  obtain ⟨a, b, rfl, h1, h2, h3, h4, q⟩ := h
  obtain ⟨u1, u2, rfl, r1, r2⟩ := vals2 r
  obtain ⟨t1, rfl⟩ := (show ∃ t, u1 = Value.int a t from r1)
  obtain ⟨t2, rfl⟩ := (show ∃ t, u2 = Value.int b t from r2)
  have hf : H s.heap.objs.size = none := I.hok.fresh (Nat.le_refl _)
  refine PyProof.Rows.divmod_int (by omega) ?_ (Or.inl (PyProof.noPylong_small (by omega)))
  have e1 : a.fdiv b = a / b := Int.fdiv_eq_ediv_of_nonneg _ (by omega)
  have e2 : a.fmod b = a % b := Int.fmod_eq_emod_of_nonneg _ (by omega)
  rw [e1, e2]
  refine ⟨.ref s.heap.objs.size, upd H s.heap.objs.size (.tup [.int (a / b), .int (a % b)]), I.laid (t' := s.toks + 1 + 1) (fun b o e => Heap.get?_push_of_some _ e) (Nat.le_refl _) ?_, rfl, q _ hf⟩
  exact ⟨by rw [sizeLine_eq]; simp, _, .cons ⟨_, rfl⟩ (.cons ⟨_, rfl⟩ .nil), ⟨_, Heap.get?_push_size _ rfl, rfl, _, rfl⟩⟩
end
end Xc
namespace Xc
open PySem PySem.Spec PySem.Calls PyProof.Rows L2 Rs
theorem ip_or {X : Cx} : PIp X .BitOr (ipI fun i j => Builtin.bitOr i j) := by
  intro pins s σ H x y v u Q I r1 r2 h
  obtain ⟨i, j, rfl, rfl, q⟩ := h
  obtain ⟨t, rfl⟩ := r1
  obtain ⟨t2, rfl⟩ := r2
  exact ior_int ⟨.int (Builtin.bitOr i j), H, I.tok _, ⟨_, rfl⟩, q⟩
end Xc

/-! Xc4: the end with tables of code objects, for promises kept while no text is under way -/
namespace Xc
open PySem PySem.Spec PySem.Calls PyProof.Rows L2 Rs LamX
/-- what is known at the law's call: the script, the tables -/
def headH (own : Bool) (a : Addr) (o : Obj) (ns : List Int) (ts : List Addr) : Hp := fun b => if own = true ∧ b = a then some (.frz o (.lst (ns.map V.int))) else if b ∈ ts then some (.tbl #[]) else none
theorem headH_some {own : Bool} {a b : Addr} {o : Obj} {ns : List Int} {ts : List Addr} {u : HO} (h : headH own a o ns ts b = some u) : (own = true ∧ b = a ∧ u = .frz o (.lst (ns.map V.int))) ∨ (b ∈ ts ∧ u = .tbl #[]) := by
  unfold headH at h
  split at h
  · rename_i z; exact .inl ⟨z.1, z.2, (Option.some.inj h).symm⟩
  · split at h
    · rename_i z; exact .inr ⟨z, (Option.some.inj h).symm⟩
    · cases h
theorem lawGT {P : Program} {w : World} {K : PySem.W.Frag} {mg mb : Str → Option Value} {k : Nat} {fa a : Addr} {fd : FuncData} {x : Str} {sp : Sp} {s : Shared} {vs : List Value} {ns : List Int} {cs : List (Addr × Addr)}
    (KX : K.In s.heap) (hm : s.heap.Ns mainGlobals mg) (hb : s.heap.Ns builtinsNs mb) (hbb : ∀ x : Str, x ≠ "__name__" → mb x = bootBuiltins x) (hlim : s.heap.NoLimit) (hg : s.gens = #[])
    (hT : ∀ p ∈ cs, s.heap.get? p.2 = some (PySem.W.tabObj #[])) (nT : ∀ p ∈ cs, K.lookup p.2 = none) (C : ∀ p ∈ cs, PySem.W.CodeHd s.heap p.1 p.2)
    (hbm : ∃ (bm : Addr) (ob : Obj), mg "__builtins__" = some (.ref bm) ∧ bm ≠ builtinsNs ∧ s.heap.get? bm = some ob ∧ ob.cls = .type "module" ∧ ob.dict = some builtinsNs ∧ ob.data = .plain)
    (ha : s.heap.get? a = some { cls := .type "list", data := .seq vs.toArray }) (hi : IntsAre vs ns) (hl : ns.length ≤ sizeLine) (hr : Room k callerA)
    (F : ∀ base : Heap, K.In base → base.Ns mainGlobals mg → (∀ p ∈ cs, TabB base mg p.1 p.2) → FnG P w K mg base k fa fd [x] sp) (hbind : ∀ (s : Shared) (u : Value), BindsTo s fd ⟨[u], []⟩ [(x, u)])
    (hsp : ∀ H : Hp, (∀ p ∈ cs, H p.2 = some (.tbl #[])) → SqL K H a (ns.map V.int) → sp [.ref a] H (fun v _ => v = .bl true) E0) :
    codeAny (model P w) callerA (.call (.ref fa) ⟨[.ref a], []⟩) (fun r s' => r = .ok (.ret (.bool true)) ∧ OldK s.heap s'.heap ∧ s'.os = s.os ∧ AllBare s'.gens) s := by
  have rv := vals_ints hi
  have lv := hi.length
  have tabOf : ∀ b : Addr, b ∈ cs.map (·.2) → s.heap.get? b = some (PySem.W.tabObj #[]) := fun b hb => by
    obtain ⟨p, hp, rfl⟩ := List.mem_map.mp hb
    exact hT p hp
  have aNot : a ∉ cs.map (·.2) := fun z => by
    have q := tabOf a z
    rw [ha] at q
    have d : Data.seq vs.toArray _ = Data.fields #[] := congrArg Obj.data (Option.some.inj q)
    cases d
  have key : ∀ own : Bool, (own = true → K.lookup a = none) → (own = false → ∃ o, K.lookup a = some o) →
      codeAny (model P w) callerA (.call (.ref fa) ⟨[.ref a], []⟩) (fun r s' => r = .ok (.ret (.bool true)) ∧ OldK s.heap s'.heap ∧ s'.os = s.os ∧ AllBare s'.gens) s := by
    intro own h1 h2
    have hS := fun {b : Addr} {u : HO} => headH_some (own := own) (a := a) (b := b) (o := { cls := .type "list", data := .seq vs.toArray }) (ns := ns) (ts := cs.map (·.2)) (u := u)
    have hTb : ∀ p ∈ cs, headH own a { cls := .type "list", data := .seq vs.toArray } ns (cs.map (·.2)) p.2 = some (.tbl #[]) := fun p hp => by
      have mp : p.2 ∈ cs.map (·.2) := List.mem_map_of_mem (f := (·.2)) hp
      unfold headH
      rw [if_neg (fun z => aNot (by rw [← z.2]; exact mp)), if_pos mp]
    generalize eH : headH own a { cls := .type "list", data := .seq vs.toArray } ns (cs.map (·.2)) = H at hS hTb
    -- an object that is neither a row nor a table is not tracked
    have noH : ∀ {b : Addr} {o : Obj}, s.heap.get? b = some o → (∀ xs n, o.data ≠ .seq xs n) → o.data ≠ .fields #[] → H b = none := fun {b o} e d1 d2 => by
      cases q : H b with
      | none => rfl
      | some u =>
        rcases hS q with ⟨_, rfl, _⟩ | ⟨hb2, _⟩
        · rw [ha] at e; cases e; exact absurd rfl (d1 _ _)
        · rw [tabOf b hb2] at e; cases e; exact absurd rfl d2
    have noD : ∀ {b : Addr} {o : Obj} {es : Array DictEntry} {n : Nat}, s.heap.get? b = some o → o.data = .dict es n → H b = none := fun {b o es n} e d =>
      noH e (fun xs n z => by rw [d] at z; cases z) (fun z => by rw [d] at z; cases z)
    have ns0 : ∀ {b : Addr} {m : Str → Option Value}, s.heap.Ns b m → (hidT s.heap H).Ns b m := fun {b m} ⟨o, es, n, e, d, r⟩ => ⟨o, es, n, hidT_get e (noD e d), d, r⟩
    have K0 : K.In (hidT s.heap H) := fun b o e => by
      refine hidT_get (KX b o e) ?_
      cases q : H b with
      | none => rfl
      | some u =>
        rcases hS q with ⟨z, rfl, _⟩ | ⟨hb2, _⟩
        · rw [h1 z] at e; cases e
        · obtain ⟨p, hp, rfl⟩ := List.mem_map.mp hb2
          rw [nT p hp] at e; cases e
    have hok : HOk P w H s.heap := fun b u q => by
      rcases hS q with ⟨_, rfl, rfl⟩ | ⟨hb2, rfl⟩
      · exact ⟨ha, by rw [List.length_map]; exact hl, vs, _, rv, ha⟩
      · exact tabOf b hb2
    obtain ⟨mc, q1, q2⟩ := hlim
    have M0 : Mod K mg (hidT s.heap H) := ⟨K0, ns0 hm, ⟨mb, ns0 hb, hbb⟩, mc, ns0 q1, q2⟩
    have TB : ∀ p ∈ cs, TabB (hidT s.heap H) mg p.1 p.2 := fun p hp => by
      have hTp := hT p hp
      refine ⟨?_, ?_, fun z => ?_⟩
      · obtain ⟨o, us, file, tf, flags, tg, inF, text, tt, e1, r1, r2, r3, rest⟩ := C p hp
        refine ⟨o, us, file, tf, flags, tg, inF, text, tt, hidT_get e1 (noH e1 (fun xs n z => by rw [r2] at z; cases z) fun z => ?_), r1, r2, r3, rest⟩
        rw [r2] at z; cases z; simp at r3
      · obtain ⟨bm, ob, b1, b2, b3, b4, b5, b6⟩ := hbm
        refine ⟨bm, ob, b1, b2, fun q => ?_, fun q => ?_, hidT_get b3 (noH b3 (fun xs n z => by rw [b6] at z; cases z) fun z => by rw [b6] at z; cases z), b4, b5, b6⟩
        · obtain ⟨o, es, n, e, d, _⟩ := hm
          rw [q, e] at b3; cases b3
          rw [d] at b6; cases b6
        · rw [q, hTp] at b3; cases b3; cases b6
      · obtain ⟨o, es, n, e, d, _⟩ := hm
        rw [z, hTp] at e; cases e; cases d
    have env : Env0 P w K mg (hidT s.heap H) callerA [] s H := ⟨rfl, M0, fun b o e => of_hidT e, Nat.le_of_eq (hidT_size _ _), trivial, fun b hb3 => (nomatch (show b ∈ ([] : List Addr) from hb3)), hok, .of_eq hg⟩
    have sq : SqL K H a (ns.map V.int) := by
      cases own with
      | true => exact Or.inl (Or.inr ⟨_, by rw [← eH]; exact if_pos ⟨rfl, rfl⟩⟩)
      | false =>
        obtain ⟨o, e⟩ := h2 rfl
        have e' := KX a o e
        rw [ha] at e'; cases e'
        exact Or.inr ⟨_, vs.toArray, _, e, rfl, rfl, rfl, by rw [List.size_toArray, lv]; exact hl, by simpa using rv⟩
    refine codeAny_mono ((F _ K0 (ns0 hm) TB).go callerA [] s H [.ref a] ⟨[.ref a], []⟩ [.ref a] _ E0 rfl hr env (hbind s (.ref a)) (.cons rfl .nil) (hsp H hTb sq)) fun r s' z => ?_
    match r, z with
    | .error _, z => exact z.elim
    | .ok .next, z => exact z.elim
    | .ok .brk, z => exact z.elim
    | .ok .cont, z => exact z.elim
    | .ok (.ret u), z =>
      obtain ⟨v, H', os, bare, un, hok', r', q⟩ := z
      cases (show v = .bl true from q)
      cases (show u = Value.bool true from r')
      have same : ∀ b o, b ∉ cs.map (·.2) → s.heap.get? b = some o → s'.heap.get? b = some o := fun b o nb e => by
        cases q : H b with
        | none => exact un.keep b o e q (fun z => nomatch z) (fun z => nomatch z)
        | some u =>
          rcases hS q with ⟨_, rfl, rfl⟩ | ⟨hb2, _⟩
          · rw [ha] at e; cases e
            obtain ⟨e2, _⟩ := hok' b _ (un.frzs b _ _ q)
            exact e2
          · exact absurd hb2 nb
      have grown : ∀ b ∈ cs.map (·.2), isCodeTable s.heap b ∧ ∃ more : Array Value, s'.heap.get? b = some (PySem.W.tabObj more) := fun b hb2 => by
        obtain ⟨p, hp, rfl⟩ := List.mem_map.mp hb2
        obtain ⟨more, q⟩ := un.tbls p.2 #[] (hTb p hp)
        exact ⟨((C p hp).tab (hT p hp)).isCodeTable, _, hok' p.2 _ q⟩
      refine ⟨rfl, ⟨fun b o e => ?_, fun b o e => ?_⟩, os, bare⟩
      · by_cases hb2 : b ∈ cs.map (·.2)
        · obtain ⟨g1, more, g2⟩ := grown b hb2
          rw [tabOf b hb2] at e; cases e
          exact .inr (.inl ⟨g1, rfl, #[], more, rfl, by rw [Array.empty_append]; exact g2⟩)
        · exact .inl (same b o hb2 e)
      · by_cases hb2 : b ∈ cs.map (·.2)
        · obtain ⟨_, more, g2⟩ := grown b hb2
          exact ⟨_, g2⟩
        · exact ⟨o, same b o hb2 e⟩
  cases hk : K.lookup a with
  | some o => exact key false (fun z => Bool.noConfusion z) (fun _ => ⟨o, hk⟩)
  | none => exact key true (fun _ => hk) (fun z => Bool.noConfusion z)
/-- a def whose code object is known by its place -/
structure FunC (K : PySem.W.Frag) (x qual : Str) (st : Stmt) (f : Addr) (fd : FuncData) (c : Addr) : Prop where
  ex : ∃ (oc : Value) (od : Option Addr) (kV doc pm : Value) (an : Option Addr) (ct : Value) (osl : Array (Option Value)),
    fd = PySem.W.fnOf x qual (defArgs st) (defBody st) (defScope st) .none kV doc pm an (.ref c) ct ∧ K.lookup f = some ⟨oc, od, .func (PySem.W.fnOf x qual (defArgs st) (defBody st) (defScope st) .none kV doc pm an (.ref c) ct), osl⟩ ∧ PySem.W.codeIn K (.ref c) qual = true
section
variable {P : Program} {w : World} {K : PySem.W.Frag} {mg : Str → Option Value} {base : Heap}
/-- such a def by its body, as FnG -/
theorem defGC {x qual : Str} {st : Stmt} {f c : Addr} {fd : FuncData} {N ps : List Str} {k : Nat} {sp : Sp} (F : FunC K x qual st f fd c) (S : FnScope N ps (defScope st)) (many : ∀ vs H Q E, sp vs H Q E → vs.length = ps.length)
    (body : ∀ (A : Around) (o : List Env) (s : Shared) (H : Hp) (vs : List V) (Q : VK) (E : XK), Clr A → Room k (A.deeper (envOfC qual (defScope st) s.heap.objs.size f (.ref c))) → sp vs H Q E →
      ∃ t, PSs (cxOf CX0 P w K mg base N qual (defScope st) f (.ref c) A o s H E).nox (defBody st) t ∧ t { nx := fun _ H' => Q .non H', rt := Q } (start N vs) H) : FnG P w K mg base (k + 1) f fd ps sp := by
  obtain ⟨oc, od, kV, doc, pm, an, ct, osl, rfl, lk, hcd⟩ := F.ex
  refine ⟨many, ?_⟩
  intro A o s H us a vs Q E cl r e0 hb rv hsp
  obtain ⟨t, ht, hq⟩ := body A o s H vs Q E cl (r.deeper _) hsp
  have inK : ∀ b ob, K.lookup b = some ob → s.heap.get? b = some ob := fun b ob e => (e0.bs b ob (e0.mod.kin b ob e)).1
  refine codeAny_call_function r.depth (inK _ _ lk) rfl S.co S.gen rfl (PySem.W.codeRec_of inK hcd) (hb _ _ _ _ ?_)
  have noL : s.heap.NoLimit := e0.mod.nolimit.keeps fun b ob e => (e0.bs b ob e).1
  refine wpAny_newFunctionEnv_cells S.kind ?_ ?_
  · rintro ⟨n, v⟩ hy
    rcases S.par n (List.of_mem_zip hy).1 with q | q
    · exact Or.inl q
    · exact Or.inr ⟨q, PySem.W.cellsFrom_some _ _ _ (Or.inl q)⟩
  · intro env he s1 x1
    subst he
    refine ⟨noL.keeps x1.toInCall.keep, codeAny_func ?_⟩
    have J := inv_start (CX := CX0) (mg := mg) (E := E) (qual := qual) S r.hd e0 (many _ _ _ _ hsp) rv x1
    refine wpAny_mono (ht.nox.run [] s1 _ H _ J hq) ?_ ?_
    · intro fl s2 h2
      cases fl with
      | next => obtain ⟨_, H2, J2, q2⟩ := h2; exact ⟨V.non, H2, J2.os, J2.bare, J2.base, J2.hok, rfl, q2⟩
      | ret u => obtain ⟨v, _, H2, J2, r2, q2⟩ := h2; exact ⟨v, H2, J2.os, J2.bare, J2.base, J2.hok, r2, q2⟩
      | brk => obtain ⟨_, _, _, q2⟩ := h2; exact q2.elim
      | cont => obtain ⟨_, _, _, q2⟩ := h2; exact q2.elim
    · intro e s2 h2; exact h2
end
/-- the end, the law's def by its facts, its code's tables known -/
theorem walkGT {l : PySem.W.OpenLaw} {n k : Nat} {q : Program} {loose : List Str} {XP : (Str → Option Value) → Heap → Prop} {YP : World → Heap → Prop} {d : DefRec} {K : Params → PySem.W.Frag} {sp : PySem.W.Frag → Sp} {st : Stmt} {x : Str} {ts : List Addr}
    (hn : l.most = some n) (hn2 : n ≤ sizeLine) (hdf : d.params.defaults = []) (hr : Room k callerA) (hY : ∀ (w : World) (h : Heap), YP w h → (K w.params).In h) (hY2 : ∀ (w : World) (h : Heap), YP w h → ∀ p ∈ ts, h.get? p = some (PySem.W.tabObj #[])) (hx : d.name = "law")
    (hb : ∀ (kV doc pm : Value) (an : Option Addr) (cdv ct u : Value), bindArgs (PySem.W.fnOf "law" "law" (defArgs st) (defBody st) (defScope st) .none kV doc pm an cdv ct) ⟨[u], []⟩ = pure [(x, u)])
    (F : ∀ (w : World) (mg : Str → Option Value) (h : Heap), (K w.params).In h → h.Ns mainGlobals mg → ∃ cs : List (Addr × Addr), cs.map (·.2) = ts ∧ (∀ p ∈ cs, (K w.params).lookup p.2 = none) ∧ (∀ p ∈ cs, PySem.W.codeHdIn (K w.params) p.1 p.2 = true) ∧
      ∃ (fa : Addr) (fd : FuncData), Cal (K w.params) mg "law" st [x] fa fd ∧ ∀ base : Heap, (∀ p ∈ cs, TabB base mg p.1 p.2) → FnG l.prog w (K w.params) mg base k fa fd [x] (sp (K w.params)))
    (hsp : ∀ (K : PySem.W.Frag) (H : Hp) (a : Addr) (ns : List Int), ns.length ≤ n → (∀ z ∈ ns, Builtin.Int.intBits z ≤ 1048576) → (∀ p ∈ ts, H p = some (.tbl #[])) → SqL K H a (ns.map V.int) → sp K [.ref a] H (fun v _ => v = .bl true) E0) :
    PySem.W.WalkO q loose XP YP l.row.toRowW d [] (fun f vs => PySem.call f vs) := by
  apply Att.attach_callB hn hdf
  intro w s0 s1 mg mb fa o pm cd doc a vs ns G Y ho hd hcd hmg hobj hints hlen hbits hg
  have KX := hY w _ Y
  obtain ⟨cs, ec, nT, cT, f, fd, C, ok⟩ := F w mg _ KX G.T.g
  subst ec
  rw [hx] at hmg
  have e := C.m.symm.trans hmg
  cases e
  obtain ⟨oc, od, kV, doc2, pm2, an2, cdv, ct, osl, rfl, lk, hcd2⟩ := C.F.ex
  exact lawGT (cs := cs) KX G.T.g G.T.b G.T.builtins G.T.nolimit hg (fun p hp => hY2 w _ Y _ (List.mem_map_of_mem (f := (·.2)) hp)) nT (fun p hp => PySem.W.codeHd_of_K KX (cT p hp)) G.T.bmain hobj hints (Nat.le_trans hlen hn2) hr (fun base _ _ TB => ok base TB) (fun s u => .of_eq (hb kV doc2 pm2 an2 cdv ct u)) fun H hH hS => hsp _ H a ns hlen hbits (fun P hP => by obtain ⟨p, hp, rfl⟩ := List.mem_map.mp hP; exact hH p hp) hS
end Xc

/-! Xc5: readings for own exceptions -/
namespace Xc
open PySem PySem.Spec PySem.Calls PyProof.Rows L2 Rs
/-- __init__(self, x) that stores x as f -/
def spInit1 (C : Addr) (f : Str) : Sp := fun vs H Q _ => ∃ (a : Addr) (v : V), vs = [.ref a, v] ∧ H a = some (exo a C none) ∧ ∀ dx, H dx = none → dx ≠ a → Q .non (upd (upd H dx (exd dx [(f, v)])) a (exo a C (some dx)))
theorem del_eq {H : Hp} {a d : Addr} {o1 o2 o3 o4 : HO} (ha : H a = none) (ne : d ≠ a) : upd (del (upd (upd (upd H a o1) d o2) a o3) a) d o4 = upd H d o4 := by
  funext b
  by_cases hb : b = d
  · subst hb; rw [upd_same, upd_same]
  · rw [upd_ne hb, upd_ne hb]
    by_cases h2 : b = a
    · subst h2; rw [del_same, ha]
    · rw [del_ne h2, upd_ne h2, upd_ne hb, upd_ne h2]
section
variable {σ : L2.St} {H H0 : Hp} {M : List Addr} {L : Led} {Q : VK} {K : PySem.W.Frag} {C : Addr} {f : Str} {x : V} {XQ : XK}
theorem rd_mk1 (k : ∀ d, H d = none → XQ (.ref C) (some d) (upd H d (.xd [(f, x)]))) : [x].length ≤ 1000 ∧ ∀ a, H a = none → spInit1 C f (.ref a :: ([x] ++ [])) (upd H a (exo a C none))
    (fun v H2 => v = .non ∧ ∃ (d : Addr) (fs : List (Str × V)), H2 a = some (exo a C (some d)) ∧ H2 d = some (exd d fs) ∧ H d = none ∧ XQ (.ref C) (some d) (upd (del H2 a) d (.xd fs))) (fun _ _ _ => False) := by
  refine ⟨by simp, fun a ha => ⟨a, x, rfl, upd_same, fun dx n1 n2 => ⟨rfl, dx, [(f, x)], upd_same, ?_, ?_, ?_⟩⟩⟩
  · rw [upd_ne n2, upd_same]
  · rw [upd_ne n2] at n1; exact n1
  · rw [del_eq ha n2]
    rw [upd_ne n2] at n1
    exact k dx n1
theorem rd_tmk {sp : Sp} {dvs : List V} {ta : TA} (h : ta σ H fun vs H1 => vs.length ≤ 1000 ∧ ∀ a, H1 a = none → sp (.ref a :: (vs ++ dvs)) (upd H1 a (exo a C none))
    (fun v H2 => v = .non ∧ ∃ (d : Addr) (fs : List (Str × V)), H2 a = some (exo a C (some d)) ∧ H2 d = some (exd d fs) ∧ H1 d = none ∧ XQ (.ref C) (some d) (upd (del H2 a) d (.xd fs))) (fun _ _ _ => False)) : tMkO C sp dvs ta σ H XQ := h
theorem rd_dm {a b : Int} (S : Hs H0 M H L) (h1 : 0 < b) (h2 : b < 2 ^ 30) (h3 : -(2 ^ 30) < a) (h4 : a < 2 ^ 30) (h : ∀ p H', H0 p = none → Hs H0 M H' ((p, .tup [.int (a / b), .int (a % b)]) :: L) → Q (.ref p) H') : rDm [.int a, .int b] H Q := ⟨a, b, rfl, h1, h2, h3, h4, rd_newO S h⟩
theorem rd_isX {a dx : Addr} {fs : List (Str × V)} {c : V} {u : Value} {b : Bool} (S : Hs H0 M H L) (m1 : (a, Exv a (.ref C) (some dx)) ∈ L) (m2 : (dx, HO.xd fs) ∈ L) (l : Lk K C) (hc : ClsV c u) (e : PySem.W.kitOne K (.ref C) u = some b) (h : Q (.bl b) H) : rIsX K [.ref a, c] H Q :=
  ⟨a, C, dx, fs, c, u, b, rfl, hc, l, ⟨S.is _ m1, S.is _ m2⟩, e, h⟩
theorem rd_xv {te : TE} (h : te σ H fun x H1 => ∃ (a C dx : Addr) (fs : List (Str × V)) (v : V), x = .ref a ∧ Lk K C ∧ PySem.W.findIn K (.ref C) f = some none ∧ Held H1 a C dx fs ∧ fs.lookup f = some v ∧ Q v H1) : tXv K f te σ H Q := h
theorem rd_put1 {B newId initId : String} {bmB : List Value} {to te : TE} {D : Ends} (h : te σ H fun y H1 => to σ H1 fun x H2 => ∃ a C : Addr, x = .ref a ∧ Own K C B newId initId bmB ∧ PySem.W.takerIn K C f = some none ∧
  ((H2 a = some (exo a C none) ∧ ∀ dx, H2 dx = none → dx ≠ a → D.nx σ (upd (upd H2 dx (exd dx [(f, y)])) a (exo a C (some dx)))) ∨
    ∃ (dx : Addr) (fs : List (Str × V)), H2 a = some (exo a C (some dx)) ∧ H2 dx = some (exd dx fs) ∧ fs.length ≤ 900 ∧ D.nx σ (upd H2 dx (exd dx ((f, y) :: fs))))) : tPut K B newId initId bmB f to te D σ H := h
theorem rd_slVx {a : Addr} {xs : List V} {lo hi : Option Int} (S : Hs H0 M H L) (m : (a, HO.lst xs) ∈ L) (h : ∀ p H', H0 p = none → Hs H0 M H' ((p, .lst (cutV xs lo hi)) :: L) → Q (.ref p) H') : rSlL K (.ref a) lo hi H Q :=
  ⟨a, xs, rfl, S.lst m, rd_newO S h⟩
theorem rd_bi {B newId initId : String} {bmB : List Value} {ta : TA} (h : ta σ H fun vs H1 => ∃ (a C : Addr) (ws : List V), vs = .ref a :: ws ∧ ws.length ≤ 1000 ∧ Own K C B newId initId bmB ∧ H1 a = some (exo a C none) ∧ Q .non H1) : tBI K B newId initId bmB ta σ H Q := h
end
end Xc
namespace Xc
open PySem PySem.Spec PySem.Calls PyProof.Rows L2 Rs
theorem rd_xvV {H H0 : Hp} {M : List Addr} {L : Led} {K : PySem.W.Frag} {C : Addr} {f : Str} {a dx : Addr} {fs : List (Str × V)} {v : V} {R : V → Prop} (S : Hs H0 M H L) (m1 : (a, Exv a (.ref C) (some dx)) ∈ L) (m2 : (dx, HO.xd fs) ∈ L) (l : Lk K C) (n : PySem.W.findIn K (.ref C) f = some none) (e : fs.lookup f = some v) (h : R v) :
    ∃ (a' C dx : Addr) (fs : List (Str × V)) (v : V), V.ref a = .ref a' ∧ Lk K C ∧ PySem.W.findIn K (.ref C) f = some none ∧ Held H a' C dx fs ∧ fs.lookup f = some v ∧ R v := ⟨a, C, dx, fs, v, rfl, l, n, ⟨S.is _ m1, S.is _ m2⟩, e, h⟩
/-- the slots' number is known of what flies -/
theorem takes_len {X : Cx} {W : WX} (t : Takes X W) : Takes X (fun cls d σ H => σ.length = X.N.length → W cls d σ H) := fun u s' ⟨a, B, sI, pins, σ, H, cls, d, e, I, nb, up, sky, na, os, ag, w⟩ =>
  t u s' ⟨a, B, sI, pins, σ, H, cls, d, e, I, nb, up, sky, na, os, ag, w I.len⟩
end Xc

/-! Xc6: repr of (text, thing), the thing data or an empty dict -/
namespace Xc
open PySem PySem.Spec PySem.Calls PyProof.Rows L2 Rs
/-- data, or an empty dict -/
inductive Tq (K : PySem.W.Frag) (H : Hp) : V → PyData → Prop where
  | dp {v : V} {d : PyData} (h : Dp K H v d) : Tq K H v d
  | emp {a : Addr} (h : H a = some (.dK [])) : Tq K H (.ref a) (.dict [])
section
variable {X : Cx} {pins : List (Addr × Obj)} {σ : L2.St} {H : Hp} {s : Shared}
theorem Tq.reads (I : Inv X pins σ H s) {v : V} {d : PyData} {u : Value} (h : Tq X.K H v d) (r : RelV v u) : ∃ as, Reads s.heap u d as ∧ (d.hasDict = true → sysModules ∉ as) := by
  cases h with
  | dp h =>
    obtain ⟨as, q⟩ := Dp.reads I d v u h r
    exact ⟨as, q, PyData.noDict_hsm (dp_noDict d v h)⟩
  | @emp a h =>
    cases (show u = Value.ref a from r)
    obtain ⟨_, ns, vs, kv, o, es, ep, e1, e2, e3, _, e5, _⟩ := dk_of I.hok h
    cases kv
    have e6 := Pairs.length e5
    have e7 : es.toList = [] := List.eq_nil_of_length_eq_zero e6
    refine ⟨[a] ++ [], ?_, fun _ hm => ?_⟩
    · have z := Reads.dict (kvs := []) (as := []) (bs := []) e1 e2.1 e3 (by rw [e7]; exact .nil) (by rw [e7]; exact .nil)
      exact z
    · have : sysModules = a := by simpa using hm
      rw [this] at ns
      simp at ns
/-- repr((text, thing)) -/
def rReprP (K : PySem.W.Frag) : List V → Hp → VK → Prop := fun xs H Q => ∃ (p : Addr) (t : Str) (v : V) (d : PyData), xs = [.ref p] ∧ SqT K H p [.str t, v] ∧ Tq K H v d ∧ Shw (.tuple [.str t, d]) ∧ (PyData.tuple [.str t, d]).depth ≤ 50 ∧ Q (.str (PyData.tuple [.str t, d]).shown) H
theorem call_reprP {k : Nat} (c : Clr X.A) (hr : Room k X.A) : CallR X (.builtin "repr") (rReprP X.K) := by
  intro pins s σ H xs us Q I r h
  obtain ⟨p, t, v, d, rfl, hs, hq, sw, dp, q⟩ := h
  cases r with
  | cons r1 r2 =>
    cases r2
    rename_i u
    cases (show u = Value.ref p from r1)
    obtain ⟨its, rv, ⟨o, ho, hc, n, hd⟩, _⟩ := I.tuple hs
    obtain ⟨u1, u2, rfl, q1, q2⟩ := vals2 rv
    obtain ⟨tk, rfl⟩ := (show ∃ tk, u1 = Value.str t tk from q1)
    obtain ⟨as, rd, hm⟩ := hq.reads I q2
    have rd2 : Reads s.heap (.ref p) (.tuple [.str t, d]) ([] ++ (as ++ [])) := Reads.tuple ho hc hd (.cons (.str t tk) (.cons rd .nil))
    have un := hr.units
    refine repr_of_reads' (s := s) rd2 sw.ok (fun z => ?_) c (by omega) (fun _ _ e => e) (fun h' t2 tk2 kp => ⟨.str _, H, I.kept kp, ⟨t2, rfl⟩, q⟩) sw.sz
    simp only [PyData.hasDict, PyData.hasDictAll, Bool.false_or, Bool.or_false] at z
    simpa using hm z
end
theorem rd_reprP {K : PySem.W.Frag} {H H0 : Hp} {M : List Addr} {L : Led} {Q : VK} {p : Addr} {t : Str} {v : V} {d : PyData} (S : Hs H0 M H L) (m : (p, HO.tup [.str t, v]) ∈ L) (h : Tq K H v d) (sw : Shw (.tuple [.str t, d])) (dp : (PyData.tuple [.str t, d]).depth ≤ 50)
    (k : Q (.str (PyData.tuple [.str t, d]).shown) H) : rReprP K [.ref p] H Q := ⟨p, t, v, d, rfl, S.tup m, h, sw, dp, k⟩
end Xc
namespace Xc
open PySem PySem.Spec PySem.Calls PyProof.Rows L2 Rs
section
variable {σ : L2.St} {H H0 : Hp} {M : List Addr} {L : Led} {Q : VK}
theorem rd_lstRg {te : L2.St → Hp → (Int → Int → Hp → Prop) → Prop} (h : te σ H fun a b H1 => RgOk a b ∧ ∀ q, H1 q = none → Q (.ref q) (upd H1 q (.lst (rgV a b)))) : tLstRg te σ H Q := h
theorem rd_rg1 {ta : TE} {R : Int → Int → Hp → Prop} (h : ta σ H fun x H1 => ∃ n, x = .int n ∧ R 0 n H1) : tRg1 ta σ H R := h
theorem rd_rg1v {n : Int} {R : Int → Prop} (h : R n) : ∃ m, V.int n = .int m ∧ R m := ⟨n, rfl, h⟩
theorem rd_rgNew {a b : Int} (S : Hs H0 M H L) (h1 : 0 ≤ a) (h2 : b ≤ 16777216) (h3 : a ≤ 16777216) (h4 : 0 ≤ b) (h : ∀ p H', H0 p = none → Hs H0 M H' ((p, .lst (rgV a b)) :: L) → Q (.ref p) H') : RgOk a b ∧ ∀ q, H q = none → Q (.ref q) (upd H q (.lst (rgV a b))) :=
  ⟨RgOk.of_le h1 h2 h3 h4, rd_newO S h⟩
end
end Xc

/-! Xc7: great numbers shown, dicts of plain pairs shown, truths counted, truths as numbers, ledgers begun anew -/
namespace Xc
open PySem PySem.Spec PySem.Calls PyProof.Rows L2 Rs
def Stat (K : PySem.W.Frag) : Prop := PySem.W.nsIn K cStatics "sys.int_max_str_digits" = some none
section
variable {prog : Program} {w : World} {A : Around} {E : Value → Shared → Prop} {s : Shared} {K : PySem.W.Frag}
/-- a whole number of less than 4300 figures that is no matter of _pylong -/
structure Fig (i : Int) : Prop where
  a : i.natAbs < 10 ^ 4300
  b : i.natAbs.log2 < 29000
theorem over_run {M : Model} {i : Int} {Q : Option Nat → Shared → Prop} (X : K.In s.heap) (st : Stat K) (f : Fig i) (q : Q none s) : wpAny M A (Builtin.overDigitLimit? i) Q E s := by
  unfold Builtin.overDigitLimit?
  by_cases h0 : i.natAbs.log2 < 1920
  · rw [if_pos h0]; exact wpAny_pure q
  · rw [if_neg h0]
    refine wpAny_bind ?_
    unfold Builtin.intMaxStrDigits
    refine wpAny_bind ((PySem.W.looks_nsIn X st).here ?_)
    refine wpAny_pure ?_
    have hb := f.b
    have h1 : ¬ (i.natAbs.log2 / 30 + 1 > 1000) := by omega
    dsimp only
    rw [if_neg h1]
    by_cases h2 : ((4300 : Nat) == 0 || decide (i.natAbs.log2 < 3 * 4300)) = true
    · rw [if_pos (by simpa using h2)]; exact wpAny_pure q
    · rw [if_neg (by simpa using h2), if_neg (Nat.not_le.mpr f.a)]; exact wpAny_pure q
theorem gives_big (i : Int) (t : Tok) (st : Stat K) (f : Fig i) : GivesAt (fun s => K.In s.heap) (Builtin.«int.__repr__» ⟨[.int i t], []⟩) (.str (toString i)) := by
  intro prog w A R s X h
  unfold Builtin.«int.__repr__»
  show wpAny _ _ (do let r ← Builtin.overDigitLimit? i; _) _ _ _
  refine wpAny_bind (over_run X st f ?_)
  exact (Gives.of_eq rfl : Gives _ (.str (toString i))) prog w A R s h
theorem reprObj_big {i : Int} {t : Tok} {Q : Value → Shared → Prop} (X : K.In s.heap) (st : Stat K) (f : Fig i) (hu : A.units < cLine) (h : Q (.str (toString i) s.toks) { s with toks := s.toks + 1 }) : wpAny (model prog w) A (pyReprObj (.int i t)) Q E s :=
  wpAny_pyReprObj_slot hu (typeIs_int s i t) F.slot_int_repr.toG (call_givesAt F.slot_int_repr (typeIs_int s i t) F.entry_int_repr (F.args_int_repr_1 _) (gives_big i t st f) X ⟨int_text_fits10 f.a, _, _, rfl, h⟩)
theorem reprK_big {as : List Addr} {h₀ : Heap} {d : Nat} {i : Int} {t : Tok} (X : K.In h₀) (st : Stat K) (f : Fig i) : ReprK prog w as h₀ d (.int i t) (toString i) := fun base hb A g E s Q hg hcl hu hk hQ => by
  have hn' : base ≤ sizeLine := by omega
  rw [pyReprUnder_leaf (v := .int i t) hn' (fun _ e => nomatch e)]
  unfold pyRepr
  exact wpAny_bind (reprObj_big (X.keeps hk) st f (by omega) (wpAny_pure (hQ s.heap _ fun _ _ e => e)))
end
/-! ### what is shown -/
/-- plain: no place in the heap -/
def plD : V → Option PyData
  | .non => some .none
  | .bl b => some (.bool b)
  | .int i => some (.int i)
  | .str x => some (.str x)
  | _ => none
def keyD : Key → PyData
  | .inl i => .int i
  | .inr x => .str x
inductive PlKv : List (Key × V) → List (PyData × PyData) → Prop where
  | nil : PlKv [] []
  | cons {k : Key} {v : V} {d : PyData} {kv : List (Key × V)} {kds : List (PyData × PyData)} : plD v = some d → PlKv kv kds → PlKv ((k, v) :: kv) ((keyD k, d) :: kds)
theorem plD_reads {h : Heap} {v : V} {d : PyData} {u : Value} (e : plD v = some d) (r : RelV v u) : Reads h u d [] := by
  cases v with
  | non => cases e; cases (show u = Value.none from r); exact .none
  | bl b => cases e; cases (show u = Value.bool b from r); exact .bool b
  | int i => cases e; obtain ⟨t, rfl⟩ := (show ∃ t, u = Value.int i t from r); exact .int i t
  | str x => cases e; obtain ⟨t, rfl⟩ := (show ∃ t, u = Value.str x t from r); exact .str x t
  | _ => cases e
theorem plKv_reads {P : Program} {w : World} {h : Heap} : ∀ {kv : List (Key × V)} {kds : List (PyData × PyData)} {vs : List (Key × Value)} {es : List DictEntry}, PlKv kv kds → KV kv vs → Pairs (mixKind P w) es vs →
    ReadsAll h (es.map (·.key)) (kds.map (·.1)) [] ∧ ReadsAll h (es.map (·.val)) (kds.map (·.2)) []
  | _, _, _, _, .nil, .nil, .nil => ⟨.nil, .nil⟩
  | _, _, _, _, .cons (k := k) e p, .cons ⟨e1, r⟩ q, .cons hk hv rest => by
    obtain ⟨h1, h2⟩ := plKv_reads p q rest
    refine ⟨?_, ?_⟩
    · refine ReadsAll.cons (as := []) (bs := []) ?_ h1
      dsimp only at e1
      rw [← e1] at hk
      rcases keyIs_shape hk with ⟨i, t, e2, e3⟩ | ⟨x, t, e2, e3⟩
      · show Reads h _ (keyD k) []
        rw [e2]; dsimp only; rw [e3]; exact .int i t
      · show Reads h _ (keyD k) []
        rw [e2]; dsimp only; rw [e3]; exact .str x t
    · refine ReadsAll.cons (as := []) (bs := []) ?_ h2
      dsimp only
      rw [hv]
      exact plD_reads e r
/-- data without dicts, a dict of plain pairs, a great number -/
inductive Tz (K : PySem.W.Frag) (H : Hp) : V → PyData → Prop where
  | dp {v : V} {d : PyData} (h : Dp K H v d) (s : d.showable = true) : Tz K H v d
  | dk {a : Addr} {kv : List (Key × V)} {kds : List (PyData × PyData)} (h : H a = some (.dK kv)) (p : PlKv kv kds) (s : (PyData.dict kds).showable = true) : Tz K H (.ref a) (.dict kds)
  | big {i : Int} (f : Fig i) : Tz K H (.int i) (.int i)
section
variable {X : Cx} {pins : List (Addr × Obj)} {σ : L2.St} {H : Hp} {s : Shared}
theorem Tz.shows (I : Inv X pins σ H s) (st : Stat X.K) {v : V} {d : PyData} {u : Value} (h : Tz X.K H v d) (r : RelV v u) (hz : d.shown.length ≤ sizeLine) (hd : d.depth ≤ 50) :
    ∃ bs, ReadAtMost s.heap d.depth bs ∧ ReprK X.prog X.w bs s.heap 50 u d.shown := by
  cases h with
  | dp h sw =>
    obtain ⟨as, q⟩ := Dp.reads I d v u h r
    obtain ⟨bs, h1, h2⟩ := ReprK.of_reads (prog := X.prog) (w := X.w) q sw (PyData.noDict_hsm (dp_noDict d v h)) hz
    exact ⟨bs, h1, h2.level_le hd⟩
  | @dk a kv kds h p sw =>
    cases (show u = Value.ref a from r)
    obtain ⟨_, ns, vs, kv', o, es, ep, e1, e2, e3, _, e5, _⟩ := dk_of I.hok h
    obtain ⟨r1, r2⟩ := plKv_reads (h := s.heap) p kv' e5
    have q : Reads s.heap (.ref a) (.dict kds) ([a] ++ [] ++ []) := Reads.dict (as := []) (bs := []) e1 e2.1 e3 r1 r2
    obtain ⟨bs, h1, h2⟩ := ReprK.of_reads (prog := X.prog) (w := X.w) q sw (fun _ hm => by
      have z : sysModules = a := by simpa using hm
      rw [z] at ns
      simp at ns) hz
    exact ⟨bs, h1, h2.level_le hd⟩
  | @big i f =>
    obtain ⟨t, rfl⟩ := (show ∃ t, u = Value.int i t from r)
    exact ⟨[], fun _ h => (nomatch h), by simp only [PyData.shown]; exact reprK_big I.kIn st f⟩
/-- repr((text, thing)) -/
def rReprZ (K : PySem.W.Frag) : List V → Hp → VK → Prop := fun xs H Q => ∃ (p : Addr) (t : Str) (v : V) (d : PyData), xs = [.ref p] ∧ SqT K H p [.str t, v] ∧ Tz K H v d ∧ (PyData.tuple [.str t, d]).shown.length ≤ sizeLine ∧ d.depth ≤ 30 ∧ Q (.str (PyData.tuple [.str t, d]).shown) H
theorem call_reprZ {k : Nat} (st : Stat X.K) (c : Clr X.A) (hr : Room k X.A) : CallR X (.builtin "repr") (rReprZ X.K) := by
  intro pins s σ H xs us Q I r h
  obtain ⟨p, t, v, d, rfl, hs, hq, sw, dp, q⟩ := h
  cases r with
  | cons r1 r2 =>
    cases r2
    rename_i u
    cases (show u = Value.ref p from r1)
    obtain ⟨its, rv, ⟨o, ho, hc, n, hd⟩, _⟩ := I.tuple hs
    obtain ⟨u1, u2, rfl, q1, q2⟩ := vals2 rv
    obtain ⟨tk, rfl⟩ := (show ∃ tk, u1 = Value.str t tk from q1)
    have un := hr.units
    have sz := sw
    rw [show (PyData.tuple [.str t, d]).shown = tupleText [reprText t, d.shown] by simp [PyData.shown, PyData.shownAll]] at sz q
    have z1 := Nat.le_trans (tupleText_mem_le (ts := [reprText t, d.shown]) (t := reprText t) (by simp)) sz
    have z2 := Nat.le_trans (tupleText_mem_le (ts := [reprText t, d.shown]) (t := d.shown) (by simp)) sz
    obtain ⟨bs, hb, rk⟩ := hq.shows I st q2 z2 (by omega)
    have hall : ReprAllK X.prog X.w bs s.heap 50 [.str t tk, u2] [reprText t, d.shown] := .cons (ReprK.of_is (ReprIs.str t tk z1) _ _ _) (.cons rk .nil)
    have hna : p ∉ bs := fun hm => by
      obtain ⟨d', as', r', hd'⟩ := hb p hm
      cases r' with
      | list h1 h2 h3 h4 => rw [ho] at h1; cases h1; rw [hc] at h2; exact absurd (Value.type.inj h2) (by decide)
      | dict h1 h2 h3 h4 h5 => rw [ho] at h1; cases h1; rw [hc] at h2; exact absurd (Value.type.inj h2) (by decide)
      | @tuple a' o' vs' n' xs' as' h1 h2 h3 h4 =>
        rw [ho] at h1; cases h1
        rw [hd] at h3; cases h3
        cases h4 with
        | cons ra rb =>
          cases rb with
          | cons rc rd =>
            cases rd
            have e9 : ∃ dd aa, Reads s.heap u2 dd aa ∧ dd.depth < d.depth := ⟨_, _, rc, by
              simp only [PyData.depth, PyData.depthAll] at hd'
              omega⟩
            obtain ⟨dd, aa, e10, e11⟩ := e9
            cases hq with
            | dp h _ =>
              obtain ⟨as, q9⟩ := Dp.reads I d v u2 h q2
              have := (PyProof.Rows.reads_det (fun _ _ e _ => e) q9 e10).1
              rw [this] at e11; omega
            | dk h p _ =>
              cases (show u2 = Value.ref _ from q2)
              obtain ⟨_, ns, vs, kv', o, es, ep, e1, e2, e3, _, e5, _⟩ := dk_of I.hok h
              obtain ⟨r1, r2⟩ := plKv_reads (h := s.heap) p kv' e5
              have q9 := Reads.dict (as := []) (bs := []) e1 e2.1 e3 r1 r2
              have := (PyProof.Rows.reads_det (fun _ _ e _ => e) q9 e10).1
              rw [this] at e11; omega
            | big f => simp only [PyData.depth] at e11; omega
    refine call_repr_slot (by omega) ⟨o, ho, hc⟩ F.slot_tuple_repr ?_
    exact call_tuple_reprK ho hc hd hna hall c (fun b _ => Clear.nil b) (by show X.A.units + 1 + (50 + 1) < cLine; omega) (fun _ _ e => e) (fun h' t2 tk2 kp => ⟨_, _, rfl, ⟨.str _, H, I.kept kp, ⟨t2, rfl⟩, q⟩⟩) sz
end
theorem rd_reprZ {K : PySem.W.Frag} {H H0 : Hp} {M : List Addr} {L : Led} {Q : VK} {p : Addr} {t : Str} {v : V} {d : PyData} (S : Hs H0 M H L) (m : (p, HO.tup [.str t, v]) ∈ L) (h : Tz K H v d) (sw : (PyData.tuple [.str t, d]).shown.length ≤ sizeLine) (dp : d.depth ≤ 30)
    (k : Q (.str (PyData.tuple [.str t, d]).shown) H) : rReprZ K [.ref p] H Q := ⟨p, t, v, d, rfl, S.tup m, h, sw, dp, k⟩
end Xc
namespace Xc
open PySem PySem.Spec PySem.Calls PyProof.Rows L2 Rs
/-! ### truths counted, truths as numbers -/
def rCntB (K : PySem.W.Frag) : V → List V → Hp → VK → Prop := fun x xs H Q => ∃ (p : Addr) (bs : List Bool) (k : Bool), x = .ref p ∧ xs = [.bl k] ∧ SqL K H p (bs.map V.bl) ∧ Q (.int (PySem.Spec.countIn (.bool k) (bs.map PyData.bool))) H
def b01 (b : Bool) : Int := if b = true then 1 else 0
section
variable {X : Cx}
theorem bools_read {h : Heap} : ∀ {bs : List Bool} {vs : List Value}, Vals (bs.map V.bl) vs → ReadsAll h vs (bs.map PyData.bool) []
  | [], _, .nil => .nil
  | b :: bs, _, .cons r q => by
    rename_i u vs
    cases (show u = Value.bool b from r)
    exact ReadsAll.cons (as := []) (bs := []) (.bool b) (bools_read q)
theorem mt_bcount : MtR X "list.count" (rCntB X.K) := by
  intro pins s σ H x xs v us Q I rx rxs h
  obtain ⟨p, bs, k, rfl, rfl, hs, q⟩ := h
  cases rx
  obtain ⟨u, rfl, ru⟩ := rxs.one
  cases (show u = Value.bool k from ru)
  obtain ⟨its, rv, ⟨o, n, ho, hc, hdn, hd⟩, hlen⟩ := I.list hs
  exact count_list_bools (hp := s.heap) ⟨o, ho, hc, n, hd⟩ (bools_read rv) (by simp [Shape.has]) ⟨.int _, H, I.tok _, ⟨_, rfl⟩, q⟩
def rBI (f : Int → Int → Int) : R2 := fun x y H Q => ∃ (b : Bool) (i : Int), x = .bl b ∧ y = .int i ∧ Q (.int (f (b01 b) i)) H
def rIB (f : Int → Int → Int) : R2 := fun x y H Q => ∃ (i : Int) (b : Bool), x = .int i ∧ y = .bl b ∧ Q (.int (f i (b01 b))) H
theorem op_addBI : OpR X (binaryOp .Add) (rBI (· + ·)) := by
  intro pins s σ H x y v u Q I rx ry h
  obtain ⟨b, i, rfl, rfl, q⟩ := h
  cases (show v = Value.bool b from rx)
  obtain ⟨t, rfl⟩ := (show ∃ t, u = Value.int i t from ry)
  exact PySem.IntBool.add_bool_int ⟨.int _, H, I.tok _, ⟨_, rfl⟩, q⟩
theorem op_mulIB : OpR X (binaryOp .Mult) (rIB (· * ·)) := by
  intro pins s σ H x y v u Q I rx ry h
  obtain ⟨i, b, rfl, rfl, q⟩ := h
  obtain ⟨t, rfl⟩ := (show ∃ t, v = Value.int i t from rx)
  cases (show u = Value.bool b from ry)
  exact PySem.IntBool.mul_int_bool ⟨.int _, H, I.tok _, ⟨_, rfl⟩, q⟩
end
section
variable {H H0 : Hp} {M : List Addr} {L : Led} {Q : VK} {a : Addr} {K : PySem.W.Frag} {σ : L2.St}
theorem rd_cntB {xs : List V} {bs : List Bool} {k : Bool} (S : Hs H0 M H L) (m : (a, HO.lst xs) ∈ L) (e : xs = bs.map V.bl) (h : Q (.int (PySem.Spec.countIn (.bool k) (bs.map PyData.bool))) H) : rCntB K (.ref a) [.bl k] H Q := by
  subst e
  exact ⟨a, bs, k, rfl, rfl, S.lst m, h⟩
theorem rd_bi2 {f : Int → Int → Int} {b : Bool} {i : Int} (h : Q (.int (f (b01 b) i)) H) : rBI f (.bl b) (.int i) H Q := ⟨b, i, rfl, rfl, h⟩
theorem rd_ib2 {f : Int → Int → Int} {b : Bool} {i : Int} (h : Q (.int (f i (b01 b))) H) : rIB f (.int i) (.bl b) H Q := ⟨i, b, rfl, rfl, h⟩
theorem rd_divB {i j : Int} {b : Nat} (hj : 0 < j) (hb : j.natAbs < 2 ^ b) (h0 : 0 < b) (h9 : b ≤ 9000) (h : Q (.int (i / j)) H) : rI CDivW (fun i j => .int (i / j)) (.int i) (.int j) H Q :=
  ⟨i, j, rfl, rfl, wide_div (b := b) hj hb h0 h9, h⟩
theorem rd_mulB {i j : Int} {a b : Nat} (ha : i.natAbs < 2 ^ a) (hb : j.natAbs < 2 ^ b) (h0 : 0 < a) (h1 : 0 < b) (h9 : a + b ≤ 1000000) (h : Q (.int (i * j)) H) : rI CMulW (fun i j => .int (i * j)) (.int i) (.int j) H Q :=
  ⟨i, j, rfl, rfl, wide_mul ha hb h0 h1 h9, h⟩
theorem rd_isBl {a b : Bool} (h : Q (.bl (decide (a = b))) H) : rIsB (.bl a) (.bl b) H Q := ⟨a, b, rfl, rfl, h⟩
theorem rd_notBl {a b : Bool} (h : Q (.bl (!decide (a = b))) H) : rNotB (.bl a) (.bl b) H Q := ⟨a, b, rfl, rfl, h⟩
/-- a ledger begun anew behind what leaves all but tables -/
theorem Hs.anew {H' : Hp} (S : Hs H0 M H L) (k : ∀ b o, H b = some o → (∀ ps, o ≠ .tbl ps) → H' b = some o) (nt : ∀ q ∈ L, ∀ ps, q.2 ≠ .tbl ps) : Hs H' (L.map (·.1)) H' L :=
  Rs.Hs.start H' _ L S.nd (fun q hq => k _ _ (S.is q hq) (nt q hq)) fun b hb z => by
    obtain ⟨q, hq, rfl⟩ := List.mem_map.mp hb
    rw [k _ _ (S.is q hq) (nt q hq)] at z
    cases z
end
end Xc

/-! Xc8: ledgers over all but tables; comprehensions whose steps change tables -/
namespace Xc
open PySem PySem.Spec PySem.Calls PyProof.Rows L2 Rs
/-- the heap less its tables -/
def noT (H : Hp) : Hp := fun b => match H b with | some (.tbl _) => none | o => o
theorem noT_some {H : Hp} {b : Addr} {o : HO} (e : H b = some o) (n : ∀ ps, o ≠ .tbl ps) : noT H b = some o := by
  unfold noT
  rw [e]
  cases o <;> first | rfl | exact absurd rfl (n _)
theorem noT_of {H : Hp} {b : Addr} {o : HO} (e : noT H b = some o) : H b = some o ∧ ∀ ps, o ≠ .tbl ps := by
  unfold noT at e
  split at e
  · cases e
  · rename_i h
    exact ⟨e, fun ps z => h ps (by rw [e, z])⟩
theorem noT_none {H : Hp} {b : Addr} (e : H b = none) : noT H b = none := by
  unfold noT
  rw [e]
section
variable {H H0 H1 H2 : Hp} {M : List Addr} {L : Led} {Q : VK} {K : PySem.W.Frag} {σ : L2.St}
theorem Hs.noT0 (H : Hp) : Hs (noT H) [] H [] := ⟨List.nodup_nil, fun q hq => (nomatch hq), fun b u e _ => (noT_of e).1, fun b hb => nomatch hb⟩
theorem Hs.begin (L : Led) (nd : (L.map (·.1)).Nodup) (is : ∀ q ∈ L, H q.1 = some q.2) : Hs (noT H) (L.map (·.1)) H L :=
  ⟨nd, is, fun b u e _ => (noT_of e).1, fun b hb z => by
    obtain ⟨q, hq, rfl⟩ := List.mem_map.mp hb
    rw [is q hq] at z
    cases z⟩
theorem Hs.extN (S : Hs (noT H0) M H1 L) (e : LamX.ExtN H1 H2) (nt : ∀ q ∈ L, ∀ ps, q.2 ≠ .tbl ps) (m : ∀ b ∈ M, b ∈ L.map (·.1)) : Hs (noT H0) M H2 L :=
  ⟨S.nd, fun q hq => e _ _ (S.is q hq) (nt q hq), fun b u eb hm => e _ _ (S.old b u eb hm) (noT_of eb).2, fun b hb z => by
    obtain ⟨q, hq, rfl⟩ := List.mem_map.mp (m b hb)
    rw [e _ _ (S.is q hq) (nt q hq)] at z
    cases z⟩
theorem Hs.toN (S : Hs (noT H0) [] H1 L) : LamX.ExtN H0 H1 := fun b o e n => S.old b o (noT_some e n) (fun z => nomatch z)
/-- what holds of the heap whatever lists are made or written -/
structure Lsts (J : Hp → Prop) : Prop where
  nw : ∀ H D, J H → H D = none → J (upd H D (.lst []))
  up : ∀ H D xs ys, J H → H D = some (.lst xs) → J (upd H D (.lst ys))
theorem tabs_upd {TT : List (Addr × Str)} {H : Hp} {D : Addr} {xs ys : List V} (h : LamX.Tabs TT H) (e : H D = some (.lst xs)) : LamX.Tabs TT (upd H D (.lst ys)) := fun p hp => by
  obtain ⟨ps, h1, h2, h3⟩ := h p hp
  have ne : ∀ b o, H b = some o → (∀ xs, o ≠ .lst xs) → upd H D (.lst ys) b = some o := fun b o eb n => by
    rw [upd_ne (fun z => n xs (by rw [z, e] at eb; exact (Option.some.inj eb).symm))]
    exact eb
  refine ⟨ps, ne _ _ h1 (fun _ z => by cases z), h2, fun pos cv hc => ?_⟩
  obtain ⟨c, e1, e2⟩ := h3 pos cv hc
  exact ⟨c, e1, ne _ _ e2 (fun _ z => by unfold LamX.CodeO at z; cases z)⟩
theorem lsts_tabs (TT : List (Addr × Str)) : Lsts (LamX.Tabs TT) :=
  ⟨fun H D h e => h.ext fun b u eb => by rw [upd_ne (ne_of_none eb e)]; exact eb, fun H D xs ys h e => tabs_upd h e⟩
def lcSkipJ (J : Hp → Prop) (H0 : Hp) (M : List Addr) (L : Led) (R1 : List V → Prop) (D : Addr) (H : Hp) : Prop := J H ∧ lcSkip H0 M L R1 D H
def lcPutJ (J : Hp → Prop) (H0 : Hp) (M : List Addr) (L : Led) (R1 : List V → Prop) (D : Addr) (y : V) (H : Hp) : Prop := ∃ acc, H D = some (.lst acc) ∧ acc.length < sizeLine ∧ lcSkipJ J H0 M L R1 D (upd H D (.lst (acc ++ [y])))
theorem rd_lcPutJ {J : Hp → Prop} {D : Addr} {y : V} {acc : List V} {L2 L3 : Led} {R1 : List V → Prop} (l : Lsts J) (j : J H) (S : Hs H0 M H L2) (c : Chg D (.lst acc) (.lst (acc ++ [y])) L2 L3) (n : H0 D = none) (hl : acc.length < sizeLine) (sub : ((D, HO.lst (acc ++ [y])) :: L).Sublist L3) (r : R1 (acc ++ [y])) : lcPutJ J H0 M L R1 D y H :=
  ⟨acc, S.is _ c.mem, hl, l.up _ _ _ _ j (S.is _ c.mem), n, _, r, (S.put c (Or.inl n)).sub sub⟩
theorem lcwj_list {J : Hp → Prop} {g : TG} {tt : TT} {te : TE} {a : Addr} {xs : List V} {vs : List Nat} (l : Lsts J) (j : J H) (S : Hs H0 M H L) (R : Nat → List V → Prop) (r0 : R 0 []) (hl : ∀ H' acc D, Hs H0 M H' ((D, .lst acc) :: L) → SqL K H' a xs)
    (hs : ∀ D i x acc H', xs[i]? = some x → R i acc → H0 D = none → J H' → Hs H0 M H' ((D, .lst acc) :: L) → g x (wipe σ vs) H' fun σ2 H2 => wipe σ2 vs = wipe σ vs ∧ tt σ2 H2 fun b H3 => if b = true then te σ2 H3 fun y H4 => lcPutJ J H0 M L (R (i + 1)) D y H4 else lcSkipJ J H0 M L (R (i + 1)) D H3)
    (hd : ∀ D acc H', R xs.length acc → H0 D = none → J H' → Hs H0 M H' ((D, .lst acc) :: L) → Q (.ref D) H') : lcW (Itl K a) g tt te vs σ H Q := by
  intro D hD
  have S1 := S.new hD (.lst [])
  refine lc_list (xs := xs) (fun i H' => lcSkipJ J H0 M L (R i) D H') ⟨l.nw _ _ j hD, S1.1, [], r0, S1.2⟩ (fun i H' _ ⟨_, _, acc, _, S'⟩ => hl H' acc D S') ?_ ?_
  · rintro i x H' hi ⟨j', n0, acc, r, S'⟩
    exact hs D i x acc H' hi r n0 j' S'
  · rintro H' ⟨j', n0, acc, r, S'⟩
    exact hd D acc H' r n0 j' S'
theorem lcwj_tup {J : Hp → Prop} {g : TG} {tt : TT} {te : TE} {a : Addr} {xs : List V} {vs : List Nat} (l : Lsts J) (j : J H) (S : Hs H0 M H L) (R : Nat → List V → Prop) (r0 : R 0 []) (hl : ∀ H' acc D, Hs H0 M H' ((D, .lst acc) :: L) → SqT K H' a xs)
    (hs : ∀ D i x acc H', xs[i]? = some x → R i acc → H0 D = none → J H' → Hs H0 M H' ((D, .lst acc) :: L) → g x (wipe σ vs) H' fun σ2 H2 => wipe σ2 vs = wipe σ vs ∧ tt σ2 H2 fun b H3 => if b = true then te σ2 H3 fun y H4 => lcPutJ J H0 M L (R (i + 1)) D y H4 else lcSkipJ J H0 M L (R (i + 1)) D H3)
    (hd : ∀ D acc H', R xs.length acc → H0 D = none → J H' → Hs H0 M H' ((D, .lst acc) :: L) → Q (.ref D) H') : lcW (Itt K a) g tt te vs σ H Q := by
  intro D hD
  have S1 := S.new hD (.lst [])
  refine lc_tup (xs := xs) (fun i H' => lcSkipJ J H0 M L (R i) D H') ⟨l.nw _ _ j hD, S1.1, [], r0, S1.2⟩ (fun i H' _ ⟨_, _, acc, _, S'⟩ => hl H' acc D S') ?_ ?_
  · rintro i x H' hi ⟨j', n0, acc, r, S'⟩
    exact hs D i x acc H' hi r n0 j' S'
  · rintro H' ⟨j', n0, acc, r, S'⟩
    exact hd D acc H' r n0 j' S'
theorem Hs.toT (S : Hs H0 M H L) : Hs (noT H0) M H L := ⟨S.nd, S.is, fun b o e hm => S.old b o (noT_of e).1 hm, S.mu⟩
/-- the heap less its tables, with the tables and the code objects that stand at H3 -/
def rb (H0 H3 : Hp) : Hp := fun b => match H3 b with | some (.tbl ps) => some (.tbl ps) | some (.ext r) => some (.ext r) | _ => noT H0 b
def MLst (M : List Addr) (H : Hp) : Prop := ∀ b ∈ M, ∃ xs, H b = some (.lst xs)
theorem Hs.toR {H3 : Hp} (S : Hs (noT H0) M H3 L) : Hs (rb H0 H3) M H3 L := by
  refine ⟨S.nd, S.is, fun b o e hm => ?_, S.mu⟩
  unfold rb at e
  split at e
  · rename_i h; rw [h]; exact e
  · rename_i h; rw [h]; exact e
  · exact S.old b o e hm
theorem Hs.ofR {H3 H' : Hp} {L' : Led} (S : Hs (noT H0) M H3 L) (S' : Hs (rb H0 H3) M H' L') : Hs (noT H0) M H' L' := by
  refine ⟨S'.nd, S'.is, fun b o e hm => S'.old b o ?_ hm, S'.mu⟩
  have h3 := S.old b o e hm
  unfold rb
  rw [h3]
  split
  · rename_i h; exact h.symm
  · rename_i h; exact h.symm
  · exact e
theorem Hs.tabR {H3 H' : Hp} {L' : Led} {TT : List (Addr × Str)} (S' : Hs (rb H0 H3) M H' L') (m : MLst M H3) (t : LamX.Tabs TT H3) : LamX.Tabs TT H' := fun p hp => by
  obtain ⟨ps, h1, h2, h3⟩ := t p hp
  have nm : ∀ b o, H3 b = some o → (∀ xs, o ≠ .lst xs) → b ∉ M := fun b o e n hm => by
    obtain ⟨xs, z⟩ := m b hm
    rw [e] at z
    exact n xs (Option.some.inj z)
  refine ⟨ps, S'.old _ _ (by unfold rb; rw [h1]) (nm _ _ h1 (fun _ z => by cases z)), h2, fun pos cv hc => ?_⟩
  obtain ⟨c, e1, e2⟩ := h3 pos cv hc
  exact ⟨c, e1, S'.old _ _ (by unfold rb; rw [e2]; rfl) (nm _ _ e2 (fun _ z => by unfold LamX.CodeO at z; cases z))⟩
theorem rb_none {H3 : Hp} {a : Addr} {o : HO} (h : noT H0 a = none) (e : H3 a = some o) (n1 : ∀ ps, o ≠ .tbl ps) (n2 : ∀ r, o ≠ .ext r) : rb H0 H3 a = none := by
  unfold rb
  rw [e]
  split
  · rename_i z; exact absurd (Option.some.inj z) (n1 _)
  · rename_i z; exact absurd (Option.some.inj z) (n2 _)
  · exact h
end
end Xc
namespace Xc
open PySem PySem.Spec PySem.Calls PyProof.Rows L2 Rs
/-- a + b of lists, handed in ones too -/
def rCatL (K : PySem.W.Frag) : R2 := fun x y H Q => ∃ l b xs zs, x = .ref l ∧ y = .ref b ∧ SqL K H l xs ∧ SqL K H b zs ∧ xs.length + zs.length ≤ sizeLine ∧ ∀ p, H p = none → Q (.ref p) (upd H p (.lst (xs ++ zs)))
theorem op_catL {X : Cx} : OpR X (binaryOp .Add) (rCatL X.K) := by
  intro pins s σ H x y v u Q I rx ry h
  obtain ⟨l, b, xs, zs, rfl, rfl, hl, hb, hz, q⟩ := h
  cases (show v = Value.ref l from rx)
  cases (show u = Value.ref b from ry)
  obtain ⟨its, r1, ⟨⟨cls, dd, data, sl⟩, n, ho, hc, hdn, hd⟩, _⟩ := I.list hl
  obtain ⟨its2, r2, ⟨⟨cls2, dd2, data2, sl2⟩, n2, ho2, hc2, hdn2, hd2⟩, _⟩ := I.list hb
  simp only at hc hd hc2 hd2
  subst hc hd hc2 hd2
  have e : its.toArray ++ its2.toArray = (its ++ its2).toArray := by simp
  refine concat_meets ⟨_, ho, rfl⟩ ⟨_, ho2, rfl⟩ noFill_list_add seq_list_add PySem.F.slot_list_add PySem.F.entry_list_add (PySem.F.args_list_add_2 _ _) (list_addW l b its.toArray its2.toArray n n2 dd dd2 sl sl2 (by rw [List.size_toArray, List.size_toArray, ← r1.length, ← r2.length]; exact hz)) ⟨ho, ho2, ?_⟩
  rw [e]
  exact ⟨.ref _, _, I.lnew (t' := s.toks) (r1.append r2) (by rw [List.length_append]; omega), rfl, q _ I.fresh⟩
end Xc

/-! Xd1: enumerate of a tuple -/
namespace Xd
open PySem PySem.Spec PySem.Calls PyProof.Rows L2 Rs
section
variable {prog : Program} {w : World} {A : Around} {E : Value → Shared → Prop} {s : Shared}
theorem tnext {ti tp : Addr} {j : Nat} {vs : Array Value} {y : Value} {Q : Value → Shared → Prop} (hi : s.heap.IsTupleIter ti tp j) (ht : s.heap.IsTuple tp vs) (hy : vs[j]? = some y)
    (k : ∀ h', h'.IsTupleIter ti tp (j + 1) → Heap.SameBut ti s.heap h' → Q y { s with heap := h' }) : wpAny (model prog w) A (Builtin.SmallTypes.nextOf (.ref ti)) Q E s := by
  obtain ⟨oi, hoi, hci, hdi⟩ := id hi
  obtain ⟨ot, hot, _, nt, hdt⟩ := ht
  unfold Builtin.SmallTypes.nextOf
  refine wpAny_bind (wpAny_callSpecial?_slot (name := Str.ofString "__next__") hi.typeIs F.slot_tuple_iterator_next (wpAny_call_entry F.slot_tuple_iterator_next hi.typeIs F.entry_tuple_iterator_next ?_ (F.args_tuple_iterator_next_1 _)))
  show wpAny _ _ (field (.ref ti) 0 >>= _) _ _ s
  refine wpAny_bind (wpAny_field hoi hdi (x := .ref tp) rfl ?_)
  show wpAny _ _ (if (Value.ref tp == Value.none) = true then _ else _) _ _ s
  rw [if_neg (show ¬ ((Value.ref tp == Value.none) = true) from Bool.false_ne_true)]
  show wpAny _ _ (field (.ref ti) 1 >>= _) _ _ s
  refine wpAny_bind (wpAny_field hoi hdi (x := .int j 0) rfl ?_)
  show wpAny _ _ (seqItems? (.ref tp) >>= _) _ _ s
  refine wpAny_bind (wpAny_seqItems hot hdt ?_)
  simp only [Int.toNat_natCast, hy]
  refine wpAny_bind (wpAny_setField hoi hdi (by simp) (wpAny_pure ⟨y, rfl, wpAny_pure (k _ ?_ (Heap.SameBut.update ..))⟩))
  exact ⟨_, Heap.get?_update_self _ hoi (Obj.isFreed_of_fields (Obj.data_mapFields hdi _)), (Obj.cls_mapFields ..).trans hci, by rw [Obj.data_mapFields hdi]; simp [rawInt]⟩
theorem tlast {ti tp : Addr} {j : Nat} {vs : Array Value} {Q : Value → Shared → Prop} (hh : A.handled = none) (hi : s.heap.IsTupleIter ti tp j) (ht : s.heap.IsTuple tp vs) (hy : vs[j]? = none)
    (k : ∀ h' e, Heap.ExtBut ti s.heap h' → (∃ o, h'.get? e = some o ∧ o.cls = .type "StopIteration") → E (.ref e) { s with heap := h' }) : wpAny (model prog w) A (Builtin.SmallTypes.nextOf (.ref ti)) Q E s := by
  obtain ⟨oi, hoi, hci, hdi⟩ := id hi
  obtain ⟨ot, hot, _, nt, hdt⟩ := ht
  unfold Builtin.SmallTypes.nextOf
  refine wpAny_bind (wpAny_callSpecial?_slot (name := Str.ofString "__next__") hi.typeIs F.slot_tuple_iterator_next (wpAny_call_entry F.slot_tuple_iterator_next hi.typeIs F.entry_tuple_iterator_next ?_ (F.args_tuple_iterator_next_1 _)))
  show wpAny _ _ (field (.ref ti) 0 >>= _) _ _ s
  refine wpAny_bind (wpAny_field hoi hdi (x := .ref tp) rfl ?_)
  show wpAny _ _ (if (Value.ref tp == Value.none) = true then _ else _) _ _ s
  rw [if_neg (show ¬ ((Value.ref tp == Value.none) = true) from Bool.false_ne_true)]
  show wpAny _ _ (field (.ref ti) 1 >>= _) _ _ s
  refine wpAny_bind (wpAny_field hoi hdi (x := .int j 0) rfl ?_)
  show wpAny _ _ (seqItems? (.ref tp) >>= _) _ _ s
  refine wpAny_bind (wpAny_seqItems hot hdt ?_)
  simp only [Int.toNat_natCast, hy]
  refine wpAny_bind (wpAny_rule (wpAny_bind (wpAny_setField hoi hdi (by simp) ?_)))
  show wpAny _ _ ((newExc (.type "StopIteration") []) >>= _) _ _ _
  refine wpAny_bind ?_
  (simp only [newExc, newTuple]); refine wpAny_bind (wpAny_newObj_type ?_ (by size_fits))
  refine wpAny_bind (m := firstArgMember _ _) (wpAny_of_eq (a := .none) (by first | rfl | (simp only [firstArgMember]; rfl)) ?_)
  (refine wpAny_newObj_type ?_ (by size_fits)); simp only [raiseNew]
  refine wpAny_bind (wpAny_handled ?_)
  first
    | rw [show A.in1.handled = none from hh]
    | rw [hh]
  exact wpAny_bind (wpAny_pure (wpAny_throw (k _ _ (((Heap.SameBut.update ..).extBut.push _).push _) ⟨_, Heap.get?_push_size _ rfl, rfl⟩)))
end
theorem tdraws {prog : Program} {w : World} {A : Around} (hh : A.handled = none) (ti tp : Addr) (ne : tp ≠ ti) (vs : Array Value) :
    Draws prog w A ti [ti, tp] vs.size (fun j v => vs[j]? = some v) (fun j h => h.IsTupleIter ti tp j ∧ h.IsTuple tp vs) where
  live := fun _ _ ⟨⟨o, ho, _⟩, _⟩ => ⟨o, ho⟩
  frame := fun _ _ _ ⟨⟨o, ho, r⟩, ⟨o2, ho2, r2⟩⟩ k => ⟨⟨o, k ti (by simp) o ho, r⟩, ⟨o2, k tp (by simp) o2 ho2, r2⟩⟩
  item := fun j s Q E hj ⟨a, b⟩ k => tnext a b (y := vs[j]) (by simp [hj]) fun h' hi' hs' => k _ h' s.toks (by simp [hj]) ⟨hi', b.extBut hs'.extBut ne⟩ hs'
  done := fun s Q E ⟨a, b⟩ k => tlast hh a b (by simp) k
end Xd
namespace Xd
open PySem PySem.Spec PySem.Calls PyProof.Rows L2 Rs
abbrev tit (tp : Addr) : Obj := { cls := .type "tuple_iterator", data := .fields #[.ref tp, .int 0 0] }
abbrev eno (it : Addr) : Obj := { cls := .type "enumerate", data := .fields #[.none, .bool false, .ref it, rawInt 0, .none, .none] }
theorem meets_new_tup (tp : Addr) (ot : Obj) (vs : Array Value) (hc : ot.cls = .type "tuple") (n : Nat) (hd : ot.data = .seq vs n) :
    Meets (Builtin.«enumerate.__new__» ⟨[.type "enumerate", .ref tp], []⟩) (fun _ R s => s.heap.get? tp = some ot ∧ R (.ok (.ret (.ref (s.heap.push (tit tp)).objs.size))) { s with heap := (s.heap.push (tit tp)).push (eno s.heap.objs.size) }) :=
  .of_wp fun prog w A R s h => by
    obtain ⟨hp, g, d, tk, os⟩ := s
    obtain ⟨hl, h⟩ := h
    have hsub := sub_enumerate
    have hL : Heap.IsTuple (Shared.heap ⟨hp, g, d, tk, os⟩) tp vs := ⟨_, hl, hc, n, hd⟩
    obtain ⟨cl, dc, dt, sl⟩ := ot
    dsimp only at hc hd
    subst hc hd
    wp_walk using AutoSeq1.wpAny_loadPart' hl
    refine wpAny_stack_any fun st => wpAny_pure ?_
    split
    · rename_i c _ _ _ _ _
      cases (c == Value.type "enumerate") <;> (wp_walk using AutoSeq1.wpAny_loadPart' hl, wpAny_pyIter_tuple hL; exact ⟨_, rfl, h⟩)
    · (wp_walk using AutoSeq1.wpAny_loadPart' hl, wpAny_pyIter_tuple hL); exact ⟨_, rfl, h⟩
section
variable {prog : Program} {w : World} {A : Around} {E : Value → Shared → Prop} {s : Shared}
theorem call_enum_tup {tp : Addr} {vs : Array Value} {Q : Value → Shared → Prop} (hL : s.heap.IsTuple tp vs)
    (k : ∀ h', IsEnum h' (s.heap.objs.size + 1) s.heap.objs.size 0 .none → h'.IsTupleIter s.heap.objs.size tp 0 → (∀ b o, s.heap.get? b = some o → h'.get? b = some o) → Q (.ref (s.heap.objs.size + 1)) { s with heap := h' }) :
    wpAny (model prog w) A (call (.type "enumerate") [.ref tp]) Q E s := by
  obtain ⟨ot, ho, hc, n, hd⟩ := hL
  refine callType_new F.called_enumerate (by decide) (F.typeCall_enumerate_1 _) (F.newCall_enumerate_1 _) (fun obj => F.args_object_init_2 obj _) F.entry_enumerate_new (meets_new_tup tp ot vs hc n hd) ⟨ho, ?_⟩
  have hz : (s.heap.push (tit tp)).objs.size = s.heap.objs.size + 1 := Heap.size_push ..
  show _ ∧ _
  rw [hz]
  have he : IsEnum ((s.heap.push (tit tp)).push (eno s.heap.objs.size)) (s.heap.objs.size + 1) s.heap.objs.size 0 .none := by
    have z := Heap.get?_push_size (s.heap.push (tit tp)) (o := eno s.heap.objs.size) rfl
    rw [hz] at z
    exact z
  exact ⟨⟨_, he, rfl⟩, k _ he ⟨_, Heap.get?_push_of_some _ (Heap.get?_push_size _ rfl), rfl, rfl⟩ fun b o x => Heap.get?_push_of_some _ (Heap.get?_push_of_some _ x)⟩
end
end Xd
namespace Xd
open PySem PySem.Spec PySem.Calls PyProof.Rows L2 Rs
theorem ne_cls {h : Heap} {a b : Addr} {n m : String} {o p : Obj} (ha : h.get? a = some o) (hb : h.get? b = some p) (ca : o.cls = .type n) (cb : p.cls = .type m) (ne : n ≠ m) : a ≠ b := fun z => by
  rw [z, hb] at ha
  cases ha
  rw [ca] at cb
  exact ne (Value.type.inj cb)
theorem tend {prog : Program} {w : World} {A : Around} {E : Value → Shared → Prop} {s : Shared} {e ti tp : Addr} {j : Nat} {vs : Array Value} {i : Int} {old : Value} {Q : Option Value → Shared → Prop} (hh : A.handled = none) (he : IsEnum s.heap e ti i old)
    (hi : s.heap.IsTupleIter ti tp j) (ht : s.heap.IsTuple tp vs) (hy : vs[j]? = none) (k : ∀ h', Heap.ExtBut ti s.heap h' → Q none { s with heap := h' }) : wpAny (model prog w) A (pyNext (.ref e)) Q E s := by
  have ty : s.TypeIs (.ref e) "enumerate" := ⟨_, he, rfl⟩
  unfold pyNext
  refine wpAny_bind (wpAny_attempt (wpAny_callSpecial?_slot (name := Str.ofString "__next__") ty F.slot_enumerate_next (wpAny_call_entry F.slot_enumerate_next ty F.entry_enumerate_next ?_ (F.args_enumerate_next_1 _))))
  show wpAny _ _ (bind (field (.ref e) 2) _) _ _ _
  refine wpAny_bind (wpAny_field he rfl (x := .ref ti) rfl ?_)
  refine wpAny_bind (tlast hh hi ht hy fun h' x hx hs => ?_)
  obtain ⟨ox, hox, hcx⟩ := hs
  exact wpAny_bind (wpAny_isInstance (T := "StopIteration") (b := true) ⟨ox, hox, hcx⟩ isSubtype_stop (wpAny_pure (k _ hx)))
/-- the tuple at a as it stands at each turn, number and item in a new pair -/
def IteT (K : PySem.W.Frag) (a : Addr) : It :=
  ⟨fun i H => ∃ (xs : List V) (x : V), SqT K H a xs ∧ xs[i]? = some x, fun i H v H' => ∃ (T : Addr) (x : V), v = .ref T ∧ H T = none ∧ H' = upd H T (.tup [.int (i : Nat), x]) ∧ ∀ xs, SqT K H a xs → xs[i]? = some x, fun i H => ∃ xs : List V, SqT K H a xs ∧ xs.length ≤ i⟩
theorem turn_eT {P : Program} {w : World} {K : PySem.W.Frag} {elts : List Expr} {kk : Nat} {tpos : Pos} (a e ti : Addr) :
    Turn P w K (.Tuple elts kk tpos) (IteT K a) [e, ti] e (fun i h => (∃ old, IsEnum h e ti ((i : Nat) : Int) old) ∧ h.IsTupleIter ti a i ∧ e ≠ ti) where
  mem := List.mem_cons_self
  obj := fun i h ⟨⟨old, he⟩, ⟨o, ho, hc, hd⟩, _⟩ b hb => by
    rcases (show b = e ∨ b = ti by simpa using hb) with rfl | rfl
    · exact ⟨_, he, fun v z => nomatch z⟩
    · exact ⟨o, ho, fun v z => by rw [hd] at z; cases z⟩
  keep := fun i h h' ⟨⟨old, he⟩, ⟨o, ho, r⟩, ne⟩ k => ⟨⟨old, k e (by simp) _ he⟩, ⟨o, k ti (by simp) o ho, r⟩, ne⟩
  item := by
    intro X hP hw hK hc i pins s σ H E I hf ⟨⟨old, he⟩, hit, hne⟩ ⟨xs, x, hq, hx⟩
    subst hP hw hK
    obtain ⟨its, rv, tpl, hz⟩ := I.tuple hq
    obtain ⟨u, hu, ru⟩ := rv.get hx
    obtain ⟨oi, hoi, hci, hdi⟩ := id hit
    obtain ⟨ot, hot, hct, nt, hdt⟩ := id tpl
    have n1 : a ≠ ti := ne_cls hot hoi hct hci (by decide)
    have n2 : e ≠ a := ne_cls he hot rfl hct (by decide)
    have le : e < s.heap.objs.size := Heap.lt_size he
    have li : ti < s.heap.objs.size := Heap.lt_size hoi
    have D := tdraws (prog := X.prog) (w := X.w) (A := X.A.in1) (I.ok.hd hc) ti a n1 its.toArray
    refine wpAny_pyNext_enum_itemD D he ⟨hit, tpl⟩ ?_ hne (by simp [hne, n2]) fun u' h' tk hu' ho hst hT hsz hk => ?_
    · have := (List.getElem?_eq_some_iff.mp hu).1
      rw [List.size_toArray]
      exact this
    · obtain rfl : u' = u := by
        have z : its[i]? = some u' := by simpa using hu'
        rw [hu] at z
        exact (Option.some.inj z).symm
      refine ⟨_, rfl, wpAny_letOwnedTupleGo_enum (s := { s with heap := h', toks := tk + 1 }) ho fun h2 he2 sb => ?_⟩
      have hT2 : h2.get? s.heap.objs.size = some { cls := .type "tuple", data := .seq #[.int i tk, u'] } := (sb.2 _ (Nat.ne_of_gt le)).trans hT
      have nw : ObjOk X.prog X.w (upd H s.heap.objs.size (.tup [.int (i : Nat), x])) h2 s.heap.objs.size (.tup [.int (i : Nat), x]) := ⟨by rw [sizeLine_eq]; simp, [.int i tk, u'], .cons ⟨_, rfl⟩ (.cons ru .nil), ⟨_, hT2, rfl, _, rfl⟩⟩
      have I1 : Inv X pins σ (upd H s.heap.objs.size (.tup [.int (i : Nat), x])) { s with heap := h2, toks := tk + 1 } :=
        I.turnedNew (ch := [e, ti]) (fun b ob hb q => (sb.2 b (fun z => hb (by simp [z]))).trans (hk b ob (fun z => hb (by simp [z])) (fun z => hb (by simp [z])) q)) hf (Nat.le_refl _) nw
      obtain ⟨⟨o3, ho3, r3⟩, _⟩ := hst
      refine ⟨.ref s.heap.objs.size, _, I1, rfl, ⟨_, x, rfl, I.hok.fresh (Nat.le_refl _), rfl, fun ys hy => by rw [I.tuple_inj hy hq]; exact hx⟩, ⟨⟨u', ?_⟩, ⟨o3, (sb.2 ti (Ne.symm hne)).trans ho3, r3⟩, hne⟩, fun b hb => ?_⟩
      · rw [show ((i + 1 : Nat) : Int) = (i : Int) + 1 by omega]; exact he2
      · have hb2 : b < s.heap.objs.size := by
          rcases (show b = e ∨ b = ti by simpa using hb) with rfl | rfl
          · exact le
          · exact li
        rw [upd_ne (Nat.ne_of_lt hb2)]; exact (hf b hb).1
  done := by
    intro X hP hw hK hc i pins s σ H E I hf ⟨⟨old, he⟩, hit, hne⟩ ⟨xs, hq, hx⟩
    subst hP hw hK
    obtain ⟨its, rv, tpl, hz⟩ := I.tuple hq
    obtain ⟨oi, hoi, hci, hdi⟩ := id hit
    obtain ⟨ot, hot, hct, nt, hdt⟩ := id tpl
    obtain ⟨f0, f1, f2, f3, f4, f5⟩ := hf ti (by simp)
    have hl := rv.length
    exact tend (I.ok.hd hc) he hit tpl (by simp; omega) fun h' eb => ⟨rfl, I.turned (t' := s.toks) (fun b o hb q => eb b o hb q) f0 f1 f3 f4 f5⟩
  self := fun A i s Q E ⟨⟨_, he⟩, _⟩ h => wpAny_pyIter_enum he h
end Xd
namespace Xd
open PySem PySem.Spec PySem.Calls PyProof.Rows L2 Rs
def enT (K : PySem.W.Frag) (R : It → Hp → Prop) (vs : List V) (H : Hp) : Prop := ∃ (a : Addr) (xs : List V), vs = [.ref a] ∧ SqT K H a xs ∧ R (IteT K a) H
def iEnT (K : PySem.W.Frag) (ta : TA) : TI := fun σ H R => ta σ H fun vs H1 => enT K R vs H1
theorem pi_enT {X : Cx} {e : Expr} {ta : TA} {p pos tpos : Pos} {elts : List Expr} {kk : Nat} (hg : Gl X "enumerate") (hm : X.mg "enumerate" = none) (ha : PA X [e] ta) (hs : starEach [e] X.env = [(false, eval e X.env)] := by rfl) :
    PI X (.Tuple elts kk tpos) (.Call (.Name "enumerate" p) [e] [] pos) (iEnT X.K ta) := by
  refine ⟨fun pins s σ H R I h => Call_ (ld_blt I hg hm boot_enumerate (PyProof.Rows.callWith_type1 (thn (ha.run pos pins s σ H _ I h) fun us s1 ⟨vs, H1, I1, r1, a, xs, ev, hq, q⟩ => ?_) hs rfl))⟩
  subst ev
  cases r1 with
  | cons r rr =>
    cases rr
    cases r
    obtain ⟨its, rv, tpl, hz⟩ := I1.tuple hq
    refine call_enum_tup tpl fun h' he hit hk => wpAny_pyIter_enum he ?_
    have I2 : Inv X pins σ H1 { s1 with heap := h' } := I1.kept (t' := s1.toks) hk
    refine ⟨s1.heap.objs.size + 1, [s1.heap.objs.size + 1, s1.heap.objs.size], _, _, H1, rfl, I2, turn_eT a (s1.heap.objs.size + 1) s1.heap.objs.size, ⟨⟨.none, he⟩, hit, Nat.succ_ne_self _⟩, fun b hb => ?_, q⟩
    have hle : s1.heap.objs.size ≤ b := by
      rcases (show b = s1.heap.objs.size + 1 ∨ b = s1.heap.objs.size by simpa using hb) with rfl | rfl
      · exact Nat.le_succ _
      · exact Nat.le_refl _
    exact I1.fpOk hle (I1.hok.fresh hle)
section
variable {K : PySem.W.Frag} {H H0 : Hp} {M : List Addr} {L : Led} {σ : L2.St} {a : Addr}
theorem walk_eT {xs : List V} : Walk (IteT K a) xs.length (fun H => SqT K H a xs) (YPair (fun i => some (.int (i : Nat))) (fun i => xs[i]?)) :=
  ⟨fun i _ hi q => ⟨xs, xs[i], q, by simp [hi]⟩, fun _ q => ⟨xs, q, Nat.le_refl _⟩, fun i H v H' _ q ⟨T, x, h1, h2, h3, h4⟩ => ⟨T, .int (i : Nat), x, h1, h2, h3, rfl, h4 xs q⟩⟩
theorem rd_enT {R : It → Hp → Prop} {ta : TA} (h : ta σ H fun vs H1 => enT K R vs H1) : iEnT K ta σ H R := h
theorem rd_enTI {R : It → Hp → Prop} {xs : List V} (S : Hs H0 M H L) (m : (a, HO.tup xs) ∈ L) (h : R (IteT K a) H) : enT K R [.ref a] H := ⟨a, xs, rfl, S.tup m, h⟩
/-- over enumerate of a tuple -/
theorem fw_enT {xs : List V} {g : TG} {tw : TS} {nx bk ct : L2.St → Hp → Prop} {rt : VK} (Pv : Nat → L2.St → Hp → Prop) (h0 : Pv 0 σ H) (hl : ∀ i σ H, i ≤ xs.length → Pv i σ H → SqT K H a xs)
    (hs : ∀ i x σ H T, xs[i]? = some x → Pv i σ H → H T = none → g (.ref T) σ (upd H T (.tup [.int (i : Nat), x])) fun σ2 H2 => tw ⟨Pv (i + 1), rt, nx, Pv (i + 1)⟩ σ2 H2) (hd : ∀ σ H, Pv xs.length σ H → nx σ H) : forW (IteT K a) g tw ⟨nx, rt, bk, ct⟩ σ H := by
  refine for_it walk_eT Pv h0 hl ?_ hd
  rintro i x σ H H' hi hp ⟨T, y, z, rfl, hT, rfl, e1, e2⟩
  cases e1
  exact hs i z σ H T e2 hp hT
end
end Xd

/-! Xd2: lists made longer by lists; slices of any list -/
namespace Xd
open PySem PySem.Spec PySem.Calls PyProof.Rows L2 Rs
theorem ip_ext {X : Cx} : PIp X .Add rExt2 := fun pins s σ H x y v u Q I rx ry h => iop_ext pins s σ H x y v u Q I rx ry h
section
variable {K : PySem.W.Frag} {H H0 : Hp} {M : List Addr} {L L' : Led} {σ : L2.St} {a b : Addr} {Q : VK}
theorem rd_ext2 {xs zs ys : List V} (S : Hs H0 M H L) (c : Chg a (.lst xs) (.lst ys) L L') (mb : (b, HO.lst zs) ∈ L) (hm : H0 a = none ∨ a ∈ M) (hz : xs.length + zs.length ≤ sizeLine) (e : xs ++ zs = ys) (h : ∀ H', Hs H0 M H' L' → Q (.ref a) H') : rExt2 (.ref a) (.ref b) H Q := by
  subst e
  exact ⟨a, b, xs, zs, rfl, rfl, S.is _ c.mem, S.is _ mb, hz, h _ (S.put c hm)⟩
theorem rd_extM {xs zs ys : List V} (S : Hs H0 M H L) (c : Chg a (.lst xs) (.lst ys) L L') (mb : (b, HO.lst zs) ∈ L) (hm : H0 a = none ∨ a ∈ M) (hz : xs.length + zs.length ≤ sizeLine) (e : xs ++ zs = ys) (h : ∀ H', Hs H0 M H' L' → Q .non H') : rExtend (.ref a) [.ref b] H Q := by
  subst e
  exact ⟨a, b, xs, zs, rfl, rfl, S.is _ c.mem, S.is _ mb, hz, h _ (S.put c hm)⟩
theorem cut_run (xs : List V) (i k : Nat) : cutV xs (some (i : Nat)) (some ((i + k : Nat) : Int)) = (xs.drop i).take k := by
  unfold cutV
  rw [HT.sIx_nat, HT.sIx_nat]
  by_cases h : i ≤ xs.length
  · rw [Nat.min_eq_left h]
    refine List.take_eq_take_iff.mpr ?_
    rw [List.length_drop]
    omega
  · have e1 : min i xs.length = xs.length := by omega
    rw [e1, List.drop_of_length_le (Nat.le_refl _), List.drop_of_length_le (by omega)]
    simp
theorem cut_to (xs : List V) (i : Nat) : cutV xs none (some (i : Nat)) = xs.take i := by
  unfold cutV
  rw [HT.sIx_nat, HT.sIx_none, List.drop_zero]
  refine List.take_eq_take_iff.mpr ?_
  omega
theorem cut_from (xs : List V) (i : Nat) : cutV xs (some (i : Nat)) none = xs.drop i := by
  unfold cutV
  rw [HT.sIx_nat, HT.sIx_none]
  by_cases h : i ≤ xs.length
  · rw [Nat.min_eq_left h]
    exact List.take_of_length_le (by rw [List.length_drop]; omega)
  · have e1 : min i xs.length = xs.length := by omega
    rw [e1, List.drop_of_length_le (Nat.le_refl _), List.drop_of_length_le (by omega)]
    simp
end
end Xd

/-! Xd3: list(text) -/
namespace Xd
open PySem PySem.Spec PySem.Calls PyProof.Rows L2 Rs
def rListS : List V → Hp → VK → Prop := fun xs H Q => ∃ x : Str, xs = [.str x] ∧ x.length ≤ sizeLine ∧ ∀ q, H q = none → Q (.ref q) (upd H q (.lst ((PyProof.Rows.signs x).map V.str)))
theorem call_listS {X : Cx} (hc : X.calm = true) : CallR X (.type "list") rListS := by
  intro pins s σ H xs us Q I r h
  obtain ⟨x, e, hz, q⟩ := h
  subst e
  obtain ⟨u, eu, rx⟩ := vals1 r
  subst eu
  obtain ⟨t, rfl⟩ : ∃ t, u = Value.str x t := rx
  refine PySem.call_list_str (hn := hz) (I.ok.hd hc) x t fun h' tk acc' c' hkeep hS hacc => ?_
  refine ⟨.ref s.heap.objs.size, upd H s.heap.objs.size (.lst ((PyProof.Rows.signs x).map V.str)), I.laid hkeep (Nat.le_refl _) (show ObjOk X.prog X.w _ _ _ (.lst ((PyProof.Rows.signs x).map V.str)) from ⟨?_, acc'.toList, c', ?_, ?_⟩), rfl, q _ (I.hok.fresh (Nat.le_refl _))⟩
  · rw [List.length_map, PyProof.Rows.signs_length]; exact hz
  · have el : acc'.toList.length = acc'.size := by simp
    refine vals_of_at (by rw [List.length_map, PyProof.Rows.signs_length, el, hacc.1]; rfl) fun j x1 w h1 h2 => ?_
    obtain ⟨c, t2, hc2, rfl⟩ := hacc.2 j w (by rw [← Array.getElem?_toList]; exact h2)
    have e2 : ((PyProof.Rows.signs x).map V.str)[j]? = some (.str ⟨#[c]⟩) := by
      unfold PyProof.Rows.signs
      rw [List.getElem?_map, List.getElem?_map, Array.getElem?_toList, hc2]
      rfl
    rw [e2] at h1
    cases h1
    exact ⟨t2, rfl⟩
  · rw [Array.toArray_toList]; exact hS
section
variable {K : PySem.W.Frag} {H H0 : Hp} {M : List Addr} {L L' : Led} {σ : L2.St} {a b : Addr} {Q : VK}
theorem rd_listS {x : Str} (S : Hs H0 M H L) (hz : x.length ≤ sizeLine) (h : ∀ p H', H0 p = none → Hs H0 M H' ((p, .lst ((PyProof.Rows.signs x).map V.str)) :: L) → Q (.ref p) H') : rListS [.str x] H Q :=
  ⟨x, rfl, hz, rd_newO S h⟩
end
end Xd

/-! Xe2: exceptions as objects of the ledger: made, looked at, their fields; S.__init__(self, ..) of an own class S -/
namespace Xc
open PySem PySem.Spec PySem.Calls PyProof.Rows L2 Rs ClX
/-- an exception of the class at C, its fields (none: nothing was stored) -/
def ExcAt (H : Hp) (a C : Addr) (o : Option (Addr × List (Str × V))) : Prop := match o with
  | none => H a = some (exo a C none)
  | some (dx, fs) => H a = some (exo a C (some dx)) ∧ H dx = some (exd dx fs)
section
variable {X : Cx} {pins : List (Addr × Obj)} {σ : L2.St} {H : Hp} {s : Shared} {a C dx : Addr} {fs : List (Str × V)}
theorem excAt_inst0 (I : Inv X pins σ H s) (h : H a = some (exo a C none)) : ∃ oe : Obj, PySem.W.InstAt s.heap a oe C none := by
  obtain ⟨t, e⟩ := exo_at I.hok h
  exact ⟨_, e, rfl, rfl, trivial⟩
theorem excAt_inst1 (I : Inv X pins σ H s) (h : H a = some (exo a C (some dx))) (hd : H dx = some (exd dx fs)) : ∃ (oe od : Obj) (mA : Str → Option Value), PySem.W.InstAt s.heap a oe C (some od) ∧ (∀ f, RelO (fs.lookup f) (mA f)) ∧ ∀ n : Str, PySem.W.lookIn n od = some (mA n) := by
  obtain ⟨t, e⟩ := exo_at I.hok h
  obtain ⟨mA, hns, hr⟩ := exd_at I.hok hd
  obtain ⟨od, ho, hl⟩ := lookIn_ns hns
  exact ⟨_, od, mA, ⟨e, rfl, rfl, ho⟩, hr, hl⟩
/-- isinstance(e, c) -/
def rIsE (K : PySem.W.Frag) : List V → Hp → VK → Prop := fun xs H Q => ∃ (a C : Addr) (o : Option (Addr × List (Str × V))) (c : V) (u : Value) (b : Bool), xs = [.ref a, c] ∧ ClsV c u ∧ Lk K C ∧ ExcAt H a C o ∧ PySem.W.kitOne K (.ref C) u = some b ∧ Q (.bl b) H
theorem call_isE : CallR X (.builtin "isinstance") (rIsE X.K) := by
  intro pins s σ H xs us Q I r h
  obtain ⟨a, C, o, c, u, b, rfl, k, l, hh, e, q⟩ := h
  obtain ⟨u1, u2, rfl, r1, r2⟩ := vals2 r
  have e2 := k.eq r2
  subst e2
  cases (show u1 = Value.ref a from r1)
  cases o with
  | none =>
    obtain ⟨oe, J⟩ := excAt_inst0 I hh
    exact PySem.W.kia_one (PySem.W.kitx_exc l.cl l.ga l.gg l.bx l.ha l.hn l.ht l.hm) I.kIn J e (fun z => nomatch z) fun tk => ⟨.bl b, H, I.tok tk, rfl, q⟩
  | some p =>
    obtain ⟨oe, od, mA, J, _, _⟩ := excAt_inst1 I hh.1 hh.2
    exact PySem.W.kia_one (PySem.W.kitx_exc l.cl l.ga l.gg l.bx l.ha l.hn l.ht l.hm) I.kIn J e (fun z => nomatch z) fun tk => ⟨.bl b, H, I.tok tk, rfl, q⟩
/-- e.f -/
def tXe (K : PySem.W.Frag) (f : Str) (te : TE) : TE := fun σ H Q => te σ H fun x H1 => ∃ (a C dx : Addr) (fs : List (Str × V)) (v : V), x = .ref a ∧ Lk K C ∧ PySem.W.findIn K (.ref C) f = some none ∧ ExcAt H1 a C (some (dx, fs)) ∧ fs.lookup f = some v ∧ Q v H1
theorem pe_xe {e : Expr} {te : TE} {pos : Pos} {n : Str} (he : PE X e te) (hb : attributeBase e n X.env (eval e X.env) = eval e X.env := by rfl) : PE X (.Attribute e n pos) (tXe X.K n te) := by
  refine ⟨fun pins s σ H Q I h => attr_of hb (thn (he.run pins s σ H _ I h) fun u s1 hh => ?_)⟩
  obtain ⟨x, H1, I1, rx, a, C, dx, fs, v, ex, l, hno, hd, lk, q⟩ := hh
  subst ex
  obtain rfl : u = Value.ref a := rx
  obtain ⟨oe, od, mA, J, hr, hl⟩ := excAt_inst1 I1 hd.1 hd.2
  obtain ⟨u2, hu, ru⟩ := RelO.some_of (v := v) (o := mA n) (by rw [← lk]; exact hr n)
  exact HandSPX.exc_get I1.kIn J l.ga l.gg l.bx (PySem.W.findObj_own l.hd hno rfl (by rw [hl, hu])) (handed_of ru) ⟨v, H1, I1.tok _, ru, q⟩
end
/-! ### made -/
/-- C(e, ..), C's own __init__ walked -/
def tMkX (C : Addr) (sp : Sp) (dvs : List V) (ta : TA) : TE := fun σ H Q => ta σ H fun vs H1 => vs.length ≤ 1000 ∧ ∀ a, H1 a = none → sp (.ref a :: (vs ++ dvs)) (upd H1 a (exo a C none)) (fun v H2 => v = .non ∧ Q (.ref a) H2) (fun _ _ _ => False)
/-- C(e, ..) of a class without __init__ -/
def tMk0 (C : Addr) (ta : TA) : TE := fun σ H Q => ta σ H fun vs H1 => vs.length ≤ 1000 ∧ ∀ a, H1 a = none → Q (.ref a) (upd H1 a (exo a C none))
section
variable {X : Cx} {e : Expr} {es : List Expr} {ta : TA} {p p1 p2 pos : Pos} {B newId initId : String} {bmB : List Value}
theorem pe_mkx {CX : CXT} {x : Str} {C fI : Addr} {k : Nat} {fd : FuncData} {ps : List Str} {sp : Sp} {ds : List Value} {dvs : List V} (T : Own X.K C B newId initId bmB) (iC : PySem.W.findIn X.K (.ref C) "__init__" = some (some (.ref fI))) (tI : PySem.W.typeIn X.K (.ref fI) = some (.type "function"))
    (F1 : FnOk X.prog X.w X.K X.mg X.base CX k fI fd ps sp) (hr : Room (k + 1) X.A) (hb : Binds X.K fd ps ds) (hd : Vals dvs ds) (hx : Passes CX X (fun _ _ _ => False)) (hg : Gl X x) (hm : X.mg x = some (.ref C)) (ha : PA X (e :: es) ta)
    (hdb : (x == ("__debug__" : Str)) = false := by decide) (he : starEach (e :: es) X.env = (false, eval e X.env) :: starEach es X.env := by rfl) (hp : (backTo pos (starEach es X.env)).any (·.1) = false := by rfl) :
    PE X (.Call (.Name x p) (e :: es) [] pos) (tMkX C sp dvs ta) := by
  refine ⟨fun pins s σ H Q I hh => ?_⟩
  refine wpAny_Call_Name_kw (ld_glob I hg hm ?_ hdb)
  refine PySem.W.callWith_K (h₀ := X.base) I.ok.mod.kin T.kpc (thn (ha.run pos pins s σ H _ I hh) fun us s1 ⟨vs, H1, I1, rv, hz, k1⟩ => ⟨I1.kIn, ?_⟩) he hp
  show wpAny _ _ (call (.ref C) us) _ _ _
  have hC := PySem.W.excInit_of I1.kIn T.ini
  obtain ⟨NB, fb⟩ := T.fb
  obtain ⟨hp1, gn, dr, tk, osS⟩ := s1
  have up1 : hp1.objs.size ≤ hp1.objs.size + 1 := Nat.le_succ _
  have body := k1 (hp1.objs.size + 1) (I1.hok.fresh up1)
  have kept : ∀ b o, hp1.get? b = some o → ((hp1.push (PySem.W.kdv_tup us)).push (PySem.HandSPX.excO C hp1.objs.size)).get? b = some o := fun b o q => Heap.get?_push_of_some _ (Heap.get?_push_of_some _ q)
  have there : ((hp1.push (PySem.W.kdv_tup us)).push (PySem.HandSPX.excO C hp1.objs.size)).get? (hp1.objs.size + 1) = some (PySem.HandSPX.excO C hp1.objs.size) := by heap_get
  have I2 : Inv X pins σ (upd H1 (hp1.objs.size + 1) (exo (hp1.objs.size + 1) C none)) ⟨(hp1.push (PySem.W.kdv_tup us)).push (PySem.HandSPX.excO C hp1.objs.size), gn, dr, tk, osS⟩ :=
    I1.laid (t' := tk) (a := hp1.objs.size + 1) (o := exo (hp1.objs.size + 1) C none) (h' := (hp1.push (PySem.W.kdv_tup us)).push (PySem.HandSPX.excO C hp1.objs.size)) kept up1 (exo_ok there)
  have rels : Vals (V.ref (hp1.objs.size + 1) :: (vs ++ dvs)) (Value.ref (hp1.objs.size + 1) :: (us ++ ds)) := .cons rfl (rv.append hd)
  have len1 : (Value.ref (hp1.objs.size + 1) :: us ++ ds).length = ps.length := (F1.len _ _ _ _ body).symm.trans rels.length |>.symm
  have lus : us.length ≤ sizeLine := by rw [← Paired.length rv, sizeLine_eq]; omega
  refine wpAny_call (xb_call fb hC (PySem.W.looks_findIn I1.kIn iC) (fun self => PySem.W.bind_fn I1.kIn self tI) lus
    (codeAny_mono (F1.run _ X.stack _ _ ⟨Value.ref (hp1.objs.size + 1) :: us, []⟩ (Value.ref (hp1.objs.size + 1) :: (us ++ ds)) _ _ (fun _ _ _ => False) (hr.make C us []) (I2.env0.make C us []) (hb _ (Value.ref (hp1.objs.size + 1) :: us) I2.kIn len1) rels body) fun r s2 z => ?_))
  cases r with
  | error er => exact hx pins σ _ _ er s2 I2 z
  | ok fl =>
    cases fl with
    | ret u =>
      obtain ⟨v, H', I3, rv3, ev, q3⟩ := I2.after z
      subst ev
      exact ⟨rv3, ⟨V.ref (hp1.objs.size + 1), H', I3, rfl, q3⟩⟩
    | next => exact False.elim z
    | brk => exact False.elim z
    | cont => exact False.elim z
/-- C('..') of a class without __init__ of its own -/
theorem pe_mk0 {x : Str} {C : Addr} (F : ExcBaseFacts B newId initId bmB) (q : PySem.W.excIn X.K C bmB newId = true) (hg : Gl X x) (hm : X.mg x = some (.ref C)) (kC : PySem.W.keepIn X.K (.ref C) = true) (ha : PA X (e :: es) ta)
    (hdb : (x == ("__debug__" : Str)) = false := by decide) (he : starEach (e :: es) X.env = (false, eval e X.env) :: starEach es X.env := by rfl) (hp : (backTo pos (starEach es X.env)).any (·.1) = false := by rfl) :
    PE X (.Call (.Name x p) (e :: es) [] pos) (tMk0 C ta) := by
  refine ⟨fun pins s σ H Q I hh => ?_⟩
  refine wpAny_Call_Name_kw (ld_glob I hg hm ?_ hdb)
  refine PySem.W.callWith_K (h₀ := X.base) I.ok.mod.kin kC (thn (ha.run pos pins s σ H _ I hh) fun us s1 ⟨vs, H1, I1, rv, hz, k1⟩ => ⟨I1.kIn, ?_⟩) he hp
  show wpAny _ _ (call (.ref C) us) _ _ _
  obtain ⟨bm, N, nm, qn, bs, hdct, sn, sub, ab, col, dd, y0, y1, y2, y3, y5, mN, hC, hN, hni, T⟩ := exc_obj I1.kIn q
  have lus : us.length ≤ sizeLine := by rw [← Paired.length rv, sizeLine_eq]; omega
  refine wpAny_call_exc_subT F T hC hN hni (fun h' z hm => ?_) lus
  have hn : H1 z = none := I1.hok.gone hm.new
  obtain ⟨t, ht, _, _⟩ := hm.there
  exact ⟨.ref z, _, I1.laidN hm.keeps hm.new hn (exo_ok ht), rfl, k1 z hn⟩
/-- S.__init__(self, ..) where S is an own class that has B's __init__ -/
theorem pe_binitS {n : Str} {pl : Sem Bool} {S C0 : Addr} {mc : Value} (_o : Own X.K C0 B newId initId bmB) (hg : Gl X n) (hm : X.mg n = some (.ref S)) (cr : CRead X.K S mc) (vV : PySem.W.findCls X.K (.ref S) mc "__init__" = some (.val (.builtin initId))) (hin : PySem.W.handedIn (.builtin initId) = true) (ha : PA X (e :: es) ta)
    (hc : eval (.Call (.Attribute (.Name n p1) "__init__" p2) (e :: es) [] pos) X.env = (do
      let ov ← eval (.Name n p1) X.env
      standAt p2.atName
      let (fn, fst) ← holding [ov] (getMethod ov "__init__" pl)
      callWith pos fn fst (backTo pos (starEach (e :: es) X.env)) (backToKw pos (keywordEach [] X.env))) := by rfl)
    (hdb : (n == ("__debug__" : Str)) = false := by decide) (he : starEach (e :: es) X.env = (false, eval e X.env) :: starEach es X.env := by rfl) (hp : (backTo pos (starEach es X.env)).any (·.1) = false := by rfl) :
    PE X (.Call (.Attribute (.Name n p1) "__init__" p2) (e :: es) [] pos) (tBI X.K B newId initId bmB ta) := by
  refine ⟨fun pins s σ H Q I k => PySem.W.methodCall_KW (ld_glob I hg hm ?_ hdb) hc⟩
  refine PySem.W.method_cls I.kIn cr.ga (PySem.W.cls_value I.kIn cr.rd vV hin ?_)
  show wpAny _ _ (callWith pos (Value.builtin initId) [] (backTo pos (starEach (e :: es) X.env)) []) _ _ _
  refine PyProof.Rows.callWith_method1 (thn (ha.run pos pins _ σ H _ (I.tok _) k) fun us s1 ⟨vs, H1, I1, rv, a, C, ws, ev, hl, T, ea, q⟩ => ?_) he hp
  subst ev
  cases rv with
  | @cons _ u1 _ ur rA rW =>
    obtain rfl : u1 = Value.ref a := rA
    exact binit T I1 ea (by rw [← Paired.length rW, sizeLine_eq]; omega) fun s2 J => ⟨.non, H1, J, rfl, q⟩
end
end Xc

/-! Xe3: text * number; repr of a list of things that may be dicts; comprehensions over zip; readings of Xe2 -/
namespace Xc
open PySem PySem.Spec PySem.Calls PyProof.Rows L2 Rs
/-! ### text * number -/
def rMulS : R2 := fun x y H Q => ∃ (t : Str) (n : Int), x = .str t ∧ y = .int n ∧ 0 ≤ n ∧ n ≤ 1000 ∧ t.length ≤ 1000 ∧ Q (.str (Txt.mul t n)) H
theorem op_mulS {X : Cx} : OpR X (binaryOp .Mult) rMulS := by
  intro pins s σ H x y v u Q I rx ry h
  obtain ⟨t, n, rfl, rfl, h0, h1, h2, q⟩ := h
  obtain ⟨a, rfl⟩ := (show ∃ a, v = Value.str t a from rx)
  obtain ⟨b, rfl⟩ := (show ∃ b, u = Value.int n b from ry)
  have hl : t.length * n.toNat ≤ 1000 * 1000 := Nat.mul_le_mul h2 (by omega)
  refine SB.mul (Q := EP X pins σ Q) ⟨by simp; omega, fun h3 _ => ?_, fun _ _ => ?_⟩ fun t' k => ⟨.str _, H, I.tok _, ⟨_, rfl⟩, q⟩
  · have h5 : (t.length : Int) ≤ (2 ^ 63 - 1) / n := by
      refine Int.le_ediv_of_mul_le (by omega) ?_
      have h6 : ((t.length * n.toNat : Nat) : Int) ≤ 1000 * 1000 := by omega
      rw [Int.natCast_mul, Int.toNat_of_nonneg h0] at h6
      omega
    omega
  · unfold Builtin.Str.tooLong
    simp
    rw [sizeLine_eq]
    omega
/-! ### repr of a list -/
inductive TzA (K : PySem.W.Frag) (H : Hp) : List V → List PyData → Prop where
  | nil : TzA K H [] []
  | cons {v : V} {d : PyData} {vs : List V} {ds : List PyData} : Tz K H v d → TzA K H vs ds → TzA K H (v :: vs) (d :: ds)
def rReprL (K : PySem.W.Frag) : List V → Hp → VK → Prop := fun xs H Q => ∃ (p : Addr) (vs : List V) (ds : List PyData), xs = [.ref p] ∧ SqL K H p vs ∧ TzA K H vs ds ∧ vs ≠ [] ∧ (PyData.list ds).shown.length ≤ sizeLine ∧ PyData.depthAll ds ≤ 30 ∧ Q (.str (PyData.list ds).shown) H
section
variable {X : Cx} {pins : List (Addr × Obj)} {σ : L2.St} {H : Hp} {s : Shared}
theorem Tz.reads (I : Inv X pins σ H s) {v : V} {d : PyData} {u : Value} (h : Tz X.K H v d) (r : RelV v u) : ∃ as, Reads s.heap u d as := by
  cases h with
  | dp h _ => exact Dp.reads I d v u h r
  | dk h p _ =>
    cases (show u = Value.ref _ from r)
    obtain ⟨_, ns, vs, kv', o, es, ep, e1, e2, e3, _, e5, _⟩ := dk_of I.hok h
    obtain ⟨r1, r2⟩ := plKv_reads (h := s.heap) p kv' e5
    exact ⟨_, Reads.dict (as := []) (bs := []) e1 e2.1 e3 r1 r2⟩
  | big f =>
    obtain ⟨t, rfl⟩ := (show ∃ t, u = Value.int _ t from r)
    exact ⟨_, .int _ t⟩
theorem TzA.reads (I : Inv X pins σ H s) : ∀ {vs : List V} {ds : List PyData} {us : List Value}, TzA X.K H vs ds → Vals vs us → ∃ as, ReadsAll s.heap us ds as
  | _, _, _, .nil, .nil => ⟨_, .nil⟩
  | _, _, _, .cons h t, .cons r q => by
    obtain ⟨a, h1⟩ := h.reads I r
    obtain ⟨b, h2⟩ := TzA.reads I t q
    exact ⟨_, .cons h1 h2⟩
theorem TzA.shows (I : Inv X pins σ H s) (st : Stat X.K) {n : Nat} (hn : n ≤ 50) : ∀ {vs : List V} {ds : List PyData} {us : List Value}, TzA X.K H vs ds → Vals vs us → (∀ d ∈ ds, d.shown.length ≤ sizeLine) → PyData.depthAll ds ≤ n →
    ∃ bs, ReadAtMost s.heap n bs ∧ ReprAllK X.prog X.w bs s.heap 50 us (PyData.shownAll ds)
  | _, _, _, .nil, .nil, _, _ => ⟨[], fun _ h => (nomatch h), by simp only [PyData.shownAll]; exact .nil⟩
  | _, _, _, .cons (d := d) h t, .cons r q, hz, hd => by
    simp only [PyData.depthAll] at hd
    obtain ⟨b1, m1, k1⟩ := h.shows I st r (hz d List.mem_cons_self) (by omega)
    obtain ⟨b2, m2, k2⟩ := TzA.shows I st hn t q (fun d hm => hz d (List.mem_cons_of_mem _ hm)) (by omega)
    refine ⟨b1 ++ b2, fun b hb => ?_, by
      simp only [PyData.shownAll]
      exact .cons (ReprK.more k1 fun b z => List.mem_append_left _ z) (k2.more_le (fun b z => List.mem_append_right _ z) (Nat.le_refl _))⟩
    rcases List.mem_append.mp hb with z | z
    · obtain ⟨d', as', r', hd'⟩ := m1 b z
      exact ⟨d', as', r', by omega⟩
    · exact m2 b z
theorem depth_of {ds : List PyData} : ∀ {d : PyData}, d ∈ ds → d.depth ≤ PyData.depthAll ds := by
  induction ds with
  | nil => intro d h; exact nomatch h
  | cons x xs ih =>
    intro d h
    simp only [PyData.depthAll]
    rcases List.mem_cons.mp h with rfl | h
    · omega
    · have := ih h
      omega
theorem shown_of {ds : List PyData} {d : PyData} (h : d ∈ ds) : d.shown ∈ PyData.shownAll ds := by
  induction ds with
  | nil => exact nomatch h
  | cons x xs ih =>
    simp only [PyData.shownAll]
    rcases List.mem_cons.mp h with rfl | h
    · exact List.mem_cons_self
    · exact List.mem_cons_of_mem _ (ih h)
theorem call_reprL {k : Nat} (st : Stat X.K) (c : Clr X.A) (hr : Room k X.A) : CallR X (.builtin "repr") (rReprL X.K) := by
  intro pins s σ H xs us Q I r h
  obtain ⟨p, vs, ds, rfl, hs, hq, hne, sw, dp, q⟩ := h
  cases r with
  | cons r1 r2 =>
    cases r2
    rename_i u
    cases (show u = Value.ref p from r1)
    obtain ⟨its, rv, ⟨o, n, ho, hc, hdn, hd⟩, hlen⟩ := I.list hs
    have un := hr.units
    obtain ⟨as, rd⟩ := hq.reads I rv
    have sz : ∀ d ∈ ds, d.shown.length ≤ sizeLine := fun d hm => by
      have z := listText_mem_le (ts := PyData.shownAll ds) (shown_of hm)
      simp only [PyData.shown] at sw
      omega
    obtain ⟨bs, hb, rk⟩ := hq.shows (n := PyData.depthAll ds) I st (by omega) rv sz (Nat.le_refl _)
    have own : Reads s.heap (.ref p) (.list ds) (p :: as) := Reads.list ho hc hd (by simpa using rd)
    have hna : p ∉ bs := fun hm => by
      obtain ⟨d', as', r', hd'⟩ := hb p hm
      have e := (PyProof.Rows.reads_det (fun _ _ e _ => e) own r').1
      rw [e] at hd'
      simp only [PyData.depth] at hd'
      omega
    cases its with
    | nil =>
      have := rv.length
      simp at this
      exact absurd this hne
    | cons y ys =>
      simp only [PyData.shown] at sw q
      refine call_repr_slot (by omega) ⟨o, ho, hc⟩ F.slot_list_repr.toG ?_
      exact call_list_reprK ho hc (by simpa using hd) hna (by rw [rk.length_eq]; simp) (fun i z e => rk.item i z (by simpa using e)) c (fun b _ => Clear.nil b) (by show X.A.units + 1 + (50 + 1) < cLine; omega) (fun _ _ e => e) (fun h' t2 tk2 kp => ⟨_, _, rfl, ⟨.str _, H, I.kept kp, ⟨t2, rfl⟩, q⟩⟩) sw
end
theorem rd_reprL {K : PySem.W.Frag} {H H0 : Hp} {M : List Addr} {L : Led} {Q : VK} {p : Addr} {vs : List V} {ds : List PyData} (S : Hs H0 M H L) (m : (p, HO.lst vs) ∈ L) (h : TzA K H vs ds) (ne : vs ≠ []) (sw : (PyData.list ds).shown.length ≤ sizeLine) (dp : PyData.depthAll ds ≤ 30)
    (k : Q (.str (PyData.list ds).shown) H) : rReprL K [.ref p] H Q := ⟨p, vs, ds, rfl, S.lst m, h, ne, sw, dp, k⟩
end Xc
namespace Xc
open PySem PySem.Spec PySem.Calls PyProof.Rows L2 Rs
/-- __init__ of n arguments that stores mk of them -/
def spIn (C : Addr) (n : Nat) (mk : List V → List (Str × V)) : Sp := fun vs H Q _ => ∃ (a : Addr) (xs : List V), vs = .ref a :: xs ∧ xs.length = n ∧ H a = some (exo a C none) ∧
  ∀ (dx : Addr) (H' : Hp), H dx = none → dx ≠ a → H' a = some (exo a C (some dx)) → H' dx = some (exd dx (mk xs)) → (∀ b, b ≠ a → b ≠ dx → H' b = H b) → Q .non H'
section
variable {σ : L2.St} {H H0 : Hp} {M : List Addr} {L : Led} {Q : VK} {K : PySem.W.Frag} {C a dx : Addr} {f : Str} {x : V}
theorem rd_mkx {R : Addr → Hp → Prop} {n : Nat} {mk : List V → List (Str × V)} {xs : List V} (S : Hs H0 M H L) (hl : xs.length = n) (hn : n ≤ 1000) (h : ∀ a d H', H0 a = none → H0 d = none → Hs H0 M H' ((a, exo a C (some d)) :: (d, exd d (mk xs)) :: L) → R a H') :
    xs.length ≤ 1000 ∧ ∀ a, H a = none → spIn C n mk (.ref a :: (xs ++ [])) (upd H a (exo a C none)) (fun v H2 => v = .non ∧ R a H2) (fun _ _ _ => False) := by
  refine ⟨by omega, fun a ha => ⟨a, xs, by rw [List.append_nil], hl, upd_same, fun d H' hd ne e1 e2 e3 => ⟨rfl, ?_⟩⟩⟩
  rw [upd_ne ne] at hd
  obtain ⟨z1, S1⟩ := S.new hd (exd d (mk xs))
  obtain ⟨z2, S2⟩ := S1.new (a := a) (by rw [upd_ne (Ne.symm ne)]; exact ha) (exo a C (some d))
  have e : H' = upd (upd H d (exd d (mk xs))) a (exo a C (some d)) := by
    funext b
    by_cases hb : b = a
    · rw [hb, upd_same, e1]
    · rw [upd_ne hb]
      by_cases hb2 : b = d
      · rw [hb2, upd_same, e2]
      · rw [upd_ne hb2, e3 b hb hb2, upd_ne hb]
  rw [e]
  exact h a d _ z2 z1 S2
theorem rd_tmkx {sp : Sp} {dvs : List V} {ta : TA} (h : ta σ H fun vs H1 => vs.length ≤ 1000 ∧ ∀ a, H1 a = none → sp (.ref a :: (vs ++ dvs)) (upd H1 a (exo a C none)) (fun v H2 => v = .non ∧ Q (.ref a) H2) (fun _ _ _ => False)) : tMkX C sp dvs ta σ H Q := h
theorem rd_tmk0 {ta : TA} (h : ta σ H fun vs H1 => vs.length ≤ 1000 ∧ ∀ a H2, H1 a = none → H2 = upd H1 a (exo a C none) → Q (.ref a) H2) : tMk0 C ta σ H Q := by
  have e : (fun (vs : List V) (H1 : Hp) => vs.length ≤ 1000 ∧ ∀ a H2, H1 a = none → H2 = upd H1 a (exo a C none) → Q (.ref a) H2) = fun vs H1 => vs.length ≤ 1000 ∧ ∀ a, H1 a = none → Q (.ref a) (upd H1 a (exo a C none)) := by
    funext vs H1
    exact propext ⟨fun ⟨x, y⟩ => ⟨x, fun a ha => y a _ ha rfl⟩, fun ⟨x, y⟩ => ⟨x, fun a H2 ha e => by rw [e]; exact y a ha⟩⟩
  rw [e] at h
  exact h
theorem rd_mk0 {R : Addr → Hp → Prop} {xs : List V} (S : Hs H0 M H L) (hl : xs.length ≤ 1000) (h : ∀ a H', H0 a = none → Hs H0 M H' ((a, exo a C none) :: L) → R a H') : xs.length ≤ 1000 ∧ ∀ a H2, H a = none → H2 = upd H a (exo a C none) → R a H2 :=
  ⟨hl, fun a H2 ha e => by rw [e]; exact h a _ (S.new ha (exo a C none)).1 (S.new ha (exo a C none)).2⟩
theorem rd_isE {o : Option (Addr × List (Str × V))} {c : V} {u : Value} {b : Bool} (e0 : ExcAt H a C o) (l : Lk K C) (hc : ClsV c u) (e : PySem.W.kitOne K (.ref C) u = some b) (h : Q (.bl b) H) : rIsE K [.ref a, c] H Q :=
  ⟨a, C, o, c, u, b, rfl, hc, l, e0, e, h⟩
theorem rd_xe {te : TE} (h : te σ H fun x H1 => ∃ (a C dx : Addr) (fs : List (Str × V)) (v : V), x = .ref a ∧ Lk K C ∧ PySem.W.findIn K (.ref C) f = some none ∧ ExcAt H1 a C (some (dx, fs)) ∧ fs.lookup f = some v ∧ Q v H1) : tXe K f te σ H Q := h
theorem rd_mulS {t : Str} {n : Int} (h0 : 0 ≤ n) (h1 : n ≤ 1000) (h2 : t.length ≤ 1000) (h : Q (.str (Txt.mul t n)) H) : rMulS (.str t) (.int n) H Q := ⟨t, n, rfl, rfl, h0, h1, h2, h⟩
theorem lcw_zip {a b : Addr} {xs ys : List V} {g : TG} {tt : TT} {te : TE} {vs : List Nat} (S : Hs H0 M H L) (hn : xs.length = ys.length) (R : Nat → List V → Prop) (r0 : R 0 []) (hl : ∀ H' acc D, Hs H0 M H' ((D, .lst acc) :: L) → SqL K H' a xs ∧ SqL K H' b ys)
    (hs : ∀ D i x y acc H' T, xs[i]? = some x → ys[i]? = some y → R i acc → H0 D = none → H0 T = none → Hs H0 M H' ((T, .tup [x, y]) :: (D, .lst acc) :: L) → g (.ref T) (wipe σ vs) H' fun σ2 H2 => wipe σ2 vs = wipe σ vs ∧ tt σ2 H2 fun b H3 => if b = true then te σ2 H3 fun y H4 => lcPut H0 M L (R (i + 1)) D y H4 else lcSkip H0 M L (R (i + 1)) D H3)
    (hd : ∀ D acc H', R xs.length acc → H0 D = none → Hs H0 M H' ((D, .lst acc) :: L) → Q (.ref D) H') : lcW (Itz K a b) g tt te vs σ H Q := by
  intro D hD
  have S1 := S.new hD (.lst [])
  refine lc_it (walk_zip (xs := xs) (ys := ys) (n := xs.length) (by omega)) (fun i H' => lcSkip H0 M L (R i) D H') ⟨S1.1, [], r0, S1.2⟩ (fun i H' _ ⟨_, acc, _, S'⟩ => hl H' acc D S') ?_ ?_
  · rintro i x H' H2 hi ⟨n0, acc, r, S'⟩ ⟨T, y, z, rfl, hT, rfl, e1, e2⟩
    obtain ⟨hT0, S2⟩ := S'.new hT (.tup [y, z])
    exact hs D i y z acc _ T e1 e2 r n0 hT0 S2
  · rintro H' ⟨n0, acc, r, S'⟩
    exact hd D acc H' r n0 S'
theorem rd_zip {R : It → Hp → Prop} {ta : TA} (h : ta σ H fun vs H1 => ∃ (a b : Addr) (xs ys : List V), vs = [.ref a, .ref b] ∧ SqL K H1 a xs ∧ SqL K H1 b ys ∧ R (Itz K a b) H1) : iZip K ta σ H R := h
end
end Xc

/-! Xg1: lists and tuples alike as what is walked: enumerate with a start, zip of any two -/
namespace Xg
open PySem PySem.Spec PySem.Calls PyProof.Rows L2 Rs Xd
/-- a list (false), a tuple (true) -/
def Sq (b : Bool) (K : PySem.W.Frag) (H : Hp) (a : Addr) (xs : List V) : Prop := match b with
  | true => SqT K H a xs
  | false => SqL K H a xs
def IsIt (b : Bool) (h : Heap) (i a : Addr) (j : Nat) : Prop := match b with
  | true => h.IsTupleIter i a j
  | false => h.IsListIter i a j
def IsSq (b : Bool) (h : Heap) (a : Addr) (vs : Array Value) : Prop := match b with
  | true => h.IsTuple a vs
  | false => h.IsList a vs
def ito (b : Bool) (a : Addr) : Obj := match b with
  | true => { cls := .type "tuple_iterator", data := .fields #[.ref a, .int 0 0] }
  | false => { cls := .type "list_iterator", data := .fields #[.ref a, .int 0 0] }
theorem IsIt.at {b : Bool} {h h' : Heap} {i a : Addr} {j : Nat} (x : IsIt b h i a j) (k : ∀ o, h.get? i = some o → h'.get? i = some o) : IsIt b h' i a j := by
  cases b <;> (obtain ⟨o, ho, r⟩ := x; exact ⟨o, k o ho, r⟩)
theorem IsIt.obj {b : Bool} {h : Heap} {i a : Addr} {j : Nat} (x : IsIt b h i a j) : ∃ o, h.get? i = some o ∧ ∀ v, o.data ≠ .cell v := by
  cases b <;> (obtain ⟨o, ho, _, hd⟩ := x; exact ⟨o, ho, fun v z => by rw [hd] at z; cases z⟩)
theorem IsSq.lt {b : Bool} {h : Heap} {a : Addr} {vs : Array Value} (x : IsSq b h a vs) : a < h.objs.size := by
  cases b <;> (obtain ⟨o, ho, _⟩ := x; exact Heap.lt_size ho)
theorem begins_sq (b : Bool) (a : Addr) (vs : Array Value) : Begins (.ref a) (ito b a) (fun h => IsSq b h a vs) := by
  cases b
  · exact begins_list a vs
  · exact begins_tuple a vs
theorem ito_it {b : Bool} {h : Heap} {i a : Addr} (x : h.get? i = some (ito b a)) : IsIt b h i a 0 := by
  cases b <;> exact ⟨_, x, rfl, rfl⟩
theorem sdraws {prog : Program} {w : World} {A : Around} (hh : A.handled = none) (b : Bool) (i a : Addr) (ne : a ≠ i) (vs : Array Value) : Draws prog w A i [i, a] vs.size (fun j v => vs[j]? = some v) (fun j h => IsIt b h i a j ∧ IsSq b h a vs) := by
  cases b
  · exact Draws.list hh i a ne vs
  · exact tdraws hh i a ne vs
section
variable {X : Cx} {pins : List (Addr × Obj)} {σ : L2.St} {H : Hp} {s : Shared} {a : Addr} {xs ys : List V}
theorem sq_get (I : Inv X pins σ H s) {b : Bool} (h : Sq b X.K H a xs) : ∃ its : List Value, Vals xs its ∧ IsSq b s.heap a its.toArray := by
  cases b
  · obtain ⟨its, rv, p, _⟩ := I.list h
    exact ⟨its, rv, p.isList⟩
  · obtain ⟨its, rv, p, _⟩ := I.tuple h
    exact ⟨its, rv, p⟩
theorem sq_inj (I : Inv X pins σ H s) {b : Bool} (h : Sq b X.K H a xs) (h' : Sq b X.K H a ys) : xs = ys := by
  cases b
  · exact I.list_inj h h'
  · exact I.tuple_inj h h'
end
/-! ### enumerate from a start -/
def IteS (b : Bool) (k : Int) (K : PySem.W.Frag) (a : Addr) : It :=
  ⟨fun i H => ∃ (xs : List V) (x : V), Sq b K H a xs ∧ xs[i]? = some x, fun i H v H' => ∃ (T : Addr) (x : V), v = .ref T ∧ H T = none ∧ H' = upd H T (.tup [.int (k + (i : Nat)), x]) ∧ ∀ xs, Sq b K H a xs → xs[i]? = some x, fun i H => ∃ xs : List V, Sq b K H a xs ∧ xs.length = i⟩
theorem turn_eS {P : Program} {w : World} {K : PySem.W.Frag} {elts : List Expr} {kk : Nat} {tpos : Pos} (b : Bool) (k : Int) (a e it : Addr) (nai : a ≠ it) (nei : e ≠ it) (nea : e ≠ a) :
    Turn P w K (.Tuple elts kk tpos) (IteS b k K a) [e, it] e (fun i h => (∃ old, IsEnum h e it (k + ((i : Nat) : Int)) old) ∧ IsIt b h it a i) where
  mem := List.mem_cons_self
  obj := fun i h ⟨⟨old, he⟩, hi⟩ c hc => by
    rcases (show c = e ∨ c = it by simpa using hc) with rfl | rfl
    · exact ⟨_, he, fun v z => nomatch z⟩
    · exact hi.obj
  keep := fun i h h' ⟨⟨old, he⟩, hi⟩ kp => ⟨⟨old, kp e (by simp) _ he⟩, hi.at fun o z => kp it (by simp) o z⟩
  item := by
    intro X hP hw hK hc i pins s σ H E I hf ⟨⟨old, he⟩, hit⟩ ⟨xs, x, hq, hx⟩
    subst hP hw hK
    obtain ⟨its, rv, tpl⟩ := sq_get I hq
    obtain ⟨u, hu, ru⟩ := rv.get hx
    obtain ⟨oi, hoi, _⟩ := hit.obj
    have le : e < s.heap.objs.size := Heap.lt_size he
    have li : it < s.heap.objs.size := Heap.lt_size hoi
    have D := sdraws (prog := X.prog) (w := X.w) (A := X.A.in1) (I.ok.hd hc) b it a nai its.toArray
    refine wpAny_pyNext_enum_itemC D he ⟨hit, tpl⟩ ?_ nei (by simp [nei, nea]) fun u' h' tk hu' ho hst hT hsz hk => ?_
    · have := (List.getElem?_eq_some_iff.mp hu).1
      rw [List.size_toArray]
      exact this
    · obtain rfl : u' = u := by
        have z : its[i]? = some u' := by simpa using hu'
        rw [hu] at z
        exact (Option.some.inj z).symm
      refine ⟨_, rfl, wpAny_letOwnedTupleGo_enum (s := { s with heap := h', toks := tk + 1 }) ho fun h2 he2 sb => ?_⟩
      have hT2 : h2.get? s.heap.objs.size = some { cls := .type "tuple", data := .seq #[.int (k + i) tk, u'] } := (sb.2 _ (Nat.ne_of_gt le)).trans hT
      have nw : ObjOk X.prog X.w (upd H s.heap.objs.size (.tup [.int (k + (i : Nat)), x])) h2 s.heap.objs.size (.tup [.int (k + (i : Nat)), x]) := ⟨by rw [sizeLine_eq]; simp, [.int (k + i) tk, u'], .cons ⟨_, rfl⟩ (.cons ru .nil), ⟨_, hT2, rfl, _, rfl⟩⟩
      have I1 : Inv X pins σ (upd H s.heap.objs.size (.tup [.int (k + (i : Nat)), x])) { s with heap := h2, toks := tk + 1 } :=
        I.turnedNew (ch := [e, it]) (fun c ob hb q => (sb.2 c (fun z => hb (by simp [z]))).trans (hk c ob (fun z => hb (by simp [z])) (fun z => hb (by simp [z])) q)) hf (Nat.le_refl _) nw
      refine ⟨.ref s.heap.objs.size, _, I1, rfl, ⟨_, x, rfl, I.hok.fresh (Nat.le_refl _), rfl, fun ys hy => by rw [sq_inj I hy hq]; exact hx⟩, ⟨⟨u', ?_⟩, hst.1.at fun o z => (sb.2 it (Ne.symm nei)).trans z⟩, fun c hb => ?_⟩
      · rw [show k + ((i + 1 : Nat) : Int) = k + (i : Int) + 1 by omega]; exact he2
      · have hb2 : c < s.heap.objs.size := by
          rcases (show c = e ∨ c = it by simpa using hb) with rfl | rfl
          · exact le
          · exact li
        rw [upd_ne (Nat.ne_of_lt hb2)]; exact (hf c hb).1
  done := by
    intro X hP hw hK hc i pins s σ H E I hf ⟨⟨old, he⟩, hit⟩ ⟨xs, hq, hx⟩
    subst hP hw hK
    obtain ⟨its, rv, tpl⟩ := sq_get I hq
    obtain ⟨f0, f1, f2, f3, f4, f5⟩ := hf it (by simp)
    have hl := rv.length
    have D := sdraws (prog := X.prog) (w := X.w) (A := X.A.in1) (I.ok.hd hc) b it a nai its.toArray
    have en : its.toArray.size = i := by rw [List.size_toArray]; omega
    exact wpAny_pyNext_enum_endD D he ⟨by rw [en]; exact hit, tpl⟩ fun h' eb => ⟨rfl, I.turned (t' := s.toks) (fun c o hb q => eb c o hb q) f0 f1 f3 f4 f5⟩
  self := fun A i s Q E ⟨⟨_, he⟩, _⟩ h => wpAny_pyIter_enum he h
section
variable {M : Model} {A : Around} {E : Value → Shared → Prop} {s : Shared} {env : Env}
/-- a built-in class called with keywords -/
theorem callWith_tyKw {pos : Pos} {T : String} {e : Expr} {rest : List Expr} {kws : List Keyword} {Q : Value → Shared → Prop}
    (h : wpAny M A (spliced (backTo pos (starEach (e :: rest) env))) (fun vs s1 => wpAny M A (evalAll ((backToKw pos (keywordEach kws env)).map (·.2)))
      (fun ws s2 => wpAny M A (call (.type T) vs (((backToKw pos (keywordEach kws env)).filterMap (·.1)).zip ws)) Q E s2) E s1) E s)
    (he : backTo pos (starEach (e :: rest) env) = (false, eval e env) :: backTo pos (starEach rest env)) (hp : (backTo pos (starEach (e :: rest) env)).any (·.1) = false)
    (ha : (backToKw pos (keywordEach kws env)).all (·.1.isSome) = true) (hn : (backToKw pos (keywordEach kws env)).any (·.1.isNone) = false) :
    wpAny M A (callWith pos (.type T) [] (backTo pos (starEach (e :: rest) env)) (backToKw pos (keywordEach kws env))) Q E s := by
  rw [he] at h hp ⊢
  have h2 := evalArgs_kwB (Q := fun (z : Args) s2 => wpAny M A (call (.type T) z.pos z.kw) Q E s2) (f := .type T) ha h
  unfold callWith
  refine wpAny_bind (wpAny_holding (wpAny_mono h2 (fun z s1 q => wpAny_bind (wpAny_standAt ?_)) fun _ _ x => x))
  simp only [hp, hn, Bool.or_false]
  exact wpAny_bind (wpAny_pure (wpAny_bind (wpAny_mono q (fun r s3 hr => wpAny_bind (wpAny_holding (wpAny_point (wpAny_pure hr)))) fun _ _ x => x)))
end
def enS (b : Bool) (K : PySem.W.Frag) (R : It → Hp → Prop) (vs zs : List V) (H : Hp) : Prop := ∃ (a : Addr) (k : Int) (xs : List V), vs = [.ref a] ∧ zs = [.int k] ∧ -(2 ^ 63) ≤ k ∧ k < 2 ^ 63 ∧ Sq b K H a xs ∧ R (IteS b k K a) H
def iEnS (b : Bool) (K : PySem.W.Frag) (ta tk : TA) : TI := fun σ H R => ta σ H fun vs H1 => tk σ H1 fun zs H2 => enS b K R vs zs H2
theorem apart_e {N : Nat} {a : Addr} (h : a < N) : a ≠ N ∧ N + 1 ≠ N ∧ N + 1 ≠ a := ⟨Nat.ne_of_lt h, Nat.succ_ne_self _, fun z => by
  rw [← z] at h
  exact absurd h (Nat.not_lt.mpr (Nat.le_succ N))⟩
theorem pi_enS {X : Cx} (b : Bool) {e : Expr} {kws : List Keyword} {ta tk : TA} {p pos tpos : Pos} {elts : List Expr} {kk : Nat} (hg : Gl X "enumerate") (hm : X.mg "enumerate" = none) (ha : PA X [e] ta) (hk : PK X kws tk)
    (he : backTo pos (starEach [e] X.env) = (false, eval e X.env) :: backTo pos (starEach [] X.env) := by rfl) (hpl : (backTo pos (starEach [e] X.env)).any (·.1) = false := by rfl)
    (hall : (backToKw pos (keywordEach kws X.env)).all (·.1.isSome) = true := by rfl) (hnone : (backToKw pos (keywordEach kws X.env)).any (·.1.isNone) = false := by rfl) (hks : (backToKw pos (keywordEach kws X.env)).filterMap (·.1) = [Str.ofString "start"] := by rfl) :
    PI X (.Tuple elts kk tpos) (.Call (.Name "enumerate" p) [e] kws pos) (iEnS b X.K ta tk) := by
  refine ⟨fun pins s σ H R I h => ?_⟩
  refine wpAny_Call_Name_kw (ld_blt I hg hm boot_enumerate ?_)
  refine callWith_tyKw (thn (ha.run pos pins s σ H _ I h) fun us s1 ⟨vs, H1, I1, r1, q1⟩ => thn (hk.run pos pins s1 σ H1 _ I1 q1) fun ws s2 ⟨zs, H2, I2, r2, a, k, xs, ev, ez, k0, k1, hq, q⟩ => ?_) he hpl hall hnone
  rw [hks]
  subst ev ez
  rw [Vals.ref1 r1]
  obtain ⟨u, rfl, t, rfl⟩ := vals1 r2
  obtain ⟨its, rv, tpl⟩ := sq_get I2 hq
  refine enum_begins_start (begins_sq b a its.toArray) tpl k0 k1 fun h' he hit hz hkp => wpAny_pyIter_enum he ?_
  have I3 : Inv X pins σ H2 { s2 with heap := h' } := I2.kept (t' := s2.toks) hkp
  obtain ⟨n1, n2, n3⟩ := apart_e tpl.lt
  refine ⟨s2.heap.objs.size + 1, [s2.heap.objs.size + 1, s2.heap.objs.size], _, _, H2, rfl, I3, turn_eS b k a (s2.heap.objs.size + 1) s2.heap.objs.size n1 n2 n3, ⟨⟨.none, by rw [show k + ((0 : Nat) : Int) = k by omega]; exact he⟩, ito_it hit⟩, fun c hc => ?_, q⟩
  have hle : s2.heap.objs.size ≤ c := by
    rcases (show c = s2.heap.objs.size + 1 ∨ c = s2.heap.objs.size by simpa using hc) with rfl | rfl
    · exact Nat.le_succ _
    · exact Nat.le_refl _
  exact I2.fpOk hle (I2.hok.fresh hle)
/-! ### zip of any two -/
def ItzS (b c : Bool) (K : PySem.W.Frag) (p q : Addr) : It :=
  ⟨fun i H => ∃ (xs ys : List V) (x y : V), Sq b K H p xs ∧ Sq c K H q ys ∧ xs[i]? = some x ∧ ys[i]? = some y,
    fun i H v H' => ∃ T x y, v = .ref T ∧ H T = none ∧ H' = upd H T (.tup [x, y]) ∧ (∀ xs, Sq b K H p xs → xs[i]? = some x) ∧ ∀ ys, Sq c K H q ys → ys[i]? = some y,
    fun i H => ∃ xs ys : List V, Sq b K H p xs ∧ Sq c K H q ys ∧ i = min xs.length ys.length⟩
theorem turn_zS {P : Program} {w : World} {K : PySem.W.Frag} {elts : List Expr} {kk : Nat} {tpos : Pos} (b c : Bool) {p q z TI TO i1 i2 : Addr} (D : ZipSep2 z TI TO i1 i2 [i1, p] [i2, q]) (n1 : p ≠ i1) (n2 : q ≠ i2) :
    Turn P w K (.Tuple elts kk tpos) (ItzS b c K p q) [z, TI, TO, i1, i2] z (fun i h => IsZip h z TI TO .none ∧ IsTupOf2 h TI (.ref i1) (.ref i2) ∧ (∃ x y, IsTupOf2 h TO x y) ∧ IsIt b h i1 p i ∧ IsIt c h i2 q i) where
  mem := List.mem_cons_self
  obj := fun i h ⟨a1, a2, ⟨x, y, a3⟩, a4, a5⟩ d hd => by
    rcases (show d = z ∨ d = TI ∨ d = TO ∨ d = i1 ∨ d = i2 by simpa using hd) with rfl | rfl | rfl | rfl | rfl
    · exact ⟨_, a1, fun v y => nomatch y⟩
    · exact ⟨_, a2, fun v y => nomatch y⟩
    · exact ⟨_, a3, fun v y => nomatch y⟩
    · exact a4.obj
    · exact a5.obj
  keep := fun i h h' ⟨a1, a2, ⟨x, y, a3⟩, a4, a5⟩ kp => ⟨kp z (by simp) _ a1, kp TI (by simp) _ a2, ⟨x, y, kp TO (by simp) _ a3⟩, a4.at fun o e => kp i1 (by simp) o e, a5.at fun o e => kp i2 (by simp) o e⟩
  item := by
    intro X hP hw hK hc i pins s σ H E I hf ⟨a1, a2, ⟨x0, y0, a3⟩, a4, a5⟩ ⟨xs, ys, x, y, hx, hy, ex, ey⟩
    subst hP hw hK
    obtain ⟨us, rx, tx⟩ := sq_get I hx
    obtain ⟨vs, ry, ty⟩ := sq_get I hy
    obtain ⟨u, hu, ru⟩ := rx.get ex
    obtain ⟨v, hv, rv⟩ := ry.get ey
    have lz : z < s.heap.objs.size := Heap.lt_size a1
    have Da := sdraws (prog := X.prog) (w := X.w) (A := X.A.in1) (I.ok.hd hc) b i1 p n1 us.toArray
    have Db := sdraws (prog := X.prog) (w := X.w) (A := X.A.in1) (I.ok.hd hc) c i2 q n2 vs.toArray
    have lu := (List.getElem?_eq_some_iff.mp hu).1
    have lv := (List.getElem?_eq_some_iff.mp hv).1
    refine wpAny_pyNext_zipD2_item D Da Db a1 a2 a3 ⟨a4, tx⟩ ⟨a5, ty⟩ (by rw [List.size_toArray]; exact lu) (by rw [List.size_toArray]; exact lv) fun u' v' h' tk pu pv hz hTO s1 s2 hT hsz hk => ?_
    obtain rfl : u' = u := by
      have e : us[i]? = some u' := by simpa using pu
      rw [hu] at e; exact (Option.some.inj e).symm
    obtain rfl : v' = v := by
      have e : vs[i]? = some v' := by simpa using pv
      rw [hv] at e; exact (Option.some.inj e).symm
    refine ⟨_, rfl, wpAny_letOwnedTupleGo_zip (s := { s with heap := h', toks := tk }) hz fun h2 hz2 sb => ?_⟩
    have hT2 : h2.get? s.heap.objs.size = some { cls := .type "tuple", data := .seq #[u', v'] } := (sb.2 _ (Nat.ne_of_gt lz)).trans hT
    have nw : ObjOk X.prog X.w (upd H s.heap.objs.size (.tup [x, y])) h2 s.heap.objs.size (.tup [x, y]) := ⟨by rw [sizeLine_eq]; simp, [u', v'], .cons ru (.cons rv .nil), ⟨_, hT2, rfl, _, rfl⟩⟩
    have I1 : Inv X pins σ (upd H s.heap.objs.size (.tup [x, y])) { s with heap := h2, toks := tk } :=
      I.turnedNew (ch := [z, TI, TO, i1, i2]) (fun d o hb e => (sb.2 d (fun y => hb (by simp [y]))).trans (hk d o (fun y => hb (by simp [y])) (fun y => hb (by simp [y])) (fun y => hb (by simp [y])) (fun y => hb (by simp [y])) e)) hf (Nat.le_refl _) nw
    refine ⟨.ref s.heap.objs.size, _, I1, rfl, ⟨_, x, y, rfl, I.hok.fresh (Nat.le_refl _), rfl, fun l hl => by rw [sq_inj I hl hx]; exact ex, fun l hl => by rw [sq_inj I hl hy]; exact ey⟩, ⟨hz2, ?_, ⟨u', v', ?_⟩, ?_, ?_⟩, fun d hd => ?_⟩
    · exact (sb.2 _ D.TIz).trans (hk _ _ D.TIz D.TITO D.TIi1 D.TIi2 a2)
    · exact (sb.2 _ D.TOz).trans hTO
    · exact s1.1.at fun o e => (sb.2 _ D.zi1.symm).trans e
    · exact s2.1.at fun o e => (sb.2 _ D.zi2.symm).trans e
    · have hlt : d < s.heap.objs.size := by
        rcases (show d = z ∨ d = TI ∨ d = TO ∨ d = i1 ∨ d = i2 by simpa using hd) with rfl | rfl | rfl | rfl | rfl
        · exact lz
        · exact Heap.lt_size a2
        · exact Heap.lt_size a3
        · obtain ⟨_, e, _⟩ := a4.obj; exact Heap.lt_size e
        · obtain ⟨_, e, _⟩ := a5.obj; exact Heap.lt_size e
      rw [upd_ne (Nat.ne_of_lt hlt)]
      exact (hf d hd).1
  done := by
    intro X hP hw hK hc i pins s σ H E I hf ⟨a1, a2, ⟨x0, y0, a3⟩, a4, a5⟩ ⟨xs, ys, hx, hy, hi⟩
    subst hP hw hK
    obtain ⟨us, rx, tx⟩ := sq_get I hx
    obtain ⟨vs, ry, ty⟩ := sq_get I hy
    have l1 := rx.length
    have l2 := ry.length
    have Da := sdraws (prog := X.prog) (w := X.w) (A := X.A.in1) (I.ok.hd hc) b i1 p n1 us.toArray
    have Db := sdraws (prog := X.prog) (w := X.w) (A := X.A.in1) (I.ok.hd hc) c i2 q n2 vs.toArray
    exact wpAny_pyNext_zipD2_end D Da Db a1 a2 a3 ⟨a4, tx⟩ ⟨a5, ty⟩ (by rw [List.size_toArray]; omega) (by rw [List.size_toArray]; omega) (by rw [List.size_toArray, List.size_toArray]; omega) fun h' tk hk => ⟨rfl, I.turnedL (t' := tk) (ch := [z, TI, TO, i1, i2]) (fun d o hb e =>
      hk d o (fun y => hb (by simp [y])) (fun y => hb (by simp [y])) (fun y => hb (by simp [y])) (fun y => hb (by simp [y])) e) hf⟩
  self := fun A i s Q E st h => wpAny_pyIter_zip st.1 h
def zpS (b c : Bool) (K : PySem.W.Frag) (R : It → Hp → Prop) (vs : List V) (H : Hp) : Prop := ∃ (p q : Addr) (xs ys : List V), vs = [.ref p, .ref q] ∧ Sq b K H p xs ∧ Sq c K H q ys ∧ R (ItzS b c K p q) H
def iZpS (b c : Bool) (K : PySem.W.Frag) (ta : TA) : TI := fun σ H R => ta σ H fun vs H1 => zpS b c K R vs H1
theorem pi_zpS {X : Cx} (b c : Bool) {e e2 : Expr} {ta : TA} {p pos tpos : Pos} {elts : List Expr} {kk : Nat} (hg : Gl X "zip") (hm : X.mg "zip" = none) (ha : PA X [e, e2] ta)
    (hs : starEach [e, e2] X.env = (false, eval e X.env) :: starEach [e2] X.env := by rfl) (hpl : (backTo pos (starEach [e2] X.env)).any (·.1) = false := by rfl) :
    PI X (.Tuple elts kk tpos) (.Call (.Name "zip" p) [e, e2] [] pos) (iZpS b c X.K ta) := by
  refine ⟨fun pins s σ H R I h => ?_⟩
  refine Call_ (ld_blt I hg hm boot_zip (PyProof.Rows.callWith_type1 (thn (ha.run pos pins s σ H _ I h) fun us s1 ⟨vs, H1, I1, r1, p1, p2, xs, ys, ev, hx, hy, q⟩ => ?_) hs hpl))
  subst ev
  cases r1 with
  | cons r rr =>
    cases rr with
    | cons r2 rr =>
      cases rr
      cases r
      cases r2
      obtain ⟨us, rx, tx⟩ := sq_get I1 hx
      obtain ⟨vs, ry, ty⟩ := sq_get I1 hy
      refine zip_begins2 (begins_sq b p1 us.toArray) (begins_sq c p2 vs.toArray) tx ty fun h' hz hTI hTO h1 h2 hsz hk => wpAny_pyIter_zip hz ?_
      have I2 : Inv X pins σ H1 { s1 with heap := h' } := I1.kept (t' := s1.toks) hk
      have l1 := tx.lt
      have l2 := ty.lt
      have Z : ZipSep2 (s1.heap.objs.size + 4) (s1.heap.objs.size + 2) (s1.heap.objs.size + 3) s1.heap.objs.size (s1.heap.objs.size + 1) [s1.heap.objs.size, p1] [s1.heap.objs.size + 1, p2] := zip_sep2 (fun d hd => by rw [List.mem_singleton.mp hd]; exact l1) (fun d hd => by rw [List.mem_singleton.mp hd]; exact l2)
      refine ⟨s1.heap.objs.size + 4, [s1.heap.objs.size + 4, s1.heap.objs.size + 2, s1.heap.objs.size + 3, s1.heap.objs.size, s1.heap.objs.size + 1], _, _, H1, rfl, I2, turn_zS b c Z (Nat.ne_of_lt l1) (Nat.ne_of_lt (Nat.lt_succ_of_lt l2)), ⟨hz, hTI, ⟨_, _, hTO⟩, ito_it h1, ito_it h2⟩, fun d hd => ?_, q⟩
      have hle : s1.heap.objs.size ≤ d := by
        rcases (show d = s1.heap.objs.size + 4 ∨ d = s1.heap.objs.size + 2 ∨ d = s1.heap.objs.size + 3 ∨ d = s1.heap.objs.size ∨ d = s1.heap.objs.size + 1 by simpa using hd) with rfl | rfl | rfl | rfl | rfl
        · exact Nat.le_add_right _ _
        · exact Nat.le_add_right _ _
        · exact Nat.le_add_right _ _
        · exact Nat.le_refl _
        · exact Nat.le_add_right _ _
      exact I1.fpOk hle (I1.hok.fresh hle)
/-! ### readings -/
section
variable {K : PySem.W.Frag} {H H0 : Hp} {M : List Addr} {L : Led} {σ : L2.St} {a p q : Addr} {b c : Bool} {Q : VK}
theorem Hs.sqT {xs : List V} (S : Hs H0 M H L) (m : (a, HO.tup xs) ∈ L) : Sq true K H a xs := S.tup m
theorem Hs.sqL {xs : List V} (S : Hs H0 M H L) (m : (a, HO.lst xs) ∈ L) : Sq false K H a xs := S.lst m
theorem walk_eS {k : Int} {xs : List V} : Walk (IteS b k K a) xs.length (fun H => Sq b K H a xs) (YPair (fun i => some (.int (k + (i : Nat)))) (fun i => xs[i]?)) :=
  ⟨fun i _ hi q => ⟨xs, xs[i], q, by simp [hi]⟩, fun _ q => ⟨xs, q, rfl⟩, fun i H v H' _ q ⟨T, x, h1, h2, h3, h4⟩ => ⟨T, .int (k + (i : Nat)), x, h1, h2, h3, rfl, h4 xs q⟩⟩
theorem walk_zS {xs ys : List V} : Walk (ItzS b c K p q) (min xs.length ys.length) (fun H => Sq b K H p xs ∧ Sq c K H q ys) (YPair (fun i => xs[i]?) (fun i => ys[i]?)) :=
  ⟨fun i _ hi h => ⟨xs, ys, xs[i]'(by omega), ys[i]'(by omega), h.1, h.2, List.getElem?_eq_getElem _, List.getElem?_eq_getElem _⟩, fun _ h => ⟨xs, ys, h.1, h.2, rfl⟩,
    fun i H v H' _ h ⟨T, x, y, h1, h2, h3, h4, h5⟩ => ⟨T, x, y, h1, h2, h3, h4 xs h.1, h5 ys h.2⟩⟩
theorem rd_enS {R : It → Hp → Prop} {ta tk : TA} (h : ta σ H fun vs H1 => tk σ H1 fun zs H2 => enS b K R vs zs H2) : iEnS b K ta tk σ H R := h
theorem rd_enST {R : It → Hp → Prop} {xs : List V} {k : Int} (S : Hs H0 M H L) (m : (a, HO.tup xs) ∈ L) (k0 : -(2 ^ 63) ≤ k) (k1 : k < 2 ^ 63) (h : R (IteS true k K a) H) : enS true K R [.ref a] [.int k] H := ⟨a, k, xs, rfl, rfl, k0, k1, S.tup m, h⟩
theorem rd_enSL {R : It → Hp → Prop} {xs : List V} {k : Int} (S : Hs H0 M H L) (m : (a, HO.lst xs) ∈ L) (k0 : -(2 ^ 63) ≤ k) (k1 : k < 2 ^ 63) (h : R (IteS false k K a) H) : enS false K R [.ref a] [.int k] H := ⟨a, k, xs, rfl, rfl, k0, k1, S.lst m, h⟩
theorem rd_zpS {R : It → Hp → Prop} {ta : TA} (h : ta σ H fun vs H1 => zpS b c K R vs H1) : iZpS b c K ta σ H R := h
theorem rd_zpSI {R : It → Hp → Prop} {xs ys : List V} (hx : Sq b K H p xs) (hy : Sq c K H q ys) (h : R (ItzS b c K p q) H) : zpS b c K R [.ref p, .ref q] H := ⟨p, q, xs, ys, rfl, hx, hy, h⟩
/-- over enumerate from a start -/
theorem fw_enS {xs : List V} {k : Int} {g : TG} {tw : TS} {nx bk ct : L2.St → Hp → Prop} {rt : VK} (Pv : Nat → L2.St → Hp → Prop) (h0 : Pv 0 σ H) (hl : ∀ i σ H, i ≤ xs.length → Pv i σ H → Sq b K H a xs)
    (hs : ∀ i x σ H T, xs[i]? = some x → Pv i σ H → H T = none → g (.ref T) σ (upd H T (.tup [.int (k + (i : Nat)), x])) fun σ2 H2 => tw ⟨Pv (i + 1), rt, nx, Pv (i + 1)⟩ σ2 H2) (hd : ∀ σ H, Pv xs.length σ H → nx σ H) : forW (IteS b k K a) g tw ⟨nx, rt, bk, ct⟩ σ H := by
  refine for_it walk_eS Pv h0 hl ?_ hd
  rintro i x σ H H' hi hp ⟨T, y, z, rfl, hT, rfl, e1, e2⟩
  cases e1
  exact hs i z σ H T e2 hp hT
/-- over zip of any two -/
theorem fw_zpS {xs ys : List V} {g : TG} {tw : TS} {nx bk ct : L2.St → Hp → Prop} {rt : VK} (Pv : Nat → L2.St → Hp → Prop) (h0 : Pv 0 σ H) (hl : ∀ i σ H, i ≤ min xs.length ys.length → Pv i σ H → Sq b K H p xs ∧ Sq c K H q ys)
    (hs : ∀ i x y σ H T, xs[i]? = some x → ys[i]? = some y → Pv i σ H → H T = none → g (.ref T) σ (upd H T (.tup [x, y])) fun σ2 H2 => tw ⟨Pv (i + 1), rt, nx, Pv (i + 1)⟩ σ2 H2) (hd : ∀ σ H, Pv (min xs.length ys.length) σ H → nx σ H) : forW (ItzS b c K p q) g tw ⟨nx, rt, bk, ct⟩ σ H := by
  refine for_it walk_zS Pv h0 hl ?_ hd
  rintro i x σ H H' hi hp ⟨T, y, z, rfl, hT, rfl, e1, e2⟩
  exact hs i y z σ H T e1 e2 hp hT
/-- a comprehension over enumerate from a start -/
theorem lcw_enS {xs : List V} {k : Int} {g : TG} {tt : TT} {te : TE} {vs : List Nat} (S : Hs H0 M H L) (R : Nat → List V → Prop) (r0 : R 0 []) (hl : ∀ H' acc D, Hs H0 M H' ((D, .lst acc) :: L) → Sq b K H' a xs)
    (hs : ∀ D i x acc H' T, xs[i]? = some x → R i acc → H0 D = none → Hs H0 M H' ((D, .lst acc) :: L) → H' T = none → g (.ref T) (wipe σ vs) (upd H' T (.tup [.int (k + (i : Nat)), x])) fun σ2 H2 => wipe σ2 vs = wipe σ vs ∧ tt σ2 H2 fun b H3 => if b = true then te σ2 H3 fun y H4 => lcPut H0 M L (R (i + 1)) D y H4 else lcSkip H0 M L (R (i + 1)) D H3)
    (hd : ∀ D acc H', R xs.length acc → H0 D = none → Hs H0 M H' ((D, .lst acc) :: L) → Q (.ref D) H') : lcW (IteS b k K a) g tt te vs σ H Q := by
  intro D hD
  have S1 := S.new hD (.lst [])
  refine lc_it walk_eS (fun i H' => lcSkip H0 M L (R i) D H') ⟨S1.1, [], r0, S1.2⟩ (fun i H' _ ⟨_, acc, _, S'⟩ => hl H' acc D S') ?_ ?_
  · rintro i x H1 H2 hi ⟨n0, acc, r, S'⟩ ⟨T, y, z, rfl, hT, rfl, e1, e2⟩
    cases e1
    exact hs D i z acc H1 T e2 r n0 S' hT
  · rintro H' ⟨n0, acc, r, S'⟩
    exact hd D acc H' r n0 S'
end
end Xg

/-! Xg2: comprehensions over enumerate of a tuple; comprehensions whose steps change what the ledger holds -/
namespace Xg
open PySem PySem.Spec PySem.Calls PyProof.Rows L2 Rs Xd
section
variable {K : PySem.W.Frag} {H H0 : Hp} {M : List Addr} {L : Led} {σ : L2.St} {a p q : Addr} {Q : VK}
theorem lcw_enT {xs : List V} {g : TG} {tt : TT} {te : TE} {vs : List Nat} (S : Hs H0 M H L) (R : Nat → List V → Prop) (r0 : R 0 []) (hl : ∀ H' acc D, Hs H0 M H' ((D, .lst acc) :: L) → SqT K H' a xs)
    (hs : ∀ D i x acc H' T, xs[i]? = some x → R i acc → H0 D = none → Hs H0 M H' ((D, .lst acc) :: L) → H' T = none → g (.ref T) (wipe σ vs) (upd H' T (.tup [.int (i : Nat), x])) fun σ2 H2 => wipe σ2 vs = wipe σ vs ∧ tt σ2 H2 fun b H3 => if b = true then te σ2 H3 fun y H4 => lcPut H0 M L (R (i + 1)) D y H4 else lcSkip H0 M L (R (i + 1)) D H3)
    (hd : ∀ D acc H', R xs.length acc → H0 D = none → Hs H0 M H' ((D, .lst acc) :: L) → Q (.ref D) H') : lcW (IteT K a) g tt te vs σ H Q := by
  intro D hD
  have S1 := S.new hD (.lst [])
  refine lc_it walk_eT (fun i H' => lcSkip H0 M L (R i) D H') ⟨S1.1, [], r0, S1.2⟩ (fun i H' _ ⟨_, acc, _, S'⟩ => hl H' acc D S') ?_ ?_
  · rintro i x H1 H2 hi ⟨n0, acc, r, S'⟩ ⟨T, y, z, rfl, hT, rfl, e1, e2⟩
    cases e1
    exact hs D i z acc H1 T e2 r n0 S' hT
  · rintro H' ⟨n0, acc, r, S'⟩
    exact hd D acc H' r n0 S'
def lvSkip (H0 : Hp) (M : List Addr) (R1 : List V → Led → Prop) (D : Addr) (H : Hp) : Prop := H0 D = none ∧ ∃ acc L, R1 acc L ∧ Hs H0 M H ((D, .lst acc) :: L)
def lvPut (H0 : Hp) (M : List Addr) (R1 : List V → Led → Prop) (D : Addr) (y : V) (H : Hp) : Prop := ∃ acc, H D = some (.lst acc) ∧ acc.length < sizeLine ∧ lvSkip H0 M R1 D (upd H D (.lst (acc ++ [y])))
theorem rd_lvPut {D : Addr} {y : V} {acc : List V} {L1 L2 : Led} {R1 : List V → Led → Prop} (S : Hs H0 M H L2) (pm : ∀ x, cn x ((D, HO.lst acc) :: L1) ≤ cn x L2) (n : H0 D = none) (hl : acc.length < sizeLine) (r : R1 (acc ++ [y]) L1) : lvPut H0 M R1 D y H := by
  have S1 := S.re pm
  exact ⟨acc, S1.is _ List.mem_cons_self, hl, n, _, _, r, S1.put .here (Or.inl n)⟩
theorem lcv_range {lo : Int} {n : Nat} {g : TG} {tt : TT} {te : TE} {vs : List Nat} (S : Hs H0 M H L) (R : Nat → List V → Led → Prop) (r0 : R 0 [] L)
    (hs : ∀ D i acc L' H', i < n → R i acc L' → H0 D = none → Hs H0 M H' ((D, .lst acc) :: L') → g (.int (lo + i)) (wipe σ vs) H' fun σ2 H2 => wipe σ2 vs = wipe σ vs ∧ tt σ2 H2 fun b H3 => if b = true then te σ2 H3 fun y H4 => lvPut H0 M (R (i + 1)) D y H4 else lvSkip H0 M (R (i + 1)) D H3)
    (hd : ∀ D acc L' H', R n acc L' → H0 D = none → Hs H0 M H' ((D, .lst acc) :: L') → Q (.ref D) H') : lcW (Itr lo n) g tt te vs σ H Q := by
  intro D hD
  have S1 := S.new hD (.lst [])
  refine lc_range (fun i H' => lvSkip H0 M (R i) D H') ⟨S1.1, [], L, r0, S1.2⟩ ?_ ?_
  · rintro i H' hi ⟨n0, acc, L', r, S'⟩
    exact hs D i acc L' H' hi r n0 S'
  · rintro H' ⟨n0, acc, L', r, S'⟩
    exact hd D acc L' H' r n0 S'
theorem lcv_list {a : Addr} {xs : List V} {g : TG} {tt : TT} {te : TE} {vs : List Nat} (S : Hs H0 M H L) (R : Nat → List V → Led → Prop) (r0 : R 0 [] L) (hl : ∀ i H' acc D L', R i acc L' → Hs H0 M H' ((D, .lst acc) :: L') → SqL K H' a xs)
    (hs : ∀ D i x acc L' H', xs[i]? = some x → R i acc L' → H0 D = none → Hs H0 M H' ((D, .lst acc) :: L') → g x (wipe σ vs) H' fun σ2 H2 => wipe σ2 vs = wipe σ vs ∧ tt σ2 H2 fun b H3 => if b = true then te σ2 H3 fun y H4 => lvPut H0 M (R (i + 1)) D y H4 else lvSkip H0 M (R (i + 1)) D H3)
    (hd : ∀ D acc L' H', R xs.length acc L' → H0 D = none → Hs H0 M H' ((D, .lst acc) :: L') → Q (.ref D) H') : lcW (Itl K a) g tt te vs σ H Q := by
  intro D hD
  have S1 := S.new hD (.lst [])
  refine lc_list (xs := xs) (fun i H' => lvSkip H0 M (R i) D H') ⟨S1.1, [], L, r0, S1.2⟩ (fun i H' _ ⟨_, acc, L', r, S'⟩ => hl i H' acc D L' r S') ?_ ?_
  · rintro i x H' hi ⟨n0, acc, L', r, S'⟩
    exact hs D i x acc L' H' hi r n0 S'
  · rintro H' ⟨n0, acc, L', r, S'⟩
    exact hd D acc L' H' r n0 S'
end
end Xg

/-! Xf1: functions held as values behind the end of the def that made them: their cells tracked -/
namespace Xf
open PySem PySem.Spec PySem.Calls PyProof.Rows L2 Rs NdefX
/-- a cell that holds v for good -/
def CellO (c : Addr) (v : V) : HO := .ext fun h => ∃ u, RelV v u ∧ h.IsCell c (some u)
theorem cellO_ok {P : Program} {w : World} {H : Hp} {h : Heap} {c : Addr} {v : V} {u : Value} (r : RelV v u) (e : h.IsCell c (some u)) : ObjOk P w H h c (CellO c v) := by
  obtain ⟨o, ho, hd⟩ := e
  exact ⟨⟨u, r, o, ho, hd⟩, ⟨o, ho⟩, fun h1 h2 ⟨u, r, o, ho, hd⟩ k => ⟨u, r, o, k o ho, hd⟩⟩
theorem cellO_at {P : Program} {w : World} {H : Hp} {h : Heap} {c : Addr} {v : V} (hok : HOk P w H h) (e : H c = some (CellO c v)) : ∃ u, RelV v u ∧ h.IsCell c (some u) := by
  obtain ⟨z, _, _⟩ := hok c _ e
  exact z
/-- cells: where, what -/
abbrev CL := List (Addr × V)
def hide (cs : CL) (H : Hp) : Hp := fun b => match cs.lookup b with
  | some _ => none
  | none => H b
def unhide (cs : CL) (H : Hp) : Hp := fun b => match cs.lookup b with
  | some v => some (CellO b v)
  | none => H b
/-- all are tracked -/
def Trk (cs : CL) (H : Hp) : Prop := ∀ b v, cs.lookup b = some v → H b = some (CellO b v)
section
variable {cs : CL} {H H' : Hp} {b : Addr} {v : V} {o : HO}
theorem hide_in (h : cs.lookup b = some v) : hide cs H b = none := by unfold hide; rw [h]
theorem hide_out (h : cs.lookup b = none) : hide cs H b = H b := by unfold hide; rw [h]
theorem unhide_in (h : cs.lookup b = some v) : unhide cs H b = some (CellO b v) := by unfold unhide; rw [h]
theorem unhide_out (h : cs.lookup b = none) : unhide cs H b = H b := by unfold unhide; rw [h]
theorem hide_none (h : H b = none) : hide cs H b = none := by
  unfold hide
  split
  · rfl
  · exact h
theorem hide_some (h : hide cs H b = some o) : cs.lookup b = none ∧ H b = some o := by
  unfold hide at h
  split at h
  · cases h
  · exact ⟨by assumption, h⟩
theorem Trk.out (t : Trk cs H) (h : H b = some o) (n : ∀ v, o ≠ CellO b v) : cs.lookup b = none := by
  cases e : cs.lookup b with
  | none => rfl
  | some v =>
    rw [t b v e] at h
    exact absurd (Option.some.inj h).symm (n v)
theorem Trk.none (t : Trk cs H) (h : H b = none) : cs.lookup b = none := by
  cases e : cs.lookup b with
  | none => rfl
  | some v => rw [t b v e] at h; cases h
theorem cell_tup {b : Addr} {v : V} {xs : List V} : HO.tup xs ≠ CellO b v := fun z => by cases z
theorem hide_hok {P : Program} {w : World} {h : Heap} (t : Trk cs H) (x : HOk P w H h) : HOk P w (hide cs H) h := fun a o e => by
  obtain ⟨_, e2⟩ := hide_some e
  refine (x a o e2).stay (fun b u _ q => q) (fun b q => ?_) fun b xs q => ?_
  · rw [hide_out (t.out q fun v z => by cases z)]; exact q
  · rw [hide_out (t.out q fun v => cell_tup)]; exact q
theorem unhide_hok {P : Program} {w : World} {h : Heap} (n : ∀ b v, cs.lookup b = some v → H b = Option.none) (c : ∀ b v, cs.lookup b = some v → ∃ u, RelV v u ∧ h.IsCell b (some u)) (x : HOk P w H h) : HOk P w (unhide cs H) h := fun a o e => by
  cases hl : cs.lookup a with
  | some v =>
    rw [unhide_in hl] at e
    cases e
    obtain ⟨u, r, q⟩ := c a v hl
    exact cellO_ok r q
  | none =>
    rw [unhide_out hl] at e
    have out : ∀ {b : Addr} {u : HO}, H b = some u → cs.lookup b = none := fun {b u} q => by
      cases z : cs.lookup b with
      | none => rfl
      | some v => rw [n b v z] at q; cases q
    exact (x a o e).stay (fun b u _ q => q) (fun b q => by rw [unhide_out (out q)]; exact q) fun b xs q => by rw [unhide_out (out q)]; exact q
theorem hide_un {fs ex : List Addr} {H0 : Hp} {h0 h : Heap} (t : Trk cs H) (u : Un fs ex H0 H h0 h) : Un fs ex H0 (hide cs H) h0 h where
  keep := u.keep
  slot := u.slot
  free := fun b o q n x => hide_none (u.free b o q n x)
  there := u.there
  tups := fun b xs q => by
    have z := u.tups b xs q
    rw [hide_out (t.out z fun v => cell_tup)]; exact z
  frzs := fun b o xs q => by
    have z := u.frzs b o xs q
    rw [hide_out (t.out z fun v e => by cases e)]; exact z
  tbls := fun b ps q => by
    obtain ⟨m, z⟩ := u.tbls b ps q
    exact ⟨m, by rw [hide_out (t.out z fun v e => by cases e)]; exact z⟩
/-- what a call made of the heap without the cells, told of the heap with them -/
theorem unhide_un {fs : List Addr} {h h' : Heap} (t : Trk cs H) (hf : ∀ b ∈ fs, H b = Option.none) (u : Un fs [] (hide cs H) H' h h') : Un fs [] H (unhide cs H') h h' where
  keep := fun b o q n => u.keep b o q (hide_none n)
  slot := fun b o q n => u.slot b o q (hide_none n)
  free := fun b o q n x => by rw [unhide_out (t.none n)]; exact u.free b o q (hide_none n) x
  there := u.there
  tups := fun b xs q => by
    have l := t.out q fun v => cell_tup
    rw [unhide_out l]
    exact u.tups b xs (by rw [hide_out l]; exact q)
  frzs := fun b o xs q => by
    have l := t.out q fun v e => by cases e
    rw [unhide_out l]
    exact u.frzs b o xs (by rw [hide_out l]; exact q)
  tbls := fun b ps q => by
    have l := t.out q fun v e => by cases e
    obtain ⟨m, z⟩ := u.tbls b ps (by rw [hide_out l]; exact q)
    exact ⟨m, by rw [unhide_out l]; exact z⟩
theorem unhide_ub {fs : List Addr} {h B h' : Heap} (t : Trk cs H) (u : UB fs (hide cs H) H' h B h') : UB fs H (unhide cs H') h B h' where
  keep := fun b o q n => u.keep b o q (hide_none n)
  slot := u.slot
  free := fun b o q n => by rw [unhide_out (t.none n)]; exact u.free b o q (hide_none n)
  there := u.there
  tups := fun b xs q => by
    have l := t.out q fun v => cell_tup
    rw [unhide_out l]
    exact u.tups b xs (by rw [hide_out l]; exact q)
  frzs := fun b o xs q => by
    have l := t.out q fun v e => by cases e
    rw [unhide_out l]
    exact u.frzs b o xs (by rw [hide_out l]; exact q)
  tbls := fun b ps q => by
    have l := t.out q fun v e => by cases e
    obtain ⟨m, z⟩ := u.tbls b ps (by rw [hide_out l]; exact q)
    exact ⟨m, by rw [unhide_out l]; exact z⟩
end
/-- nothing stands there -/
def Free (cs : CL) (H : Hp) : Prop := ∀ b v, cs.lookup b = some v → H b = none
/-- a wish, of the heap without the cells -/
def Qh (cs : CL) (Q : VK) : VK := fun v H' => Free cs H' → Q v (unhide cs H')
def Eh (cs : CL) (E : XK) : XK := fun c d H' => Free cs H' → E c d (unhide cs H')
section
variable {P : Program} {w : World} {outer : List Env} {cs : CL} {H : Hp} {s s' : Shared} {Q : VK} {E : XK} {u : Value}
theorem cells_kept {fs : List Addr} {h B : Heap} (t : Trk cs H) (hok : HOk P w H h) (hf : ∀ b ∈ fs, H b = none) (k : ∀ b o, h.get? b = some o → hide cs H b = none → b ∉ fs → B.get? b = some o) : ∀ b v, cs.lookup b = some v → ∃ u, RelV v u ∧ B.IsCell b (some u) := fun b v e => by
  obtain ⟨u, r, o, ho, hd⟩ := cellO_at hok (t b v e)
  exact ⟨u, r, o, k b o ho (hide_in e) (fun z => by have := hf b z; rw [t b v e] at this; cases this), hd⟩
theorem ce_unhide (t : Trk cs H) (hok : HOk P w H s.heap) (hf : ∀ b ∈ frs outer, H b = none) (h : CE outer P w (hide cs H) s (Qh cs Q) u s') : CE outer P w H s Q u s' := by
  obtain ⟨v, H', e1, e2, un, hok', r, q⟩ := h
  have ck := cells_kept (P := P) (w := w) t hok hf (fun b o q n nf => un.keep b o q n nf (by simp))
  have fr : Free cs H' := fun b v e => by
    obtain ⟨u, _, o, ho, _⟩ := cellO_at hok (t b v e)
    exact un.free b o ho (hide_in e) (by simp)
  exact ⟨v, unhide cs H', e1, e2, unhide_un t hf un, unhide_hok fr ck hok', r, q fr⟩
theorem cx_unhide (t : Trk cs H) (hok : HOk P w H s.heap) (hf : ∀ b ∈ frs outer, H b = none) (h : L2.CX P w outer (hide cs H) s (Eh cs E) u s') : L2.CX P w outer H s E u s' := by
  obtain ⟨a, B, H', cls, d, e0, fl, hok', ub, na, e1, e2, q⟩ := h
  have ck := cells_kept (P := P) (w := w) t hok hf (fun b o q n nf => ub.keep b o q n nf)
  have fr : Free cs H' := fun b v e => by
    obtain ⟨u, _, o, ho, _⟩ := cellO_at hok (t b v e)
    exact ub.free b o ho (hide_in e)
  refine ⟨a, B, unhide cs H', cls, d, e0, fl, unhide_hok fr ck hok', unhide_ub t ub, ?_, e1, e2, q fr⟩
  cases hl : cs.lookup a with
  | none => rw [unhide_out hl]; exact na
  | some v =>
    obtain ⟨u, _, o, ho, _⟩ := ck a v hl
    have z := fl.2.1
    rw [ho] at z; cases z
end
end Xf

/-! Xh1: lambdas with parameters as values: made, tracked, called -/
namespace Xh
open PySem PySem.Spec PySem.Calls PyProof.Rows L2 LamX NdefX
/-- a lambda's words, its cells, its code object -/
structure LF where
  qual : Str
  params : Arguments
  body : Expr
  scope : Scope
  cl : List (Str × Addr)
  c : Addr
abbrev LF.fd (F : LF) (pm ctv : Value) : FuncData := PySem.W.kla_fn "<lambda>" F.qual F.params F.body F.scope F.cl pm (.ref F.c) ctv
abbrev LF.nf (F : LF) : NF := ⟨"<lambda>", F.qual, F.params, [], F.scope, F.cl, F.c⟩
/-- the object at f is the lambda F -/
def LamO (f : Addr) (F : LF) : HO := .ext fun h => ∃ (pm ctv : Value), h.get? f = some (PySem.W.kla_obj "<lambda>" F.qual F.params F.body F.scope F.cl pm F.c ctv)
theorem lamO_ne {f : Addr} {F : LF} (ps : Array Value) : LamO f F ≠ .tbl ps := fun z => by
  unfold LamO at z
  cases z
theorem lamO_at {P : Program} {w : World} {H : Hp} {h : Heap} {f : Addr} {F : LF} (hok : HOk P w H h) (e : H f = some (LamO f F)) : ∃ (pm ctv : Value), h.get? f = some (PySem.W.kla_obj "<lambda>" F.qual F.params F.body F.scope F.cl pm F.c ctv) := by
  obtain ⟨z, _, _⟩ := hok f _ e
  exact z
section
variable {X : Cx} {pins : List (Addr × Obj)} {σ : L2.St} {H : Hp} {s : Shared}
theorem inv_lam {F : LF} {h' : Heap} {t' : Nat} {pm ctv : Value} (I : Inv X pins σ H { s with heap := h', toks := t' }) :
    Inv X pins σ (upd H h'.objs.size (LamO h'.objs.size F)) { s with heap := h'.push (PySem.W.kla_obj "<lambda>" F.qual F.params F.body F.scope F.cl pm F.c ctv), toks := t' } := by
  refine I.laid (s := { s with heap := h', toks := t' }) (a := h'.objs.size) (fun b u e => Heap.get?_push_of_some _ e) (Nat.le_refl _) ?_
  have e : (h'.push (PySem.W.kla_obj "<lambda>" F.qual F.params F.body F.scope F.cl pm F.c ctv)).get? h'.objs.size = some (PySem.W.kla_obj "<lambda>" F.qual F.params F.body F.scope F.cl pm F.c ctv) := Heap.get?_push_size _ rfl
  exact ⟨⟨pm, ctv, e⟩, ⟨_, e⟩, fun h1 h2 ⟨p, t, z⟩ st => ⟨p, t, st _ z⟩⟩
/-- tables that got one more code object at P -/
theorem tabs_grow {T : List (Addr × Str)} {H G : Hp} {P ca : Addr} {q : Str} {ps : Array Value} {at_ : Pos} (hT : Tabs T H) (same : ∀ r ∈ T, r.1 = P → r.2 = q) (was : H P = some (.tbl ps)) (now : G P = some (.tbl (ps ++ #[rawInt at_.line, rawInt at_.col, .ref ca]))) (code : G ca = some (CodeO ca q))
    (rest : ∀ b o, b ≠ P → H b = some o → G b = some o) : Tabs T G := by
  have codes : ∀ {x : Addr} {y : Str}, H x = some (CodeO x y) → G x = some (CodeO x y) := fun {x y} w => rest x _ (fun z => by
    rw [z, was] at w
    exact codeO_ne ps (Option.some.inj w).symm) w
  intro r hr
  obtain ⟨qs, w1, w2, w3⟩ := hT r hr
  rcases Decidable.em (r.1 = P) with y | y
  · rw [y, was] at w1
    cases w1
    refine ⟨_, by rw [y]; exact now, ?_, fun where_ val found => ?_⟩
    · rw [Array.toList_append]
      exact PySem.TriplesOk_snoc _ _ _ _ w2
    · rw [Array.toList_append] at found
      rcases among_app _ w2 found with old | new_
      · obtain ⟨x, v1, v2⟩ := w3 where_ val old
        exact ⟨x, v1, codes v2⟩
      · exact ⟨ca, new_, by rw [same r hr y]; exact code⟩
  · exact ⟨qs, rest _ _ y w1, w2, fun where_ val found => (w3 where_ val found).imp fun x v => ⟨v.1, codes v.2⟩⟩
/-- a lambda is evaluated: a function object that was not there, its code object new or told by the table -/
theorem lamv_make {T : List (Addr × Str)} {c P : Addr} {ar : Arguments} {bd : Expr} {sco : Scope} {at_ : Pos} {E Q : Value → Shared → Prop} (I : Inv X pins σ H s) (TB : TabB X.base X.mg c P) (own : X.env.code = .ref c) (nodef : defaultsOf ar X.env = ([], []))
    (mine : (P, X.env.qual ++ "<lambda>") ∈ T) (same : ∀ r ∈ T, r.1 = P → r.2 = X.env.qual ++ "<lambda>") (hT : Tabs T H) (held : ∀ y ∈ sco.names, y.2 = .free → ∃ a, X.env.cells.lookup y.1 = some a)
    (go : ∀ (f ca : Addr) (G : Hp) (s' : Shared), Inv X pins σ G s' → ExtN H G → (∀ b, G b = Option.none → H b = Option.none) → Tabs T G → H f = none →
      G f = some (LamO f ⟨X.env.qual ++ "<lambda>", ar, bd, sco, cloFrom X.env.cells sco.names [], ca⟩) → G ca = some (CodeO ca (X.env.qual ++ "<lambda>")) → Q (.ref f) s') :
    wpAny (model X.prog X.w) X.A (eval (.Lambda ar bd sco at_) X.env) Q E s := by
  obtain ⟨qs, was, w2, w3⟩ := hT _ mine
  have stands : s.heap.get? P = some { cls := .none, data := .fields qs } := I.hok P _ was
  refine PySem.W.kla_eval nodef ?_
  rcases found : codeAmong at_ qs.toList with _ | val
  · refine PySem.W.kla_makeFunction (mg := X.mg) (c := c) (P := P) (ps := qs) (closure_ok held) I.ok.glob (I.mod.glob.keeps I.bk) own (TB.code.keeps I.bk) stands w2 found TB.gP (TB.bm.keeps I.bk) fun ca ctv hp tk kept ge lt rcd tab => ?_
    obtain ⟨wh, oc, vs, t, r0, r1, r2, r3⟩ := rcd
    cases r0
    have noC : H ca = none := I.hok.fresh ge
    have J := inv_table (t' := tk) (more := #[rawInt at_.line, rawInt at_.col, .ref ca]) (h' := hp) I was (fun b o n e => kept b o n e) tab ge ⟨oc, vs, t, r1, r2, r3⟩
    have noF := J.hok.fresh (Nat.le_refl hp.objs.size)
    have nPC : P ≠ ca := ne_of_none was noC
    have rest : ∀ b o, b ≠ P → H b = some o → upd (upd (upd H P (.tbl (qs ++ #[rawInt at_.line, rawInt at_.col, .ref ca]))) ca (CodeO ca (X.env.qual ++ "<lambda>"))) hp.objs.size (LamO hp.objs.size ⟨X.env.qual ++ "<lambda>", ar, bd, sco, cloFrom X.env.cells sco.names [], ca⟩) b = some o := fun b o n e => by
      have e2 : upd (upd H P (.tbl (qs ++ #[rawInt at_.line, rawInt at_.col, .ref ca]))) ca (CodeO ca (X.env.qual ++ "<lambda>")) b = some o := by rw [upd_ne (ne_of_none e noC), upd_ne n]; exact e
      rw [upd_ne (ne_of_none e2 noF)]; exact e2
    have atC : upd (upd (upd H P (.tbl (qs ++ #[rawInt at_.line, rawInt at_.col, .ref ca]))) ca (CodeO ca (X.env.qual ++ "<lambda>"))) hp.objs.size (LamO hp.objs.size ⟨X.env.qual ++ "<lambda>", ar, bd, sco, cloFrom X.env.cells sco.names [], ca⟩) ca = some (CodeO ca (X.env.qual ++ "<lambda>")) := by rw [upd_ne (Nat.ne_of_lt lt), upd_same]
    have atP : upd (upd (upd H P (.tbl (qs ++ #[rawInt at_.line, rawInt at_.col, .ref ca]))) ca (CodeO ca (X.env.qual ++ "<lambda>"))) hp.objs.size (LamO hp.objs.size ⟨X.env.qual ++ "<lambda>", ar, bd, sco, cloFrom X.env.cells sco.names [], ca⟩) P = some (.tbl (qs ++ #[rawInt at_.line, rawInt at_.col, .ref ca])) := by
      have e2 : upd (upd H P (.tbl (qs ++ #[rawInt at_.line, rawInt at_.col, .ref ca]))) ca (CodeO ca (X.env.qual ++ "<lambda>")) P = some (.tbl (qs ++ #[rawInt at_.line, rawInt at_.col, .ref ca])) := by rw [upd_ne nPC, upd_same]
      rw [upd_ne (ne_of_none e2 noF)]; exact e2
    exact go hp.objs.size ca _ _ (inv_lam (pm := (X.mg "__name__").getD .none) (ctv := ctv) J) (fun b o e n => rest b o (fun z => by
      rw [z, was] at e
      exact n qs (Option.some.inj e).symm) e) (fun b e => upd_none (upd_none (upd_none e))) (tabs_grow hT same was atP atC rest) (I.hok.fresh (Nat.le_trans ge (Nat.le_of_lt lt))) upd_same atC
  · obtain ⟨ca, rfl, told⟩ := w3 at_ val found
    refine PySem.W.kla_makeFunctionHit (mg := X.mg) (c := c) (P := P) (ps := qs) (closure_ok held) I.ok.glob (I.mod.glob.keeps I.bk) own (TB.code.keeps I.bk) stands w2 found (TB.bm.keeps I.bk) fun ctv hp tk kept sz => ?_
    have J : Inv X pins σ H { s with heap := hp, toks := tk } := I.kept kept
    have noF := J.hok.fresh (Nat.le_refl hp.objs.size)
    have all : ∀ b o, H b = some o → upd H hp.objs.size (LamO hp.objs.size ⟨X.env.qual ++ "<lambda>", ar, bd, sco, cloFrom X.env.cells sco.names [], ca⟩) b = some o := fun b o e => by rw [upd_ne (ne_of_none e noF)]; exact e
    exact go hp.objs.size ca _ _ (inv_lam (pm := (X.mg "__name__").getD .none) (ctv := ctv) J) (fun b o e _ => all b o e) (fun b e => upd_none e) (hT.ext all) noF upd_same (all _ _ told)
end
/-! ### the expression -/
/-- the reading of «lambda ..: ..»: a new function object -/
def tLamV (T : List (Addr × Str)) (mk : Addr → LF) : TE := fun σ H Q => Tabs T H ∧ ∀ (f c' : Addr) (H1 : Hp), ExtN H H1 → (∀ b, H1 b = Option.none → H b = Option.none) → Tabs T H1 → H f = none → H1 f = some (LamO f (mk c')) → H1 c' = some (CodeO c' (mk c').qual) → Q (.ref f) H1
theorem pe_lamv {X : Cx} {T : List (Addr × Str)} {c P : Addr} {params : Arguments} {body : Expr} {scope : Scope} {pos : Pos} (TB : TabB X.base X.mg c P) (hcode : X.env.code = .ref c) (hm : (P, X.env.qual ++ "<lambda>") ∈ T) (hu : ∀ p ∈ T, p.1 = P → p.2 = X.env.qual ++ "<lambda>")
    (hdef : defaultsOf params X.env = ([], [])) (hfree : ∀ y ∈ scope.names, y.2 = .free → X.env.scope.names.lookup y.1 = some .cell ∨ X.env.scope.names.lookup y.1 = some .free) :
    PE X (.Lambda params body scope pos) (tLamV T fun c' => ⟨X.env.qual ++ "<lambda>", params, body, scope, cloFrom X.env.cells scope.names [], c'⟩) := by
  refine ⟨fun pins s σ H Q I h => ?_⟩
  obtain ⟨hT, h⟩ := h
  refine lamv_make I TB hcode hdef hm hu hT (fun y hy e => (hfree y hy e).elim (fun z => I.ok.has _ (.inl z)) fun z => I.ok.has _ (.inr z)) fun f c' H1 s' I1 eN nn T1 f0 f1 c1 => ?_
  exact ⟨.ref f, H1, I1, rfl, h f c' H1 eN nn T1 f0 f1 c1⟩
/-! ### calls of function values -/
/-- what a call of the function at f, of these things, with this heap, keeps -/
def CallsTo (P : Program) (w : World) (K : PySem.W.Frag) (mg : Str → Option Value) (base : Heap) (CX : CXT) (k : Nat) (f : Addr) (H : Hp) (vs : List V) (Q : VK) (E : XK) : Prop :=
  ∀ (A : Around) (outer : List Env) (s : Shared) (us : List Value), Room k A → Env0 P w K mg base A outer s H → Vals vs us → PySem.W.FnAt f s.heap ∧ codeAny (model P w) A (.call (.ref f) ⟨us, []⟩) (CR CX outer P w H s Q E) s
section
variable {CX : CXT} {P : Program} {w : World} {K : PySem.W.Frag} {mg : Str → Option Value} {base : Heap} {N ps : List Str} {F : LF} {f : Addr} {k j : Nat}
/-- a lambda that captures nothing -/
theorem calls_lam {H : Hp} {vs : List V} {Q : VK} {E : XK} {t : TE} (S : NScope N ps [] F.scope) (hcl : F.cl = []) (hb : ∀ (pm ctv : Value) (us : List Value), us.length = ps.length → bindArgs (F.fd pm ctv) ⟨us, []⟩ = pure (ps.zip us)) (hl : vs.length = ps.length)
    (hf : H f = some (LamO f F)) (hc : H F.c = some (CodeO F.c F.qual))
    (hbody : ∀ (A : Around) (outer : List Env) (s : Shared), Room k (A.deeper (envF F.nf f s.heap.objs.size)) → PE (ncx CX P w K mg base N F.nf f A outer s H E) F.body t) (hq : t (startF N vs []) H Q) :
    CallsTo P w K mg base CX (k + 1) f H vs Q E := by
  refine fun A outer s us hr e0 r => ?_
  have unlim : s.heap.NoLimit := e0.mod.nolimit.keeps fun x y z => (e0.bs x y z).1
  obtain ⟨pm, ctv, ho⟩ := lamO_at e0.hok hf
  refine ⟨⟨_, _, _, _, ho⟩, ?_⟩
  refine PySem.W.kla_callFunE hr.depth ho rfl S.co S.gen rfl (codeO_at e0.hok hc) ?_
  rw [hb pm ctv us (by rw [← r.length]; exact hl)]
  refine wpAny_pure (wpAny_newFunctionEnv S.nocell (fun y hy => S.par y.1 (List.of_mem_zip hy).1) (fun hn frm grown => ⟨unlim.fresh _ grown, ?_⟩) S.kind)
  show codeAny _ _ (.expr F.body (envF F.nf f s.heap.objs.size)) _ _
  have still : ∀ x y, s.heap.get? x = some y → hn.get? x = some y := fun x y z => grown.extBut x y (Nat.ne_of_lt (Heap.lt_size z)) (Heap.get?_push_of_some _ z)
  have C : CellsAt F.nf.cl [] [] s.heap H := by
    refine ⟨rfl, fun y c e => ?_, fun x y c e _ => ?_, fun i y e => by simp at e⟩
    · rw [show F.nf.cl = [] from hcl] at e; cases e
    · rw [show F.nf.cl = [] from hcl] at e; cases e
  have I : Inv (ncx CX P w K mg base N F.nf f A outer s H E) [] (startF N vs []) H { s with heap := hn, toks := s.toks + (ps.zip us).length } := inv_startN S hr.hd e0 hl r C frm still
  refine PySem.W.kla_codeExpr (wpAny_mono ((hbody A outer s (hr.deeper _)).run [] _ (startF N vs []) H Q I hq) (fun v s' hq => ?_) fun e s' hq => hq)
  obtain ⟨w', H', J, rv, q⟩ := hq
  exact ⟨w', H', J.os, J.bare, J.base, J.hok, rv, q⟩
end
/-- the object at f is known to be a function -/
def IsFn (f : Addr) (H : Hp) : Prop := ∀ (P : Program) (w : World) (h : Heap), HOk P w H h → PySem.W.FnAt f h
theorem isFn_lam {f : Addr} {F : LF} {H : Hp} (e : H f = some (LamO f F)) : IsFn f H := fun P w h hok => by
  obtain ⟨pm, ctv, ho⟩ := lamO_at hok e
  exact ⟨_, _, _, _, ho⟩
/-- o.m(..), m a field that holds a function -/
def tCallF (X : Cx) (CX : CXT) (k : Nat) (m : Str) (te : TE) (ta : TA) (E : XK) : TE := fun σ H Q => te σ H fun x H1 => ∃ a C dx fs f, x = .ref a ∧ H1 a = some (.ins C dx fs) ∧ Cls X.K C ∧ NoAttr X.K C m ∧ fs.lookup m = some (.ref f) ∧ IsFn f H1 ∧
  ta σ H1 fun vs H2 => CallsTo X.prog X.w X.K X.mg X.base CX k f H2 vs Q E
section
variable {X : Cx} {CX : CXT} {k j : Nat} {m : Str} {E : XK} {te : TE} {ta : TA} {o e : Expr} {es : List Expr} {apos pos : Pos}
theorem getfn_ok {H : Hp} {σ : L2.St} {s : Shared} {pins : List (Addr × Obj)} {a C dx : Addr} {fs : List (Str × V)} {v : V} {pl : Sem Bool} {Q : Value × List Value → Shared → Prop} (I : Inv X pins σ H s) (e : H a = some (.ins C dx fs)) (c : Cls X.K C) (n : NoAttr X.K C m) (l : fs.lookup m = some v)
    (h : ∀ u s', Inv X pins σ H s' → RelV v u → Q (u, []) s') : wpAny (model X.prog X.w) X.A (getMethod (.ref a) m pl) Q X.xe s := by
  obtain ⟨mm, ob, rr, _⟩ := ins_get I.hok e
  obtain ⟨u, hu, ru⟩ := RelO.some_of (v := v) (o := mm m) (by rw [← l]; exact rr m)
  obtain ⟨od, J, hl⟩ := ob.look
  refine PySem.W.method_usual (r := none) I.kIn J (PySem.W.plainGet_of (c.get m)).1 (PySem.W.plainGet_of (c.get m)).2 n rfl ?_
  exact get_map I.kIn ob (c.get m) c.hd n hu (handed_of ru) (h u _ (I.tok _) ru)
theorem pe_callF {pl : Sem Bool} (he : PE X o te) (ha : PA X (e :: es) ta) (hr : Room j X.A) (hk : k ≤ j) (hx : Passes CX X E)
    (ht : eval (.Call (.Attribute o m apos) (e :: es) [] pos) X.env = (do let recv ← eval o X.env; standAt apos.atName; let (fn_, first_) ← holding [recv] (getMethod recv m pl); callWith pos fn_ first_ (backTo pos (starEach (e :: es) X.env)) (backToKw pos (keywordEach [] X.env))) := by rfl)
    (hs : starEach (e :: es) X.env = (false, eval e X.env) :: starEach es X.env := by rfl) (hpl : (backTo pos (starEach es X.env)).any (·.1) = false := by rfl) :
    PE X (.Call (.Attribute o m apos) (e :: es) [] pos) (tCallF X CX k m te ta E) := by
  refine ⟨fun pins s σ H Q I h => ?_⟩
  refine PySem.W.methodCall_KW (pl := pl) (thn (he.run pins s σ H _ I h) fun u s1 ⟨x, H1, I1, rx, a, C, dx, fs, f, ex, ea, c, n, l, hfn, q⟩ => ?_) ht
  subst ex
  cases (show u = Value.ref a from rx)
  refine getfn_ok I1 ea c n l fun u2 s2 I2 ru => ?_
  obtain rfl : u2 = Value.ref f := ru
  show wpAny _ _ (callWith pos (.ref f) [] (backTo pos (starEach (e :: es) X.env)) []) _ _ s2
  refine PySem.W.callWith_F (first := []) (hfn _ _ _ I2.hok) ?_ hs hpl
  refine thn (ha.run pos pins s2 σ H1 _ I2 q) fun us s3 ⟨vs, H2, I3, r, q3⟩ => ?_
  obtain ⟨z1, z2⟩ := q3 X.A X.stack s3 us (hr.mono hk) I3.env0 r
  refine ⟨z1, wpAny_call (codeAny_mono z2 fun r s' hq => ?_)⟩
  cases r with
  | error e => exact hx pins σ H2 s3 e s' I3 hq
  | ok fl =>
    cases fl with
    | ret u => exact I3.after hq
    | next => exact False.elim hq
    | brk => exact False.elim hq
    | cont => exact False.elim hq
end
end Xh

/-! Xh2: defs with defaults of both kinds -/
namespace Xh
open PySem PySem.Spec PySem.Calls PyProof.Rows L2 Rs
structure CalDD (K : PySem.W.Frag) (mg : Str → Option Value) (x : Str) (st : Stmt) (dvs : List V) (kws : List (Str × V)) (f : Addr) (fd : FuncData) : Prop where
  F : FunD K x x (defArgs st) (defBody st) (defScope st) dvs kws f fd
  m : mg x = some (.ref f)
section
variable {σ : L2.St} {H H0 : Hp} {M : List Addr} {L L' : Led} {Q : VK} {te : TE} {ta : TA} {a : Addr}
theorem rd_callF {X : Cx} {CX : CXT} {k : Nat} {m : Str} {E : XK} (h : te σ H fun x H1 => ∃ a C dx fs f, x = .ref a ∧ H1 a = some (.ins C dx fs) ∧ Cls X.K C ∧ NoAttr X.K C m ∧ fs.lookup m = some (.ref f) ∧ IsFn f H1 ∧
  ta σ H1 fun vs H2 => CallsTo X.prog X.w X.K X.mg X.base CX k f H2 vs Q E) : tCallF X CX k m te ta E σ H Q := h
theorem rd_callFV {K : PySem.W.Frag} {m : Str} {C dx f : Addr} {fs : List (Str × V)} {R : Addr → Prop} (S : Hs H0 M H L) (hm : (a, HO.ins C dx fs) ∈ L) (c : Cls K C) (n : NoAttr K C m) (e : fs.lookup m = some (.ref f)) (hf : IsFn f H) (h : R f) :
    ∃ a' C dx fs f, V.ref a = .ref a' ∧ H a' = some (.ins C dx fs) ∧ Cls K C ∧ NoAttr K C m ∧ fs.lookup m = some (.ref f) ∧ IsFn f H ∧ R f := ⟨a, C, dx, fs, f, rfl, S.is _ hm, c, n, e, hf, h⟩
end
end Xh

/-! Xh3: repr of a list of things, some of them pairs (text, thing) -/
namespace Xh
open PySem PySem.Spec PySem.Calls PyProof.Rows L2 Rs Xc
inductive Tp (K : PySem.W.Frag) (H : Hp) : V → PyData → Prop where
  | tz {v : V} {d : PyData} (h : Tz K H v d) : Tp K H v d
  | pr {p : Addr} {t : Str} {v : V} {d : PyData} (h : SqT K H p [.str t, v]) (q : Tz K H v d) : Tp K H (.ref p) (.tuple [.str t, d])
inductive TpA (K : PySem.W.Frag) (H : Hp) : List V → List PyData → Prop where
  | nil : TpA K H [] []
  | cons {v : V} {d : PyData} {vs : List V} {ds : List PyData} : Tp K H v d → TpA K H vs ds → TpA K H (v :: vs) (d :: ds)
def rReprP (K : PySem.W.Frag) : List V → Hp → VK → Prop := fun xs H Q => ∃ (p : Addr) (vs : List V) (ds : List PyData), xs = [.ref p] ∧ SqL K H p vs ∧ TpA K H vs ds ∧ vs ≠ [] ∧ (PyData.list ds).shown.length ≤ sizeLine ∧ PyData.depthAll ds ≤ 30 ∧ Q (.str (PyData.list ds).shown) H
section
variable {X : Cx} {pins : List (Addr × Obj)} {σ : L2.St} {H : Hp} {s : Shared}
theorem tz_shows (I : Inv X pins σ H s) (st : Stat X.K) {n : Nat} {v : V} {d : PyData} {u : Value} (h : Tz X.K H v d) (r : RelV v u) (hz : d.shown.length ≤ sizeLine) (hd : d.depth ≤ n) :
    ∃ bs, ReadAtMost s.heap d.depth bs ∧ ReprK X.prog X.w bs s.heap n u d.shown := by
  cases h with
  | dp h sw =>
    obtain ⟨as, q⟩ := Dp.reads I d v u h r
    obtain ⟨bs, h1, h2⟩ := ReprK.of_reads (prog := X.prog) (w := X.w) q sw (PyData.noDict_hsm (dp_noDict d v h)) hz
    exact ⟨bs, h1, h2.level_le hd⟩
  | @dk a kv kds h p sw =>
    cases (show u = Value.ref a from r)
    obtain ⟨_, ns, vs, kv', o, es, ep, e1, e2, e3, _, e5, _⟩ := dk_of I.hok h
    obtain ⟨r1, r2⟩ := plKv_reads (h := s.heap) p kv' e5
    have q : Reads s.heap (.ref a) (.dict kds) ([a] ++ [] ++ []) := Reads.dict (as := []) (bs := []) e1 e2.1 e3 r1 r2
    obtain ⟨bs, h1, h2⟩ := ReprK.of_reads (prog := X.prog) (w := X.w) q sw (fun _ hm => by
      have z : sysModules = a := by simpa using hm
      rw [z] at ns
      simp at ns) hz
    exact ⟨bs, h1, h2.level_le hd⟩
  | @big i f =>
    obtain ⟨tk, rfl⟩ := (show ∃ tk, u = Value.int i tk from r)
    exact ⟨[], fun _ h => (nomatch h), by simp only [PyData.shown]; exact reprK_big I.kIn st f⟩
theorem Tp.reads (I : Inv X pins σ H s) {v : V} {d : PyData} {u : Value} (h : Tp X.K H v d) (r : RelV v u) : ∃ as, Reads s.heap u d as := by
  cases h with
  | tz h => exact h.reads I r
  | @pr p t v d h q =>
    cases (show u = Value.ref p from r)
    obtain ⟨its, rv, ⟨o, ho, hc, n, hd⟩, _⟩ := I.tuple h
    obtain ⟨u1, u2, rfl, q1, q2⟩ := vals2 rv
    obtain ⟨tk, rfl⟩ := (show ∃ tk, u1 = Value.str t tk from q1)
    obtain ⟨as, rd⟩ := q.reads I q2
    exact ⟨_, Reads.tuple ho hc hd (.cons (.str t tk) (.cons rd .nil))⟩
theorem Tp.shows (I : Inv X pins σ H s) (st : Stat X.K) {n : Nat} {v : V} {d : PyData} {u : Value} (h : Tp X.K H v d) (r : RelV v u) (hz : d.shown.length ≤ sizeLine) (hd : d.depth ≤ n) :
    ∃ bs, ReadAtMost s.heap d.depth bs ∧ ReprK X.prog X.w bs s.heap n u d.shown := by
  cases h with
  | tz h => exact tz_shows I st h r hz hd
  | @pr p t v d h q =>
    have hrd := Tp.reads I (.pr h q) r
    obtain ⟨as, rdp⟩ := hrd
    cases (show u = Value.ref p from r)
    obtain ⟨its, rv, ⟨o, ho, hc, n2, hdt⟩, _⟩ := I.tuple h
    obtain ⟨u1, u2, rfl, q1, q2⟩ := vals2 rv
    obtain ⟨tk, rfl⟩ := (show ∃ tk, u1 = Value.str t tk from q1)
    have es : (PyData.tuple [.str t, d]).shown = tupleText [reprText t, d.shown] := by simp [PyData.shown, PyData.shownAll]
    rw [es] at hz ⊢
    have z1 := Nat.le_trans (tupleText_mem_le (ts := [reprText t, d.shown]) (t := reprText t) (by simp)) hz
    have z2 := Nat.le_trans (tupleText_mem_le (ts := [reprText t, d.shown]) (t := d.shown) (by simp)) hz
    have ed : (PyData.tuple [.str t, d]).depth = d.depth + 1 := by
      simp only [PyData.depth, PyData.depthAll]; omega
    rw [ed] at hd
    obtain ⟨m, rfl⟩ : ∃ m, n = m + 1 := ⟨n - 1, by omega⟩
    obtain ⟨bs, hb, rk⟩ := tz_shows I st (n := m) q q2 z2 (by omega)
    have hall : ReprAllK X.prog X.w bs s.heap m [.str t tk, u2] [reprText t, d.shown] := .cons (ReprK.of_is (ReprIs.str t tk z1) _ _ _) (.cons rk .nil)
    have hna : p ∉ bs := not_mem_of_deeper rdp (by rw [ed]; omega) hb
    refine ⟨p :: bs, ReadAtMost.cons rdp (Nat.le_refl _) (hb.mono (by rw [ed]; omega)), ?_⟩
    exact ReprK.tuple ho hc hdt hna hall
theorem TpA.reads (I : Inv X pins σ H s) : ∀ {vs : List V} {ds : List PyData} {us : List Value}, TpA X.K H vs ds → Vals vs us → ∃ as, ReadsAll s.heap us ds as
  | _, _, _, .nil, .nil => ⟨_, .nil⟩
  | _, _, _, .cons h t, .cons r q => by
    obtain ⟨a, h1⟩ := h.reads I r
    obtain ⟨b, h2⟩ := TpA.reads I t q
    exact ⟨_, .cons h1 h2⟩
theorem TpA.shows (I : Inv X pins σ H s) (st : Stat X.K) {n : Nat} (hn : n ≤ 50) : ∀ {vs : List V} {ds : List PyData} {us : List Value}, TpA X.K H vs ds → Vals vs us → (∀ d ∈ ds, d.shown.length ≤ sizeLine) → PyData.depthAll ds ≤ n →
    ∃ bs, ReadAtMost s.heap n bs ∧ ReprAllK X.prog X.w bs s.heap 50 us (PyData.shownAll ds)
  | _, _, _, .nil, .nil, _, _ => ⟨[], fun _ h => (nomatch h), by simp only [PyData.shownAll]; exact .nil⟩
  | _, _, _, .cons (d := d) h t, .cons r q, hz, hd => by
    simp only [PyData.depthAll] at hd
    obtain ⟨b1, m1, k1⟩ := h.shows I st (n := 50) r (hz d List.mem_cons_self) (by omega)
    obtain ⟨b2, m2, k2⟩ := TpA.shows I st hn t q (fun d hm => hz d (List.mem_cons_of_mem _ hm)) (by omega)
    refine ⟨b1 ++ b2, fun b hb => ?_, by
      simp only [PyData.shownAll]
      exact .cons (ReprK.more k1 fun b z => List.mem_append_left _ z) (k2.more_le (fun b z => List.mem_append_right _ z) (Nat.le_refl _))⟩
    rcases List.mem_append.mp hb with z | z
    · obtain ⟨d', as', r', hd'⟩ := m1 b z
      exact ⟨d', as', r', by omega⟩
    · exact m2 b z
theorem call_reprPs {k : Nat} (st : Stat X.K) (c : Clr X.A) (hr : Room k X.A) : CallR X (.builtin "repr") (rReprP X.K) := by
  intro pins s σ H xs us Q I r h
  obtain ⟨p, vs, ds, rfl, hs, hq, hne, sw, dp, q⟩ := h
  cases r with
  | cons r1 r2 =>
    cases r2
    rename_i u
    cases (show u = Value.ref p from r1)
    obtain ⟨its, rv, ⟨o, n, ho, hc, hdn, hd⟩, hlen⟩ := I.list hs
    have un := hr.units
    obtain ⟨as, rd⟩ := hq.reads I rv
    have sz : ∀ d ∈ ds, d.shown.length ≤ sizeLine := fun d hm => by
      have z := listText_mem_le (ts := PyData.shownAll ds) (shown_of hm)
      simp only [PyData.shown] at sw
      omega
    obtain ⟨bs, hb, rk⟩ := hq.shows (n := PyData.depthAll ds) I st (by omega) rv sz (Nat.le_refl _)
    have own : Reads s.heap (.ref p) (.list ds) (p :: as) := Reads.list ho hc hd (by simpa using rd)
    have hna : p ∉ bs := fun hm => by
      obtain ⟨d', as', r', hd'⟩ := hb p hm
      have e := (PyProof.Rows.reads_det (fun _ _ e _ => e) own r').1
      rw [e] at hd'
      simp only [PyData.depth] at hd'
      omega
    cases its with
    | nil =>
      have := rv.length
      simp at this
      exact absurd this hne
    | cons y ys =>
      simp only [PyData.shown] at sw q
      refine call_repr_slot (by omega) ⟨o, ho, hc⟩ F.slot_list_repr.toG ?_
      exact call_list_reprK ho hc (by simpa using hd) hna (by rw [rk.length_eq]; simp) (fun i z e => rk.item i z (by simpa using e)) c (fun b _ => Clear.nil b) (by show X.A.units + 1 + (50 + 1) < cLine; omega) (fun _ _ e => e) (fun h' t2 tk2 kp => ⟨_, _, rfl, ⟨.str _, H, I.kept kp, ⟨t2, rfl⟩, q⟩⟩) sw
end
end Xh

/-! Xh4: comprehensions over enumerate of a list whose steps change the ledger; lambdas as values in the readings -/
namespace Xh
open PySem PySem.Spec PySem.Calls PyProof.Rows L2 Rs Xg
section
variable {K : PySem.W.Frag} {H H0 : Hp} {M : List Addr} {L : Led} {σ : L2.St} {a : Addr} {Q : VK}
theorem lcv_enum {xs : List V} {g : TG} {tt : TT} {te : TE} {vs : List Nat} (S : Hs H0 M H L) (R : Nat → List V → Led → Prop) (r0 : R 0 [] L) (hl : ∀ i H' acc D L', R i acc L' → Hs H0 M H' ((D, .lst acc) :: L') → SqL K H' a xs)
    (hs : ∀ D i x acc L' H' T, xs[i]? = some x → R i acc L' → H0 D = none → Hs H0 M H' ((D, .lst acc) :: L') → H' T = none → g (.ref T) (wipe σ vs) (upd H' T (.tup [.int (i : Nat), x])) fun σ2 H2 => wipe σ2 vs = wipe σ vs ∧ tt σ2 H2 fun b H3 => if b = true then te σ2 H3 fun y H4 => lvPut H0 M (R (i + 1)) D y H4 else lvSkip H0 M (R (i + 1)) D H3)
    (hd : ∀ D acc L' H', R xs.length acc L' → H0 D = none → Hs H0 M H' ((D, .lst acc) :: L') → Q (.ref D) H') : lcW (Ite K a) g tt te vs σ H Q := by
  intro D hD
  have S1 := S.new hD (.lst [])
  refine lc_it walk_enum (fun i H' => lvSkip H0 M (R i) D H') ⟨S1.1, [], L, r0, S1.2⟩ (fun i H' _ ⟨_, acc, L', r, S'⟩ => hl i H' acc D L' r S') ?_ ?_
  · rintro i x H1 H2 hi ⟨n0, acc, L', r, S'⟩ ⟨T, y, z, rfl, hT, rfl, e1, e2⟩
    cases e1
    exact hs D i z acc L' H1 T e2 r n0 S' hT
  · rintro H' ⟨n0, acc, L', r, S'⟩
    exact hd D acc L' H' r n0 S'
end
end Xh

/-! Xh5: a nested def as a value, called behind the end of its maker: its cells are tracked -/
namespace Xh
open PySem PySem.Spec PySem.Calls PyProof.Rows L2 LamX NdefX Xf
/-- the cells of cl are those of cs; ws: what the names fr stand for -/
structure ClAt (cl : List (Str × Addr)) (fr : List Str) (ws : List (Option V)) (cs : CL) : Prop where
  len : ws.length = fr.length
  all : ∀ y c, cl.lookup y = some c → ∃ v, cs.lookup c = some v
  inj : ∀ x y c, cl.lookup x = some c → cl.lookup y = some c → x = y
  has : ∀ (i : Nat) (y : Str), fr[i]? = some y → ∃ c, cl.lookup y = some c ∧ ∀ v, ws[i]? = some (some v) → cs.lookup c = some v
section
variable {CX : CXT} {P : Program} {w : World} {K : PySem.W.Frag} {mg : Str → Option Value} {base : Heap} {N ps fr : List Str} {F : NF} {f : Addr} {k j : Nat} {sp : List (Option V) → Sp} {cs : CL} {H : Hp}
theorem fn_out {h : Heap} (t : Trk cs H) (hok : HOk P w H h) (e : H f = some (FnO f F)) : cs.lookup f = none := by
  rcases q : cs.lookup f with _ | v
  · rfl
  · obtain ⟨u, _, o, ho, hd⟩ := cellO_at hok (t f v q)
    obtain ⟨od, sl, doc, pm, ctv, ho2⟩ := fnO_at hok e
    rw [ho2] at ho
    cases ho
    cases hd
theorem isFn_nd (e : H f = some (FnO f F)) : IsFn f H := fun P w h hok => by
  obtain ⟨od, sl, doc, pm, ctv, ho⟩ := fnO_at hok e
  exact ⟨_, _, _, _, ho⟩
theorem code_out {h : Heap} {c : Addr} {q : Str} (t : Trk cs H) (hok : HOk P w H h) (e : H c = some (CodeO c q)) : cs.lookup c = none := by
  rcases z : cs.lookup c with _ | v
  · rfl
  · obtain ⟨u, _, o, ho, hd⟩ := cellO_at hok (t c v z)
    obtain ⟨⟨oc, vs, tk, h1, h2, h3⟩, _, _⟩ := hok c _ e
    rw [ho] at h1
    cases h1
    rw [h2] at hd
    cases hd
theorem env_hide {A : Around} {outer : List Env} {s : Shared} (t : Trk cs H) (e : Env0 P w K mg base A outer s H) : Env0 P w K mg base A outer s (hide cs H) :=
  ⟨e.frames, e.mod, fun b o q => ⟨(e.bs b o q).1, hide_none (e.bs b o q).2⟩, e.bsz, e.funs, fun b q => hide_none (e.frf b q), hide_hok t e.hok, e.bare⟩
theorem cells_hide {h : Heap} {ws : List (Option V)} (t : Trk cs H) (hok : HOk P w H h) (c : ClAt F.cl fr ws cs) : CellsAt F.cl fr ws h (hide cs H) := by
  refine ⟨c.len, fun y a e => ?_, c.inj, fun i y e => ?_⟩
  · obtain ⟨v, q⟩ := c.all y a e
    obtain ⟨u, _, z⟩ := cellO_at hok (t a v q)
    exact ⟨hide_in q, _, z⟩
  · obtain ⟨a, e1, e2⟩ := c.has i y e
    refine ⟨a, e1, fun v ev => ?_⟩
    obtain ⟨u, r, z⟩ := cellO_at hok (t a v (e2 v ev))
    exact ⟨u, r, z⟩
/-- a nested def, called later: what its body promises of the heap less its cells -/
theorem calls_nd {vs : List V} {ws : List (Option V)} {Q : VK} {E : XK} (o : NOk P w K mg base (L2.CX P w) k f F ps fr sp) (t : Trk cs H) (c : ClAt F.cl fr ws cs) (hf : H f = some (FnO f F)) (hc : H F.c = some (CodeO F.c F.qual)) (q : sp ws vs (hide cs H) (Qh cs Q) (Eh cs E)) :
    CallsTo P w K mg base (L2.CX P w) k f H vs Q E := by
  refine fun A outer s us hr e0 r => ⟨isFn_nd hf _ _ _ e0.hok, ?_⟩
  have run := o.run A outer s (hide cs H) us vs ws (Qh cs Q) (Eh cs E) hr (env_hide t e0) (by rw [hide_out (fn_out t e0.hok hf)]; exact hf) (by rw [hide_out (code_out t e0.hok hc)]; exact hc) (cells_hide t e0.hok c) r q
  refine codeAny_mono run fun rs s' z => ?_
  cases rs with
  | error e => exact cx_unhide t e0.hok e0.frf z
  | ok fl =>
    cases fl with
    | ret u => exact ce_unhide t e0.hok e0.frf z
    | next => exact z.elim
    | brk => exact z.elim
    | cont => exact z.elim
end
end Xh

/-! Xh6: a def that hands out functions which capture its names: at its end its cells are heap objects -/
namespace Xh
open PySem PySem.Spec PySem.Calls PyProof.Rows L2 LamX NdefX Xf
structure EndsR where
  nx : L2.St → Hp → Prop
  rt : V → L2.St → Hp → Prop
abbrev TSR := EndsR → L2.St → Hp → Prop
def SPR (X : Cx) (pins : List (Addr × Obj)) (D : EndsR) (f : Flow) (s' : Shared) : Prop :=
  match f with
  | .next => ∃ σ' H', Inv X pins σ' H' s' ∧ D.nx σ' H'
  | .ret u => ∃ v σ' H', Inv X pins σ' H' s' ∧ RelV v u ∧ D.rt v σ' H'
  | _ => False
/-- a block; what is told is told with the slots -/
structure PSr (X : Cx) (st : List Stmt) (t : TSR) : Prop where
  run : ∀ (pins : List (Addr × Obj)) (s : Shared) (σ : L2.St) (H : Hp) (D : EndsR), Inv X pins σ H s → t D σ H → wpAny (model X.prog X.w) X.A (execs st X.env) (SPR X pins D) X.xe s
structure P1r (X : Cx) (st : Stmt) (t : TSR) : Prop where
  run : ∀ (pins : List (Addr × Obj)) (s : Shared) (σ : L2.St) (H : Hp) (D : EndsR), Inv X pins σ H s → t D σ H → wpAny (model X.prog X.w) X.A (exec st X.env) (SPR X pins D) X.xe s
def tLift (t : TS) : TSR := fun D σ H => t ⟨D.nx, fun _ _ => False, fun _ _ => False, fun _ _ => False⟩ σ H
def tSeqR (t u : TSR) : TSR := fun D σ H => t ⟨fun σ H => u D σ H, D.rt⟩ σ H
def tRetR (t : TE) : TSR := fun D σ H => t σ H fun v H' => D.rt v σ H'
def tIfR (c : TT) (t u : TSR) : TSR := fun D σ H => c σ H fun b H1 => if b = true then t D σ H1 else u D σ H1
def tNextR : TSR := fun D σ H => D.nx σ H
section
variable {X : Cx} {st : Stmt} {rest : List Stmt} {t u : TSR} {pos : Pos}
theorem p1_lift {t : TS} (h : PS X st t) : P1r X st (tLift t) := by
  refine ⟨fun pins s σ H D I q => thn (h.run pins s σ H _ I q) fun f s1 z => ?_⟩
  cases f with
  | next => exact z
  | ret v => obtain ⟨_, _, _, _, _, q⟩ := z; exact q.elim
  | brk => obtain ⟨_, _, _, q⟩ := z; exact q.elim
  | cont => obtain ⟨_, _, _, q⟩ := z; exact q.elim
theorem p1_ret {e : Expr} {te : TE} (he : PE X e te) : P1r X (.Return (some e) pos) (tRetR te) := by
  refine ⟨fun pins s σ H D I h => ?_⟩
  exact wpAny_Return_some (thn (he.run pins s σ H _ I h) fun v s1 ⟨x, H1, I1, r1, q1⟩ => ⟨x, σ, H1, I1, r1, q1⟩)
theorem psr_cons (h1 : P1r X st t) (h2 : PSr X rest u) : PSr X (st :: rest) (tSeqR t u) := by
  refine ⟨fun pins s σ H D I h => ?_⟩
  refine wpAny_execs_cons (thn (h1.run pins s σ H ⟨u D, D.rt⟩ I h) fun f s1 q => ?_)
  cases f with
  | next =>
    obtain ⟨σ', H', I', q⟩ := q
    exact h2.run pins s1 σ' H' D I' q
  | ret v => exact q
  | brk => exact q.elim
  | cont => exact q.elim
theorem psr_nil : PSr X [] tNextR := ⟨fun pins s σ H D I h => wpAny_execs_nil ⟨σ, H, I, h⟩⟩
theorem psr_one (h1 : P1r X st t) : PSr X [st] t := by
  refine ⟨fun pins s σ H D I h => ?_⟩
  refine wpAny_execs_cons (thn (h1.run pins s σ H D I h) fun f s1 q => ?_)
  cases f with
  | next => exact wpAny_execs_nil q
  | ret v => exact q
  | brk => exact q.elim
  | cont => exact q.elim
theorem p1_if {c : Expr} {a b : List Stmt} {tc : TT} (hc : PT X c tc) (ha : PSr X a t) (hb : PSr X b u) : P1r X (.If c a b pos) (tIfR tc t u) := by
  refine ⟨fun pins s σ H D I h => ?_⟩
  refine wpAny_If (thn (hc.run pins s σ H _ I h) fun d s1 ⟨H1, I1, q1⟩ => ?_)
  cases d with
  | true => exact ha.run pins s1 σ H1 D I1 q1
  | false => exact hb.run pins s1 σ H1 D I1 q1
end
/-! ### the handing over -/
/-- the cells of cl, with what the names hold -/
structure Cov (N : List Str) (cl : List (Str × Addr)) (σ : L2.St) (cs : CL) : Prop where
  has : ∀ (y : Str) (c : Addr) (j : Nat) (v : V), cl.lookup y = some c → N[j]? = some y → σ[j]? = some (some v) → cs.lookup c = some v
  own : ∀ (c : Addr) (v : V), cs.lookup c = some v → ∃ (y : Str) (j : Nat), cl.lookup y = some c ∧ N[j]? = some y ∧ σ[j]? = some (some v)
theorem graph_lookup {ks : List Addr} {g : Addr → V} {c : Addr} (h : c ∈ ks) : (ks.map fun c => (c, g c)).lookup c = some (g c) := by
  induction ks with
  | nil => cases h
  | cons k ks ih =>
    simp only [List.map_cons, List.lookup_cons]
    by_cases e : c = k
    · subst e; simp
    · rw [show (c == k) = false by simpa using e]
      rcases List.mem_cons.mp h with q | q
      · exact absurd q e
      · exact ih q
theorem graph_mem {ks : List Addr} {g : Addr → V} {c : Addr} {v : V} (h : (ks.map fun c => (c, g c)).lookup c = some v) : c ∈ ks ∧ v = g c := by
  induction ks with
  | nil => cases h
  | cons k ks ih =>
    simp only [List.map_cons, List.lookup_cons] at h
    by_cases e : c = k
    · subst e
      simp only [beq_self_eq_true] at h
      exact ⟨List.mem_cons_self, (Option.some.inj h).symm⟩
    · rw [show (c == k) = false by simpa using e] at h
      obtain ⟨a, b⟩ := ih h
      exact ⟨List.mem_cons_of_mem _ a, b⟩
open Classical in
theorem cov_ex {N : List Str} {cl : List (Str × Addr)} {σ : L2.St} (nd : N.Nodup) (inj : ∀ x y c, cl.lookup x = some c → cl.lookup y = some c → x = y) (all : ∀ (y : Str) (c : Addr), cl.lookup y = some c → ∃ (j : Nat) (v : V), N[j]? = some y ∧ σ[j]? = some (some v)) : ∃ cs, Cov N cl σ cs := by
  let good : Addr → V → Prop := fun c v => ∃ (y : Str) (j : Nat), cl.lookup y = some c ∧ N[j]? = some y ∧ σ[j]? = some (some v)
  let g : Addr → V := fun c => if h : ∃ v, good c v then h.choose else .non
  let ks : List Addr := (cl.map (·.2)).filter fun c => decide (∃ v, good c v)
  refine ⟨ks.map fun c => (c, g c), fun y c j v h1 h2 h3 => ?_, fun c v h => ?_⟩
  · have hg : ∃ v, good c v := ⟨v, y, j, h1, h2, h3⟩
    have hm : c ∈ ks := by
      refine List.mem_filter.mpr ⟨?_, decide_eq_true hg⟩
      exact List.mem_map.mpr ⟨(y, c), PySem.mem_of_lookup h1, rfl⟩
    rw [graph_lookup (g := g) hm]
    have eg : g c = hg.choose := dif_pos hg
    obtain ⟨y', j', a1, a2, a3⟩ := hg.choose_spec
    have ey : y = y' := inj _ _ _ h1 a1
    subst ey
    have ej : j = j' := by
      have l1 := (List.getElem?_eq_some_iff.mp h2).1
      exact (List.getElem?_inj l1 nd).mp (h2.trans a2.symm)
    subst ej
    rw [h3] at a3
    rw [eg]
    exact congrArg some (Option.some.inj (Option.some.inj a3)).symm
  · obtain ⟨h1, h2⟩ := graph_mem h
    have hg : ∃ v, good c v := by simpa using (List.mem_filter.mp h1).2
    have eg : g c = hg.choose := dif_pos hg
    rw [h2, eg]
    exact hg.choose_spec
/-- what is wished for at the end of a def whose cells are cl, told of the heap with the cells -/
def Handed (N : List Str) (cl : List (Str × Addr)) (σ : L2.St) (H : Hp) (R : Hp → Prop) : Prop :=
  (∀ (y : Str) (c : Addr), cl.lookup y = some c → ∃ (j : Nat) (v : V), N[j]? = some y ∧ σ[j]? = some (some v)) ∧ ∀ cs : CL, (∀ (x y : Str) (c : Addr), cl.lookup x = some c → cl.lookup y = some c → x = y) → Cov N cl σ cs → Free cs H → R (unhide cs H)
theorem cellsFrom_kind : ∀ (names : List (Str × NameKind)) (n : Nat) (acc : List (Str × Addr)) (y : Str) (c : Addr), (y, c) ∈ cellsFrom n names acc → (y, c) ∈ acc ∨ (y, NameKind.cell) ∈ names
  | [], _, _, _, _, h => .inl h
  | (x, k) :: names, n, acc, y, c, h => by
    unfold cellsFrom at h
    split at h
    · rename_i e
      have e : k = NameKind.cell := by
        cases k <;> first | rfl | exact absurd e (by decide)
      rcases cellsFrom_kind names _ _ y c h with q | q
      · rcases List.mem_cons.mp q with e2 | q
        · cases e2; exact .inr (by rw [e]; exact List.mem_cons_self)
        · exact .inl q
      · exact .inr (List.mem_cons_of_mem _ q)
    · exact (cellsFrom_kind names _ _ y c h).imp_right (List.mem_cons_of_mem _)
theorem look_nodup {α : Type} : ∀ {l : List (Str × α)} {y : Str} {k : α}, (l.map (·.1)).Nodup → (y, k) ∈ l → l.lookup y = some k
  | [], _, _, _, h => nomatch h
  | (x, a) :: l, y, k, nd, h => by
    simp only [List.map_cons, List.nodup_cons] at nd
    rw [List.lookup_cons]
    rcases List.mem_cons.mp h with e | h
    · cases e; simp
    · have ne : y ≠ x := fun e => nd.1 (e ▸ List.mem_map_of_mem (f := (·.1)) h)
      rw [show (y == x) = false by simpa using ne]
      exact look_nodup nd.2 h
/-- THE RULE: such a def by its body -/
theorem fn_maker {CX : CXT} {P : Program} {w : World} {K : PySem.W.Frag} {mg : Str → Option Value} {base : Heap} {k : Nat} {f : Addr} {name qual : Str} {params : Arguments} {body : List Stmt} {scope : Scope} {dV kV doc pm cdv ct oc : Value} {an od : Option Addr}
    {osl : Array (Option Value)} {N ps : List Str} {sp : Sp} (lk : K.lookup f = some ⟨oc, od, .func (PySem.W.fnOf name qual params body scope dV kV doc pm an cdv ct), osl⟩) (hcd : PySem.W.codeIn K cdv qual = true) (S : FnScope N ps scope) (nk : (scope.names.map (·.1)).Nodup)
    (len : ∀ vs H Q E, sp vs H Q E → vs.length = ps.length)
    (hbody : ∀ (A : Around) (outer : List Env) (s : Shared) (H : Hp) (vs : List V) (Q : VK) (E : XK), Room k (A.deeper (envOfC qual scope s.heap.objs.size f cdv)) → sp vs H Q E →
      ∃ t, PSr (cxOf CX P w K mg base N qual scope f cdv A outer s H E) body t ∧ t { nx := fun _ _ => False, rt := fun v σ H' => Handed N (cellsFrom (s.heap.objs.size + 1) scope.names []) σ H' (Q v) } (start N vs) H) :
    FnOk P w K mg base CX (k + 1) f (PySem.W.fnOf name qual params body scope dV kV doc pm an cdv ct) ps sp := by
  refine ⟨len, fun A outer s H args us vs Q E hr e0 hb r hsp => ?_⟩
  have hl := len _ _ _ _ hsp
  have KX : K.In s.heap := e0.mod.kin.keeps fun b o e => (e0.bs b o e).1
  have lim : s.heap.NoLimit := e0.mod.nolimit.keeps fun b o e => (e0.bs b o e).1
  have hkind : ∀ y ∈ ps.zip us, scope.names.lookup y.1 = some .local ∨ (scope.names.lookup y.1 = some .cell ∧ ((cellsFrom (s.heap.objs.size + 1) scope.names []).lookup y.1).isSome = true) := fun ⟨n, v⟩ hy => by
    rcases S.par n (List.of_mem_zip hy).1 with q | q
    · exact .inl q
    · exact .inr ⟨q, PySem.W.cellsFrom_some _ _ _ (.inl q)⟩
  refine codeAny_call_function hr.depth (KX _ _ lk) rfl S.co S.gen rfl (PySem.W.codeRec_of KX hcd) (hb _ _ _ _ ?_)
  refine wpAny_newFunctionEnv_cells S.kind hkind fun env he s1 x => ?_
  subst he
  refine ⟨lim.keeps x.toInCall.keep, codeAny_func ?_⟩
  obtain ⟨t, ht, hq⟩ := hbody A outer s H vs Q E (hr.deeper _) hsp
  have I : Inv (cxOf CX P w K mg base N qual scope f cdv A outer s H E) [] (start N vs) H s1 := inv_start S hr.hd e0 hl r x
  refine wpAny_mono (ht.run [] s1 (start N vs) H _ I hq) (fun fl s' hs => ?_) fun e s' hs => hs
  cases fl with
  | ret u =>
    obtain ⟨v, σ', H', J, rv, all, q⟩ := hs
    obtain ⟨cs, cv⟩ := cov_ex S.nd J.ok.inj all
    have fr : Free cs H' := fun b v e => by
      obtain ⟨y, j, h1, _⟩ := cv.own b v e
      exact J.freeC y b h1
    have old : ∀ b, b < s.heap.objs.size → cs.lookup b = none := fun b hb => by
      cases e : cs.lookup b with
      | none => rfl
      | some v =>
        obtain ⟨y, j, h1, _⟩ := cv.own b v e
        have z : s.heap.objs.size ≤ b := J.ok.cab y b rfl h1
        omega
    have lt : ∀ b o, H b = some o → b < s.heap.objs.size := fun b o e => e0.hok.lt e
    refine ⟨v, unhide cs H', J.os, J.bare, ?_, ?_, rv, q cs J.ok.inj cv fr⟩
    · have un := J.base
      exact ⟨un.keep, un.slot, fun b o h1 h2 h3 => by rw [unhide_out (old b (Heap.lt_size h1))]; exact un.free b o h1 h2 h3, un.there, fun b xs h => by rw [unhide_out (old b (lt _ _ h))]; exact un.tups b xs h,
        fun b o u h => by rw [unhide_out (old b (lt _ _ h))]; exact un.frzs b o u h, fun b ps h => by rw [unhide_out (old b (lt _ _ h))]; exact un.tbls b ps h⟩
    · refine unhide_hok fr (fun b v e => ?_) J.hok
      obtain ⟨y, j, h1, h2, h3⟩ := cv.own b v e
      have ky : scope.names.lookup y = some .cell := by
        rcases cellsFrom_kind _ _ _ _ _ (PySem.mem_of_lookup h1) with z | z
        · cases z
        · exact look_nodup nk z
      obtain ⟨m, hn, hl⟩ := J.loc
      obtain ⟨u, r, l⟩ := hl j y v h2 h3 (.inr (.inl ky))
      rcases l with ⟨z, _⟩ | ⟨_, c', hc', hcell⟩
      · have z : scope.names.lookup y = some .local := z
        rw [ky] at z; cases z
      · have hc' : (cellsFrom (s.heap.objs.size + 1) scope.names []).lookup y = some c' := hc'
        have h1 : (cellsFrom (s.heap.objs.size + 1) scope.names []).lookup y = some b := h1
        rw [h1] at hc'
        cases hc'
        exact ⟨u, r, hcell⟩
  | next =>
    obtain ⟨σ', H', J, q⟩ := hs
    exact False.elim q
  | brk => exact hs.elim
  | cont => exact hs.elim
theorem PSr.nox {X : Cx} {st : List Stmt} {t : TSR} (h : PSr X.nox st t) : PSr X st t := ⟨fun pins s σ H D I hw =>
  wpAny_mono (h.run pins s σ H D (I.wish _) hw) (fun f s' q => by
    cases f with
    | next => obtain ⟨σ', H', J, q⟩ := q; exact ⟨σ', H', J.unwish, q⟩
    | ret u => obtain ⟨v, σ', H', J, r, q⟩ := q; exact ⟨v, σ', H', J.unwish, r, q⟩
    | brk => exact q.elim
    | cont => exact q.elim) fun _ _ x => x.elim⟩
/-- such a def whose code object is known -/
theorem fnC_maker {P : Program} {w : World} {K : PySem.W.Frag} {mg : Str → Option Value} {base : Heap} {x qual : Str} {st : Stmt} {f c : Addr} {fd : FuncData} {N ps : List Str} {k : Nat} {sp : Sp} (F : Xc.FunC K x qual st f fd c) (S : FnScope N ps (defScope st)) (nk : ((defScope st).names.map (·.1)).Nodup) (len : ∀ vs H Q E, sp vs H Q E → vs.length = ps.length)
    (hbody : ∀ (A : Around) (o : List Env) (s : Shared) (H : Hp) (vs : List V) (Q : VK) (E : XK), Room k (A.deeper (envOfC qual (defScope st) s.heap.objs.size f (.ref c))) → sp vs H Q E →
      ∃ t, PSr (cxOf CX0 P w K mg base N qual (defScope st) f (.ref c) A o s H E).nox (defBody st) t ∧ t { nx := fun _ _ => False, rt := fun v σ H' => Handed N (cellsFrom (s.heap.objs.size + 1) (defScope st).names []) σ H' (Q v) } (start N vs) H) : FnOk P w K mg base CX0 (k + 1) f fd ps sp := by
  obtain ⟨oc, od, kV, doc, pm, an, ct, osl, rfl, lk, hcd⟩ := F.ex
  refine fn_maker lk hcd S nk len fun A o s H vs Q E hr hsp => ?_
  obtain ⟨t, h, q⟩ := hbody A o s H vs Q E hr hsp
  exact ⟨t, h.nox, q⟩
theorem calls_mono {CX : CXT} {P : Program} {w : World} {K : PySem.W.Frag} {mg : Str → Option Value} {base : Heap} {k : Nat} {f : Addr} {H : Hp} {vs : List V} {Q Q' : VK} {E : XK} (c : CallsTo P w K mg base CX k f H vs Q E) (h : ∀ v H', Q v H' → Q' v H') : CallsTo P w K mg base CX k f H vs Q' E :=
  fun A outer s us hr e0 r => ⟨(c A outer s us hr e0 r).1, codeAny_mono (c A outer s us hr e0 r).2 fun rs s' z => by
    cases rs with
    | error e => exact z
    | ok fl =>
      cases fl with
      | ret u => obtain ⟨v, H', e1, e2, un, hok', r, q⟩ := z; exact ⟨v, H', e1, e2, un, hok', r, h v H' q⟩
      | next => exact z
      | brk => exact z
      | cont => exact z⟩
/-- what a function captured, by the cells that were handed over -/
theorem clAt_of {N : List Str} {cl : List (Str × Addr)} {σ : L2.St} {cs : CL} {names : List (Str × NameKind)} {fr : List Str} {ws : List (Option V)} (cv : Cov N cl σ cs) (inj : ∀ (x y : Str) (c : Addr), cl.lookup x = some c → cl.lookup y = some c → x = y)
    (all : ∀ (y : Str) (c : Addr), cl.lookup y = some c → ∃ (j : Nat) (v : V), N[j]? = some y ∧ σ[j]? = some (some v)) (hfree : ∀ y ∈ names, y.2 = .free → ∃ c, cl.lookup y.1 = some c) (hfr : ∀ y ∈ fr, (y, NameKind.free) ∈ names) (hw : ws.length = fr.length)
    (hv : ∀ (i : Nat) (y : Str) (v : V), fr[i]? = some y → ws[i]? = some (some v) → ∃ (j : Nat), N[j]? = some y ∧ σ[j]? = some (some v)) : ClAt (cloFrom cl names []) fr ws cs := by
  refine ⟨hw, fun y c e => ?_, fun x y c e1 e2 => inj x y c (clo_cm hfree e1) (clo_cm hfree e2), fun i y e => ?_⟩
  · have e2 := clo_cm hfree e
    obtain ⟨j, v, h1, h2⟩ := all y c e2
    exact ⟨v, cv.has y c j v e2 h1 h2⟩
  · have hm := hfr y (List.mem_of_getElem? e)
    obtain ⟨c, hc⟩ := hfree _ hm rfl
    refine ⟨c, clo_has hfree hm hc, fun v ev => ?_⟩
    obtain ⟨j, h1, h2⟩ := hv i y v e ev
    exact cv.has y c j v hc h1 h2
theorem unhide_keep {cs : CL} {H : Hp} {b : Addr} {o : HO} (fr : Free cs H) (e : H b = some o) : unhide cs H b = some o := by
  rw [unhide_out]
  · exact e
  · cases z : cs.lookup b with
    | none => rfl
    | some v => rw [fr b v z] at e; cases e
theorem unhide_trk {cs : CL} {H : Hp} : Trk cs (unhide cs H) := fun b v e => unhide_in e
end Xh

/-! Xi1: promises of defs that make functions: tables change, what never changes stays -/
namespace Xi
open PySem PySem.Spec PySem.Calls PyProof.Rows L2 Rs Xc
/-- what never changes stays -/
structure Pers (H H' : Hp) : Prop where
  ext : ∀ b r, H b = some (.ext r) → H' b = some (.ext r)
  tup : ∀ b xs, H b = some (.tup xs) → H' b = some (.tup xs)
theorem Pers.refl (H : Hp) : Pers H H := ⟨fun _ _ e => e, fun _ _ e => e⟩
theorem Pers.trans {H H1 H2 : Hp} (a : Pers H H1) (b : Pers H1 H2) : Pers H H2 := ⟨fun x r e => b.ext x r (a.ext x r e), fun x r e => b.tup x r (a.tup x r e)⟩
/-- the base B, with the tables and all that never changes as it stands at H -/
def rbI (B H : Hp) : Hp := fun b => match H b with | some (.tbl ps) => some (.tbl ps) | some (.ext r) => some (.ext r) | some (.tup xs) => some (.tup xs) | _ => B b
/-- these are objects that may be written -/
inductive MutL (H : Hp) : List Addr → Prop where
  | nil : MutL H []
  | lst {b : Addr} {xs : List V} {M : List Addr} (h : H b = some (.lst xs)) (t : MutL H M) : MutL H (b :: M)
  | dct {b : Addr} {kvs : List (Key × V)} {M : List Addr} (h : H b = some (.dK kvs)) (t : MutL H M) : MutL H (b :: M)
  | ins {b C dx : Addr} {fs : List (Str × V)} {M : List Addr} (h : H b = some (.ins C dx fs)) (t : MutL H M) : MutL H (b :: M)
section
variable {B H H' H1 H2 : Hp} {M C : List Addr} {L L' LL F : Led} {Q : VK} {TT : List (Addr × Str)} {a : Addr}
theorem MutL.at_ (m : MutL H M) {b : Addr} (hb : b ∈ M) : (∃ xs, H b = some (.lst xs)) ∨ (∃ kvs, H b = some (.dK kvs)) ∨ ∃ C dx fs, H b = some (.ins C dx fs) := by
  induction m with
  | nil => cases hb
  | lst h _ ih =>
    rcases List.mem_cons.mp hb with rfl | hb
    · exact .inl ⟨_, h⟩
    · exact ih hb
  | dct h _ ih =>
    rcases List.mem_cons.mp hb with rfl | hb
    · exact .inr (.inl ⟨_, h⟩)
    · exact ih hb
  | ins h _ ih =>
    rcases List.mem_cons.mp hb with rfl | hb
    · exact .inr (.inr ⟨_, _, _, h⟩)
    · exact ih hb
theorem MutL.not (m : MutL H M) {b : Addr} {o : HO} (e : H b = some o) (h1 : ∀ xs, o ≠ .lst xs) (h2 : ∀ kvs, o ≠ .dK kvs) (h3 : ∀ C dx fs, o ≠ .ins C dx fs) : b ∉ M := fun hb => by
  rcases m.at_ hb with ⟨xs, z⟩ | ⟨kvs, z⟩ | ⟨C, dx, fs, z⟩
  · rw [e] at z; exact h1 _ (Option.some.inj z)
  · rw [e] at z; exact h2 _ (Option.some.inj z)
  · rw [e] at z; exact h3 _ _ _ (Option.some.inj z)
theorem MutL.ext (m : MutL H M) {b : Addr} {r : Heap → Prop} (e : H b = some (.ext r)) : b ∉ M := m.not e (fun _ z => by cases z) (fun _ z => by cases z) (fun _ _ _ z => by cases z)
theorem MutL.tup (m : MutL H M) {b : Addr} {r : List V} (e : H b = some (.tup r)) : b ∉ M := m.not e (fun _ z => by cases z) (fun _ z => by cases z) (fun _ _ _ z => by cases z)
theorem MutL.tbl (m : MutL H M) {b : Addr} {r : Array Value} (e : H b = some (.tbl r)) : b ∉ M := m.not e (fun _ z => by cases z) (fun _ z => by cases z) (fun _ _ _ z => by cases z)
theorem rbI_ext {b : Addr} {r : Heap → Prop} (e : H b = some (.ext r)) : rbI B H b = some (.ext r) := by unfold rbI; rw [e]
theorem rbI_tup {b : Addr} {r : List V} (e : H b = some (.tup r)) : rbI B H b = some (.tup r) := by unfold rbI; rw [e]
theorem rbI_tbl {b : Addr} {r : Array Value} (e : H b = some (.tbl r)) : rbI B H b = some (.tbl r) := by unfold rbI; rw [e]
theorem rbI_lst {b : Addr} {xs : List V} (e : H b = some (.lst xs)) : rbI B H b = B b := by unfold rbI; rw [e]
theorem rbI_dct {b : Addr} {xs : List (Key × V)} (e : H b = some (.dK xs)) : rbI B H b = B b := by unfold rbI; rw [e]
theorem rbI_ins {b C dx : Addr} {xs : List (Str × V)} (e : H b = some (.ins C dx xs)) : rbI B H b = B b := by unfold rbI; rw [e]
theorem _root_.Rs.Hs.toI (S : Hs B M H L) : Hs (rbI B H) M H L := by
  refine ⟨S.nd, S.is, fun b o e hm => ?_, S.mu⟩
  unfold rbI at e
  split at e
  · rename_i h; rw [h]; exact e
  · rename_i h; rw [h]; exact e
  · rename_i h; rw [h]; exact e
  · exact S.old b o e hm
theorem _root_.Rs.Hs.ofI (S : Hs B M H L) (S' : Hs (rbI B H) M H' L') : Hs B M H' L' := by
  refine ⟨S'.nd, S'.is, fun b o e hm => S'.old b o ?_ hm, S'.mu⟩
  have h3 := S.old b o e hm
  unfold rbI
  rw [h3]
  split
  · rename_i h; exact h.symm
  · rename_i h; exact h.symm
  · rename_i h; exact h.symm
  · exact e
theorem _root_.Rs.Hs.persI (S' : Hs (rbI B H) M H' L') (m : MutL H M) : Pers H H' := ⟨fun b r e => S'.old _ _ (rbI_ext e) (m.ext e), fun b r e => S'.old _ _ (rbI_tup e) (m.tup e)⟩
theorem tabs_pers (p : Pers H H') (k : ∀ b ps, H b = some (.tbl ps) → H' b = some (.tbl ps)) (t : LamX.Tabs TT H) : LamX.Tabs TT H' := fun q hq => by
  obtain ⟨ps, h1, h2, h3⟩ := t q hq
  refine ⟨ps, k _ _ h1, h2, fun pos cv hc => ?_⟩
  obtain ⟨c, e1, e2⟩ := h3 pos cv hc
  exact ⟨c, e1, p.ext _ _ e2⟩
theorem _root_.Rs.Hs.tabI (S' : Hs (rbI B H) M H' L') (m : MutL H M) (t : LamX.Tabs TT H) : LamX.Tabs TT H' :=
  tabs_pers (S'.persI m) (fun b ps e => S'.old _ _ (rbI_tbl e) (m.tbl e)) t
/-- more objects that may be written; fewer -/
theorem _root_.Rs.Hs.addM {o : HO} (S : Hs B M H L) (m : (a, o) ∈ L) : Hs B (a :: M) H L := by
  refine ⟨S.nd, S.is, fun b u e hb => S.old b u e fun z => hb (List.mem_cons_of_mem _ z), fun b hb => ?_⟩
  by_cases e : b = a
  · rw [e, S.is _ m]; simp
  · rcases List.mem_cons.mp hb with z | z
    · exact absurd z e
    · exact S.mu b z
theorem _root_.Rs.Hs.lessM (S : Hs B M H L) (sub : ∀ b ∈ C, b ∈ M) (h : ∀ b ∈ M, b ∈ C ∨ B b = none) : Hs B C H L :=
  ⟨S.nd, S.is, fun b u e hb => S.old b u e (fun z => (h b z).elim hb fun q => by rw [q] at e; cases e), fun b hb => S.mu b (sub b hb)⟩
/-- another base -/
theorem _root_.Rs.Hs.base {B' : Hp} (S : Hs B M H L) (h : ∀ b o, B' b = some o → b ∉ M → H b = some o) : Hs B' M H L := ⟨S.nd, S.is, h, S.mu⟩
/-! ### promises -/
abbrev SepF := Hp → List V → List Addr → Led → (V → Hp → Led → Led → Prop) → Prop
/-- R: the heap, the arguments, what may be written, what is known ahead, what is promised (the new objects told apart) -/
def SepT (TT : List (Addr × Str)) (R : SepF) : Sp := fun vs H Q _ => ∃ C L post, R H vs C L post ∧ (L.map (·.1)).Nodup ∧ (∀ q ∈ L, H q.1 = some q.2) ∧ (∀ c ∈ C, c ∈ L.map (·.1)) ∧ LamX.Tabs TT H ∧
  ∀ v H' N L', post v H' N L' → Hs (noT H) C H' (N ++ L') → (∀ q ∈ L', q.1 ∈ L.map (·.1)) → (∀ q ∈ N, noT H q.1 = none) → LamX.Tabs TT H' → Pers H H' → Q v H'
theorem frameT (nb : ∀ b ps, B b ≠ some (.tbl ps)) (nf : ∀ q ∈ F, ∀ ps, q.2 ≠ .tbl ps) (S : Hs B M H (L ++ F)) (S' : Hs (noT H) C H' L') (hC : ∀ c ∈ C, c ∈ L.map (·.1) ∧ (B c = none ∨ c ∈ M)) (hk : ∀ q ∈ L', q.1 ∈ L.map (·.1) ∨ noT H q.1 = none) (m : MutL H M) : Hs B M H' (L' ++ F) := by
  have nd := S.nd
  rw [List.map_append, List.nodup_append] at nd
  obtain ⟨_, nF, dis⟩ := nd
  have isF : ∀ q ∈ F, H' q.1 = some q.2 := fun q h => by
    refine S'.old _ _ (noT_some (S.is q (List.mem_append_right _ h)) (nf q h)) fun hc => ?_
    exact dis _ (hC _ hc).1 _ (List.mem_map_of_mem (f := (·.1)) h) rfl
  refine ⟨?_, ?_, ?_, ?_⟩
  · rw [List.map_append, List.nodup_append]
    refine ⟨S'.nd, nF, ?_⟩
    intro x hx y hy e
    subst e
    obtain ⟨q, hq, rfl⟩ := List.mem_map.mp hx
    rcases hk q hq with h | h
    · exact dis _ h _ hy rfl
    · obtain ⟨r, hr, e⟩ := List.mem_map.mp hy
      have := noT_some (S.is r (List.mem_append_right _ hr)) (nf r hr)
      rw [e, h] at this
      cases this
  · intro q hq
    rcases List.mem_append.mp hq with h | h
    · exact S'.is q h
    · exact isF q h
  · intro b o e hb
    refine S'.old _ _ (noT_some (S.old b o e hb) fun ps z => nb b ps (by rw [e, z])) fun hc => ?_
    rcases (hC _ hc).2 with z | z
    · rw [z] at e; cases e
    · exact hb z
  · intro b hb
    by_cases hc : b ∈ C
    · exact S'.mu b hc
    · rcases m.at_ hb with ⟨xs, z⟩ | ⟨kvs, z⟩ | ⟨C', dx, fs, z⟩
      · rw [S'.old b _ (noT_some z fun ps q => by cases q) hc]; simp
      · rw [S'.old b _ (noT_some z fun ps q => by cases q) hc]; simp
      · rw [S'.old b _ (noT_some z fun ps q => by cases q) hc]; simp
theorem none_noT (nb : ∀ b ps, B b ≠ some (.tbl ps)) (S : Hs B M H L) (m : MutL H M) (h : noT H a = none) : B a = none := by
  cases e : B a with
  | none => rfl
  | some o =>
    by_cases hm : a ∈ M
    · rcases m.at_ hm with ⟨xs, z⟩ | ⟨kvs, z⟩ | ⟨C', dx, fs, z⟩
      · rw [noT_some z (fun ps q => by cases q)] at h; cases h
      · rw [noT_some z (fun ps q => by cases q)] at h; cases h
      · rw [noT_some z (fun ps q => by cases q)] at h; cases h
    · rw [noT_some (S.old a o e hm) (fun ps z => nb a ps (by rw [e, z]))] at h; cases h
theorem rbI_none (h : rbI B H a = none) : B a = none := by
  unfold rbI at h
  split at h
  · cases h
  · cases h
  · cases h
  · exact h
/-- such a def is called -/
theorem sept_use {R : SepF} {vs : List V} {post : V → Hp → Led → Led → Prop} {E : XK} (nb : ∀ b ps, B b ≠ some (.tbl ps)) (S : Hs B M H LL) (tb : LamX.Tabs TT H) (m : MutL H M) (r : R H vs C L post) (pm : ∀ a, cn a (L ++ F) ≤ cn a LL) (nf : ∀ q ∈ F, ∀ ps, q.2 ≠ .tbl ps) (hC : ∀ c ∈ C, c ∈ L.map (·.1) ∧ (B c = none ∨ c ∈ M))
    (h : ∀ v H' N L', post v H' N L' → (∀ q ∈ N, B q.1 = none) → Hs B M H' (N ++ (L' ++ F)) → LamX.Tabs TT H' → Pers H H' → Q v H') : SepT TT R vs H Q E := by
  have S1 := S.re pm
  refine ⟨C, L, post, r, ?_, fun q hq => S1.is q (List.mem_append_left _ hq), fun c hc => (hC c hc).1, tb, fun v H' N L' p S' h1 h2 tb' pe => ?_⟩
  · have := S1.nd
    rw [List.map_append, List.nodup_append] at this
    exact this.1
  · refine h v H' N L' p (fun q hq => none_noT nb S m (h2 q hq)) ?_ tb' pe
    rw [← List.append_assoc]
    refine frameT nb nf S1 S' hC (fun q hq => ?_) m
    rcases List.mem_append.mp hq with z | z
    · exact Or.inr (h2 q z)
    · exact Or.inl (h1 q z)
theorem noT_nb {H0 : Hp} : ∀ b ps, noT H0 b ≠ some (.tbl ps) := fun b ps e => (noT_of e).2 ps rfl
theorem Pers.of_ext (h : LamX.ExtN H H') : Pers H H' := ⟨fun b r e => h b _ e (fun ps z => by cases z), fun b r e => h b _ e (fun ps z => by cases z)⟩
theorem Pers.of_noT (S : Hs (noT H) C H' L') (m : MutL H C) : Pers H H' := ⟨fun b r e => S.old b _ (noT_some e fun ps z => by cases z) (m.ext e), fun b r e => S.old b _ (noT_some e fun ps z => by cases z) (m.tup e)⟩
end
end Xi

/-! Xi2: ways that come together -/
namespace Xi
open PySem PySem.Spec PySem.Calls PyProof.Rows L2 Rs
theorem if_viaV {b : Bool} {te1 te2 : TE} {σ : L2.St} {H : Hp} {C : VK} (Post : V → Hp → Prop) (h1 : b = true → ∀ C' : VK, (∀ v H', Post v H' → C' v H') → te1 σ H C') (h2 : b = false → ∀ C' : VK, (∀ v H', Post v H' → C' v H') → te2 σ H C') (k : ∀ v H', Post v H' → C v H') : if b = true then te1 σ H C else te2 σ H C := by
  cases b with
  | true => exact h1 rfl C k
  | false => exact h2 rfl C k
theorem seq_via {t u : TS} {σ : L2.St} {H : Hp} {nx : L2.St → Hp → Prop} {rt : VK} {bk ct : L2.St → Hp → Prop} (R : L2.St → Hp → Prop) (h : ∀ nx : L2.St → Hp → Prop, (∀ σ' H', R σ' H' → nx σ' H') → t ⟨nx, rt, bk, ct⟩ σ H) (k : ∀ σ' H', R σ' H' → u ⟨nx, rt, bk, ct⟩ σ' H') : tSeq t u ⟨nx, rt, bk, ct⟩ σ H := h _ k
theorem ifs_viaP {b : Bool} {t u : TS} {σ : L2.St} {H : Hp} {nx : L2.St → Hp → Prop} {rt : VK} {bk ct : L2.St → Hp → Prop} (Post : Hp → Prop) (h1 : b = true → ∀ nx' : L2.St → Hp → Prop, (∀ H', Post H' → nx' σ H') → t ⟨nx', rt, bk, ct⟩ σ H) (h2 : b = false → ∀ nx' : L2.St → Hp → Prop, (∀ H', Post H' → nx' σ H') → u ⟨nx', rt, bk, ct⟩ σ H)
    (k : ∀ H', Post H' → nx σ H') : if b = true then t ⟨nx, rt, bk, ct⟩ σ H else u ⟨nx, rt, bk, ct⟩ σ H := by
  cases b with
  | true => exact h1 rfl nx k
  | false => exact h2 rfl nx k
/-- the scope of a comprehension that an assignment's value is -/
def lcScope : Stmt → Scope
  | .Assign _ (.ListComp _ _ sc _) .. => sc
  | st => defScope st
end Xi

/-! Xj1: methods by the object's own class, function values called by a name, captured lambdas handed over, C.m(x, ..) of own classes -/
namespace Xj
open PySem PySem.Spec PySem.Calls PyProof.Rows L2 LamX NdefX Xf Xh
section
variable {X : Cx} {CX : CXT} {k j i : Nat} {m x : Str} {E : XK} {te : TE} {ta : TA} {o e : Expr} {es : List Expr} {apos pos p : Pos}
theorem run_to {pins : List (Addr × Obj)} {σ : L2.St} {H : Hp} {s : Shared} {Q : VK} {f : Addr} {us : List Value} {vs : List V} (c : CallsTo X.prog X.w X.K X.mg X.base CX k f H vs Q E) (hr : Room j X.A) (hk : k ≤ j) (hx : Passes CX X E) (I : Inv X pins σ H s) (r : Vals vs us) :
    wpAny (model X.prog X.w) X.A (call (.ref f) us) (EP X pins σ Q) X.xe s := by
  obtain ⟨_, z⟩ := c X.A X.stack s us (hr.mono hk) I.env0 r
  refine wpAny_call (codeAny_mono z fun r s' hq => ?_)
  cases r with
  | error e => exact hx pins σ H s e s' I hq
  | ok fl =>
    cases fl with
    | ret u => exact I.after hq
    | next => exact False.elim hq
    | brk => exact False.elim hq
    | cont => exact False.elim hq
/-- o.m(..), m a method of the class that o is of -/
def tMethD (X : Cx) (CX : CXT) (k : Nat) (m : Str) (te : TE) (ta : TA) (E : XK) : TE := fun σ H Q => te σ H fun x H1 => ∃ a C dx fs f, x = .ref a ∧ H1 a = some (.ins C dx fs) ∧ Cls X.K C ∧ Meth X.K C m f ∧ fs.lookup m = none ∧ ta σ H1 fun vs H2 => CallsTo X.prog X.w X.K X.mg X.base CX k f H2 (x :: vs) Q E
theorem pe_methD {pl : Sem Bool} (he : PE X o te) (ha : PA X (e :: es) ta) (hr : Room j X.A) (hk : k ≤ j) (hx : Passes CX X E)
    (hst : starEach (e :: es) X.env = (false, eval e X.env) :: starEach es X.env := by rfl) (hpl : (backTo pos (starEach es X.env)).any (·.1) = false := by rfl)
    (ht : eval (.Call (.Attribute o m apos) (e :: es) [] pos) X.env = (do
      let ov ← eval o X.env
      standAt apos.atName
      let (f, first) ← holding [ov] (getMethod ov m pl)
      callWith pos f first (backTo pos (starEach (e :: es) X.env)) (backToKw pos (keywordEach [] X.env))) := by rfl) :
    PE X (.Call (.Attribute o m apos) (e :: es) [] pos) (tMethD X CX k m te ta E) := by
  refine ⟨fun pins s σ H Q I h => ?_⟩
  refine PySem.W.methodCall_KW (pl := pl) (thn (he.run pins s σ H _ I h) fun u s1 ⟨x, H1, I1, rx, a, C, dx, fs, f, ex, ea, c, hm, l, q⟩ => ?_) ht
  subst ex
  obtain rfl : u = Value.ref a := rx
  refine getmeth_ok I1 ea c hm l ?_
  refine PySem.W.callWith_K (first := [.ref a]) (h₀ := X.base) I.ok.mod.kin hm.kp (thn (ha.run pos pins s1 σ H1 _ I1 q) fun us s2 ⟨vs, H2, I2, r, q2⟩ => ⟨I2.kIn, ?_⟩) hst hpl
  exact run_to (us := .ref a :: us) q2 hr hk hx I2 (.cons rfl r)
theorem pe_methD0 {pl : Sem Bool} (he : PE X o te) (hr : Room j X.A) (hk : k ≤ j) (hx : Passes CX X E)
    (ht : eval (.Call (.Attribute o m apos) [] [] pos) X.env = (do
      let ov ← eval o X.env
      standAt apos.atName
      let (f, first) ← holding [ov] (getMethod ov m pl)
      callWith pos f first (backTo pos (starEach [] X.env)) (backToKw pos (keywordEach [] X.env))) := by rfl) :
    PE X (.Call (.Attribute o m apos) [] [] pos) (tMethD X CX k m te tNil E) := by
  refine ⟨fun pins s σ H Q I h => ?_⟩
  refine PySem.W.methodCall_KW (pl := pl) (thn (he.run pins s σ H _ I h) fun u s1 ⟨x, H1, I1, rx, a, C, dx, fs, f, ex, ea, c, hm, l, q⟩ => ?_) ht
  subst ex
  obtain rfl : u = Value.ref a := rx
  refine getmeth_ok I1 ea c hm l ?_
  refine PySem.W.callWith_K0 (first := [.ref a]) I1.kIn hm.kp ?_
  exact run_to (us := [.ref a]) q hr hk hx I1 (.cons rfl .nil)
/-- f(..), f a name that holds a function -/
def tCallV (X : Cx) (CX : CXT) (k i : Nat) (ta : TA) (E : XK) : TE := fun σ H Q => ∃ f, σ[i]? = some (some (.ref f)) ∧ IsFn f H ∧ ta σ H fun vs H2 => IsFn f H2 ∧ CallsTo X.prog X.w X.K X.mg X.base CX k f H2 vs Q E
theorem pe_callV (hN : X.N[i]? = some x) (hv : Vis X.env.scope x) (ha : PA X (e :: es) ta) (hr : Room j X.A) (hk : k ≤ j) (hx : Passes CX X E) (hdb : (x == ("__debug__" : Str)) = false := by decide) (hcd : (x == ("__classdict__" : Str)) = false := by decide)
    (he : starEach (e :: es) X.env = (false, eval e X.env) :: starEach es X.env := by rfl) (hpl : (backTo pos (starEach es X.env)).any (·.1) = false := by rfl) : PE X (.Call (.Name x p) (e :: es) [] pos) (tCallV X CX k i ta E) := by
  refine ⟨fun pins s σ H Q I h => ?_⟩
  obtain ⟨f, hs, hf, ht⟩ := h
  refine wpAny_Call_Name_kw (thn ((pe_var (pos := p) hN hv hdb hcd).run pins s σ H (fun v H1 => v = .ref f ∧ H1 = H) I ⟨.ref f, hs, rfl, rfl⟩) fun u s1 ⟨v, H1, I1, r1, q1⟩ => ?_)
  obtain ⟨rfl, rfl⟩ := q1
  obtain rfl : u = Value.ref f := r1
  refine PySem.W.callWith_F (first := []) (hf _ _ _ I1.hok) (thn (ha.run pos pins s1 σ _ _ I1 ht) fun us s2 ⟨vs, H2, I2, r, hf2, q⟩ => ⟨hf2 _ _ _ I2.hok, ?_⟩) he hpl
  exact run_to q hr hk hx I2 r
theorem pe_callV0 (hN : X.N[i]? = some x) (hv : Vis X.env.scope x) (hr : Room j X.A) (hk : k ≤ j) (hx : Passes CX X E) (hdb : (x == ("__debug__" : Str)) = false := by decide) (hcd : (x == ("__classdict__" : Str)) = false := by decide) :
    PE X (.Call (.Name x p) [] [] pos) (tCallV X CX k i tNil E) := by
  refine ⟨fun pins s σ H Q I h => ?_⟩
  obtain ⟨f, hs, hf, _, q⟩ := h
  refine wpAny_Call_Name_kw (thn ((pe_var (pos := p) hN hv hdb hcd).run pins s σ H (fun v H1 => v = .ref f ∧ H1 = H) I ⟨.ref f, hs, rfl, rfl⟩) fun u s1 ⟨v, H1, I1, r1, q1⟩ => ?_)
  obtain ⟨rfl, rfl⟩ := q1
  obtain rfl : u = Value.ref f := r1
  refine PySem.W.callWith_F0 (first := []) (hf _ _ _ I1.hok) ?_
  exact run_to q hr hk hx I1 .nil
/-- C.m(o, ..), C an own class, m a def of it or of a class above it -/
def tClsF (sp : Sp) (E : XK) (ta : TA) : TE := fun σ H Q => ta σ H fun vs H1 => sp vs H1 Q E
theorem pe_clsF {n : Str} {pl : Sem Bool} {S f : Addr} {mc : Value} {fd : FuncData} {ps : List Str} {sp : Sp} {p1 p2 : Pos} (hg : Gl X n) (hm : X.mg n = some (.ref S)) (cr : ClX.CRead X.K S mc) (vV : PySem.W.findCls X.K (.ref S) mc m = some (.val (.ref f))) (hin : PySem.W.handedIn (.ref f) = true) (hkp : PySem.W.keepIn X.K (.ref f) = true)
    (F : FnOk X.prog X.w X.K X.mg X.base CX k f fd ps sp) (hr : Room k X.A) (hb : Binds X.K fd ps []) (hx : Passes CX X E) (ha : PA X (e :: es) ta)
    (hc : eval (.Call (.Attribute (.Name n p1) m p2) (e :: es) [] pos) X.env = (do
      let ov ← eval (.Name n p1) X.env
      standAt p2.atName
      let (fn, fst) ← holding [ov] (getMethod ov m pl)
      callWith pos fn fst (backTo pos (starEach (e :: es) X.env)) (backToKw pos (keywordEach [] X.env))) := by rfl)
    (hdb : (n == ("__debug__" : Str)) = false := by decide) (he : starEach (e :: es) X.env = (false, eval e X.env) :: starEach es X.env := by rfl) (hp : (backTo pos (starEach es X.env)).any (·.1) = false := by rfl) :
    PE X (.Call (.Attribute (.Name n p1) m p2) (e :: es) [] pos) (tClsF sp E ta) := by
  refine ⟨fun pins s σ H Q I k => PySem.W.methodCall_KW (ld_glob I hg hm ?_ hdb) hc⟩
  refine PySem.W.method_cls I.kIn cr.ga (PySem.W.cls_value I.kIn cr.rd vV hin ?_)
  show wpAny _ _ (callWith pos (Value.ref f) [] (backTo pos (starEach (e :: es) X.env)) []) _ _ _
  refine PySem.W.callWith_K (first := []) (h₀ := X.base) I.ok.mod.kin hkp (thn (ha.run pos pins _ σ H _ (I.tok _) k) fun us s1 ⟨vs, H1, I1, rv, q⟩ => ⟨I1.kIn, ?_⟩) he hp
  exact run_fn (us := us) (vs := vs) (dvs := []) F hr hb .nil hx I1 rv (by rw [List.append_nil]; exact q)
end
section
variable {CX : CXT} {P : Program} {w : World} {K : PySem.W.Frag} {mg : Str → Option Value} {base : Heap} {N ps fr : List Str} {F : LF} {f : Addr} {k j : Nat} {H : Hp} {vs : List V} {Q Q' : VK} {E : XK}
theorem calls_up (c : CallsTo P w K mg base CX j f H vs Q E) (h : j ≤ k) : CallsTo P w K mg base CX k f H vs Q E := fun A outer s us hr => c A outer s us (hr.mono h)
structure CalMD (K : PySem.W.Frag) (qual : Str) (st : Stmt) (dvs : List V) (f : Addr) (fd : FuncData) : Prop where
  F : FunD K "__init__" qual (defArgs st) (defBody st) (defScope st) dvs [] f fd
/-- what never raises -/
theorem calls_ok (c : CallsTo P w K mg base CX0 k f H vs Q E0) : CallsTo P w K mg base (L2.CX P w) k f H vs Q E := fun A outer s us hr e0 r => ⟨(c A outer s us hr e0 r).1, codeAny_mono (c A outer s us hr e0 r).2 fun rs s' z => by
  cases rs with
  | error e => exact z.elim
  | ok fl =>
    cases fl with
    | ret u => exact z
    | next => exact z
    | brk => exact z
    | cont => exact z⟩
/-- a def of the text -/
theorem calls_fn {x qual : Str} {st : Stmt} {fd : FuncData} {sp : Sp} (Fn : Fun K x qual st f fd) (o : FnOk P w K mg base CX k f fd ps sp) (hb : Binds K fd ps []) (q : sp vs H Q E) : CallsTo P w K mg base CX k f H vs Q E := by
  refine fun A outer s us hr e0 r => ?_
  have KX : K.In s.heap := e0.mod.kin.keeps fun b o e => (e0.bs b o e).1
  obtain ⟨oc, od, kV, doc, pm, an, cdv, ct, osl, rfl, lk, hcd⟩ := Fn.ex
  have hl : (us ++ []).length = ps.length := by rw [List.append_nil, ← r.length]; exact o.len _ _ _ _ q
  refine ⟨⟨_, _, _, _, KX _ _ lk⟩, o.run A outer s H ⟨us, []⟩ us vs Q E hr e0 ?_ r q⟩
  have := hb s us KX hl
  rw [List.append_nil] at this
  exact this
/-- a lambda that captured names, called behind the end of its maker -/
theorem calls_lamC {ws : List (Option V)} {cs : CL} {t : TE} (S : NScope N ps fr F.scope) (hb : ∀ (pm ctv : Value) (us : List Value), us.length = ps.length → bindArgs (F.fd pm ctv) ⟨us, []⟩ = pure (ps.zip us)) (hl : vs.length = ps.length)
    (tr : Trk cs H) (c : ClAt F.cl fr ws cs) (hf : H f = some (LamO f F)) (hc : H F.c = some (CodeO F.c F.qual))
    (hbody : ∀ (A : Around) (outer : List Env) (s : Shared), Room k (A.deeper (envF F.nf f s.heap.objs.size)) → PE (ncx (L2.CX P w) P w K mg base N F.nf f A outer s (hide cs H) (Eh cs E)) F.body t) (hq : t (startF N vs ws) (hide cs H) (Qh cs Q)) :
    CallsTo P w K mg base (L2.CX P w) (k + 1) f H vs Q E := by
  refine fun A outer s us hr e0 r => ?_
  have e1 := env_hide tr e0
  have unlim : s.heap.NoLimit := e0.mod.nolimit.keeps fun x y z => (e0.bs x y z).1
  obtain ⟨pm, ctv, ho⟩ := lamO_at e0.hok hf
  refine ⟨⟨_, _, _, _, ho⟩, ?_⟩
  refine PySem.W.kla_callFunE hr.depth ho rfl S.co S.gen rfl (codeO_at e0.hok hc) ?_
  rw [hb pm ctv us (by rw [← r.length]; exact hl)]
  refine wpAny_pure (wpAny_newFunctionEnv S.nocell (fun y hy => S.par y.1 (List.of_mem_zip hy).1) (fun hn frm grown => ⟨unlim.fresh _ grown, ?_⟩) S.kind)
  show codeAny _ _ (.expr F.body (envF F.nf f s.heap.objs.size)) _ _
  have still : ∀ x y, s.heap.get? x = some y → hn.get? x = some y := fun x y z => grown.extBut x y (Nat.ne_of_lt (Heap.lt_size z)) (Heap.get?_push_of_some _ z)
  have C : CellsAt F.nf.cl fr ws s.heap (hide cs H) := cells_hide (F := F.nf) tr e0.hok c
  have I : Inv (ncx (L2.CX P w) P w K mg base N F.nf f A outer s (hide cs H) (Eh cs E)) [] (startF N vs ws) (hide cs H) { s with heap := hn, toks := s.toks + (ps.zip us).length } := inv_startN S hr.hd e1 hl r C frm still
  refine PySem.W.kla_codeExpr (wpAny_mono ((hbody A outer s (hr.deeper _)).run [] _ (startF N vs ws) (hide cs H) (Qh cs Q) I hq) (fun v s' hq => ?_) fun e s' hq => ?_)
  · obtain ⟨w', H', J, rv, q⟩ := hq
    exact ce_unhide tr e0.hok e0.frf ⟨w', H', J.os, J.bare, J.base, J.hok, rv, q⟩
  · refine wpAny_mono hq (fun _ s2 z => ?_) fun e2 s2 z => ?_
    · exact cx_unhide tr e0.hok e0.frf z
    · exact cx_unhide tr e0.hok e0.frf z
end
section
variable {X : Cx} {CX : CXT} {k i : Nat} {m : Str} {E : XK} {te : TE} {ta : TA} {σ : L2.St} {H : Hp} {Q : VK} {sp : Sp}
theorem rd_methD (h : te σ H fun x H1 => ∃ a C dx fs f, x = .ref a ∧ H1 a = some (.ins C dx fs) ∧ Cls X.K C ∧ Meth X.K C m f ∧ fs.lookup m = none ∧ ta σ H1 fun vs H2 => CallsTo X.prog X.w X.K X.mg X.base CX k f H2 (x :: vs) Q E) : tMethD X CX k m te ta E σ H Q := h
theorem rd_clsF (h : ta σ H fun vs H1 => sp vs H1 Q E) : tClsF sp E ta σ H Q := h
end
end Xj

/-! Xk1: askings as trees: what is asked, what is put into the row, what is told; a tree kept at a heap -/
namespace Xk
open PySem PySem.Spec PyProof.Rows L2 Rs LamX
inductive Ak (ι β : Type) : Type
  | ret (b : β) : Ak ι β
  | ask (q : ι) (k : Bool → Ak ι β) : Ak ι β
  | put (ys : List V) (k : Ak ι β) : Ak ι β
namespace Ak
variable {ι κ β γ : Type}
def bind : Ak ι β → (β → Ak ι γ) → Ak ι γ
  | ret b, g => g b
  | ask q k, g => ask q fun b => (k b).bind g
  | put ys k, g => put ys (k.bind g)
def mapq (f : ι → κ) : Ak ι β → Ak κ β
  | ret b => ret b
  | ask q k => ask (f q) fun b => (k b).mapq f
  | put ys k => put ys (k.mapq f)
theorem bind_ret (t : Ak ι β) : t.bind ret = t := by
  induction t with
  | ret b => rfl
  | ask q k ih => simp only [bind, ih]
  | put ys k ih => simp only [bind, ih]
theorem bind_bind {δ : Type} (t : Ak ι β) (g : β → Ak ι γ) (h : γ → Ak ι δ) : (t.bind g).bind h = t.bind fun b => (g b).bind h := by
  induction t with
  | ret b => rfl
  | ask q k ih => simp only [bind, ih]
  | put ys k ih => simp only [bind, ih]
theorem ite_bind {c : Prop} [Decidable c] (t u : Ak ι β) (g : β → Ak ι γ) : (if c then t else u).bind g = if c then t.bind g else u.bind g := by split <;> rfl
end Ak
theorem same_nn {H H' : Hp} {b : Addr} (s : Same H H') (e : H' b = none) : H b = none := by
  cases h : H b with
  | none => rfl
  | some o => rw [s _ _ h] at e; cases e
/-- a thing that may be changed stands there -/
def Mq : HO → Prop
  | .lst _ => True
  | .ins _ _ _ => True
  | .dK _ => True
  | _ => False
theorem Mq.tbl {o : HO} (h : Mq o) (ps : Array Value) : o ≠ .tbl ps := fun e => by subst e; exact h
def Std (H : Hp) (b : Addr) : Prop := ∃ o, H b = some o ∧ Mq o
theorem Std.ext {H H' : Hp} {b : Addr} (s : Std H b) (e : ExtN H H') : Std H' b := let ⟨o, h, n⟩ := s; ⟨o, e _ _ h n.tbl, n⟩
theorem Std.ne {H : Hp} {b : Addr} (s : Std H b) : H b ≠ none := by obtain ⟨o, h, _⟩ := s; rw [h]; simp
theorem Std.not {H : Hp} {b : Addr} {o : HO} (s : Std H b) (h : H b = some o) : Mq o := by obtain ⟨u, e, m⟩ := s; rw [h] at e; cases e; exact m
/-- what an asking is, what it may change (besides tables), what it keeps -/
structure Wd (ι : Type) where
  TT : List (Addr × Str)
  MM : List Addr
  J : Hp → Prop
  Do : ι → Hp → VK → XK → Prop
  mono : ∀ q H (Q Q' : VK) (E E' : XK), (∀ v H', Q v H' → Q' v H') → (∀ c d H', E c d H' → E' c d H') → Do q H Q E → Do q H Q' E'
  jm : ∀ H H', J H → (∀ b ∈ MM, ∀ o, H b = some o → H' b = some o) → J H'
/-- what is done between askings: new objects, tables, the program's own objects o but those of pr -/
structure Mv {ι : Type} (W : Wd ι) (pr o o' : List Addr) (H H' : Hp) : Prop where
  ext : ∀ b u, H b = some u → (b ∉ o ∨ b ∈ pr) → (∀ ps, u ≠ .tbl ps) → H' b = some u
  tab : Tabs W.TT H → Tabs W.TT H'
  nn : ∀ b, H' b = none → H b = none
  sub : ∀ b ∈ o', b ∈ o ∨ H b = none
  sup : ∀ b ∈ o, b ∈ o'
  on : (∀ b ∈ o, H b ≠ none) → ∀ b ∈ o', H' b ≠ none
/-- what an asking keeps -/
structure Frm {ι : Type} (W : Wd ι) (H H' : Hp) : Prop where
  old : ∀ b o, H b = some o → b ∉ W.MM → (∀ ps, o ≠ .tbl ps) → H' b = some o
  tab : Tabs W.TT H → Tabs W.TT H'
  nn : ∀ b, H' b = none → H b = none
  j : W.J H → W.J H'
/-- a row is written -/
structure Pt {ι : Type} (W : Wd ι) (a : Addr) (ys : List V) (pr o o' : List Addr) (H H' : Hp) : Prop where
  at_ : H' a = some (.lst ys)
  old : ∀ b u, H b = some u → b ≠ a → (b ∉ o ∨ b ∈ pr) → (∀ ps, u ≠ .tbl ps) → H' b = some u
  tab : Tabs W.TT H → Tabs W.TT H'
  nn : ∀ b, H' b = none → H b = none
  sub : ∀ b ∈ o', b ∈ o ∨ H b = none
  sup : ∀ b ∈ o, b ∈ o'
  on : (∀ b ∈ o, H b ≠ none) → ∀ b ∈ o', H' b ≠ none
section
variable {ι κ β γ : Type} {W : Wd ι} {a : Addr} {H H' H1 H2 : Hp} {E : XK} {pr pr' o o' o1 o2 : List Addr}
theorem Mv.refl (W : Wd ι) (pr o : List Addr) (H : Hp) : Mv W pr o o H H := ⟨fun _ _ e _ _ => e, id, fun _ h => h, fun _ h => .inl h, fun _ h => h, id⟩
theorem mv_keepo (x : Mv W pr o o1 H H1) {b : Addr} {u : HO} (e : H b = some u) (h : b ∉ o ∨ b ∈ pr) : b ∉ o1 ∨ b ∈ pr := by
  rcases h with h | h
  · by_cases c : b ∈ o1
    · rcases x.sub b c with z | z
      · exact absurd z h
      · rw [e] at z; cases z
    · exact .inl c
  · exact .inr h
theorem mv_sub (x : Mv W pr o o1 H H1) {b : Addr} (h : b ∈ o1 ∨ H1 b = none) : b ∈ o ∨ H b = none := by
  rcases h with h | h
  · exact x.sub b h
  · exact .inr (x.nn b h)
theorem Mv.trans (x : Mv W pr o o1 H H1) (y : Mv W pr o1 o2 H1 H2) : Mv W pr o o2 H H2 :=
  ⟨fun b u e h nt => y.ext b u (x.ext b u e h nt) (mv_keepo x e h) nt, fun t => y.tab (x.tab t), fun b h => x.nn b (y.nn b h), fun b hb => mv_sub x (y.sub b hb), fun b hb => y.sup b (x.sup b hb), fun h => y.on (x.on h)⟩
theorem Mv.same (s : Same H H') : Mv W pr o o H H' := ⟨fun b u e _ _ => s b u e, fun t => t.ext s, fun b e => same_nn s e, fun _ h => .inl h, fun _ h => h, fun h b hb z => h b hb (same_nn s z)⟩
theorem Pt.mv {ys : List V} (x : Mv W pr o o1 H H1) (y : Pt W a ys pr o1 o2 H1 H2) : Pt W a ys pr o o2 H H2 :=
  ⟨y.at_, fun b u e n h nt => y.old b u (x.ext b u e h nt) n (mv_keepo x e h) nt, fun t => y.tab (x.tab t), fun b h => x.nn b (y.nn b h), fun b hb => mv_sub x (y.sub b hb), fun b hb => y.sup b (x.sup b hb), fun h => y.on (x.on h)⟩
theorem Mv.less (h : ∀ b ∈ pr, b ∈ pr') (x : Mv W pr' o o' H H') : Mv W pr o o' H H' := ⟨fun b u e c nt => x.ext b u e (c.imp_right (h b)) nt, x.tab, x.nn, x.sub, x.sup, x.on⟩
theorem Pt.less {ys : List V} (h : ∀ b ∈ pr, b ∈ pr') (x : Pt W a ys pr' o o' H H') : Pt W a ys pr o o' H H' := ⟨x.at_, fun b u e n c nt => x.old b u e n (c.imp_right (h b)) nt, x.tab, x.nn, x.sub, x.sup, x.on⟩
/-- the tree is kept at H; o: the program's own objects, pr: those of them that stay as they are -/
def Wp (W : Wd ι) (a : Addr) (E : XK) (pr : List Addr) : Ak ι β → List Addr → Hp → (β → List Addr → Hp → Prop) → Prop
  | .ret b, o, H, Q => ∀ o' H', Mv W pr o o' H H' → Q b o' H'
  | .ask q k, o, H, Q => ∀ o' H', Mv W pr o o' H H' → W.Do q H' (fun v H2 => ∃ b, v = .bl b ∧ Frm W H' H2 ∧ Wp W a E pr (k b) o' H2 Q) E
  | .put ys k, o, H, Q => ∀ o' H', Pt W a ys pr o o' H H' → Wp W a E pr k o' H' Q
theorem Wp.mv {Q : β → List Addr → Hp → Prop} (m : Mv W pr o o' H H') : ∀ {t : Ak ι β}, Wp W a E pr t o H Q → Wp W a E pr t o' H' Q
  | .ret b, h => fun o2 H2 n => h o2 H2 (m.trans n)
  | .ask q k, h => fun o2 H2 n => h o2 H2 (m.trans n)
  | .put ys k, h => fun o2 H2 n => h o2 H2 (n.mv m)
theorem Wp.imp {Q Q' : β → List Addr → Hp → Prop} (m : ∀ b o H, Q b o H → Q' b o H) : ∀ {t : Ak ι β} {o : List Addr} {H : Hp}, Wp W a E pr t o H Q → Wp W a E pr t o H Q'
  | .ret b, _, _, h => fun o2 H2 n => m _ _ _ (h o2 H2 n)
  | .ask q k, _, _, h => fun o2 H2 n => W.mono _ _ _ _ _ _ (fun v H3 ⟨b, e, f, w⟩ => ⟨b, e, f, Wp.imp m w⟩) (fun _ _ _ z => z) (h o2 H2 n)
  | .put ys k, _, _, h => fun o2 H2 n => Wp.imp m (h o2 H2 n)
/-- more stays as it is -/
theorem Wp.prot {Q : β → List Addr → Hp → Prop} (le : ∀ b ∈ pr, b ∈ pr') : ∀ {t : Ak ι β} {o : List Addr} {H : Hp}, Wp W a E pr t o H Q → Wp W a E pr' t o H Q
  | .ret b, _, _, h => fun o2 H2 n => h o2 H2 (n.less le)
  | .ask q k, _, _, h => fun o2 H2 n => W.mono _ _ _ _ _ _ (fun v H3 ⟨b, e, f, w⟩ => ⟨b, e, f, Wp.prot le w⟩) (fun _ _ _ z => z) (h o2 H2 (n.less le))
  | .put ys k, _, _, h => fun o2 H2 n => Wp.prot le (h o2 H2 (n.less le))
theorem Wp.bind {Q : γ → List Addr → Hp → Prop} {g : β → Ak ι γ} : ∀ {t : Ak ι β} {o : List Addr} {H : Hp}, Wp W a E pr (t.bind g) o H Q → Wp W a E pr t o H (fun b o' H' => Wp W a E pr (g b) o' H' Q)
  | .ret b, _, _, h => fun o2 H2 n => Wp.mv n h
  | .ask q k, _, _, h => fun o2 H2 n => W.mono _ _ _ _ _ _ (fun v H3 ⟨b, e, f, w⟩ => ⟨b, e, f, Wp.bind w⟩) (fun _ _ _ z => z) (h o2 H2 n)
  | .put ys k, _, _, h => fun o2 H2 n => Wp.bind (h o2 H2 n)
end
/-! ### a tree run by answers -/
section
variable {ι β γ : Type}
/-- what is told, how the row stands at last, what was asked and how the row stood -/
def Ak.run (tl : Nat → ι → Bool) : Ak ι β → Nat → List V → β × List V × List (ι × List V)
  | .ret b, _, xs => (b, xs, [])
  | .ask q k, n, xs => (((k (tl n q)).run tl (n + 1) xs).1, ((k (tl n q)).run tl (n + 1) xs).2.1, (q, xs) :: ((k (tl n q)).run tl (n + 1) xs).2.2)
  | .put ys k, n, _ => k.run tl n ys
theorem run_bind (tl : Nat → ι → Bool) (g : β → Ak ι γ) : ∀ (t : Ak ι β) (n : Nat) (xs : List V),
    (t.bind g).run tl n xs = (((g (t.run tl n xs).1).run tl (n + (t.run tl n xs).2.2.length) (t.run tl n xs).2.1).1, ((g (t.run tl n xs).1).run tl (n + (t.run tl n xs).2.2.length) (t.run tl n xs).2.1).2.1,
      (t.run tl n xs).2.2 ++ ((g (t.run tl n xs).1).run tl (n + (t.run tl n xs).2.2.length) (t.run tl n xs).2.1).2.2)
  | .ret b, n, xs => by simp [Ak.bind, Ak.run]
  | .ask q k, n, xs => by
    have e := run_bind tl g (k (tl n q)) (n + 1) xs
    simp only [Ak.bind, Ak.run, e, List.length_cons, List.cons_append]
    rw [show n + 1 + ((k (tl n q)).run tl (n + 1) xs).2.2.length = n + (((k (tl n q)).run tl (n + 1) xs).2.2.length + 1) by omega]
  | .put ys k, n, xs => run_bind tl g k n ys
/-- kept by an invariant over so many askings -/
theorem Wp.of_run {W : Wd ι} {a : Addr} {E : XK} {pr : List Addr} (tl : Nat → ι → Bool) (I : List Addr → Nat → Hp → Prop) {Q : β → List Addr → Hp → Prop} (im : ∀ o o' n H H', I o n H → Mv W pr o o' H H' → I o' n H') (ip : ∀ o o' n ys H H', I o n H → Pt W a ys pr o o' H H' → I o' n H') (ia : a ∉ W.MM) (io : ∀ o n H, I o n H → a ∉ o) :
    ∀ (t : Ak ι β) (n : Nat) (xs : List V) (o : List Addr) (H : Hp), I o n H → H a = some (.lst xs) →
      (∀ i q ys o' H', (t.run tl n xs).2.2[i]? = some (q, ys) → I o' (n + i) H' → H' a = some (.lst ys) → W.Do q H' (fun v H2 => v = .bl (tl (n + i) q) ∧ Frm W H' H2 ∧ I o' (n + i + 1) H2) E) →
      (∀ o' H', I o' (n + (t.run tl n xs).2.2.length) H' → H' a = some (.lst (t.run tl n xs).2.1) → Q (t.run tl n xs).1 o' H') → Wp W a E pr t o H Q
  | .ret b, n, xs, o, H, i0, ha, _, hq => fun o' H' m => hq o' H' (im _ _ _ _ _ i0 m) (m.ext _ _ ha (.inl (io _ _ _ i0)) (fun _ z => by cases z))
  | .ask q k, n, xs, o, H, i0, ha, hs, hq => fun o' H' m => by
    have ha' := m.ext _ _ ha (.inl (io _ _ _ i0)) (fun _ z => by cases z)
    refine W.mono _ _ _ _ _ _ (fun v H2 ⟨e, f, i2⟩ => ⟨tl n q, e, f, ?_⟩) (fun _ _ _ z => z) (hs 0 q xs o' H' rfl (im _ _ _ _ _ i0 m) ha')
    have ha2 := f.old _ _ ha' ia (fun _ z => by cases z)
    refine Wp.of_run tl I im ip ia io (k (tl n q)) (n + 1) xs o' H2 i2 ha2 (fun i q' ys o3 H3 e3 i3 h3 => ?_) fun o3 H3 i3 h3 => ?_
    · have z := hs (i + 1) q' ys o3 H3 (by simpa [Ak.run] using e3) (by rw [show n + (i + 1) = n + 1 + i by omega]; exact i3) h3
      rw [show n + (i + 1) = n + 1 + i by omega] at z
      exact z
    · refine hq o3 H3 ?_ h3
      simp only [Ak.run, List.length_cons]
      rw [show n + (((k (tl n q)).run tl (n + 1) xs).2.2.length + 1) = n + 1 + ((k (tl n q)).run tl (n + 1) xs).2.2.length by omega]
      exact i3
  | .put ys k, n, xs, o, H, i0, ha, hs, hq => fun o' H' p => Wp.of_run tl I im ip ia io k n ys o' H' (ip _ _ _ _ _ _ i0 p) p.at_ hs hq
/-- the very askings are those of another run, as long as the answers are alike -/
theorem run_pre (tl tl' : Nat → ι → Bool) : ∀ (t : Ak ι β) (n : Nat) (xs : List V) (m : Nat), (∀ i q ys, i < m → (t.run tl n xs).2.2[i]? = some (q, ys) → tl (n + i) q = tl' (n + i) q) → (t.run tl n xs).2.2.take (m + 1) = (t.run tl' n xs).2.2.take (m + 1)
  | .ret b, n, xs, m, _ => rfl
  | .ask q k, n, xs, m, h => by
    simp only [Ak.run, List.take_succ_cons]
    congr 1
    cases m with
    | zero => rfl
    | succ m =>
      have e := h 0 q xs (Nat.succ_pos _) rfl
      rw [Nat.add_zero] at e
      rw [← e]
      exact run_pre tl tl' (k (tl n q)) (n + 1) xs m fun i q' ys hi e' => by
        have z := h (i + 1) q' ys (by omega) (by simpa [Ak.run] using e')
        rw [show n + (i + 1) = n + 1 + i by omega] at z
        exact z
  | .put ys k, n, xs, m, h => run_pre tl tl' k n ys m h
end
end Xk

/-! Xk2: a lambda with parameters handed down: the running frame's cells are heap objects while the callee runs -/
namespace Xk
open PySem PySem.Spec PySem.Calls PyProof.Rows L2 Rs LamX NdefX Xf Xh
/-- a cell of a running frame, while a callee runs: its very object -/
def CellZ (c : Addr) (o : Obj) (v : V) : HO := .frz o (.ext fun h => ∃ u, RelV v u ∧ h.IsCell c (some u))
theorem cellZ_ok {P : Program} {w : World} {H : Hp} {h : Heap} {c : Addr} {o : Obj} {v : V} {u : Value} (r : RelV v u) (e : h.get? c = some o) (k : h.IsCell c (some u)) : ObjOk P w H h c (CellZ c o v) :=
  ⟨e, ⟨u, r, k⟩, ⟨o, e⟩, fun h1 h2 ⟨u, r, o, ho, hd⟩ k => ⟨u, r, o, k o ho, hd⟩⟩
theorem cellZ_at {P : Program} {w : World} {H : Hp} {h : Heap} {c : Addr} {o : Obj} {v : V} (hok : HOk P w H h) (e : H c = some (CellZ c o v)) : h.get? c = some o ∧ ∃ u, RelV v u ∧ h.IsCell c (some u) := by
  obtain ⟨e1, z, _, _⟩ := hok c _ e
  exact ⟨e1, z⟩
def unhideZ (oz : Addr → Obj) (cs : CL) (H : Hp) : Hp := fun b => match cs.lookup b with
  | some v => some (CellZ b (oz b) v)
  | none => H b
def TrkZ (oz : Addr → Obj) (cs : CL) (H : Hp) : Prop := ∀ b v, cs.lookup b = some v → H b = some (CellZ b (oz b) v)
section
variable {cs : CL} {oz : Addr → Obj} {H H' : Hp} {b : Addr} {v : V} {o : HO}
theorem unhideZ_in (h : cs.lookup b = some v) : unhideZ oz cs H b = some (CellZ b (oz b) v) := by unfold unhideZ; rw [h]
theorem unhideZ_out (h : cs.lookup b = none) : unhideZ oz cs H b = H b := by unfold unhideZ; rw [h]
theorem unhideZ_trk : TrkZ oz cs (unhideZ oz cs H) := fun b v e => unhideZ_in e
theorem TrkZ.out (t : TrkZ oz cs H) (h : H b = some o) (n : ∀ ob u, o ≠ .frz ob u) : cs.lookup b = none := by
  cases e : cs.lookup b with
  | none => rfl
  | some v =>
    rw [t b v e] at h
    exact absurd (Option.some.inj h).symm (n _ _)
theorem TrkZ.none (t : TrkZ oz cs H) (h : H b = none) : cs.lookup b = none := by
  cases e : cs.lookup b with
  | none => rfl
  | some v => rw [t b v e] at h; cases h
theorem hide_unhideZ (fr : Free cs H) : hide cs (unhideZ oz cs H) = H := by
  funext b
  cases e : cs.lookup b with
  | none => rw [hide_out e, unhideZ_out e]
  | some v => rw [hide_in e, fr b v e]
theorem unhideZ_keep (fr : Free cs H) (e : H b = some o) : unhideZ oz cs H b = some o := by
  rw [unhideZ_out]
  · exact e
  · cases z : cs.lookup b with
    | none => rfl
    | some v => rw [fr b v z] at e; cases e
theorem hideZ_hok {P : Program} {w : World} {h : Heap} (t : TrkZ oz cs H) (x : HOk P w H h) : HOk P w (hide cs H) h := fun a o e => by
  obtain ⟨_, e2⟩ := hide_some e
  refine (x a o e2).stay (fun b u _ q => q) (fun b q => ?_) fun b xs q => ?_
  · rw [hide_out (t.out q fun _ _ z => by cases z)]; exact q
  · rw [hide_out (t.out q fun _ _ z => by cases z)]; exact q
theorem unhideZ_hok {P : Program} {w : World} {h : Heap} (n : ∀ b v, cs.lookup b = some v → H b = Option.none) (c : ∀ b v, cs.lookup b = some v → h.get? b = some (oz b) ∧ ∃ u, RelV v u ∧ h.IsCell b (some u)) (x : HOk P w H h) : HOk P w (unhideZ oz cs H) h := fun a o e => by
  cases hl : cs.lookup a with
  | some v =>
    rw [unhideZ_in hl] at e
    cases e
    obtain ⟨e1, u, r, q⟩ := c a v hl
    exact cellZ_ok r e1 q
  | none =>
    rw [unhideZ_out hl] at e
    have out : ∀ {b : Addr} {u : HO}, H b = some u → cs.lookup b = none := fun {b u} q => by
      cases z : cs.lookup b with
      | none => rfl
      | some v => rw [n b v z] at q; cases q
    exact (x a o e).stay (fun b u _ q => q) (fun b q => by rw [unhideZ_out (out q)]; exact q) fun b xs q => by rw [unhideZ_out (out q)]; exact q
theorem unhideZ_un {fs : List Addr} {h h' : Heap} (t : TrkZ oz cs H) (u : Un fs [] (hide cs H) H' h h') : Un fs [] H (unhideZ oz cs H') h h' where
  keep := fun b o q n => u.keep b o q (hide_none n)
  slot := fun b o q n => u.slot b o q (hide_none n)
  free := fun b o q n x => by rw [unhideZ_out (t.none n)]; exact u.free b o q (hide_none n) x
  there := u.there
  tups := fun b xs q => by
    have l := t.out q fun _ _ z => by cases z
    rw [unhideZ_out l]
    exact u.tups b xs (by rw [hide_out l]; exact q)
  frzs := fun b o xs q => by
    cases l : cs.lookup b with
    | none =>
      rw [unhideZ_out l]
      exact u.frzs b o xs (by rw [hide_out l]; exact q)
    | some v => rw [unhideZ_in l, ← t b v l]; exact q
  tbls := fun b ps q => by
    have l := t.out q fun _ _ z => by cases z
    obtain ⟨m, z⟩ := u.tbls b ps (by rw [hide_out l]; exact q)
    exact ⟨m, by rw [unhideZ_out l]; exact z⟩
theorem unhideZ_ub {fs : List Addr} {h B h' : Heap} (t : TrkZ oz cs H) (u : UB fs (hide cs H) H' h B h') : UB fs H (unhideZ oz cs H') h B h' where
  keep := fun b o q n => u.keep b o q (hide_none n)
  slot := u.slot
  free := fun b o q n => by rw [unhideZ_out (t.none n)]; exact u.free b o q (hide_none n)
  there := u.there
  tups := fun b xs q => by
    have l := t.out q fun _ _ z => by cases z
    rw [unhideZ_out l]
    exact u.tups b xs (by rw [hide_out l]; exact q)
  frzs := fun b o xs q => by
    cases l : cs.lookup b with
    | none =>
      rw [unhideZ_out l]
      exact u.frzs b o xs (by rw [hide_out l]; exact q)
    | some v => rw [unhideZ_in l, ← t b v l]; exact q
  tbls := fun b ps q => by
    have l := t.out q fun _ _ z => by cases z
    obtain ⟨m, z⟩ := u.tbls b ps (by rw [hide_out l]; exact q)
    exact ⟨m, by rw [unhideZ_out l]; exact z⟩
end
/-- a wish, of the heap without the cells -/
def Qz (oz : Addr → Obj) (cs : CL) (Q : VK) : VK := fun v H' => Free cs H' → Q v (unhideZ oz cs H')
def Ez (oz : Addr → Obj) (cs : CL) (E : XK) : XK := fun c d H' => Free cs H' → E c d (unhideZ oz cs H')
section
variable {P : Program} {w : World} {outer : List Env} {cs : CL} {oz : Addr → Obj} {H : Hp} {s s' : Shared} {Q : VK} {E : XK} {u : Value}
theorem cellsZ_kept {fs : List Addr} {h B : Heap} (t : TrkZ oz cs H) (hok : HOk P w H h) (hf : ∀ b ∈ fs, H b = none) (k : ∀ b o, h.get? b = some o → hide cs H b = none → b ∉ fs → B.get? b = some o) : ∀ b v, cs.lookup b = some v → B.get? b = some (oz b) ∧ ∃ u, RelV v u ∧ B.IsCell b (some u) := fun b v e => by
  obtain ⟨e1, u, r, o, ho, hd⟩ := cellZ_at hok (t b v e)
  have nf : b ∉ fs := fun z => by have := hf b z; rw [t b v e] at this; cases this
  exact ⟨k b _ e1 (hide_in e) nf, u, r, o, k b o ho (hide_in e) nf, hd⟩
theorem ce_unhideZ (t : TrkZ oz cs H) (hok : HOk P w H s.heap) (hf : ∀ b ∈ frs outer, H b = none) (h : CE outer P w (hide cs H) s (Qz oz cs Q) u s') : CE outer P w H s Q u s' := by
  obtain ⟨v, H', e1, e2, un, hok', r, q⟩ := h
  have ck := cellsZ_kept (P := P) (w := w) t hok hf (fun b o q n nf => un.keep b o q n nf (by simp))
  have fr : Free cs H' := fun b v e => by
    obtain ⟨e1, _⟩ := cellZ_at hok (t b v e)
    exact un.free b _ e1 (hide_in e) (by simp)
  exact ⟨v, unhideZ oz cs H', e1, e2, unhideZ_un t un, unhideZ_hok fr ck hok', r, q fr⟩
theorem cx_unhideZ (t : TrkZ oz cs H) (hok : HOk P w H s.heap) (hf : ∀ b ∈ frs outer, H b = none) (h : L2.CX P w outer (hide cs H) s (Ez oz cs E) u s') : L2.CX P w outer H s E u s' := by
  obtain ⟨a, B, H', cls, d, e0, fl, hok', ub, na, e1, e2, q⟩ := h
  have ck := cellsZ_kept (P := P) (w := w) t hok hf (fun b o q n nf => ub.keep b o q n nf)
  have fr : Free cs H' := fun b v e => by
    obtain ⟨e1, _⟩ := cellZ_at hok (t b v e)
    exact ub.free b _ e1 (hide_in e)
  refine ⟨a, B, unhideZ oz cs H', cls, d, e0, fl, unhideZ_hok fr ck hok', unhideZ_ub t ub, ?_, e1, e2, q fr⟩
  cases hl : cs.lookup a with
  | none => rw [unhideZ_out hl]; exact na
  | some v =>
    obtain ⟨ho, _⟩ := ck a v hl
    have z := fl.2.1
    rw [ho] at z; cases z
end
section
variable {P : Program} {w : World} {K : PySem.W.Frag} {mg : Str → Option Value} {base : Heap} {N ps fr : List Str} {F : LF} {f : Addr} {k j : Nat} {H : Hp} {vs : List V} {Q Q' : VK} {E : XK} {cs : CL} {oz : Addr → Obj}
theorem env_hideZ {A : Around} {outer : List Env} {s : Shared} (t : TrkZ oz cs H) (e : Env0 P w K mg base A outer s H) : Env0 P w K mg base A outer s (hide cs H) :=
  ⟨e.frames, e.mod, fun b o q => ⟨(e.bs b o q).1, hide_none (e.bs b o q).2⟩, e.bsz, e.funs, fun b q => hide_none (e.frf b q), hideZ_hok t e.hok, e.bare⟩
theorem cells_hideZ {F : NF} {h : Heap} {ws : List (Option V)} (t : TrkZ oz cs H) (hok : HOk P w H h) (c : ClAt F.cl fr ws cs) : CellsAt F.cl fr ws h (hide cs H) := by
  refine ⟨c.len, fun y a e => ?_, c.inj, fun i y e => ?_⟩
  · obtain ⟨v, q⟩ := c.all y a e
    obtain ⟨_, u, _, z⟩ := cellZ_at hok (t a v q)
    exact ⟨hide_in q, _, z⟩
  · obtain ⟨a, e1, e2⟩ := c.has i y e
    refine ⟨a, e1, fun v ev => ?_⟩
    obtain ⟨_, u, r, z⟩ := cellZ_at hok (t a v (e2 v ev))
    exact ⟨u, r, z⟩
/-- a lambda that captured names of a frame that still runs -/
theorem calls_lamZ {ws : List (Option V)} {t : TE} (S : NScope N ps fr F.scope) (hb : ∀ (pm ctv : Value) (us : List Value), us.length = ps.length → bindArgs (F.fd pm ctv) ⟨us, []⟩ = pure (ps.zip us)) (hl : vs.length = ps.length)
    (tr : TrkZ oz cs H) (c : ClAt F.cl fr ws cs) (hf : H f = some (LamO f F)) (hc : H F.c = some (CodeO F.c F.qual))
    (hbody : ∀ (A : Around) (outer : List Env) (s : Shared), Room k (A.deeper (envF F.nf f s.heap.objs.size)) → PE (ncx (L2.CX P w) P w K mg base N F.nf f A outer s (hide cs H) (Ez oz cs E)) F.body t) (hq : t (startF N vs ws) (hide cs H) (Qz oz cs Q)) :
    CallsTo P w K mg base (L2.CX P w) (k + 1) f H vs Q E := by
  refine fun A outer s us hr e0 r => ?_
  have e1 := env_hideZ tr e0
  have unlim : s.heap.NoLimit := e0.mod.nolimit.keeps fun x y z => (e0.bs x y z).1
  obtain ⟨pm, ctv, ho⟩ := lamO_at e0.hok hf
  refine ⟨⟨_, _, _, _, ho⟩, ?_⟩
  refine PySem.W.kla_callFunE hr.depth ho rfl S.co S.gen rfl (codeO_at e0.hok hc) ?_
  rw [hb pm ctv us (by rw [← r.length]; exact hl)]
  refine wpAny_pure (wpAny_newFunctionEnv S.nocell (fun y hy => S.par y.1 (List.of_mem_zip hy).1) (fun hn frm grown => ⟨unlim.fresh _ grown, ?_⟩) S.kind)
  show codeAny _ _ (.expr F.body (envF F.nf f s.heap.objs.size)) _ _
  have still : ∀ x y, s.heap.get? x = some y → hn.get? x = some y := fun x y z => grown.extBut x y (Nat.ne_of_lt (Heap.lt_size z)) (Heap.get?_push_of_some _ z)
  have C : CellsAt F.nf.cl fr ws s.heap (hide cs H) := cells_hideZ (F := F.nf) tr e0.hok c
  have I : Inv (ncx (L2.CX P w) P w K mg base N F.nf f A outer s (hide cs H) (Ez oz cs E)) [] (startF N vs ws) (hide cs H) { s with heap := hn, toks := s.toks + (ps.zip us).length } := inv_startN S hr.hd e1 hl r C frm still
  refine PySem.W.kla_codeExpr (wpAny_mono ((hbody A outer s (hr.deeper _)).run [] _ (startF N vs ws) (hide cs H) (Qz oz cs Q) I hq) (fun v s' hq => ?_) fun e s' hq => ?_)
  · obtain ⟨w', H', J, rv, q⟩ := hq
    exact ce_unhideZ tr e0.hok e0.frf ⟨w', H', J.os, J.bare, J.base, J.hok, rv, q⟩
  · refine wpAny_mono hq (fun _ s2 z => ?_) fun e2 s2 z => ?_
    · exact cx_unhideZ tr e0.hok e0.frf z
    · exact cx_unhideZ tr e0.hok e0.frf z
end
section
variable {X : Cx} {pins : List (Addr × Obj)} {σ : L2.St} {H H' : Hp} {s s' : Shared} {cs : CL} {oz : Addr → Obj} {h' : Heap}
theorem callC_free (I : Inv X pins σ H s) (cv : Cov X.N X.env.cells σ cs) : Free cs H := fun b v e => by
  obtain ⟨y, j, h1, _⟩ := cv.own b v e
  exact I.freeC y b h1
/-- behind a call that saw the cells -/
theorem _root_.L2.Inv.callC {g' : Array GenState} {t' : Nat} {d' : Drawn} (I : Inv X pins σ H s) (fnA : ∀ y, X.fn y = true) (cv : Cov X.N X.env.cells σ cs) (all : ∀ (y : Str) (c : Addr), X.env.cells.lookup y = some c → ∃ (j : Nat) (v : V), X.N[j]? = some y ∧ σ[j]? = some (some v))
    (u : Un (frs X.stack) [] (unhideZ oz cs H) H' s.heap h') (hok : HOk X.prog X.w H' h') (tr : TrkZ oz cs H') (hg : AllBare g') : Inv X pins σ (hide cs H') { s with heap := h', gens := g', drawn := d', toks := t' } := by
  have fr := callC_free I cv
  have un : ∀ {b : Addr}, H b = Option.none → cs.lookup b = Option.none → unhideZ oz cs H b = Option.none := fun {b} n l => by rw [unhideZ_out l]; exact n
  have lo : ∀ b o, X.s_0.heap.get? b = some o → cs.lookup b = Option.none := fun b o e => by
    cases z : cs.lookup b with
    | none => rfl
    | some v =>
      obtain ⟨y, j, h1, _⟩ := cv.own b v z
      have := I.ok.cab y b (fnA y) h1
      exact absurd (Nat.lt_of_lt_of_le (Heap.lt_size e) this) (Nat.lt_irrefl _)
  have nst : ∀ b o, X.s_0.heap.get? b = some o → b ∉ X.fs → b ∉ frs X.stack := fun b o e nb hm => by
    rcases List.mem_cons.mp (I.stkSub b hm) with z | z
    · rw [z] at e
      exact absurd (Nat.lt_of_lt_of_le (Heap.lt_size e) I.ok.above) (Nat.lt_irrefl _)
    · exact nb z
  have some_lo : ∀ {b : Addr} {o : HO}, H b = some o → cs.lookup b = Option.none := fun {b o} e => by
    cases z : cs.lookup b with
    | none => rfl
    | some v => rw [fr b v z] at e; cases e
  have lloc : cs.lookup X.env.locals = Option.none := by
    cases z : cs.lookup X.env.locals with
    | none => rfl
    | some v =>
      obtain ⟨y, j, h1, _⟩ := cv.own _ v z
      exact absurd rfl (I.cne y _ h1)
  have cellK : ∀ (y : Str) (c : Addr), X.env.cells.lookup y = some c → ∃ (j : Nat) (v : V), X.N[j]? = some y ∧ σ[j]? = some (some v) ∧ cs.lookup c = some v ∧ ∃ u, RelV v u ∧ h'.IsCell c (some u) := fun y c e => by
    obtain ⟨j, v, h1, h2⟩ := all y c e
    have h3 := cv.has y c j v e h1 h2
    exact ⟨j, v, h1, h2, h3, (cellZ_at hok (tr c v h3)).2⟩
  refine ⟨I.ok, I.os, hg, ⟨fun b o e n hb hx => ?_, fun b o e n hb hx => ?_, fun b o e n hx => ?_, fun b o e hx => ?_, fun b xs e => ?_, fun b o xs e => ?_, fun b ps e => ?_⟩, ?_, fun y c e => ?_, ?_, fun y c e => ?_, fun p hp => ?_, hideZ_hok tr hok, I.len⟩
  · exact u.keep b o (I.base.keep b o e n hb hx) (un (I.base.free b o e n hx) (lo b o e)) (nst b o e hb) (by simp)
  · obtain ⟨sl, e1⟩ := I.base.slot b o e n hb hx
    obtain ⟨sl2, e2⟩ := u.any e1 (un (I.base.free b o e n hx) (lo b o e)) (by simp)
    exact ⟨sl2, e2⟩
  · obtain ⟨o', e1⟩ := I.base.there b o e hx
    exact hide_none (u.free b o' e1 (un (I.base.free b o e n hx) (lo b o e)) (by simp))
  · obtain ⟨o', e1⟩ := I.base.there b o e hx
    exact u.there b o' e1 (by simp)
  · have e1 := I.base.tups b xs e
    have l := some_lo e1
    rw [hide_out l]
    exact u.tups b xs (by rw [unhideZ_out l]; exact e1)
  · have e1 := I.base.frzs b o xs e
    have l := some_lo e1
    rw [hide_out l]
    exact u.frzs b o xs (by rw [unhideZ_out l]; exact e1)
  · obtain ⟨m1, e1⟩ := I.base.tbls b ps e
    have l := some_lo e1
    obtain ⟨m2, e2⟩ := u.tbls b (ps ++ m1) (by rw [unhideZ_out l]; exact e1)
    exact ⟨m1 ++ m2, by rw [hide_out l, e2, Array.append_assoc]⟩
  · obtain ⟨m, ⟨o, es, ep, ho, r⟩, hl⟩ := I.loc
    obtain ⟨sl, hL⟩ := u.any ho (un I.free lloc) (by simp)
    refine ⟨m, ⟨_, es, ep, hL, r⟩, fun i x v e1 e2 e3 => ?_⟩
    obtain ⟨w, rw_, l⟩ := hl i x v e1 e2 e3
    rcases l with l | ⟨k, c, e, z⟩
    · exact ⟨w, rw_, .inl l⟩
    · have h3 := cv.has x c i v e e1 e2
      obtain ⟨w2, r2, z2⟩ := (cellZ_at hok (tr c v h3)).2
      exact ⟨w2, r2, .inr ⟨k, c, e, z2⟩⟩
  · obtain ⟨j, v, _, _, _, w, _, z⟩ := cellK y c e
    exact ⟨_, z⟩
  · obtain ⟨m, ⟨o, _, _, ho, _⟩, _⟩ := I.loc
    exact hide_none (u.free _ o ho (un I.free lloc) (by simp))
  · obtain ⟨j, v, _, _, h3, _⟩ := cellK y c e
    exact hide_in h3
  · obtain ⟨e, n, ne, nf, d⟩ := I.pin p hp
    have l : cs.lookup p.1 = Option.none := by
      cases z : cs.lookup p.1 with
      | none => rfl
      | some v =>
        obtain ⟨y, j, h1, _⟩ := cv.own _ v z
        obtain ⟨w, o, ho, hd⟩ := I.cell y _ h1
        rw [e] at ho
        cases ho
        exact absurd hd (d w)
    have ns : p.1 ∉ frs X.stack := fun z => by
      rcases List.mem_cons.mp (I.stkSub _ z) with q | q
      · exact ne q
      · exact nf q
    exact ⟨u.keep _ _ e (un n l) ns (by simp), hide_none (u.free _ _ e (un n l) (by simp)), ne, nf, d⟩
/-- what is wished for at the heap with the cells -/
def Qc (cs : CL) (Q : VK) : VK := fun v H' => Q v (hide cs H')
def Ec (cs : CL) (E : XK) : XK := fun c d H' => E c d (hide cs H')
theorem after_c {Q : VK} {u : Value} (I : Inv X pins σ H s) (fnA : ∀ y, X.fn y = true) (cv : Cov X.N X.env.cells σ cs) (all : ∀ (y : Str) (c : Addr), X.env.cells.lookup y = some c → ∃ (j : Nat) (v : V), X.N[j]? = some y ∧ σ[j]? = some (some v))
    (h : CE X.stack X.prog X.w (unhideZ oz cs H) s (Qc cs Q) u s') : EP X pins σ Q u s' := by
  obtain ⟨v, H', os, bare, un, hok, r, q⟩ := h
  have tr : TrkZ oz cs H' := fun b v e => un.frzs b _ _ (unhideZ_in e)
  obtain ⟨hh, g, d, t, os'⟩ := s'
  obtain rfl : os' = s.os := os
  exact ⟨v, hide cs H', I.callC (h' := hh) (g' := g) (d' := d) (t' := t) fnA cv all un hok tr bare, r, q⟩
theorem _root_.L2.XE.of_callC {W : WX} {E : XK} (I : Inv X pins σ H s) (fnA : ∀ y, X.fn y = true) (cv : Cov X.N X.env.cells σ cs) (all : ∀ (y : Str) (c : Addr), X.env.cells.lookup y = some c → ∃ (j : Nat) (v : V), X.N[j]? = some y ∧ σ[j]? = some (some v))
    (hW : ∀ cls d H', E cls d H' → W cls d σ H') {u : Value} (c : L2.CX X.prog X.w X.stack (unhideZ oz cs H) s (Ec cs E) u s') : XE X W u s' := by
  obtain ⟨a, B, H', cls, d, rfl, fl, hok, ub, na, os, ag, hE⟩ := c
  have tr : TrkZ oz cs H' := fun b v e => ub.frzs b _ _ (unhideZ_in e)
  obtain ⟨G, g1, g2⟩ := restrict s'.heap fun b => (B.get? b).isSome || decide (b ∈ frs X.stack)
  have st : B.StaysIn s'.heap := fl.1
  have gB : ∀ b o, B.get? b = some o → G.get? b = some o := fun b o e => by
    rw [g1 b (by simp [e])]
    exact st b o e
  have gF : ∀ b, b ∈ frs X.stack → G.get? b = s'.heap.get? b := fun b hb => g1 b (by simp [hb])
  have og : ∀ b o, G.get? b = some o → s'.heap.get? b = some o ∧ ((B.get? b).isSome = true ∨ b ∈ frs X.stack) := fun b o e => by
    cases q : ((B.get? b).isSome || decide (b ∈ frs X.stack)) with
    | false => rw [g2 b q] at e; cases e
    | true =>
      rw [g1 b q] at e
      exact ⟨e, by simpa [Bool.or_eq_true] using q⟩
  refine ⟨a, B, { s with heap := G, gens := s'.gens, drawn := s'.drawn, toks := s'.toks }, pins, σ, hide cs H', cls, d, rfl, ?_, fun b o e hb => ?_, Heap.UpToSlots.of_keeps fun b o e => (og b o e).1, .inr (.inl fl), hide_none na, os, ag, hW _ _ _ hE⟩
  · refine I.callC fnA cv all ⟨fun b o e n hb _ => gB b o (ub.keep b o e n hb), fun b o e n hb _ => ?_, fun b o e n _ => ub.free b o e n, fun b o e _ => ?_, ub.tups, ub.frzs, ub.tbls⟩ (hok.kept gB) tr ag
    · obtain ⟨sl, q⟩ := ub.slot b o e hb
      exact ⟨sl, by rw [gF b hb]; exact q⟩
    · by_cases hb : b ∈ frs X.stack
      · obtain ⟨sl, q⟩ := ub.slot b o e hb
        exact ⟨_, by rw [gF b hb]; exact q⟩
      · obtain ⟨o', q⟩ := ub.there b o e hb
        exact ⟨o', gB b o' q⟩
  · obtain ⟨e', h⟩ := og b o e
    rcases h with h | h
    · obtain ⟨o', q⟩ := Option.isSome_iff_exists.mp h
      have z := st b o' q
      rw [e'] at z; cases z
      exact q
    · exact absurd h hb
theorem env_unhide {P : Program} {w : World} {K : PySem.W.Frag} {mg : Str → Option Value} {base : Heap} {A : Around} {outer : List Env} (e : Env0 P w K mg base A outer s H) (fr : Free cs H) (nb : ∀ b o, base.get? b = some o → cs.lookup b = Option.none) (nf : ∀ b ∈ frs outer, cs.lookup b = Option.none)
    (c : ∀ b v, cs.lookup b = some v → s.heap.get? b = some (oz b) ∧ ∃ u, RelV v u ∧ s.heap.IsCell b (some u)) : Env0 P w K mg base A outer s (unhideZ oz cs H) :=
  ⟨e.frames, e.mod, fun b o q => ⟨(e.bs b o q).1, by rw [unhideZ_out (nb b o q)]; exact (e.bs b o q).2⟩, e.bsz, e.funs, fun b q => by rw [unhideZ_out (nf b q)]; exact e.frf b q, unhideZ_hok fr c e.hok, e.bare⟩
/-- the state at a call, with the cells -/
theorem env0_c (I : Inv X pins σ H s) (fnA : ∀ y, X.fn y = true) (cv : Cov X.N X.env.cells σ cs) (hoz : ∀ b o, s.heap.get? b = some o → oz b = o) (vis : ∀ (y : Str) (c : Addr), X.env.cells.lookup y = some c → X.env.scope.names.lookup y = some .cell) : Env0 X.prog X.w X.K X.mg X.base X.A X.stack s (unhideZ oz cs H) := by
  refine env_unhide I.env0 (callC_free I cv) (fun b o e => ?_) (fun b hb => ?_) fun b v e => ?_
  · cases z : cs.lookup b with
    | none => rfl
    | some v =>
      obtain ⟨y, j, h1, _⟩ := cv.own b v z
      have h2 := I.ok.cab y b (fnA y) h1
      have h3 := Heap.lt_size (I.ok.bs b o e).1
      exact absurd (Nat.lt_of_lt_of_le h3 h2) (Nat.lt_irrefl _)
  · cases z : cs.lookup b with
    | none => rfl
    | some v =>
      obtain ⟨y, j, h1, _⟩ := cv.own b v z
      rcases List.mem_cons.mp (I.stkSub b hb) with q | q
      · exact absurd q (I.cne y b h1)
      · obtain ⟨_, o, ho, _⟩ := I.ok.funs.mem q
        have h2 := I.ok.cab y b (fnA y) h1
        exact absurd (Nat.lt_of_lt_of_le (Heap.lt_size ho) h2) (Nat.lt_irrefl _)
  · obtain ⟨y, j, h1, h2, h3⟩ := cv.own b v e
    obtain ⟨m, hn, hl⟩ := I.loc
    obtain ⟨u, r, l⟩ := hl j y v h2 h3 (.inr (.inl (vis y b h1)))
    rcases l with ⟨z, _⟩ | ⟨_, c', hc', hcl⟩
    · have z : X.env.scope.names.lookup y = some .local := z
      rw [vis y b h1] at z; cases z
    · rw [h1] at hc'
      cases hc'
      obtain ⟨o, ho, hd⟩ := hcl
      exact ⟨by rw [hoz _ _ ho]; exact ho, u, r, o, ho, hd⟩
end
/-! ### the call -/
/-- g(lambda ..: .., e, ..): the lambda's object, then what the callee is told of the heap with the cells -/
def tDn (X : Cx) (T : List (Addr × Str)) (mk : Addr → LF) (sp : Sp) (E : XK) (ta : TA) : TE := fun σ H Q =>
  (∀ (y : Str) (c : Addr), X.env.cells.lookup y = some c → ∃ (j : Nat) (v : V), X.N[j]? = some y ∧ σ[j]? = some (some v)) ∧ Tabs T H ∧
    ∀ (f c' : Addr) (H1 : Hp), ExtN H H1 → (∀ b, H1 b = Option.none → H b = Option.none) → Tabs T H1 → H f = none → H1 f = some (LamO f (mk c')) → H1 c' = some (CodeO c' (mk c').qual) →
      ta σ H1 fun vs H2 => ∀ (cs : CL) (oz : Addr → Obj), (∀ (x y : Str) (c : Addr), X.env.cells.lookup x = some c → X.env.cells.lookup y = some c → x = y) → Cov X.N X.env.cells σ cs → Free cs H2 → sp (.ref f :: vs) (unhideZ oz cs H2) (Qc cs Q) (Ec cs E)
section
variable {X : Cx} {k : Nat} {f : Addr} {fd : FuncData} {ps : List Str} {sp : Sp} {E : XK} {x : Str} {p pos lpos : Pos} {e : Expr} {es : List Expr} {ta : TA} {T : List (Addr × Str)} {c P : Addr} {params : Arguments} {body : Expr} {scope : Scope} {W : WX}
theorem pe_dn (F : FnOk X.prog X.w X.K X.mg X.base (L2.CX X.prog X.w) k f fd ps sp) (hr : Room k X.A) (hg : Gl X x) (hm : X.mg x = some (.ref f)) (hk : PySem.W.keepIn X.K (.ref f) = true) (hb : Binds X.K fd ps []) (tk : Takes X W) (hW : ∀ cls d σ H, E cls d H → W cls d σ H)
    (TB : TabB X.base X.mg c P) (hcode : X.env.code = .ref c) (hmT : (P, X.env.qual ++ "<lambda>") ∈ T) (hu : ∀ p ∈ T, p.1 = P → p.2 = X.env.qual ++ "<lambda>")
    (hdef : defaultsOf params X.env = ([], [])) (hfree : ∀ y ∈ scope.names, y.2 = .free → X.env.scope.names.lookup y.1 = some .cell ∨ X.env.scope.names.lookup y.1 = some .free) (fnA : ∀ y, X.fn y = true) (hnd : X.N.Nodup)
    (vis : ∀ (y : Str) (c : Addr), X.env.cells.lookup y = some c → X.env.scope.names.lookup y = some .cell)
    (ha : PA X (e :: es) ta) (hdb : (x == ("__debug__" : Str)) = false := by decide) (hst : starEach (.Lambda params body scope lpos :: e :: es) X.env = (false, eval (.Lambda params body scope lpos) X.env) :: starEach (e :: es) X.env := by rfl)
    (hst2 : starEach (e :: es) X.env = (false, eval e X.env) :: starEach es X.env := by rfl)
    (hpl : (backTo pos (starEach (e :: es) X.env)).any (·.1) = false := by rfl) :
    PE X (.Call (.Name x p) (.Lambda params body scope lpos :: e :: es) [] pos) (tDn X T (fun c' => ⟨X.env.qual ++ "<lambda>", params, body, scope, cloFrom X.env.cells scope.names [], c'⟩) sp E ta) := by
  refine ⟨fun pins s σ H Q I h => ?_⟩
  obtain ⟨all, hT, h⟩ := h
  refine wpAny_Call_Name_kw (ld_glob I hg hm ?_ hdb)
  refine PySem.W.callWith_K (h₀ := X.base) I.ok.mod.kin hk ?_ hst hpl
  show wpAny _ _ (spliced ((false, eval (.Lambda params body scope lpos) X.env) :: backTo pos (starEach (e :: es) X.env))) _ _ s
  refine Calls.spliced_cons (lamv_make I TB hcode hdef hmT hu hT (fun y hy e => (hfree y hy e).elim (fun z => I.ok.has _ (.inl z)) fun z => I.ok.has _ (.inr z)) fun fo c' H1 s1 I1 eN nn T1 f0 f1 c1 => ?_)
  have h := h fo c' H1 eN nn T1 f0 f1 c1
  refine thn (ha.run pos pins s1 σ H1 _ I1 h) fun us s2 ⟨vs, H2, I2, r, q⟩ => ⟨I2.kIn, ?_⟩
  obtain ⟨cs, cv⟩ := cov_ex hnd I2.ok.inj all
  let oz : Addr → Obj := fun b => match s2.heap.get? b with
    | some o => o
    | none => { cls := .none, data := .fields #[] }
  have hoz : ∀ b o, s2.heap.get? b = some o → oz b = o := fun b o e => by show (match s2.heap.get? b with | some o => o | none => _) = o; rw [e]
  have q := q cs oz I2.ok.inj cv (callC_free I2 cv)
  have hl : (Value.ref fo :: us).length = ps.length := by
    have z := F.len _ _ _ _ q
    simp only [List.length_cons] at z ⊢
    rw [← r.length]; exact z
  have e0 := env0_c I2 fnA cv hoz vis
  have bi := hb s2 (.ref fo :: us) I2.kIn (by rw [List.append_nil]; exact hl)
  rw [List.append_nil] at bi
  refine wpAny_call (codeAny_mono (F.run X.A X.stack s2 (unhideZ oz cs H2) ⟨.ref fo :: us, []⟩ (.ref fo :: us) (.ref fo :: vs) _ _ hr e0 bi (.cons rfl r) q) fun r s' hq => ?_)
  cases r with
  | error e => exact tk e s' (XE.of_callC I2 fnA cv all (fun cls d H' h => hW cls d σ H' h) hq)
  | ok fl =>
    cases fl with
    | ret u => exact after_c I2 fnA cv all hq
    | next => exact False.elim hq
    | brk => exact False.elim hq
    | cont => exact False.elim hq
/-- a def whose code object is known, by its body; it may raise -/
theorem _root_.Xc.FunC.okX {P : Program} {w : World} {K : PySem.W.Frag} {mg : Str → Option Value} {base : Heap} {x qual : Str} {st : Stmt} {f c : Addr} {fd : FuncData} {N ps : List Str} {k : Nat} {sp : Sp} (F : Xc.FunC K x qual st f fd c) (S : FnScope N ps (defScope st)) (len : ∀ vs H Q E, sp vs H Q E → vs.length = ps.length)
    (hbody : ∀ (A : Around) (outer : List Env) (s : Shared) (H : Hp) (vs : List V) (Q : VK) (E : XK), Room k (A.deeper (envOfC qual (defScope st) s.heap.objs.size f (.ref c))) → sp vs H Q E →
      ∃ t, PSs (cxOf (L2.CX P w) P w K mg base N qual (defScope st) f (.ref c) A outer s H E) (defBody st) t ∧ t { nx := fun _ H' => Q .non H', rt := Q } (start N vs) H) : FnOk P w K mg base (L2.CX P w) (k + 1) f fd ps sp := by
  obtain ⟨oc, od, kV, doc, pm, an, ct, osl, rfl, lk, hcd⟩ := F.ex
  exact fn_of lk hcd S len fun A outer s H vs Q E hr hsp => hbody A outer s H vs Q E hr hsp
end
end Xk

/-! Xk3: trees told of a lambda handed down -/
namespace Xk
open PySem PySem.Spec PySem.Calls PyProof.Rows L2 Rs LamX NdefX Xf Xh
theorem vis_of {names : List (Str × NameKind)} {n : Nat} (nk : (names.map (·.1)).Nodup) : ∀ (y : Str) (c : Addr), (cellsFrom n names []).lookup y = some c → names.lookup y = some .cell := fun y c h => by
  rcases cellsFrom_kind _ _ _ _ _ (PySem.mem_of_lookup h) with z | z
  · cases z
  · exact look_nodup nk z
theorem cx_mono {P : Program} {w : World} {outer : List Env} {H : Hp} {s s' : Shared} {E E' : XK} {u : Value} (m : ∀ c d H', E c d H' → E' c d H') (h : L2.CX P w outer H s E u s') : L2.CX P w outer H s E' u s' := by
  obtain ⟨a, B, H', cls, d, e0, fl, hok', ub, na, e1, e2, q⟩ := h
  exact ⟨a, B, H', cls, d, e0, fl, hok', ub, na, e1, e2, m _ _ _ q⟩
theorem calls_mono2 {P : Program} {w : World} {K : PySem.W.Frag} {mg : Str → Option Value} {base : Heap} {k : Nat} {f : Addr} {H : Hp} {vs : List V} {Q Q' : VK} {E E' : XK} (h : ∀ v H', Q v H' → Q' v H') (m : ∀ c d H', E c d H' → E' c d H')
    (c : CallsTo P w K mg base (L2.CX P w) k f H vs Q E) : CallsTo P w K mg base (L2.CX P w) k f H vs Q' E' :=
  fun A outer s us hr e0 r => ⟨(c A outer s us hr e0 r).1, codeAny_mono (c A outer s us hr e0 r).2 fun rs s' z => by
    cases rs with
    | error e => exact cx_mono m z
    | ok fl =>
      cases fl with
      | ret u => obtain ⟨v, H', e1, e2, un, hok', r, q⟩ := z; exact ⟨v, H', e1, e2, un, hok', r, h v H' q⟩
      | next => exact z
      | brk => exact z
      | cont => exact z⟩
/-- o.m(..) told without the context -/
def tMethP (P : Program) (w : World) (K : PySem.W.Frag) (mg : Str → Option Value) (base : Heap) (k : Nat) (m : Str) (te : TE) (ta : TA) (E : XK) : TE := fun σ H Q => te σ H fun x H1 => ∃ a C dx fs f, x = .ref a ∧ H1 a = some (.ins C dx fs) ∧ Cls K C ∧ Meth K C m f ∧ fs.lookup m = none ∧
  ta σ H1 fun vs H2 => CallsTo P w K mg base (L2.CX P w) k f H2 (x :: vs) Q E
/-- every asking is such -/
def Ak.all {ι β : Type} (R : ι → Prop) : Ak ι β → Prop
  | .ret _ => True
  | .ask q k => R q ∧ ∀ b, (k b).all R
  | .put _ k => k.all R
/-- nothing is put -/
def Ak.np {ι β : Type} : Ak ι β → Prop
  | .ret _ => True
  | .ask _ k => ∀ b, (k b).np
  | .put _ _ => False
section
variable {ι κ β : Type} {W : Wd ι} {W' : Wd κ} {cs : CL} {oz : Addr → Obj} {H H' : Hp} {E : XK} {a b : Addr}
theorem tabs_hide {T : List (Addr × Str)} (tr : TrkZ oz cs H) (t : Tabs T H) : Tabs T (hide cs H) := fun p hp => by
  obtain ⟨ps, h1, h2, h3⟩ := t p hp
  refine ⟨ps, by rw [hide_out (tr.out h1 fun _ _ z => by cases z)]; exact h1, h2, fun pos cv hc => ?_⟩
  obtain ⟨c, e1, e2⟩ := h3 pos cv hc
  exact ⟨c, e1, by rw [hide_out (tr.out e2 fun _ _ z => by unfold CodeO at z; cases z)]; exact e2⟩
theorem tabs_seen {T : List (Addr × Str)} (t : Tabs T (hide cs H)) : Tabs T H := t.ext fun b o e => (hide_some e).2
theorem mv_hide {pr o o' : List Addr} (eT : W'.TT = W.TT) (tr : TrkZ oz cs H) (oc : ∀ b v, cs.lookup b = some v → b ∉ o) (m : Mv W' pr o o' H H') : Mv W pr o o' (hide cs H) (hide cs H') ∧ TrkZ oz cs H' ∧ ∀ b v, cs.lookup b = some v → b ∉ o' := by
  have tr' : TrkZ oz cs H' := fun b v z => m.ext _ _ (tr b v z) (.inl (oc b v z)) (fun _ y => by cases y)
  have oc' : ∀ b v, cs.lookup b = some v → b ∉ o' := fun b v e z => by
    rcases m.sub b z with y | y
    · exact oc b v e y
    · rw [tr b v e] at y; cases y
  refine ⟨⟨fun b u e h n => ?_, fun t => ?_, fun b e => ?_, fun b hb => (m.sub b hb).imp_right hide_none, m.sup, fun h b hb => ?_⟩, tr', oc'⟩
  · obtain ⟨l, e2⟩ := hide_some e
    rw [hide_out l]
    exact m.ext _ _ e2 h n
  · have t1 := m.tab (by rw [eT]; exact tabs_seen t)
    rw [eT] at t1
    exact tabs_hide tr' t1
  · cases l : cs.lookup b with
    | some v => exact hide_in l
    | none =>
      rw [hide_out l] at e ⊢
      exact m.nn b e
  · have l : cs.lookup b = none := by
      cases z : cs.lookup b with
      | none => rfl
      | some v => exact absurd hb (oc' b v z)
    rw [hide_out l]
    refine m.on (fun c hc z => h c hc (hide_none z)) b hb
theorem frm_unhide (eT : W'.TT = W.TT) (eM : W'.MM = W.MM) (jj : ∀ H, W'.J H) {H2 : Hp} (tr : TrkZ oz cs H) (fr : Free cs H2) (f : Frm W (hide cs H) H2) : Frm W' H (unhideZ oz cs H2) := by
  refine ⟨fun b o e n nt => ?_, fun t => ?_, fun b e => ?_, fun _ => jj _⟩
  · cases l : cs.lookup b with
    | some v => rw [unhideZ_in l, ← tr b v l]; exact e
    | none =>
      rw [unhideZ_out l]
      exact f.old b o (by rw [hide_out l]; exact e) (by rw [← eM]; exact n) nt
  · rw [eT] at t ⊢
    exact (f.tab (tabs_hide tr t)).ext fun b o e => unhideZ_keep fr e
  · cases l : cs.lookup b with
    | some v => rw [unhideZ_in l] at e; cases e
    | none =>
      rw [unhideZ_out l] at e
      have z := f.nn b e
      rwa [hide_out l] at z
/-- what a lambda asks for each place -/
theorem Wp.lift {pr : List Addr} (g : κ → ι) (eT : W'.TT = W.TT) (eM : W'.MM = W.MM) (jj : ∀ H, W'.J H) (L1 : Led) (l1 : ∀ q ∈ L1, q.1 ∉ W.MM ∧ ∀ ps, q.2 ≠ .tbl ps)
    (R : κ → Prop) (step : ∀ m Hu Qn En, R m → TrkZ oz cs Hu → (∀ q ∈ L1, Hu q.1 = some q.2) → W.Do (g m) (hide cs Hu) (Qz oz cs Qn) (Ez oz cs En) → W'.Do m Hu Qn En) {Q : β → List Addr → Hp → Prop} :
    ∀ (t : Ak κ β) (o : List Addr) (Hu : Hp), t.np → TrkZ oz cs Hu → (∀ q ∈ L1, Hu q.1 = some q.2) → (∀ q ∈ L1, q.1 ∉ o ∨ q.1 ∈ pr) → (∀ b v, cs.lookup b = some v → b ∉ o) → (Ak.all R t) → Wp W a E pr (t.mapq g) o (hide cs Hu) Q → Wp W' b (Ec cs E) pr t o Hu (fun r o' H' => Q r o' (hide cs H'))
  | .ret r, o, Hu, _, tr, _, _, oc, _, h => fun o' H' m => h o' _ (mv_hide eT tr oc m).1
  | .ask q k, o, Hu, np, tr, hl, lo, oc, al, h => fun o' H' m => by
    obtain ⟨m', tr', oc'⟩ := mv_hide (W := W) eT tr oc m
    have hl' : ∀ q ∈ L1, H' q.1 = some q.2 := fun q hq => m.ext _ _ (hl q hq) (lo q hq) (l1 q hq).2
    have lo' : ∀ q ∈ L1, q.1 ∉ o' ∨ q.1 ∈ pr := fun q hq => mv_keepo m (hl q hq) (lo q hq)
    refine step q H' _ _ al.1 tr' hl' (W.mono _ _ _ _ _ _ ?hq ?he (h o' _ m'))
    case hq =>
      intro v H2 z fr
      obtain ⟨r, e, f, w⟩ := z
      refine ⟨r, e, frm_unhide eT eM jj tr' fr f, ?_⟩
      have tr2 : TrkZ oz cs (unhideZ oz cs H2) := unhideZ_trk
      refine Wp.lift g eT eM jj L1 l1 R step (k r) o' _ (np r) tr2 (fun q hq => ?_) lo' oc' (al.2 r) (by rw [hide_unhideZ fr]; exact w)
      have l2 : cs.lookup q.1 = none ∨ ∃ v, cs.lookup q.1 = some v := by cases cs.lookup q.1 with | none => exact .inl rfl | some v => exact .inr ⟨v, rfl⟩
      rcases l2 with l2 | ⟨v, l2⟩
      · rw [unhideZ_out l2]
        exact f.old _ _ (by rw [hide_out l2]; exact hl' q hq) (l1 q hq).1 (l1 q hq).2
      · rw [unhideZ_in l2, ← tr' _ _ l2]; exact hl' q hq
    case he =>
      intro c d H2 z fr
      show E c d (hide cs (unhideZ oz cs H2))
      rw [hide_unhideZ fr]; exact z
  | .put _ _, _, _, np, _, _, _, _, _, _ => np.elim
end
end Xk

/-! Xk4: a ledger kept over askings -/
namespace Xk
open PySem PySem.Spec PySem.Calls PyProof.Rows L2 Rs LamX Xc Xi
theorem _root_.Rs.Hs.refull {B H : Hp} {M : List Addr} {L : Led} (S : Hs B M H L) : Hs H [] H L := ⟨S.nd, S.is, fun _ _ e _ => e, fun _ h => nomatch h⟩
theorem _root_.Rs.Hs.refullM {B H : Hp} {M M' : List Addr} {L : Led} (S : Hs B M H L) (h : ∀ b ∈ M', b ∈ L.map (·.1)) : Hs H M' H L := ⟨S.nd, S.is, fun _ _ e _ => e, fun b hb => by
  obtain ⟨q, hq, rfl⟩ := List.mem_map.mp (h b hb)
  rw [S.is q hq]; simp⟩
/-- what of the entry stays -/
def bsK (MM : List Addr) (H : Hp) : Hp := fun b => if b ∈ MM then none else noT H b
theorem bsK_some {MM : List Addr} {H : Hp} {b : Addr} {o : HO} (e : bsK MM H b = some o) : H b = some o ∧ b ∉ MM ∧ ∀ ps, o ≠ .tbl ps := by
  unfold bsK at e
  split at e
  · cases e
  · rename_i h; exact ⟨(noT_of e).1, h, (noT_of e).2⟩
theorem bsK_none {MM : List Addr} {H : Hp} {b : Addr} (e : H b = none) : bsK MM H b = none := by
  unfold bsK
  split
  · rfl
  · exact noT_none e
structure BK {ι : Type} (W : Wd ι) (B : Hp) : Prop where
  bk : ∀ b o, B b = some o → b ∉ W.MM ∧ ∀ ps, o ≠ .tbl ps
  js : ∀ H, W.J H → ∀ b ∈ W.MM, Std H b
theorem bk_of {ι : Type} {W : Wd ι} (H : Hp) (js : ∀ H, W.J H → ∀ b ∈ W.MM, Std H b) : BK W (bsK W.MM H) := ⟨fun b o e => (bsK_some e).2, js⟩
/-- B: what stays whatever is asked; M: what the program changes itself; L: what stands; o: the program's own, pr: those of them that stay now -/
structure Kp {ι : Type} (W : Wd ι) (pr o : List Addr) (B : Hp) (M : List Addr) (L : Led) (H : Hp) : Prop where
  S : Hs B M H L
  tb : Tabs W.TT H
  j : W.J H
  lk : ∀ q ∈ L, q.1 ∉ W.MM ∧ (∀ ps, q.2 ≠ .tbl ps) ∧ (q.1 ∉ o ∨ q.1 ∈ pr)
  mo : ∀ b ∈ M, b ∈ L.map (·.1)
  bo : ∀ b u, B b = some u → b ∉ o ∨ b ∈ pr
  oo : ∀ b ∈ o, H b ≠ none
  ps : ∀ b ∈ pr, b ∈ o
section
variable {ι β : Type} {W : Wd ι} {a : Addr} {B H H' : Hp} {M M' : List Addr} {L L' : Led} {E : XK} {Q : β → List Addr → Hp → Prop} {pr pr' o o' : List Addr}
theorem Kp.mu (k : Kp W pr o B M L H) : ∀ b ∈ M, H b ≠ none := fun b hb => by
  obtain ⟨q, hq, rfl⟩ := List.mem_map.mp (k.mo b hb)
  rw [k.S.is q hq]; simp
theorem Kp.mv (k : Kp W pr o B M L H) (bk : BK W B) (m : Mv W pr o o' H H') (om : ∀ b ∈ W.MM, b ∉ o ∨ b ∈ pr) : Kp W pr o' B M L H' := by
  refine ⟨⟨k.S.nd, fun q hq => m.ext _ _ (k.S.is q hq) (k.lk q hq).2.2 (k.lk q hq).2.1, fun b u e hm => m.ext _ _ (k.S.old b u e hm) (k.bo b u e) (bk.bk b u e).2, fun b hb => ?_⟩, m.tab k.tb, ?_, fun q hq => ⟨(k.lk q hq).1, (k.lk q hq).2.1, mv_keepo m (k.S.is q hq) (k.lk q hq).2.2⟩, k.mo, fun b u e => ?_, m.on k.oo, fun b hb => m.sup b (k.ps b hb)⟩
  · obtain ⟨q, hq, rfl⟩ := List.mem_map.mp (k.mo b hb)
    rw [m.ext _ _ (k.S.is q hq) (k.lk q hq).2.2 (k.lk q hq).2.1]; simp
  · exact W.jm _ _ k.j fun b hb u e => m.ext _ _ e (om b hb) ((bk.js _ k.j b hb).not e).tbl
  · by_cases hm : b ∈ M
    · obtain ⟨q, hq, rfl⟩ := List.mem_map.mp (k.mo b hm)
      exact mv_keepo m (k.S.is q hq) (k.lk q hq).2.2
    · exact mv_keepo m (k.S.old b u e hm) (k.bo b u e)
theorem mm_keepo (bk : BK W B) (j : W.J H) (m : Mv W pr o o' H H') (om : ∀ b ∈ W.MM, b ∉ o ∨ b ∈ pr) : ∀ b ∈ W.MM, b ∉ o' ∨ b ∈ pr := fun b hb => by
  obtain ⟨u, e, _⟩ := bk.js _ j b hb
  exact mv_keepo m e (om b hb)
theorem Kp.frm (k : Kp W pr o B M L H) (bk : BK W B) (f : Frm W H H') : Kp W pr o B M L H' := by
  refine ⟨⟨k.S.nd, fun q hq => f.old _ _ (k.S.is q hq) (k.lk q hq).1 (k.lk q hq).2.1, fun b u e hm => f.old _ _ (k.S.old b u e hm) (bk.bk b u e).1 (bk.bk b u e).2, fun b hb => ?_⟩, f.tab k.tb, f.j k.j, k.lk, k.mo, k.bo, fun b hb z => k.oo b hb (f.nn b z), k.ps⟩
  obtain ⟨q, hq, rfl⟩ := List.mem_map.mp (k.mo b hb)
  rw [f.old _ _ (k.S.is q hq) (k.lk q hq).1 (k.lk q hq).2.1]; simp
/-- kept by a tree that puts nothing -/
theorem Wp.keep (bk : BK W B) : ∀ {t : Ak ι β} {o : List Addr} {H : Hp}, t.np → Kp W pr o B M L H → (∀ b ∈ W.MM, b ∉ o ∨ b ∈ pr) → Wp W a E pr t o H Q → Wp W a E pr t o H (fun b o' H' => Q b o' H' ∧ Kp W pr o' B M L H' ∧ (∀ b ∈ W.MM, b ∉ o' ∨ b ∈ pr))
  | .ret b, _, _, _, k, om, h => fun o2 H2 m => ⟨h o2 H2 m, k.mv bk m om, mm_keepo bk k.j m om⟩
  | .ask q c, _, _, np, k, om, h => fun o2 H2 m => W.mono _ _ _ _ _ _ (fun v H3 ⟨b, e, f, w⟩ => ⟨b, e, f, Wp.keep bk (np b) ((k.mv bk m om).frm bk f) (mm_keepo bk k.j m om) w⟩) (fun _ _ _ z => z) (h o2 H2 m)
  | .put _ _, _, _, np, _, _, _ => np.elim
/-- how a tree leaves the row -/
def Ak.ends (R : List V → β → Prop) : Ak ι β → List V → Prop
  | .ret b, xs => R xs b
  | .ask _ k, xs => ∀ b, (k b).ends R xs
  | .put ys k, _ => k.ends R ys
theorem Wp.rets {R : List V → β → Prop} : ∀ {t : Ak ι β} {o : List Addr} {H : Hp} {xs : List V}, t.ends R xs → Wp W a E pr t o H Q → Wp W a E pr t o H (fun b o' H' => (∃ ys, R ys b) ∧ Q b o' H')
  | .ret b, _, _, xs, en, h => fun o2 H2 m => ⟨⟨xs, en⟩, h o2 H2 m⟩
  | .ask q c, _, _, xs, en, h => fun o2 H2 m => W.mono _ _ _ _ _ _ (fun v H3 ⟨b, e, f, w⟩ => ⟨b, e, f, Wp.rets (en b) w⟩) (fun _ _ _ z => z) (h o2 H2 m)
  | .put ys c, _, _, xs, en, h => fun o2 H2 p => Wp.rets (xs := ys) en (h o2 H2 p)
/-- kept by a tree that writes the row -/
theorem Wp.keepR (bk : BK W B) {R : List V → β → Prop} (F : List V → Led) (hF : ∀ ys zs, ∀ q ∈ F ys, q = (a, .lst ys) ∨ (q.1 ≠ a ∧ q ∈ F zs)) (hk : ∀ ys zs, (F ys).map (·.1) = (F zs).map (·.1)) (ha : a ∈ M) :
    ∀ {t : Ak ι β} {o : List Addr} {H : Hp} {xs : List V}, t.ends R xs → Kp W pr o B M (F xs) H → (∀ b ∈ W.MM, b ∉ o ∨ b ∈ pr) → Wp W a E pr t o H Q → Wp W a E pr t o H (fun b o' H' => Q b o' H' ∧ (∃ ys, R ys b ∧ Kp W pr o' B M (F ys) H') ∧ (∀ b ∈ W.MM, b ∉ o' ∨ b ∈ pr))
  | .ret b, _, _, xs, en, k, om, h => fun o2 H2 m => ⟨h o2 H2 m, ⟨xs, en, k.mv bk m om⟩, mm_keepo bk k.j m om⟩
  | .ask q c, _, _, xs, en, k, om, h => fun o2 H2 m => W.mono _ _ _ _ _ _ (fun v H3 ⟨b, e, f, w⟩ => ⟨b, e, f, Wp.keepR bk F hF hk ha (en b) ((k.mv bk m om).frm bk f) (mm_keepo bk k.j m om) w⟩) (fun _ _ _ z => z) (h o2 H2 m)
  | .put ys c, o, H, xs, en, k, om, h => fun o2 H2 p => by
    have am : a ∉ W.MM := by
      obtain ⟨q, hq, e⟩ := List.mem_map.mp (k.mo a ha)
      rw [← e]; exact (k.lk q hq).1
    have ko : ∀ {b : Addr} {u : HO}, H b = some u → (b ∉ o ∨ b ∈ pr) → b ∉ o2 ∨ b ∈ pr := fun {b u} e h => by
      rcases h with h | h
      · by_cases c : b ∈ o2
        · rcases p.sub b c with z | z
          · exact absurd z h
          · rw [e] at z; cases z
        · exact .inl c
      · exact .inr h
    refine Wp.keepR bk F hF hk ha (xs := ys) en ⟨⟨?_, fun q hq => ?_, fun b u e hm => ?_, fun b hb => ?_⟩, p.tab k.tb, ?_, fun q hq => ?_, ?_, fun b u e => ?_, p.on k.oo, fun b hb => p.sup b (k.ps b hb)⟩ (fun b hb => ?_) (h o2 H2 p)
    · rw [hk ys xs]; exact k.S.nd
    · rcases hF ys xs q hq with rfl | ⟨n, z⟩
      · exact p.at_
      · exact p.old _ _ (k.S.is q z) n (k.lk q z).2.2 (k.lk q z).2.1
    · exact p.old _ _ (k.S.old b u e hm) (fun z => hm (z ▸ ha)) (k.bo b u e) (bk.bk b u e).2
    · by_cases e : b = a
      · rw [e, p.at_]; simp
      · obtain ⟨q, hq, rfl⟩ := List.mem_map.mp (k.mo b hb)
        rw [p.old _ _ (k.S.is q hq) e (k.lk q hq).2.2 (k.lk q hq).2.1]; simp
    · exact W.jm _ _ k.j fun b hb u e => p.old _ _ e (fun z => am (z ▸ hb)) (om b hb) ((bk.js _ k.j b hb).not e).tbl
    · rcases hF ys xs q hq with e | ⟨n, z⟩
      · obtain ⟨r, hr, er⟩ := List.mem_map.mp (k.mo a ha)
        rw [e]
        refine ⟨am, (fun _ z => by cases z), ?_⟩
        have z := ko (k.S.is r hr) (k.lk r hr).2.2
        rwa [er] at z
      · exact ⟨(k.lk q z).1, (k.lk q z).2.1, ko (k.S.is q z) (k.lk q z).2.2⟩
    · intro b hb; rw [hk ys xs]; exact k.mo b hb
    · by_cases hm : b ∈ M
      · obtain ⟨q, hq, rfl⟩ := List.mem_map.mp (k.mo b hm)
        exact ko (k.S.is q hq) (k.lk q hq).2.2
      · exact ko (k.S.old b u e hm) (k.bo b u e)
    · obtain ⟨u, e, _⟩ := bk.js _ k.j b hb
      exact ko e (om b hb)
theorem tabs_lst {T : List (Addr × Str)} (S : Hs H M' H' L') (ml : ∀ b ∈ M', ∃ xs, H b = some (.lst xs)) (t : Tabs T H) : Tabs T H' := by
  have nm : ∀ {b : Addr} {u : HO}, H b = some u → (∀ xs, u ≠ .lst xs) → b ∉ M' := fun {b u} e n z => by
    obtain ⟨xs, h⟩ := ml b z
    rw [e] at h
    exact n xs (Option.some.inj h)
  exact tabs_pers ⟨fun b r e => S.old _ _ e (nm e fun _ z => by cases z), fun b r e => S.old _ _ e (nm e fun _ z => by cases z)⟩ (fun b ps e => S.old _ _ e (nm e fun _ z => by cases z)) t
theorem seg_nn (S : Hs H M' H' L') : ∀ b, H' b = none → H b = none := fun b e => by
  cases h : H b with
  | none => rfl
  | some u =>
    by_cases hm : b ∈ M'
    · exact absurd e (S.mu b hm)
    · rw [S.old b u h hm] at e; cases e
/-- a stretch of the program's own -/
theorem mv_seg {N : List Addr} (S : Hs H M' H' L') (ml : ∀ b ∈ M', (∃ xs, H b = some (.lst xs)) ∧ b ∈ o ∧ b ∉ pr) (hN : ∀ b ∈ N, H b = none ∧ b ∈ L'.map (·.1)) : Mv W pr o (N ++ o) H H' := by
  refine ⟨fun b u e h _ => S.old b u e fun z => ?_, tabs_lst S fun b hb => (ml b hb).1, seg_nn S, fun b hb => ?_, fun b hb => List.mem_append_right _ hb, fun h b hb => ?_⟩
  · rcases h with h | h
    · exact h (ml b z).2.1
    · exact (ml b z).2.2 h
  · rcases List.mem_append.mp hb with z | z
    · exact .inr (hN b z).1
    · exact .inl z
  · rcases List.mem_append.mp hb with z | z
    · obtain ⟨q, hq, rfl⟩ := List.mem_map.mp (hN b z).2
      rw [S.is q hq]; simp
    · exact fun y => h b z (seg_nn S b y)
/-- the row is written -/
theorem pt_seg {ys : List V} (S : Hs H [a] H' L') (m : (a, HO.lst ys) ∈ L') (ml : ∃ xs, H a = some (.lst xs)) : Pt W a ys pr o o H H' :=
  ⟨S.is _ m, fun b u e n _ _ => S.old b u e (by simpa using n), tabs_lst S (fun b hb => by rw [List.mem_singleton.mp hb]; exact ml), seg_nn S, fun _ h => .inl h, fun _ h => h, fun h b hb z => h b hb (seg_nn S b z)⟩
theorem Kp.seg (k : Kp W pr o B M L H) (bk : BK W B) (S : Hs H M' H' L') (ml : ∀ b ∈ M', (∃ xs, H b = some (.lst xs)) ∧ b ∉ W.MM ∧ (B b = none ∨ b ∈ M)) (lk : ∀ q ∈ L', q.1 ∉ W.MM ∧ (∀ ps, q.2 ≠ .tbl ps) ∧ (q.1 ∉ o' ∨ q.1 ∈ pr')) (mo : ∀ b ∈ M, b ∈ L'.map (·.1)) (bo : ∀ b u, B b = some u → b ∉ o' ∨ b ∈ pr') (oo : ∀ b ∈ o', H' b ≠ none) (ps : ∀ b ∈ pr', b ∈ o') : Kp W pr' o' B M L' H' := by
  refine ⟨⟨S.nd, S.is, fun b u e hm => S.old b u (k.S.old b u e hm) fun z => ?_, fun b hb => ?_⟩, tabs_lst S (fun b hb => (ml b hb).1) k.tb, W.jm _ _ k.j fun b hb u e => S.old b u e fun z => (ml b z).2.1 hb, lk, mo, bo, oo, ps⟩
  · rcases (ml b z).2.2 with y | y
    · rw [e] at y; cases y
    · exact hm y
  · obtain ⟨q, hq, rfl⟩ := List.mem_map.mp (mo b hb)
    rw [S.is q hq]; simp
/-- what is new stands apart -/
theorem Kp.fresh (k : Kp W pr o B M L H) (bk : BK W B) {p : Addr} (e : H p = none) : p ∉ W.MM ∧ (B p = none ∨ p ∈ M) := by
  refine ⟨fun z => (bk.js _ k.j p z).ne e, ?_⟩
  by_cases hm : p ∈ M
  · exact .inr hm
  · refine .inl ?_
    cases h : B p with
    | none => rfl
    | some u => rw [k.S.old p u h hm] at e; cases e
end
end Xk

/-! Xl1: isinstance of a function -/
namespace PySem
open Sem (wp)
namespace F
theorem xl_slot_ga : Slot "function" "__getattribute__" "object.__getattribute__" :=
  .of (owner := "object") (n := "__getattribute__") (by rw [typeLookup_type, builtinLookup_eq_fast]; kernel_rfl) (by decide +kernel) (by decide +kernel) (by decide +kernel)
    (by first | exact .inl (by decide +kernel) | exact .inr (by decide +kernel)) (by rw [isSubtype_type]; kernel_rfl)
theorem xl_args_ga (a b : Value) : argsOk "object.__getattribute__" ⟨[a, b], []⟩ := by unfold argsOk; kernel_rfl
theorem xl_entry_ga : entryFor table "object.__getattribute__" = some Builtin.«object.__getattribute__» := entryFor_of_tree (by kernel_rfl)
theorem xl_lk_class : typeLookup (.type "function") "__class__" = pure (some (.builtin "object.__class__")) := by rw [typeLookup_type, builtinLookup_eq_fast]; kernel_rfl
theorem xl_sub_class_owner : isSubtype (.type "function") (.type (".".intercalate ("object.__class__".cutAt '.').dropLast)) = pure true := by
  rw [owner_object_class, isSubtype_type]; kernel_rfl
end F
section
variable {prog : Program} {w : World} {A : Around} {E : Value → Shared → Prop} {h : Heap} {g : Array GenState} {d : Drawn} {t : Nat} {os : OsState} {a : Addr} {o : Obj}
theorem xl_class_get {R : Result → Shared → Prop} (hx : h.get? a = some o) (hc : o.cls = .type "function") (hq : R (.ok (.ret (.type "function"))) ⟨h, g, d, t, os⟩) :
    codeAny (model prog w) A (.call (.builtin "getset_descriptor.__get__") ⟨[.builtin "object.__class__", .ref a, .type "function"], []⟩) R ⟨h, g, d, t, os⟩ := by
  have hT : (⟨h, g, d, t, os⟩ : Shared).TypeIs (.ref a) "function" := ⟨_, hx, hc⟩
  have hT5 : (⟨h, g, d, t, os⟩ : Shared).TypeIs (.builtin "object.__class__") "getset_descriptor" := F.typeOf_object_class
  have f8 := F.xl_sub_class_owner
  refine codeAny_call_builtin F.slot_gs_get.plain F.entry_gs_get (F.slot_gs_get.check _ _ _ _ _ _ _ _ hT5 (F.args_gs_get _ _ _) ?_)
  repeat (any_goals (first | assumption | wp_step))
  refine ⟨Code.quiet_builtin _ (by decide +kernel), codeAny_builtin F.entry_object_class ?_⟩
  repeat (any_goals (first | assumption | wp_step))
theorem xl_class_entry {tk : Tok} {Q : Fin → Shared → Prop} (hx : h.get? a = some o) (hc : o.cls = .type "function") (hq : Q (.done (.ret (.type "function"))) ⟨h, g, d, t, os⟩) :
    wpAny (model prog w) A (Builtin.«object.__getattribute__» ⟨[.ref a, .str "__class__" tk], []⟩) Q E ⟨h, g, d, t, os⟩ := by
  have hT : (⟨h, g, d, t, os⟩ : Shared).TypeIs (.ref a) "function" := ⟨_, hx, hc⟩
  have hT5 : (⟨h, g, d, t, os⟩ : Shared).TypeIs (.builtin "object.__class__") "getset_descriptor" := F.typeOf_object_class
  have f4 := F.xl_lk_class
  have f5 := F.typeOf_object_class
  have f6 := F.slot_gs_get.lookup
  have f7 := F.slot_gs_set.lookup
  repeat (any_goals (first | assumption | wp_step))
  refine xl_class_get hx hc ?_
  repeat (any_goals (first | assumption | wp_step))
theorem xl_class_call {tk : Tok} {R : Result → Shared → Prop} (hx : h.get? a = some o) (hc : o.cls = .type "function") (hq : R (.ok (.ret (.type "function"))) ⟨h, g, d, t, os⟩) :
    codeAny (model prog w) A (.call (.builtin "object.__getattribute__") ⟨[.ref a, .str "__class__" tk], []⟩) R ⟨h, g, d, t, os⟩ :=
  codeAny_call_builtin F.xl_slot_ga.plain F.xl_entry_ga (F.xl_slot_ga.check _ _ _ _ _ _ _ _ (show (⟨h, g, d, t, os⟩ : Shared).TypeIs (.ref a) "function" from ⟨_, hx, hc⟩) (F.xl_args_ga _ _) (xl_class_entry hx hc hq))
theorem xl_class_by {tk : Tok} {Q : Value → Shared → Prop} (hx : h.get? a = some o) (hc : o.cls = .type "function") (hq : Q (.type "function") ⟨h, g, d, t, os⟩) : wpAny (model prog w) A (getAttrBy (.ref a) (.str "__class__" tk) false) Q E ⟨h, g, d, t, os⟩ := by
  have hT : (⟨h, g, d, t, os⟩ : Shared).TypeIs (.ref a) "function" := ⟨_, hx, hc⟩
  have f2 := F.xl_slot_ga.lookup
  have f3 := F.xl_slot_ga.bind (.ref a)
  repeat (any_goals (first | assumption | wp_step))
  refine xl_class_call hx hc ?_
  repeat (any_goals (first | assumption | wp_step))
theorem xl_class_attr {Q : Option Value → Shared → Prop} (hx : h.get? a = some o) (hc : o.cls = .type "function") (hq : Q (some (.type "function")) ⟨h, g, d, t + 1, os⟩) : wpAny (model prog w) A (getAttr? (.ref a) "__class__") Q E ⟨h, g, d, t, os⟩ := by
  unfold getAttr? getAttrBy?
  repeat (any_goals (first | assumption | with_reducible apply xl_class_by hx hc | wp_step))
end
namespace W
theorem kitx_fn {K : Frag} {a : Addr} : KitX K (.ref a) (.type "function") (KitAt a "function") := kitx_of kitAt_ty (fun {_ _ _ _ _ s} p k => by obtain ⟨h, g, d, t, os⟩ := s; obtain ⟨o, h1, h2⟩ := p; exact xl_class_attr h1 h2 k)
end W
end PySem
namespace Xl
open PySem PySem.Spec PyProof.Rows L2 Rs
/-- isinstance(x, c), where x may be a function -/
def rIsiF (K : PySem.W.Frag) : List V → Hp → VK → Prop := fun xs H Q => rIsi K xs H Q ∨ ∃ (f : Addr) (F : Xh.LF) (c : V) (u : Value) (b : Bool), xs = [.ref f, c] ∧ ClsV c u ∧ H f = some (Xh.LamO f F) ∧ PySem.W.kitOne K (.type "function") u = some b ∧ Q (.bl b) H
theorem call_isiF {X : Cx} : CallR X (.builtin "isinstance") (rIsiF X.K) := by
  intro pins s σ H xs us Q I r h
  rcases h with h | ⟨f, F, c, u, b, rfl, k, hf, e, q⟩
  · exact call_isi pins s σ H xs us Q I r h
  · obtain ⟨u1, u2, rfl, r1, r2⟩ := vals2 r
    have e2 := k.eq r2
    subst e2
    cases (show u1 = Value.ref f from r1)
    obtain ⟨pm, ctv, hg⟩ := Xh.lamO_at I.hok hf
    exact PySem.W.kia_one PySem.W.kitx_fn I.kIn ⟨_, hg, rfl⟩ e (fun z => nomatch z) fun tk => ⟨.bl b, H, I.tok tk, rfl, q⟩
end Xl

/-! Xm1: own exceptions of two fields, raised -/
namespace Xm
open PySem PySem.Spec PySem.Calls PyProof.Rows L2 Rs Xc
def spInit2 (C : Addr) (f g : Str) : Sp := fun vs H Q _ => ∃ (a : Addr) (v w : V), vs = [.ref a, v, w] ∧ H a = some (exo a C none) ∧
  ∀ (dx : Addr) (H' : Hp), H dx = none → dx ≠ a → H' a = some (exo a C (some dx)) → H' dx = some (exd dx [(g, w), (f, v)]) → (∀ b, b ≠ a → b ≠ dx → H' b = H b) → Q .non H'
theorem rd_mk2 {H : Hp} {C : Addr} {f g : Str} {x y : V} {XQ : XK} (k : ∀ d, H d = none → XQ (.ref C) (some d) (upd H d (.xd [(g, y), (f, x)]))) : [x, y].length ≤ 1000 ∧ ∀ a, H a = none → spInit2 C f g (.ref a :: ([x, y] ++ [])) (upd H a (exo a C none))
    (fun v H2 => v = .non ∧ ∃ (d : Addr) (fs : List (Str × V)), H2 a = some (exo a C (some d)) ∧ H2 d = some (exd d fs) ∧ H d = none ∧ XQ (.ref C) (some d) (upd (del H2 a) d (.xd fs))) (fun _ _ _ => False) := by
  refine ⟨by simp, fun a ha => ⟨a, x, y, rfl, upd_same, fun d H' hd ne e1 e2 e3 => ⟨rfl, d, [(g, y), (f, x)], e1, e2, ?_, ?_⟩⟩⟩
  · rw [upd_ne ne] at hd; exact hd
  · rw [upd_ne ne] at hd
    have e : upd (del H' a) d (.xd [(g, y), (f, x)]) = upd H d (.xd [(g, y), (f, x)]) := by
      funext b
      by_cases hb : b = d
      · subst hb; rw [upd_same, upd_same]
      · rw [upd_ne hb, upd_ne hb]
        by_cases h2 : b = a
        · subst h2; rw [del_same, ha]
        · rw [del_ne h2, e3 b h2 hb, upd_ne h2]
    rw [e]
    exact k d hd
/-- Python's own less: of whole numbers, of texts, of tuples of whole numbers -/
def rLtG (K : PySem.W.Frag) : R2 := fun x y H Q => rI0 (fun i j => .bl (decide (i < j))) x y H Q ∨ (∃ i j : Str, x = .str i ∧ y = .str j ∧ Q (.bl (decide (i.cps.toList < j.cps.toList))) H) ∨ rLtT K x y H Q
theorem op_ltG {X : Cx} (hu : X.A.units + 64 < cLine) : OpR X (compareOp .Lt) (rLtG X.K) := by
  intro pins s σ H x y u v Q I r1 r2 h
  rcases h with h | h | h
  · exact op_lt pins s σ H x y u v Q I r1 r2 h
  · exact op_lt_str pins s σ H x y u v Q I r1 r2 h
  · exact op_ltT (by omega) pins s σ H x y u v Q I r1 r2 h
/-- one item of a list or a tuple -/
def rIxS (K : PySem.W.Frag) : R2 := fun x y H Q => rIxL K x y H Q ∨ rIxT K x y H Q
theorem ix_seq {X : Cx} : IxR X (rIxS X.K) := by
  intro e1 e2 pins s σ H x y u v Q I r1 r2 h hs
  rcases h with h | h
  · exact ix_list e1 e2 pins s σ H x y u v Q I r1 r2 h hs
  · exact ix_tup e1 e2 pins s σ H x y u v Q I r1 r2 h hs
end Xm

/-! Xp1: shown texts told apart -/
namespace Xp
open PySem L2 Rs PyProof.Rows
def ch (s : Str) : List Nat := s.cps.toList
theorem ch_app (a b : Str) : ch (a ++ b) = ch a ++ ch b := by
  unfold ch
  rw [Str.cps_append, Array.toList_append]
theorem ch_of (s : String) : ch (Str.ofString s) = s.toList.map Char.toNat := signs_ofString s
theorem ch_inj {a b : Str} (h : ch a = ch b) : a = b := by
  obtain ⟨x⟩ := a
  obtain ⟨y⟩ := b
  have : x = y := Array.toList_inj.mp h
  rw [this]
theorem pre_eq {P : Nat → Prop} : ∀ {a b r q : List Nat}, (∀ c ∈ a, P c) → (∀ c ∈ b, P c) → (∀ c t, r = c :: t → ¬ P c) → (∀ c t, q = c :: t → ¬ P c) → a ++ r = b ++ q → a = b ∧ r = q
  | [], [], r, q, _, _, _, _, h => ⟨rfl, h⟩
  | [], y :: b, r, q, _, hb, hr, _, h => absurd (hb y List.mem_cons_self) (hr y (b ++ q) h)
  | x :: a, [], r, q, ha, _, _, hq, h => absurd (ha x List.mem_cons_self) (hq x (a ++ r) h.symm)
  | x :: a, y :: b, r, q, ha, hb, hr, hq, h => by
    injection h with h1 h2
    obtain ⟨e1, e2⟩ := pre_eq (fun c hc => ha c (List.mem_cons_of_mem _ hc)) (fun c hc => hb c (List.mem_cons_of_mem _ hc)) hr hq h2
    exact ⟨by rw [h1, e1], e2⟩
/-! numbers -/
def ci (i : Int) : List Nat := ch (Str.ofString (toString i))
theorem ci_mem {i : Int} {c : Nat} (h : c ∈ ci i) : c = 45 ∨ (48 ≤ c ∧ c ≤ 57) := by
  by_cases z : c ≠ 45 ∧ (c < 48 ∨ 57 < c)
  · exact absurd h (int_text_free' c z i)
  · omega
theorem map_toNat : ∀ {a b : List Char}, a.map Char.toNat = b.map Char.toNat → a = b
  | [], [], _ => rfl
  | [], _ :: _, h => by simp at h
  | _ :: _, [], h => by simp at h
  | x :: a, y :: b, h => by
    simp only [List.map_cons, List.cons.injEq] at h
    rw [map_toNat h.2, Char.toNat_inj.mp h.1]
theorem ci_inj {i j : Int} (h : ci i = ci j) : i = j := by
  unfold ci at h
  rw [ch_of, ch_of] at h
  exact Int.repr_inj.mp (String.toList_inj.mp (map_toNat h))
theorem ci_ne (i : Int) : ci i ≠ [] := by
  intro h
  unfold ci at h
  rw [ch_of] at h
  have h : (toString i).toList = [] := List.map_eq_nil_iff.mp h
  have h : toString i = "" := String.toList_inj.mp h
  have h : i.repr = "" := h
  cases i with
  | ofNat n => exact Nat.repr_ne_empty h
  | negSucc n =>
    have h := congrArg String.length h
    simp only [Int.repr, String.length_append] at h
    have : ("-" : String).length = 1 := rfl
    rw [this] at h
    have : ("" : String).length = 0 := rfl
    omega
abbrev Q (c : Nat) : Prop := c ≠ 44 ∧ c ≠ 41
theorem ci_Q {i : Int} : ∀ c ∈ ci i, Q c := fun c h => by have := ci_mem h; constructor <;> omega
theorem nq44 {r : List Nat} : ∀ c t, (44 : Nat) :: r = c :: t → ¬ Q c := fun c t h z => by injection h with h; exact z.1 h.symm
theorem nq41 {r : List Nat} : ∀ c t, (41 : Nat) :: r = c :: t → ¬ Q c := fun c t h z => by injection h with h; exact z.2 h.symm
/-! texts of tuples -/
def Mt : List (List Nat) → List Nat
  | [] => [41]
  | x :: r => 44 :: 32 :: (x ++ Mt r)
def Bt : List (List Nat) → List Nat
  | [] => [41]
  | [x] => x ++ [44, 41]
  | x :: y :: r => x ++ Mt (y :: r)
theorem join_ch : ∀ (x : Str) (ts : List Str), ch ((Str.ofString ", ").join (x :: ts)) ++ [41] = ch x ++ Mt (ts.map ch)
  | x, [] => by rw [Str.join.eq_2]; rfl
  | x, y :: ts => by
    rw [Str.join.eq_3 _ _ _ (by simp), ch_app, ch_app, List.append_assoc, join_ch y ts]
    have : ch (Str.ofString ", ") = [44, 32] := by decide +kernel
    rw [this]
    simp [Mt]
theorem tuple_ch (ts : List Str) : ch (tupleText ts) = 40 :: Bt (ts.map ch) := by
  unfold tupleText
  rw [ch_app, ch_app]
  have e1 : ch (Str.ofString "(") = [40] := by decide +kernel
  have e2 : ch (Str.ofString ",)") = [44, 41] := by decide +kernel
  have e3 : ch (Str.ofString ")") = [41] := by decide +kernel
  rw [e1]
  match ts with
  | [] =>
    rw [if_neg (by decide), e3, Str.join.eq_1]
    rfl
  | [x] =>
    rw [if_pos (by rfl), e2, Str.join.eq_2]
    simp [Bt]
  | x :: y :: r =>
    rw [if_neg (by simp), e3, List.append_assoc, join_ch]
    simp [Bt]
theorem mt_free {r q : List Nat} : ∀ {xs ys : List Int}, Mt (xs.map ci) ++ r = Mt (ys.map ci) ++ q → xs = ys ∧ r = q
  | [], [], h => by
    injection h with _ h
    exact ⟨rfl, h⟩
  | [], y :: ys, h => by
    injection h with h _
    cases h
  | x :: xs, [], h => by
    injection h with h _
    cases h
  | x :: xs, y :: ys, h => by
    simp only [List.map_cons, Mt, List.cons_append, List.append_assoc, List.cons.injEq, true_and] at h
    have nq : ∀ (zs : List Int) (r : List Nat) c t, Mt (zs.map ci) ++ r = c :: t → ¬ Q c := fun zs r c t e => by
      cases zs with
      | nil => exact nq41 c t e
      | cons z zs => exact nq44 c t e
    obtain ⟨e1, e2⟩ := pre_eq ci_Q ci_Q (nq _ _) (nq _ _) h
    obtain ⟨e3, e4⟩ := mt_free e2
    exact ⟨by rw [ci_inj e1, e3], e4⟩
theorem ci_head {i : Int} {r : List Nat} {c : Nat} {t : List Nat} (h : ci i ++ r = c :: t) : c = 45 ∨ (48 ≤ c ∧ c ≤ 57) := by
  cases e : ci i with
  | nil => exact absurd e (ci_ne i)
  | cons x xs =>
    rw [e] at h
    injection h with h
    rw [← h]
    exact ci_mem (i := i) (by rw [e]; exact List.mem_cons_self)
/-- a text of a tuple of numbers ends where it ends -/
theorem bt_free {r q : List Nat} : ∀ {xs ys : List Int}, Bt (xs.map ci) ++ r = Bt (ys.map ci) ++ q → xs = ys ∧ r = q
  | [], [], h => by
    injection h with _ h
    exact ⟨rfl, h⟩
  | [], [y], h => by
    have h : 41 :: r = ci y ++ [44, 41] ++ q := h
    rw [List.append_assoc] at h
    have := ci_head h.symm
    omega
  | [], y :: z :: ys, h => by
    have h : 41 :: r = ci y ++ Mt ((z :: ys).map ci) ++ q := h
    rw [List.append_assoc] at h
    have := ci_head h.symm
    omega
  | [x], [], h => by
    have h : ci x ++ [44, 41] ++ r = 41 :: q := h
    rw [List.append_assoc] at h
    have := ci_head h
    omega
  | x :: w :: xs, [], h => by
    have h : ci x ++ Mt ((w :: xs).map ci) ++ r = 41 :: q := h
    rw [List.append_assoc] at h
    have := ci_head h
    omega
  | [x], [y], h => by
    have h : ci x ++ [44, 41] ++ r = ci y ++ [44, 41] ++ q := h
    rw [List.append_assoc, List.append_assoc] at h
    obtain ⟨e1, e2⟩ := pre_eq ci_Q ci_Q nq44 nq44 h
    injection e2 with _ e2
    injection e2 with _ e2
    exact ⟨by rw [ci_inj e1], e2⟩
  | [x], y :: z :: ys, h => by
    have h : ci x ++ [44, 41] ++ r = ci y ++ Mt ((z :: ys).map ci) ++ q := h
    rw [List.append_assoc, List.append_assoc] at h
    obtain ⟨_, e2⟩ := pre_eq ci_Q ci_Q nq44 nq44 h
    injection e2 with _ e2
    injection e2 with e2 _
    cases e2
  | x :: w :: xs, [y], h => by
    have h : ci x ++ Mt ((w :: xs).map ci) ++ r = ci y ++ [44, 41] ++ q := h
    rw [List.append_assoc, List.append_assoc] at h
    obtain ⟨_, e2⟩ := pre_eq ci_Q ci_Q nq44 nq44 h
    injection e2 with _ e2
    injection e2 with e2 _
    cases e2
  | x :: w :: xs, y :: z :: ys, h => by
    have h : ci x ++ Mt ((w :: xs).map ci) ++ r = ci y ++ Mt ((z :: ys).map ci) ++ q := h
    rw [List.append_assoc, List.append_assoc] at h
    obtain ⟨e1, e2⟩ := pre_eq ci_Q ci_Q nq44 nq44 h
    obtain ⟨e3, e4⟩ := mt_free (xs := w :: xs) (ys := z :: ys) e2
    exact ⟨by rw [ci_inj e1, e3], e4⟩
/-! papers of any kind, and proper ones -/
inductive Lf : PyData → Prop
  | int (i : Int) : Lf (.int i)
  | bl (b : Bool) : Lf (.bool b)
  | non : Lf .none
  | str : Lf (.str "0")
theorem lf_Q {d : PyData} (h : Lf d) : ∀ c ∈ ch d.shown, Q c := by
  cases h with
  | int i => rw [PyData.shown_int]; exact ci_Q
  | bl b => cases b <;> decide +kernel
  | non => decide +kernel
  | str => decide +kernel
theorem ne_ci {xs : List Nat} {i : Int} (h : xs.head? = some 84 ∨ xs.head? = some 70 ∨ xs.head? = some 78 ∨ xs.head? = some 39) (e : xs = ci i) : False := by
  cases z : ci i with
  | nil => exact ci_ne i z
  | cons c r =>
    have := ci_mem (i := i) (c := c) (by rw [z]; exact List.mem_cons_self)
    rw [e, z] at h
    simp only [List.head?_cons, Option.some.injEq] at h
    omega
theorem lf_int {d : PyData} {s : Int} (h : Lf d) (e : ch d.shown = ci s) : d = .int s := by
  cases h with
  | int i => rw [PyData.shown_int] at e; rw [ci_inj e]
  | bl b => cases b <;> exact (ne_ci (by decide +kernel) e).elim
  | non => exact (ne_ci (by decide +kernel) e).elim
  | str => exact (ne_ci (by decide +kernel) e).elim
theorem lf_bool {d : PyData} {f : Bool} (h : Lf d) (e : ch d.shown = ch (PyData.shown (.bool f))) : d = .bool f := by
  cases h with
  | int i => rw [PyData.shown_int] at e; cases f <;> exact (ne_ci (by decide +kernel) e.symm).elim
  | bl b => cases b <;> cases f <;> first | rfl | exact absurd e (by decide +kernel)
  | non => cases f <;> exact absurd e (by decide +kernel)
  | str => cases f <;> exact absurd e (by decide +kernel)
abbrev nums (zs : List Int) : List PyData := zs.map .int
abbrev proper (s n : Int) (f : Bool) (sp : List Int) : PyData := .tuple [.int s, .int n, .bool f, .tuple (nums sp)]
inductive OD : PyData → Prop
  | four (x t : PyData) (n : Int) (zs : List Int) (hx : Lf x) (ht : Lf t) : OD (.tuple [x, .int n, t, .tuple (nums zs)])
  | fourL (x t : PyData) (n : Int) (zs : List PyData) (hx : Lf x) (ht : Lf t) : OD (.tuple [x, .int n, t, .list zs])
  | three (a b : Int) (t : PyData) (ht : Lf t) : OD (.tuple [.int a, .int b, t])
  | five (a b : Int) (f : Bool) (zs : List Int) (z : PyData) : OD (.tuple [.int a, .int b, .bool f, .tuple (nums zs), z])
  | lst (xs : List PyData) : OD (.list xs)
  | non : OD .none
  | int (i : Int) : OD (.int i)
  | word : OD (.str "piece")
  | dct : OD (.dict [])
theorem nums_ch (zs : List Int) : ch (PyData.shown (.tuple (nums zs))) = 40 :: Bt (zs.map ci) := by
  rw [PyData.shown.eq_6, tuple_ch, shownAll_eq_map]
  unfold nums
  rw [List.map_map, List.map_map]
  rfl
theorem proper_ch (s n : Int) (f : Bool) (sp : List Int) : ch (proper s n f sp).shown = 40 :: (ci s ++ 44 :: 32 :: (ci n ++ 44 :: 32 :: (ch (PyData.shown (.bool f)) ++ 44 :: 32 :: (40 :: (Bt (sp.map ci) ++ [41]))))) := by
  rw [PyData.shown.eq_6, tuple_ch]
  simp only [PyData.shownAll, List.map_cons, List.map_nil, Bt, Mt, nums_ch, PyData.shown_int, List.cons_append]
  rfl
theorem textFrom_ch : ∀ (ts : List Str) (k : Nat) (x : Str), ∃ r, ch (textFrom k x ts) = ch x ++ r
  | [], k, x => ⟨[], by rw [textFrom.eq_1]; simp⟩
  | t :: ts, k, x => by
    obtain ⟨r, h⟩ := textFrom_ch ts (k + 1) (x ++ Str.ofString (if k > 0 then ", " else "") ++ t)
    refine ⟨ch (Str.ofString (if k > 0 then ", " else "")) ++ ch t ++ r, ?_⟩
    rw [textFrom.eq_2, h, ch_app, ch_app]
    simp
theorem list_ch (xs : List PyData) : ∃ r, ch (PyData.shown (.list xs)) = 91 :: r := by
  rw [PyData.shown.eq_5]
  unfold listText
  obtain ⟨r, h⟩ := textFrom_ch (PyData.shownAll xs) 0 (Str.ofString "[")
  have e : ch (Str.ofString "[") = [91] := by decide +kernel
  rw [ch_app, h, e]
  exact ⟨_, rfl⟩
theorem OD.inj {d : PyData} {s n : Int} {f : Bool} {sp : List Int} (h : OD d) (e : d.shown = (proper s n f sp).shown) : d = proper s n f sp := by
  have e := congrArg ch e
  rw [proper_ch] at e
  have bq : ∀ c ∈ ch (PyData.shown (.bool f)), Q c := lf_Q (.bl f)
  cases h with
  | four x t m zs hx ht =>
    rw [PyData.shown.eq_6, tuple_ch] at e
    simp only [PyData.shownAll, List.map_cons, List.map_nil, Bt, Mt, nums_ch, PyData.shown_int, List.cons_append, List.cons.injEq, true_and] at e
    obtain ⟨e1, e⟩ := pre_eq (lf_Q hx) ci_Q nq44 nq44 e
    simp only [List.cons.injEq, true_and] at e
    obtain ⟨e2, e⟩ := pre_eq (a := ci m) ci_Q ci_Q nq44 nq44 e
    simp only [List.cons.injEq, true_and] at e
    obtain ⟨e3, e⟩ := pre_eq (lf_Q ht) bq nq44 nq44 e
    simp only [List.cons.injEq, true_and] at e
    obtain ⟨e4, _⟩ := bt_free e
    rw [lf_int hx e1, ci_inj e2, lf_bool ht e3, e4]
  | fourL x t m zs hx ht =>
    rw [PyData.shown.eq_6, tuple_ch] at e
    simp only [PyData.shownAll, List.map_cons, List.map_nil, Bt, Mt, PyData.shown_int, List.cons_append, List.cons.injEq, true_and] at e
    obtain ⟨e1, e⟩ := pre_eq (lf_Q hx) ci_Q nq44 nq44 e
    simp only [List.cons.injEq, true_and] at e
    obtain ⟨e2, e⟩ := pre_eq (a := ci m) ci_Q ci_Q nq44 nq44 e
    simp only [List.cons.injEq, true_and] at e
    obtain ⟨e3, e⟩ := pre_eq (lf_Q ht) bq nq44 nq44 e
    simp only [List.cons.injEq, true_and] at e
    obtain ⟨r, hr⟩ := list_ch zs
    rw [hr] at e
    injection e with e _
    cases e
  | three a b t ht =>
    rw [PyData.shown.eq_6, tuple_ch] at e
    simp only [PyData.shownAll, List.map_cons, List.map_nil, Bt, Mt, PyData.shown_int, List.cons_append, List.cons.injEq, true_and] at e
    obtain ⟨e1, e⟩ := pre_eq (a := ci a) ci_Q ci_Q nq44 nq44 e
    simp only [List.cons.injEq, true_and] at e
    obtain ⟨e2, e⟩ := pre_eq (a := ci b) ci_Q ci_Q nq44 nq44 e
    simp only [List.cons.injEq, true_and] at e
    obtain ⟨e3, e⟩ := pre_eq (lf_Q ht) bq nq41 nq44 e
    simp at e
  | five a b k zs z =>
    rw [PyData.shown.eq_6, tuple_ch] at e
    simp only [PyData.shownAll, List.map_cons, List.map_nil, Bt, Mt, nums_ch, PyData.shown_int, List.cons_append, List.cons.injEq, true_and] at e
    obtain ⟨e1, e⟩ := pre_eq (a := ci a) ci_Q ci_Q nq44 nq44 e
    simp only [List.cons.injEq, true_and] at e
    obtain ⟨e2, e⟩ := pre_eq (a := ci b) ci_Q ci_Q nq44 nq44 e
    simp only [List.cons.injEq, true_and] at e
    obtain ⟨e3, e⟩ := pre_eq (lf_Q (.bl k)) bq nq44 nq44 e
    simp only [List.cons.injEq, true_and] at e
    obtain ⟨_, e⟩ := bt_free e
    simp at e
  | lst xs =>
    obtain ⟨r, hr⟩ := list_ch xs
    rw [hr] at e
    injection e with e _
    cases e
  | non =>
    have z : (ch (PyData.shown (.none))).head? = some 78 := by decide +kernel
    rw [e] at z
    cases z
  | int i =>
    rw [PyData.shown_int] at e
    have := ci_head (i := i) (r := []) (by rw [List.append_nil]; exact e)
    omega
  | word =>
    have z : (ch (PyData.shown (.str "piece"))).head? = some 39 := by decide +kernel
    rw [e] at z
    cases z
  | dct =>
    have z : (ch (PyData.shown (.dict []))).head? = some 123 := by decide +kernel
    rw [e] at z
    cases z
end Xp

/-! Xp2: repr of lists and tuples whose items may be dicts, of a dict -/
namespace Xp
open PySem PySem.Spec PySem.Calls PyProof.Rows L2 Rs Xc
def rReprT (K : PySem.W.Frag) : List V → Hp → VK → Prop := fun xs H Q => ∃ (p : Addr) (vs : List V) (ds : List PyData), xs = [.ref p] ∧ SqT K H p vs ∧ TzA K H vs ds ∧ (PyData.tuple ds).shown.length ≤ sizeLine ∧ PyData.depthAll ds ≤ 30 ∧ Q (.str (PyData.tuple ds).shown) H
def rReprE : List V → Hp → VK → Prop := fun xs H Q => ∃ a : Addr, xs = [.ref a] ∧ H a = some (.dK []) ∧ Q (.str (PyData.dict []).shown) H
def rReprU (K : PySem.W.Frag) : List V → Hp → VK → Prop := fun xs H Q => rRepr K xs H Q ∨ rReprE xs H Q ∨ rReprL K xs H Q ∨ rReprT K xs H Q
section
variable {X : Cx}
theorem call_reprT {k : Nat} (st : Stat X.K) (c : Clr X.A) (hr : Room k X.A) : CallR X (.builtin "repr") (rReprT X.K) := by
  intro pins s σ H xs us Q I r h
  obtain ⟨p, vs, ds, rfl, hs, hq, sw, dp, q⟩ := h
  cases r with
  | cons r1 r2 =>
    cases r2
    rename_i u
    cases (show u = Value.ref p from r1)
    obtain ⟨its, rv, ⟨o, ho, hc, n, hd⟩, _⟩ := I.tuple hs
    have un := hr.units
    obtain ⟨as, rd⟩ := hq.reads I rv
    have sz : ∀ d ∈ ds, d.shown.length ≤ sizeLine := fun d hm => by
      have z := tupleText_mem_le (ts := PyData.shownAll ds) (shown_of hm)
      simp only [PyData.shown] at sw
      omega
    obtain ⟨bs, hb, rk⟩ := hq.shows (n := PyData.depthAll ds) I st (by omega) rv sz (Nat.le_refl _)
    have own : Reads s.heap (.ref p) (.tuple ds) as := Reads.tuple ho hc hd (by simpa using rd)
    have hna : p ∉ bs := fun hm => by
      obtain ⟨d', as', r', hd'⟩ := hb p hm
      have e := (PyProof.Rows.reads_det (fun _ _ e _ => e) own r').1
      rw [e] at hd'
      simp only [PyData.depth] at hd'
      omega
    simp only [PyData.shown] at sw q
    refine call_repr_slot (by omega) ⟨o, ho, hc⟩ F.slot_tuple_repr ?_
    exact call_tuple_reprK ho hc hd hna (by simpa using rk) c (fun b _ => Clear.nil b) (by show X.A.units + 1 + (50 + 1) < cLine; omega) (fun _ _ e => e) (fun h' t2 tk2 kp => ⟨_, _, rfl, ⟨.str _, H, I.kept kp, ⟨t2, rfl⟩, q⟩⟩) sw
theorem call_reprE {k : Nat} (c : Clr X.A) (hr : Room k X.A) : CallR X (.builtin "repr") rReprE := by
  intro pins s σ H xs us Q I r h
  obtain ⟨a, rfl, ha, q⟩ := h
  cases r with
  | cons r1 r2 =>
    cases r2
    rename_i u
    cases (show u = Value.ref a from r1)
    obtain ⟨_, ns, vs, kv', o, es, ep, e1, e2, e3, _, e5, _⟩ := dk_of I.hok ha
    obtain ⟨r1, r2⟩ := plKv_reads (h := s.heap) (kv := []) (kds := []) .nil kv' e5
    have rd : Reads s.heap (.ref a) (.dict []) ([a] ++ [] ++ []) := Reads.dict (as := []) (bs := []) e1 e2.1 e3 r1 r2
    have un := hr.units
    exact repr_of_reads' (s := s) rd (by decide +kernel) (fun _ hm => by
      have z : sysModules = a := by simpa using hm
      rw [z] at ns
      simp at ns) c (by simp only [PyData.depth, PyData.depthKv]; omega) (fun _ _ e => e) (fun h' t tk kp => ⟨.str _, H, I.kept kp, ⟨t, rfl⟩, q⟩) (by decide +kernel)
theorem call_reprU {k : Nat} (st : Stat X.K) (c : Clr X.A) (hr : Room k X.A) : CallR X (.builtin "repr") (rReprU X.K) := by
  intro pins s σ H xs us Q I r h
  rcases h with h | h | h | h
  · exact call_repr c hr pins s σ H xs us Q I r h
  · exact call_reprE c hr pins s σ H xs us Q I r h
  · exact call_reprL st c hr pins s σ H xs us Q I r h
  · exact call_reprT st c hr pins s σ H xs us Q I r h
end
end Xp

/-! Xq1: methods by the object's own class, called by keywords -/
namespace Xq
open PySem PySem.Spec PySem.Calls PyProof.Rows L2 Xh Xj Rs
/-- what a call of the method f of x with keywords keeps -/
def CallsKw (P : Program) (w : World) (K : PySem.W.Frag) (mg : Str → Option Value) (base : Heap) (CX : CXT) (k : Nat) (f : Addr) (x : V) (ks : List Str) (H : Hp) (zs : List V) (Q : VK) (E : XK) : Prop :=
  ∃ (fd : FuncData) (ps : List Str) (sp : Sp) (g : List Value → List Value → List Value) (gV : List V → List V → List V), FnOk P w K mg base CX k f fd ps sp ∧ KBn K fd ps 1 ks g gV ∧ sp (gV [x] zs) H Q E
section
variable {X : Cx} {CX : CXT} {k j : Nat} {ks : List Str} {E : XK} {m : Str} {pos apos : Pos} {o : Expr} {kws : List Keyword} {te : TE} {tk : TA}
def tMethDK (X : Cx) (CX : CXT) (k : Nat) (m : Str) (ks : List Str) (te : TE) (tk : TA) (E : XK) : TE := fun σ H Q => te σ H fun x H1 => ∃ a C dx fs f, x = .ref a ∧ H1 a = some (.ins C dx fs) ∧ Cls X.K C ∧ Meth X.K C m f ∧ fs.lookup m = none ∧ tk σ H1 fun zs H2 => zs.length = ks.length ∧ CallsKw X.prog X.w X.K X.mg X.base CX k f x ks H2 zs Q E
theorem pe_methDK {pl : Sem Bool} (he : PE X o te) (hkw : PK X kws tk) (hr : Room j X.A) (hk : k ≤ j) (hx : Passes CX X E)
    (hall : (backToKw pos (keywordEach kws X.env)).all (·.1.isSome) = true := by rfl) (hks : (backToKw pos (keywordEach kws X.env)).filterMap (·.1) = ks := by rfl)
    (ht : eval (.Call (.Attribute o m apos) [] kws pos) X.env = (do
      let ov ← eval o X.env
      standAt apos.atName
      let (f, first) ← holding [ov] (getMethod ov m pl)
      callWith pos f first (backTo pos (starEach [] X.env)) (backToKw pos (keywordEach kws X.env))) := by rfl) :
    PE X (.Call (.Attribute o m apos) [] kws pos) (tMethDK X CX k m ks te tk E) := by
  constructor
  intro pins s σ H Q I h
  refine PySem.W.methodCall_KW (pl := pl) (thn (he.run pins s σ H _ I h) ?_) ht
  rintro u s1 ⟨x, H1, I1, rx, a, C, dx, fs, f, ex, ea, c, hm, l, q⟩
  subst ex
  obtain rfl : u = Value.ref a := rx
  refine getmeth_ok I1 ea c hm l ?_
  have np : ((backTo pos (starEach [] X.env)).any (·.1) || (backToKw pos (keywordEach kws X.env)).any (·.1.isNone)) = false := by
    have z : ∀ l : List (Option Str × Sem Value), l.all (·.1.isSome) = true → l.any (·.1.isNone) = false := by
      intro l hl
      induction l with
      | nil => rfl
      | cons q l ih =>
        simp only [List.all_cons, Bool.and_eq_true] at hl
        simp only [List.any_cons, ih hl.2, Bool.or_false]
        cases e : q.1 with
        | none => rw [e] at hl; exact absurd hl.1 (by decide)
        | some _ => rfl
    rw [z _ hall]; rfl
  refine PySem.W.callWith_KW0 (first := [.ref a]) (h₀ := X.base) I1.ok.mod.kin hm.kp hall ?_ np
  refine thn (hkw.run pos pins s1 σ H1 _ I1 q) ?_
  rintro ws s2 ⟨zs, H2, I2, rz, l2, fd, ps, sp, g, gV, F, hb, q2⟩
  refine ⟨I2.kIn, ?_⟩
  rw [hks]
  exact run_fnN (us := [.ref a]) (vs := [.ref a]) F (hr.mono hk) hb hx I2 (.cons rfl .nil) rz rfl l2 q2
theorem rd_methDK {σ : L2.St} {H : Hp} {Q : VK} (h : te σ H fun x H1 => ∃ a C dx fs f, x = .ref a ∧ H1 a = some (.ins C dx fs) ∧ Cls X.K C ∧ Meth X.K C m f ∧ fs.lookup m = none ∧ tk σ H1 fun zs H2 => zs.length = ks.length ∧ CallsKw X.prog X.w X.K X.mg X.base CX k f x ks H2 zs Q E) : tMethDK X CX k m ks te tk E σ H Q := h
end
end Xq

local macro_rules | `(tactic| walk_at "mem") => `(tactic| repeat (with_reducible first | exact List.mem_cons_self | apply List.mem_cons_of_mem))
local macro_rules | `(tactic| walk_at "chg") => `(tactic| repeat (with_reducible first | exact Rs.Chg.here | apply Rs.Chg.there))
local macro_rules | `(tactic| walk_at "chgF") => `(tactic| (intro o'; walk_at "chg"))
local macro_rules | `(tactic| walk_at "own") => `(tactic| first | (apply Or.inl; assumption) | (apply Or.inr; simp))
local macro_rules | `(tactic| walk_at "size") => `(tactic| first | exact Rs.sz (Nat.le_of_ble_eq_true rfl) | (refine Rs.sz ?_; omega) | (refine Rs.sz ?_; simp; done) | (refine Rs.sz ?_; simp; omega))
local macro_rules | `(tactic| walk_at "size1") => `(tactic| first | exact Rs.sz' (Nat.le_of_ble_eq_true rfl) | (refine Rs.sz' ?_; omega) | (refine Rs.sz' ?_; simp; done) | (refine Rs.sz' ?_; simp; omega))
local macro_rules | `(tactic| walk_at "val") => `(tactic| first | assumption | rfl)
local macro_rules | `(tactic| walk_at "put") => `(tactic| first | assumption | rfl)
local macro_rules | `(tactic| walk_at "rd1") => `(tactic| first
  | with_reducible refine Rs.rd_seq ?_
  | with_reducible refine Rs.rd_asg ?_
  | ((with_reducible refine' Rs.rd_var ?e ?_); (case e => rfl))
  | with_reducible refine Rs.rd_c ?_
  | with_reducible refine Rs.rd_op ?_
  | with_reducible refine Rs.rd_I0 ?_
  | with_reducible refine Rs.rd_cons ?_
  | with_reducible refine Rs.rd_nil ?_
  | ((with_reducible refine' Rs.rd_name ?e ?_); (case e => (dsimp only [List.set]; try rfl)))
  | with_reducible refine Rs.rd_ifS ?_
  | with_reducible refine Rs.rd_test ?_
  | with_reducible refine Rs.rd_bl ?_
  | with_reducible refine Rs.rd_ret ?_
  | with_reducible refine Rs.rd_retN ?_
  | with_reducible refine Rs.rd_drop ?_
  | with_reducible refine Rs.rd_next ?_
  | with_reducible refine Rs.rd_eqI ?_
  | with_reducible refine Rs.rd_neI ?_
  | with_reducible refine Rs.rd_eqS ?_
  | with_reducible refine Rs.rd_neS ?_
  | with_reducible refine Rs.rd_eqB ?_
  | with_reducible refine Rs.rd_par ?_
  | with_reducible refine Rs.rd_par3 ?_
  | ((with_reducible refine Rs.rd_two ?_); dsimp only [List.set])
  | ((with_reducible refine Rs.rd_three ?_); dsimp only [List.set])
  | with_reducible refine Rs.rd_un ?_
  | with_reducible refine Rs.rd_U ?_
  | with_reducible refine Rs.rd_tB ?_
  | with_reducible refine Rs.rd_and ?_
  | with_reducible refine Rs.rd_or ?_
  | with_reducible refine Rs.rd_not ?_
  | with_reducible refine Rs.rd_andV ?_
  | with_reducible refine Rs.rd_orV ?_
  | with_reducible refine Rs.rd_notV ?_
  | with_reducible refine Rs.rd_if ?_
  | with_reducible refine Rs.rd_tup ?_
  | with_reducible refine Rs.rd_lst ?_
  | with_reducible refine Rs.rd_cb ?_
  | with_reducible refine Rs.rd_call0 ?_
  | with_reducible refine Rs.rd_call ?_
  | with_reducible refine Rs.rd_callN ?_
  | with_reducible refine Rs.rd_chain ?_
  | with_reducible refine Rs.rd_bits ?_
  | with_reducible refine Rs.rd_int1 ?_
  | with_reducible refine Rs.rd_int2 ?_
  | with_reducible refine Rs.rd_dget ?_
  | with_reducible refine Rs.rd_dput ?_
  | with_reducible refine Rs.rd_slice3 ?_
  | with_reducible refine Rs.rd_sl ?_
  | with_reducible refine Rs.rd_noPart ?_
  | with_reducible refine Rs.rd_part ?_
  | ((with_reducible refine' Rs.rd_mod ?c ?_); (case c => omega); intro r e h0 h1)
  | ((with_reducible refine' Rs.rd_div ?c ?d ?_); (case c => omega); (case d => omega))
  | ((with_reducible refine' Rs.rd_mulL ?c ?d ?_); (case c => omega); (case d => omega))
  | ((with_reducible refine' Rs.rd_mulR ?c ?d ?_); (case c => omega); (case d => omega))
  | ((with_reducible refine' Rs.rd_pow ?c ?d ?f ?_); (case c => omega); (case d => omega); (case f => omega))
  | ((with_reducible refine' Rs.rd_newL (by assumption) ?z ?_); (case z => walk_at "size"); intro p H hp S)
  | ((with_reducible refine' Rs.rd_newT (by assumption) ?z ?_); (case z => walk_at "size"); intro p H hp S)
  | ((with_reducible refine' Rs.rd_newO (by assumption) ?_); intro p H hp S)
  | ((with_reducible refine' Rs.rd_ixL (by assumption) ?m ?e ?_); (case m => (walk_at "mem"; done)); (case e => first | rfl | assumption))
  | ((with_reducible refine' Rs.rd_ixT (by assumption) ?m ?e ?_); (case m => (walk_at "mem"; done)); (case e => first | rfl | assumption))
  | ((with_reducible refine' Rs.rd_len (by assumption) ?m ?_); (case m => (walk_at "mem"; done)))
  | ((with_reducible refine' Rs.rd_lenT (by assumption) ?m ?_); (case m => (walk_at "mem"; done)))
  | ((with_reducible refine' Rs.rd_getS (by assumption) ?m ?e ?_); (case m => (walk_at "mem"; done)); (case e => walk_at "val"))
  | ((with_reducible refine' Rs.rd_putS (by assumption) ?c ?m ?z ?e ?_); (case c => (walk_at "chg"; done)); (case m => walk_at "own"); (case z => walk_at "size1"); (case e => walk_at "put"); intro H S)
  | ((with_reducible refine' Rs.gt_ref (by assumption) ?m ?e ?_); (case m => (walk_at "mem"; done)); (case e => rfl))
  | with_reducible refine Rs.gt_cons ?_
  | with_reducible refine Rs.gt_nil ?_
  | with_reducible refine Rs.rd_for ?_
  | with_reducible refine Rs.rd_rng1 ?_
  | with_reducible refine Rs.rd_rng2 ?_
  | ((with_reducible refine' Rs.rd_rng1v ?c ?d ?_); (case c => omega); (case d => omega))
  | with_reducible refine Rs.rd_iList ?_
  | with_reducible refine Rs.rd_iTup ?_
  | ((with_reducible refine' Rs.rd_lstI (by assumption) ?m ?_); (case m => (walk_at "mem"; done)))
  | ((with_reducible refine' Rs.rd_tupI (by assumption) ?m ?_); (case m => (walk_at "mem"; done)))
  | with_reducible refine Rs.rd_wl ?_
  | ((with_reducible refine' Rs.rd_disp (by assumption) ?_); intro p H hp S)
  | with_reducible refine Rs.rd_prs ?_
  | with_reducible refine Rs.rd_prs0 ?_
  | ((with_reducible refine' Rs.rd_dspEnd (by assumption) ?c ?m ?e ?z ?f ?_); (case c => (walk_at "chg"; done)); (case m => walk_at "own"); (case e => rfl); (case z => exact Nat.le_of_ble_eq_true rfl); (case f => walk_at "put"); intro H S)
  | ((with_reducible refine' Rs.rd_isi (by assumption) ?e ?_); (case e => first | exact Rs.kit_int _ | exact Rs.kit_bool _ | exact Rs.kit_list _ | exact Rs.kit_tuple _ | exact Rs.kit_str _))
  | with_reducible refine Rs.rd_iteT ?_
  | with_reducible refine Rs.rd_nT ?_
  | with_reducible refine Rs.rd_nF ?_
  | with_reducible refine Rs.rd_iteF ?_)
local macro_rules | `(tactic| walk_at "end") => `(tactic| first
  | assumption
  | omega
  | exact Rs.Hs.get (by assumption) (by walk_at "mem"; done)
  | exact Rs.Hs.same (by assumption)
  | (intro b o e hb; exact Rs.Hs.old1 (by assumption) e hb)
  | rfl)
local macro_rules | `(tactic| walk_at "rd") => `(tactic| repeat (walk_at "rd1"))
local macro_rules | `(tactic| walk_at "st") => `(tactic| (refine Rs.rd_start ?_; dsimp only [Rs.stV, List.head?, List.tail]))
local macro_rules | `(tactic| walk_at "noat") => `(tactic| assumption)
local macro_rules | `(tactic| walk_at "cls") => `(tactic| assumption)
local macro_rules | `(tactic| walk_at "fv") => `(tactic| rfl)
local macro_rules | `(tactic| walk_at "sub") => `(tactic| repeat (with_reducible first | exact List.Sublist.refl _ | exact List.nil_sublist _ | apply List.Sublist.cons_cons | apply List.Sublist.cons))
local macro_rules | `(tactic| walk_at "rd1") => `(tactic| first
  | with_reducible refine Rs.rd_fld ?_
  | ((with_reducible refine' Rs.rd_fldV (by assumption) ?m ?c ?n ?e ?_); (case m => (walk_at "mem"; done)); (case c => walk_at "cls"); (case n => walk_at "noat"); (case e => walk_at "fv"))
  | with_reducible refine Rs.rd_sfld ?_
  | ((with_reducible refine' Rs.rd_sfldV (by assumption) ?ch ?o ?c ?n ?z ?e ?_); (case ch => (walk_at "chg"; done)); (case o => walk_at "own"); (case c => walk_at "cls"); (case n => walk_at "noat"); (case z => walk_at "fvz"); (case e => walk_at "fput"); intro H S)
  | with_reducible refine Rs.rd_meth ?_
  | ((with_reducible refine' Rs.rd_methV (by assumption) ?m ?e ?_); (case m => (walk_at "mem"; done)); (case e => walk_at "fv"))
  | with_reducible refine Rs.rd_bm ?_
  | with_reducible refine Rs.rd_bm0 ?_
  | ((with_reducible refine' Rs.rd_tyL (by assumption) ?m ?_); (case m => (walk_at "mem"; done)))
  | ((with_reducible refine' Rs.rd_app (by assumption) ?c ?o ?z ?_); (case c => (walk_at "chg"; done)); (case o => walk_at "own"); (case z => walk_at "size1"); intro H S)
  | ((with_reducible refine' Rs.rd_sumI (by assumption) ?m ?e ?_); (case m => (walk_at "mem"; done)); (case e => rfl))
  | ((with_reducible refine' Rs.rd_slL (by assumption) ?m ?e ?_); (case m => (walk_at "mem"; done)); (case e => rfl); intro p H hp S)
  | ((with_reducible refine' Rs.rd_catL (by assumption) ?m ?n ?z ?_); (case m => (walk_at "mem"; done)); (case n => (walk_at "mem"; done)); (case z => walk_at "size"); intro p H hp S)
  | with_reducible refine Rs.rd_revL ?_
  | ((with_reducible refine' Rs.rd_revV (by assumption) ?m ?_); (case m => (walk_at "mem"; done)); intro p H hp S)
  | with_reducible refine Rs.rd_isN ?_
  | with_reducible refine Rs.rd_notN ?_
  | ((with_reducible refine' Rs.gt_unl (by assumption) ?m ?e ?_); (case m => (walk_at "mem"; done)); (case e => rfl))
  | with_reducible refine Rs.gt_sub ?_
  | with_reducible refine Rs.gt_slc ?_
  | with_reducible refine Rs.rd_lc ?_)
local macro_rules | `(tactic| walk_at "cut") => `(tactic| repeat' (first | walk_at "rd1" | (refine Rs.rd_dec ?_ ?_ <;> intro hc)))
local macro_rules | `(tactic| walk_at "fvz") => `(tactic| exact Nat.le_of_ble_eq_true rfl)
local macro_rules | `(tactic| walk_at "fput") => `(tactic| rfl)
local macro_rules | `(tactic| walk_at "rd1") => `(tactic| with_reducible refine Rs.rd_nn ?_)
local macro_rules | `(tactic| walk_at "rd1") => `(tactic| first
  | ((with_reducible refine' Rs.rd_aug ?e ?_); (case e => rfl))
  | ((with_reducible refine Rs.rd_ipI ?_); dsimp only [List.set]))
local macro_rules | `(tactic| walk_at "lc") => `(tactic| (walk_at "rd"; dsimp only [L2.wipe, List.map, List.set]; refine ⟨rfl, ?_⟩; walk_at "rd"))
local macro_rules | `(tactic| walk_at "rd1") => `(tactic| first
  | ((with_reducible refine' Rs.rd_sumT (by assumption) ?m ?e ?_); (case m => (walk_at "mem"; done)); (case e => rfl))
  | with_reducible refine Rs.rd_cbk ?_
  | ((with_reducible refine' Rs.rd_sumK (by assumption) ?m ?e ?_); (case m => (walk_at "mem"; done)); (case e => rfl))
  | ((with_reducible refine' Rs.rd_maxDT (by assumption) ?m ?e ?_); (case m => (walk_at "mem"; done)); (case e => rfl))
  | with_reducible refine Rs.rd_slT3 ?_)
local macro_rules | `(tactic| walk_at "rd1") => `(tactic| with_reducible refine Rs.rd_yes ?_)
local macro_rules | `(tactic| walk_at "if0") => `(tactic| (first | (show if false = true then _ else _) | skip); walk_at "rd")
local macro_rules | `(tactic| walk_at "if1") => `(tactic| (first | (show if true = true then _ else _) | skip); walk_at "rd")
local macro_rules | `(tactic| walk_at "rd1") => `(tactic| first
  | ((with_reducible refine' Rs.rd_clear (by assumption) ?c ?o ?_); (case c => (walk_at "chg"; done)); (case o => walk_at "own"); intro H S))
local macro_rules | `(tactic| walk_at "led") => `(tactic| (intro a'; simp only [Rs.cn_app, Rs.cn_cons, Rs.cn_nil, List.append_assoc, List.cons_append, List.nil_append, List.reverse_nil, List.map_nil]; omega))
local macro_rules | `(tactic| walk_at "mem1") => `(tactic| (with_reducible first | exact List.mem_cons_self | assumption | (apply List.mem_cons_of_mem; walk_at "mem1") | (apply List.mem_append_right; walk_at "mem1") | (apply List.mem_append_left; walk_at "mem1")))
local macro_rules | `(tactic| walk_at "mem") => `(tactic| walk_at "mem1")
local macro_rules | `(tactic| walk_at "rd1") => `(tactic| first
  | with_reducible refine Rs.rd_enum ?_
  | with_reducible refine Rs.rd_methK ?_
  | ((with_reducible refine' Rs.rd_enI (by assumption) ?m ?_); (case m => (walk_at "mem"; done))))
local macro_rules | `(tactic| walk_at "chg1") => `(tactic| (with_reducible first | exact Rs.Chg.here | (apply Rs.Chg.there; walk_at "chg1") | (apply Rs.Chg.appR; walk_at "chg1") | (apply Rs.Chg.appL; walk_at "chg1")))
local macro_rules | `(tactic| walk_at "chg") => `(tactic| walk_at "chg1")
namespace K04
open PySem L2 Rs Xc Xd Xg Xh Xi Xj Xk Xl Xm Xq
structure CalMF (K : PySem.W.Frag) (x qual : Str) (st : Stmt) (f : Addr) (fd : FuncData) : Prop where
  F : Fun K x qual st f fd
def topS (i : Nat) : Stmt := PySem.Challenge.pw_runsort_k04_whole_orders_of_orders.main.body.getD i (.Pass ⟨0, 0, 0, 0⟩)
abbrev s_BadAnswer___init__ : Stmt := inClass (topS 1) 0
theorem sc_BadAnswer___init__ : FnScope ["self", "answer"] ["self", "answer"] (defScope s_BadAnswer___init__) := ⟨rfl, rfl, rfl, by decide +kernel, rfl, by decide +kernel, by decide +kernel⟩
abbrev s_BadKind___init__ : Stmt := inClass (topS 2) 0
theorem sc_BadKind___init__ : FnScope ["self", "wanted"] ["self", "wanted"] (defScope s_BadKind___init__) := ⟨rfl, rfl, rfl, by decide +kernel, rfl, by decide +kernel, by decide +kernel⟩
abbrev s_Stopped___init__ : Stmt := inClass (topS 3) 0
theorem sc_Stopped___init__ : FnScope ["self", "at"] ["self", "at"] (defScope s_Stopped___init__) := ⟨rfl, rfl, rfl, by decide +kernel, rfl, by decide +kernel, by decide +kernel⟩
abbrev s_Order___init__ : Stmt := inClass (topS 5) 0
theorem sc_Order___init__ : FnScope ["self", "rule"] ["self", "rule"] (defScope s_Order___init__) := ⟨rfl, rfl, rfl, by decide +kernel, rfl, by decide +kernel, by decide +kernel⟩
abbrev s_Order_counted : Stmt := inClass (topS 5) 1
theorem sc_Order_counted : FnScope ["self"] ["self"] (defScope s_Order_counted) := ⟨rfl, rfl, rfl, by decide +kernel, rfl, by decide +kernel, by decide +kernel⟩
abbrev s_Order_ahead : Stmt := inClass (topS 5) 2
theorem sc_Order_ahead : FnScope ["self", "one", "other", "answer"] ["self", "one", "other"] (defScope s_Order_ahead) := ⟨rfl, rfl, rfl, by decide +kernel, rfl, by decide +kernel, by decide +kernel⟩
abbrev s_Order_alike : Stmt := inClass (topS 5) 3
theorem sc_Order_alike : FnScope ["self", "one", "other"] ["self", "one", "other"] (defScope s_Order_alike) := ⟨rfl, rfl, rfl, by decide +kernel, rfl, by decide +kernel, by decide +kernel⟩
abbrev s_Order_many_asked : Stmt := inClass (topS 5) 4
theorem sc_Order_many_asked : FnScope ["self"] ["self"] (defScope s_Order_many_asked) := ⟨rfl, rfl, rfl, by decide +kernel, rfl, by decide +kernel, by decide +kernel⟩
abbrev s_PlainOrder___init__ : Stmt := inClass (topS 6) 0
theorem sc_PlainOrder___init__ : FnScope ["self"] ["self"] (defScope s_PlainOrder___init__) := ⟨rfl, rfl, rfl, by decide +kernel, rfl, by decide +kernel, by decide +kernel⟩
abbrev s_PlainOrder_ahead : Stmt := inClass (topS 6) 1
theorem sc_PlainOrder_ahead : FnScope ["self", "one", "other"] ["self", "one", "other"] (defScope s_PlainOrder_ahead) := ⟨rfl, rfl, rfl, by decide +kernel, rfl, by decide +kernel, by decide +kernel⟩
abbrev s_KeyOrder___init__ : Stmt := inClass (topS 7) 0
theorem sc_KeyOrder___init__ : FnScope ["self", "key", "order"] ["self", "key", "order"] (defScope s_KeyOrder___init__) := ⟨rfl, rfl, rfl, by decide +kernel, rfl, by decide +kernel, by decide +kernel⟩
abbrev s_KeyOrder_ahead : Stmt := inClass (topS 7) 1
theorem sc_KeyOrder_ahead : FnScope ["self", "one", "other", "first"] ["self", "one", "other"] (defScope s_KeyOrder_ahead) := ⟨rfl, rfl, rfl, by decide +kernel, rfl, by decide +kernel, by decide +kernel⟩
abbrev s_DownOrder___init__ : Stmt := inClass (topS 8) 0
theorem sc_DownOrder___init__ : FnScope ["self", "order"] ["self", "order"] (defScope s_DownOrder___init__) := ⟨rfl, rfl, rfl, by decide +kernel, rfl, by decide +kernel, by decide +kernel⟩
abbrev s_DownOrder_ahead : Stmt := inClass (topS 8) 1
theorem sc_DownOrder_ahead : FnScope ["self", "one", "other"] ["self", "one", "other"] (defScope s_DownOrder_ahead) := ⟨rfl, rfl, rfl, by decide +kernel, rfl, by decide +kernel, by decide +kernel⟩
abbrev s_ThenOrder___init__ : Stmt := inClass (topS 9) 0
theorem sc_ThenOrder___init__ : FnScope ["self", "first", "second"] ["self", "first", "second"] (defScope s_ThenOrder___init__) := ⟨rfl, rfl, rfl, by decide +kernel, rfl, by decide +kernel, by decide +kernel⟩
abbrev s_ThenOrder_ahead : Stmt := inClass (topS 9) 1
theorem sc_ThenOrder_ahead : FnScope ["self", "one", "other"] ["self", "one", "other"] (defScope s_ThenOrder_ahead) := ⟨rfl, rfl, rfl, by decide +kernel, rfl, by decide +kernel, by decide +kernel⟩
abbrev s_need_order : Stmt := topS 10
theorem sc_need_order : FnScope ["thing"] ["thing"] (defScope s_need_order) := ⟨rfl, rfl, rfl, by decide +kernel, rfl, by decide +kernel, by decide +kernel⟩
abbrev s_l_mixed : Stmt := topS 12
theorem sc_l_mixed : FnScope ["_law_drawn", "_law_k"] ["_law_drawn", "_law_k"] (defScope s_l_mixed) := ⟨rfl, rfl, rfl, by decide +kernel, rfl, by decide +kernel, by decide +kernel⟩
abbrev s_l_take : Stmt := topS 13
theorem sc_l_take : FnScope ["_law_stream", "_law_many", "_law_cell", "_law_drawn"] ["_law_stream", "_law_many"] (defScope s_l_take) := ⟨rfl, rfl, rfl, by decide +kernel, rfl, by decide +kernel, by decide +kernel⟩
abbrev s_l_kinds_by : Stmt := topS 14
theorem sc_l_kinds_by : FnScope ["_law_stream", "_law_many", "_law_rows", "_law_k", "_law_part", "_law_word"] ["_law_stream", "_law_many"] (defScope s_l_kinds_by) := ⟨rfl, rfl, rfl, by decide +kernel, rfl, by decide +kernel, by decide +kernel⟩
abbrev s_l_noted : Stmt := topS 15
theorem sc_l_noted : FnScope ["_law_notes", "_law_halt", "_law_what"] ["_law_notes", "_law_halt", "_law_what"] (defScope s_l_noted) := ⟨rfl, rfl, rfl, by decide +kernel, rfl, by decide +kernel, by decide +kernel⟩
abbrev s_l_rule : Stmt := topS 16
theorem sc_l_rule : FnScope ["_law_notes", "_law_halt", "_law_part", "_law_told"] ["_law_notes", "_law_halt", "_law_part"] (defScope s_l_rule) := ⟨rfl, rfl, rfl, by decide +kernel, rfl, by decide +kernel, by decide +kernel⟩
abbrev s_l_key : Stmt := topS 17
theorem sc_l_key : FnScope ["_law_notes", "_law_halt", "_law_part", "_law_whole", "_law_told"] ["_law_notes", "_law_halt", "_law_part", "_law_whole"] (defScope s_l_key) := ⟨rfl, rfl, rfl, by decide +kernel, rfl, by decide +kernel, by decide +kernel⟩
abbrev s_l_orders : Stmt := topS 18
theorem sc_l_orders : FnScope ["_law_rows", "_law_notes", "_law_halt", "_law_found", "_law_word", "_law_base", "_law_more", "_law_part"] ["_law_rows", "_law_notes", "_law_halt"] (defScope s_l_orders) := ⟨rfl, rfl, rfl, by decide +kernel, rfl, by decide +kernel, by decide +kernel⟩
abbrev s_l_keyed : Stmt := topS 19
theorem sc_l_keyed : FnScope ["_law_due", "_law_what"] ["_law_due", "_law_what"] (defScope s_l_keyed) := ⟨rfl, rfl, rfl, by decide +kernel, rfl, by decide +kernel, by decide +kernel⟩
abbrev s_l_ahead : Stmt := topS 20
theorem sc_l_ahead : FnScope ["_law_rows", "_law_due", "_law_k", "_law_item", "_law_mate", "_law_word", "_law_base", "_law_more", "_law_part", "_law_told"] ["_law_rows", "_law_due", "_law_k", "_law_item", "_law_mate"] (defScope s_l_ahead) := ⟨rfl, rfl, rfl, by decide +kernel, rfl, by decide +kernel, by decide +kernel⟩
abbrev s_l_alike : Stmt := topS 21
theorem sc_l_alike : FnScope ["_law_rows", "_law_due", "_law_k", "_law_item", "_law_mate", "_law_told"] ["_law_rows", "_law_due", "_law_k", "_law_item", "_law_mate"] (defScope s_l_alike) := ⟨rfl, rfl, rfl, by decide +kernel, rfl, by decide +kernel, by decide +kernel⟩
abbrev s_l_called : Stmt := topS 22
theorem sc_l_called : FnScope ["_law_house", "_law_is_alike", "_law_item", "_law_mate", "_law_way"] ["_law_house", "_law_is_alike", "_law_item", "_law_mate", "_law_way"] (defScope s_l_called) := ⟨rfl, rfl, rfl, by decide +kernel, rfl, by decide +kernel, by decide +kernel⟩
abbrev s_l_asked : Stmt := topS 23
theorem sc_l_asked : FnScope ["_law_house", "_law_is_alike", "_law_item", "_law_mate", "_law_way", "_law_found", "error"] ["_law_house", "_law_is_alike", "_law_item", "_law_mate", "_law_way"] (defScope s_l_asked) := ⟨rfl, rfl, rfl, by decide +kernel, rfl, by decide +kernel, by decide +kernel⟩
abbrev s_l_by_hand_right : Stmt := topS 24
theorem sc_l_by_hand_right : FnScope ["_law_base", "_law_down", "_law_again"] [] (defScope s_l_by_hand_right) := ⟨rfl, rfl, rfl, by decide +kernel, rfl, by decide +kernel, by decide +kernel⟩
abbrev s_law : Stmt := topS 25
theorem sc_law : FnScope ["_law_script", "_law_stream", "_law_turn", "_law_halt", "_law_rows", "_law_notes", "_law_due", "_law_orders_here", "_law_k", "_law_things", "_law_step", "_law_is_alike", "_law_item", "_law_mate", "_law_wish", "_law_told", "_law_part", "_law_house"] ["_law_script"] (defScope s_law) := ⟨rfl, rfl, rfl, by decide +kernel, rfl, by decide +kernel, by decide +kernel⟩
structure Ad where
  (C_BadAnswer f_BadAnswer___init__ C_BadKind f_BadKind___init__ C_Stopped f_Stopped___init__ C_Order f_Order___init__ f_Order_counted f_Order_ahead f_Order_alike f_Order_many_asked C_PlainOrder f_PlainOrder___init__ f_PlainOrder_ahead C_KeyOrder f_KeyOrder___init__ f_KeyOrder_ahead C_DownOrder f_DownOrder___init__ f_DownOrder_ahead C_ThenOrder f_ThenOrder___init__ f_ThenOrder_ahead f_need_order f__law_mixed f__law_take f__law_kinds_by f__law_noted f__law_rule cc__law_rule f__law_key cc__law_key f__law_orders f__law_keyed f__law_ahead f__law_alike f__law_called f__law_asked f__law_by_hand_right cc__law_by_hand_right f_law : Addr)
  (d_BadAnswer___init__ d_BadKind___init__ d_Stopped___init__ d_Order___init__ d_Order_counted d_Order_ahead d_Order_alike d_Order_many_asked d_PlainOrder___init__ d_PlainOrder_ahead d_KeyOrder___init__ d_KeyOrder_ahead d_DownOrder___init__ d_DownOrder_ahead d_ThenOrder___init__ d_ThenOrder_ahead d_need_order d__law_mixed d__law_take d__law_kinds_by d__law_noted d__law_rule d__law_key d__law_orders d__law_keyed d__law_ahead d__law_alike d__law_called d__law_asked d__law_by_hand_right d_law : FuncData)
structure Txt (K : PySem.W.Frag) (mg : Str → Option Value) (w : World) (A : Ad) : Prop where
  m_BadAnswer : mg "BadAnswer" = some (.ref A.C_BadAnswer)
  o_BadAnswer : Xc.Own K A.C_BadAnswer "TypeError" "TypeError.__new__" "TypeError.__init__" [.type "TypeError", .type "Exception", .type "BaseException", .type "object"]
  k_BadAnswer : Xc.Lk K A.C_BadAnswer
  t_BadAnswer_answer : PySem.W.takerIn K A.C_BadAnswer "answer" = some none
  na_BadAnswer_answer : PySem.W.findIn K (.ref A.C_BadAnswer) "answer" = some none
  i_BadAnswer : PySem.W.findIn K (.ref A.C_BadAnswer) "__init__" = some (some (.ref A.f_BadAnswer___init__))
  y_BadAnswer : PySem.W.typeIn K (.ref A.f_BadAnswer___init__) = some (.type "function")
  c_BadAnswer___init__ : CalM K "__init__" "BadAnswer.__init__" s_BadAnswer___init__ ["self", "answer"] A.f_BadAnswer___init__ A.d_BadAnswer___init__
  v_BadAnswer : PySem.W.findCls K (.type "TypeError") (.type "type") "__init__" = some (.val (.builtin "TypeError.__init__"))
  m_BadKind : mg "BadKind" = some (.ref A.C_BadKind)
  o_BadKind : Xc.Own K A.C_BadKind "TypeError" "TypeError.__new__" "TypeError.__init__" [.type "TypeError", .type "Exception", .type "BaseException", .type "object"]
  k_BadKind : Xc.Lk K A.C_BadKind
  t_BadKind_wanted : PySem.W.takerIn K A.C_BadKind "wanted" = some none
  na_BadKind_wanted : PySem.W.findIn K (.ref A.C_BadKind) "wanted" = some none
  i_BadKind : PySem.W.findIn K (.ref A.C_BadKind) "__init__" = some (some (.ref A.f_BadKind___init__))
  y_BadKind : PySem.W.typeIn K (.ref A.f_BadKind___init__) = some (.type "function")
  c_BadKind___init__ : CalM K "__init__" "BadKind.__init__" s_BadKind___init__ ["self", "wanted"] A.f_BadKind___init__ A.d_BadKind___init__
  v_BadKind : PySem.W.findCls K (.type "TypeError") (.type "type") "__init__" = some (.val (.builtin "TypeError.__init__"))
  m_Stopped : mg "Stopped" = some (.ref A.C_Stopped)
  o_Stopped : Xc.Own K A.C_Stopped "RuntimeError" "RuntimeError.__new__" "RuntimeError.__init__" [.type "RuntimeError", .type "Exception", .type "BaseException", .type "object"]
  k_Stopped : Xc.Lk K A.C_Stopped
  t_Stopped_at : PySem.W.takerIn K A.C_Stopped "at" = some none
  na_Stopped_at : PySem.W.findIn K (.ref A.C_Stopped) "at" = some none
  i_Stopped : PySem.W.findIn K (.ref A.C_Stopped) "__init__" = some (some (.ref A.f_Stopped___init__))
  y_Stopped : PySem.W.typeIn K (.ref A.f_Stopped___init__) = some (.type "function")
  c_Stopped___init__ : CalM K "__init__" "Stopped.__init__" s_Stopped___init__ ["self", "at"] A.f_Stopped___init__ A.d_Stopped___init__
  v_Stopped : PySem.W.findCls K (.type "RuntimeError") (.type "type") "__init__" = some (.val (.builtin "RuntimeError.__init__"))
  m_Order : mg "Order" = some (.ref A.C_Order)
  cl_Order : Cls K A.C_Order
  na_Order_own_rule : NoAttr K A.C_Order "own_rule"
  na_Order_times_asked : NoAttr K A.C_Order "times_asked"
  i_Order : Mk K A.C_Order A.f_Order___init__
  c_Order___init__ : CalM K "__init__" "Order.__init__" s_Order___init__ ["self", "rule"] A.f_Order___init__ A.d_Order___init__
  h_Order_counted : Meth K A.C_Order "counted" A.f_Order_counted
  c_Order_counted : CalM K "counted" "Order.counted" s_Order_counted ["self"] A.f_Order_counted A.d_Order_counted
  h_Order_ahead : Meth K A.C_Order "ahead" A.f_Order_ahead
  c_Order_ahead : CalM K "ahead" "Order.ahead" s_Order_ahead ["self", "one", "other"] A.f_Order_ahead A.d_Order_ahead
  h_Order_alike : Meth K A.C_Order "alike" A.f_Order_alike
  c_Order_alike : CalM K "alike" "Order.alike" s_Order_alike ["self", "one", "other"] A.f_Order_alike A.d_Order_alike
  h_Order_many_asked : Meth K A.C_Order "many_asked" A.f_Order_many_asked
  c_Order_many_asked : CalM K "many_asked" "Order.many_asked" s_Order_many_asked ["self"] A.f_Order_many_asked A.d_Order_many_asked
  r_Order : ClX.CRead K A.C_Order (.type "type")
  vi_Order : PySem.W.findCls K (.ref A.C_Order) (.type "type") "__init__" = some (.val (.ref A.f_Order___init__))
  m_PlainOrder : mg "PlainOrder" = some (.ref A.C_PlainOrder)
  cl_PlainOrder : Cls K A.C_PlainOrder
  na_PlainOrder_own_rule : NoAttr K A.C_PlainOrder "own_rule"
  na_PlainOrder_times_asked : NoAttr K A.C_PlainOrder "times_asked"
  i_PlainOrder : Mk K A.C_PlainOrder A.f_PlainOrder___init__
  c_PlainOrder___init__ : CalM K "__init__" "PlainOrder.__init__" s_PlainOrder___init__ ["self"] A.f_PlainOrder___init__ A.d_PlainOrder___init__
  h_PlainOrder_ahead : Meth K A.C_PlainOrder "ahead" A.f_PlainOrder_ahead
  c_PlainOrder_ahead : CalM K "ahead" "PlainOrder.ahead" s_PlainOrder_ahead ["self", "one", "other"] A.f_PlainOrder_ahead A.d_PlainOrder_ahead
  h_PlainOrder_counted : Meth K A.C_PlainOrder "counted" A.f_Order_counted
  h_PlainOrder_alike : Meth K A.C_PlainOrder "alike" A.f_Order_alike
  h_PlainOrder_many_asked : Meth K A.C_PlainOrder "many_asked" A.f_Order_many_asked
  m_KeyOrder : mg "KeyOrder" = some (.ref A.C_KeyOrder)
  cl_KeyOrder : Cls K A.C_KeyOrder
  na_KeyOrder_own_rule : NoAttr K A.C_KeyOrder "own_rule"
  na_KeyOrder_times_asked : NoAttr K A.C_KeyOrder "times_asked"
  na_KeyOrder_inner : NoAttr K A.C_KeyOrder "inner"
  na_KeyOrder_own_key : NoAttr K A.C_KeyOrder "own_key"
  i_KeyOrder : Mk K A.C_KeyOrder A.f_KeyOrder___init__
  c_KeyOrder___init__ : Xj.CalMD K "KeyOrder.__init__" s_KeyOrder___init__ [.non] A.f_KeyOrder___init__ A.d_KeyOrder___init__
  h_KeyOrder_ahead : Meth K A.C_KeyOrder "ahead" A.f_KeyOrder_ahead
  c_KeyOrder_ahead : CalM K "ahead" "KeyOrder.ahead" s_KeyOrder_ahead ["self", "one", "other"] A.f_KeyOrder_ahead A.d_KeyOrder_ahead
  h_KeyOrder_counted : Meth K A.C_KeyOrder "counted" A.f_Order_counted
  h_KeyOrder_alike : Meth K A.C_KeyOrder "alike" A.f_Order_alike
  h_KeyOrder_many_asked : Meth K A.C_KeyOrder "many_asked" A.f_Order_many_asked
  m_DownOrder : mg "DownOrder" = some (.ref A.C_DownOrder)
  cl_DownOrder : Cls K A.C_DownOrder
  na_DownOrder_own_rule : NoAttr K A.C_DownOrder "own_rule"
  na_DownOrder_times_asked : NoAttr K A.C_DownOrder "times_asked"
  na_DownOrder_inner : NoAttr K A.C_DownOrder "inner"
  i_DownOrder : Mk K A.C_DownOrder A.f_DownOrder___init__
  c_DownOrder___init__ : CalM K "__init__" "DownOrder.__init__" s_DownOrder___init__ ["self", "order"] A.f_DownOrder___init__ A.d_DownOrder___init__
  h_DownOrder_ahead : Meth K A.C_DownOrder "ahead" A.f_DownOrder_ahead
  c_DownOrder_ahead : CalM K "ahead" "DownOrder.ahead" s_DownOrder_ahead ["self", "one", "other"] A.f_DownOrder_ahead A.d_DownOrder_ahead
  h_DownOrder_counted : Meth K A.C_DownOrder "counted" A.f_Order_counted
  h_DownOrder_alike : Meth K A.C_DownOrder "alike" A.f_Order_alike
  h_DownOrder_many_asked : Meth K A.C_DownOrder "many_asked" A.f_Order_many_asked
  m_ThenOrder : mg "ThenOrder" = some (.ref A.C_ThenOrder)
  cl_ThenOrder : Cls K A.C_ThenOrder
  na_ThenOrder_own_rule : NoAttr K A.C_ThenOrder "own_rule"
  na_ThenOrder_times_asked : NoAttr K A.C_ThenOrder "times_asked"
  na_ThenOrder_inner : NoAttr K A.C_ThenOrder "inner"
  na_ThenOrder_second_one : NoAttr K A.C_ThenOrder "second_one"
  i_ThenOrder : Mk K A.C_ThenOrder A.f_ThenOrder___init__
  c_ThenOrder___init__ : CalMF K "__init__" "ThenOrder.__init__" s_ThenOrder___init__ A.f_ThenOrder___init__ A.d_ThenOrder___init__
  h_ThenOrder_ahead : Meth K A.C_ThenOrder "ahead" A.f_ThenOrder_ahead
  c_ThenOrder_ahead : CalM K "ahead" "ThenOrder.ahead" s_ThenOrder_ahead ["self", "one", "other"] A.f_ThenOrder_ahead A.d_ThenOrder_ahead
  h_ThenOrder_counted : Meth K A.C_ThenOrder "counted" A.f_Order_counted
  h_ThenOrder_alike : Meth K A.C_ThenOrder "alike" A.f_Order_alike
  h_ThenOrder_many_asked : Meth K A.C_ThenOrder "many_asked" A.f_Order_many_asked
  c_need_order : Cal K mg "need_order" s_need_order ["thing"] A.f_need_order A.d_need_order
  c__law_mixed : Cal K mg "_law_mixed" s_l_mixed ["_law_drawn", "_law_k"] A.f__law_mixed A.d__law_mixed
  c__law_take : Cal K mg "_law_take" s_l_take ["_law_stream", "_law_many"] A.f__law_take A.d__law_take
  c__law_kinds_by : Cal K mg "_law_kinds_by" s_l_kinds_by ["_law_stream", "_law_many"] A.f__law_kinds_by A.d__law_kinds_by
  c__law_noted : Cal K mg "_law_noted" s_l_noted ["_law_notes", "_law_halt", "_law_what"] A.f__law_noted A.d__law_noted
  cx__law_rule : Xc.FunC K "_law_rule" "_law_rule" s_l_rule A.f__law_rule A.d__law_rule A.cc__law_rule
  nt__law_rule : K.lookup 265 = none
  ht__law_rule : PySem.W.codeHdIn K A.cc__law_rule 265 = true
  c__law_rule : Cal K mg "_law_rule" s_l_rule ["_law_notes", "_law_halt", "_law_part"] A.f__law_rule A.d__law_rule
  cx__law_key : Xc.FunC K "_law_key" "_law_key" s_l_key A.f__law_key A.d__law_key A.cc__law_key
  nt__law_key : K.lookup 272 = none
  ht__law_key : PySem.W.codeHdIn K A.cc__law_key 272 = true
  c__law_key : Cal K mg "_law_key" s_l_key ["_law_notes", "_law_halt", "_law_part", "_law_whole"] A.f__law_key A.d__law_key
  c__law_orders : Cal K mg "_law_orders" s_l_orders ["_law_rows", "_law_notes", "_law_halt"] A.f__law_orders A.d__law_orders
  c__law_keyed : Cal K mg "_law_keyed" s_l_keyed ["_law_due", "_law_what"] A.f__law_keyed A.d__law_keyed
  c__law_ahead : Cal K mg "_law_ahead" s_l_ahead ["_law_rows", "_law_due", "_law_k", "_law_item", "_law_mate"] A.f__law_ahead A.d__law_ahead
  c__law_alike : Cal K mg "_law_alike" s_l_alike ["_law_rows", "_law_due", "_law_k", "_law_item", "_law_mate"] A.f__law_alike A.d__law_alike
  c__law_called : Cal K mg "_law_called" s_l_called ["_law_house", "_law_is_alike", "_law_item", "_law_mate", "_law_way"] A.f__law_called A.d__law_called
  c__law_asked : Cal K mg "_law_asked" s_l_asked ["_law_house", "_law_is_alike", "_law_item", "_law_mate", "_law_way"] A.f__law_asked A.d__law_asked
  cx__law_by_hand_right : Xc.FunC K "_law_by_hand_right" "_law_by_hand_right" s_l_by_hand_right A.f__law_by_hand_right A.d__law_by_hand_right A.cc__law_by_hand_right
  nt__law_by_hand_right : K.lookup 321 = none
  ht__law_by_hand_right : PySem.W.codeHdIn K A.cc__law_by_hand_right 321 = true
  c__law_by_hand_right : Cal K mg "_law_by_hand_right" s_l_by_hand_right [] A.f__law_by_hand_right A.d__law_by_hand_right
  c_law : Cal K mg "law" s_law ["_law_script"] A.f_law A.d_law
  x_stat : PySem.W.nsIn K cStatics "sys.int_max_str_digits" = some none
  x_any_Stopped : PySem.W.exmAny K (.ref A.C_Stopped) [.ref A.C_Stopped] = some true
  x_i_Order : PySem.W.kitOne K (.ref A.C_Order) (.ref A.C_Order) = some true
  x_oha_Order : PySem.W.findIn K (.ref A.C_Order) "__class__" = some (some (.builtin "object.__class__"))
  x_ohm_Order : PySem.W.mroIn K A.C_Order (.type "object") = some true
  x_i_PlainOrder : PySem.W.kitOne K (.ref A.C_PlainOrder) (.ref A.C_Order) = some true
  x_oha_PlainOrder : PySem.W.findIn K (.ref A.C_PlainOrder) "__class__" = some (some (.builtin "object.__class__"))
  x_ohm_PlainOrder : PySem.W.mroIn K A.C_PlainOrder (.type "object") = some true
  x_i_KeyOrder : PySem.W.kitOne K (.ref A.C_KeyOrder) (.ref A.C_Order) = some true
  x_oha_KeyOrder : PySem.W.findIn K (.ref A.C_KeyOrder) "__class__" = some (some (.builtin "object.__class__"))
  x_ohm_KeyOrder : PySem.W.mroIn K A.C_KeyOrder (.type "object") = some true
  x_i_DownOrder : PySem.W.kitOne K (.ref A.C_DownOrder) (.ref A.C_Order) = some true
  x_oha_DownOrder : PySem.W.findIn K (.ref A.C_DownOrder) "__class__" = some (some (.builtin "object.__class__"))
  x_ohm_DownOrder : PySem.W.mroIn K A.C_DownOrder (.type "object") = some true
  x_i_ThenOrder : PySem.W.kitOne K (.ref A.C_ThenOrder) (.ref A.C_Order) = some true
  x_oha_ThenOrder : PySem.W.findIn K (.ref A.C_ThenOrder) "__class__" = some (some (.builtin "object.__class__"))
  x_ohm_ThenOrder : PySem.W.mroIn K A.C_ThenOrder (.type "object") = some true
  x_ohn : PySem.W.specialIn K (.builtin "object.__class__") "__get__" = some (some (.builtin "getset_descriptor.__get__"))
  x_oht : PySem.W.takesIn K (.builtin "object.__class__") = some true
  n_len : mg "len" = none
  n_min : mg "min" = none
  n_range : mg "range" = none
  n_repr : mg "repr" = none
  n_isinstance : mg "isinstance" = none
  n_bool : mg "bool" = none
  n_tuple : mg "tuple" = none
  n_TypeError : mg "TypeError" = none
  n_RuntimeError : mg "RuntimeError" = none
  n_Exception : mg "Exception" = none
set_option maxHeartbeats 0 in
theorem all_mk {K : PySem.W.Frag} {mg : Str → Option Value} {w : World} {h : Heap} {C_BadAnswer : Addr} {f_BadAnswer___init__ : Addr} {oc_BadAnswer___init__ doc_BadAnswer___init__ pm_BadAnswer___init__ cd_BadAnswer___init__ ct_BadAnswer___init__ kV_BadAnswer___init__ : Value} {od_BadAnswer___init__ an_BadAnswer___init__ : Option Addr} {osl_BadAnswer___init__ : Array (Option Value)} {C_BadKind : Addr} {f_BadKind___init__ : Addr} {oc_BadKind___init__ doc_BadKind___init__ pm_BadKind___init__ cd_BadKind___init__ ct_BadKind___init__ kV_BadKind___init__ : Value} {od_BadKind___init__ an_BadKind___init__ : Option Addr} {osl_BadKind___init__ : Array (Option Value)} {C_Stopped : Addr} {f_Stopped___init__ : Addr} {oc_Stopped___init__ doc_Stopped___init__ pm_Stopped___init__ cd_Stopped___init__ ct_Stopped___init__ kV_Stopped___init__ : Value} {od_Stopped___init__ an_Stopped___init__ : Option Addr} {osl_Stopped___init__ : Array (Option Value)} {C_Order : Addr} {f_Order___init__ : Addr} {oc_Order___init__ doc_Order___init__ pm_Order___init__ cd_Order___init__ ct_Order___init__ kV_Order___init__ : Value} {od_Order___init__ an_Order___init__ : Option Addr} {osl_Order___init__ : Array (Option Value)} {f_Order_counted : Addr} {oc_Order_counted doc_Order_counted pm_Order_counted cd_Order_counted ct_Order_counted kV_Order_counted : Value} {od_Order_counted an_Order_counted : Option Addr} {osl_Order_counted : Array (Option Value)} {f_Order_ahead : Addr} {oc_Order_ahead doc_Order_ahead pm_Order_ahead cd_Order_ahead ct_Order_ahead kV_Order_ahead : Value} {od_Order_ahead an_Order_ahead : Option Addr} {osl_Order_ahead : Array (Option Value)} {f_Order_alike : Addr} {oc_Order_alike doc_Order_alike pm_Order_alike cd_Order_alike ct_Order_alike kV_Order_alike : Value} {od_Order_alike an_Order_alike : Option Addr} {osl_Order_alike : Array (Option Value)} {f_Order_many_asked : Addr} {oc_Order_many_asked doc_Order_many_asked pm_Order_many_asked cd_Order_many_asked ct_Order_many_asked kV_Order_many_asked : Value} {od_Order_many_asked an_Order_many_asked : Option Addr} {osl_Order_many_asked : Array (Option Value)} {C_PlainOrder : Addr} {f_PlainOrder___init__ : Addr} {oc_PlainOrder___init__ doc_PlainOrder___init__ pm_PlainOrder___init__ cd_PlainOrder___init__ ct_PlainOrder___init__ kV_PlainOrder___init__ : Value} {od_PlainOrder___init__ an_PlainOrder___init__ : Option Addr} {osl_PlainOrder___init__ : Array (Option Value)} {f_PlainOrder_ahead : Addr} {oc_PlainOrder_ahead doc_PlainOrder_ahead pm_PlainOrder_ahead cd_PlainOrder_ahead ct_PlainOrder_ahead kV_PlainOrder_ahead : Value} {od_PlainOrder_ahead an_PlainOrder_ahead : Option Addr} {osl_PlainOrder_ahead : Array (Option Value)} {C_KeyOrder : Addr} {DT_KeyOrder : Addr} {DO_KeyOrder : Obj} {DI_KeyOrder : List Value} {DN_KeyOrder : Nat} {f_KeyOrder___init__ : Addr} {oc_KeyOrder___init__ doc_KeyOrder___init__ pm_KeyOrder___init__ cd_KeyOrder___init__ ct_KeyOrder___init__ kV_KeyOrder___init__ : Value} {od_KeyOrder___init__ an_KeyOrder___init__ : Option Addr} {osl_KeyOrder___init__ : Array (Option Value)} {f_KeyOrder_ahead : Addr} {oc_KeyOrder_ahead doc_KeyOrder_ahead pm_KeyOrder_ahead cd_KeyOrder_ahead ct_KeyOrder_ahead kV_KeyOrder_ahead : Value} {od_KeyOrder_ahead an_KeyOrder_ahead : Option Addr} {osl_KeyOrder_ahead : Array (Option Value)} {C_DownOrder : Addr} {f_DownOrder___init__ : Addr} {oc_DownOrder___init__ doc_DownOrder___init__ pm_DownOrder___init__ cd_DownOrder___init__ ct_DownOrder___init__ kV_DownOrder___init__ : Value} {od_DownOrder___init__ an_DownOrder___init__ : Option Addr} {osl_DownOrder___init__ : Array (Option Value)} {f_DownOrder_ahead : Addr} {oc_DownOrder_ahead doc_DownOrder_ahead pm_DownOrder_ahead cd_DownOrder_ahead ct_DownOrder_ahead kV_DownOrder_ahead : Value} {od_DownOrder_ahead an_DownOrder_ahead : Option Addr} {osl_DownOrder_ahead : Array (Option Value)} {C_ThenOrder : Addr} {f_ThenOrder___init__ : Addr} {oc_ThenOrder___init__ doc_ThenOrder___init__ pm_ThenOrder___init__ cd_ThenOrder___init__ ct_ThenOrder___init__ kV_ThenOrder___init__ : Value} {od_ThenOrder___init__ an_ThenOrder___init__ : Option Addr} {osl_ThenOrder___init__ : Array (Option Value)} {f_ThenOrder_ahead : Addr} {oc_ThenOrder_ahead doc_ThenOrder_ahead pm_ThenOrder_ahead cd_ThenOrder_ahead ct_ThenOrder_ahead kV_ThenOrder_ahead : Value} {od_ThenOrder_ahead an_ThenOrder_ahead : Option Addr} {osl_ThenOrder_ahead : Array (Option Value)} {f_need_order : Addr} {oc_need_order doc_need_order pm_need_order cd_need_order ct_need_order kV_need_order : Value} {od_need_order an_need_order : Option Addr} {osl_need_order : Array (Option Value)} {f__law_mixed : Addr} {oc__law_mixed doc__law_mixed pm__law_mixed cd__law_mixed ct__law_mixed kV__law_mixed : Value} {od__law_mixed an__law_mixed : Option Addr} {osl__law_mixed : Array (Option Value)} {f__law_take : Addr} {oc__law_take doc__law_take pm__law_take cd__law_take ct__law_take kV__law_take : Value} {od__law_take an__law_take : Option Addr} {osl__law_take : Array (Option Value)} {f__law_kinds_by : Addr} {oc__law_kinds_by doc__law_kinds_by pm__law_kinds_by cd__law_kinds_by ct__law_kinds_by kV__law_kinds_by : Value} {od__law_kinds_by an__law_kinds_by : Option Addr} {osl__law_kinds_by : Array (Option Value)} {f__law_noted : Addr} {oc__law_noted doc__law_noted pm__law_noted cd__law_noted ct__law_noted kV__law_noted : Value} {od__law_noted an__law_noted : Option Addr} {osl__law_noted : Array (Option Value)} {f__law_rule : Addr} {oc__law_rule doc__law_rule pm__law_rule  ct__law_rule kV__law_rule : Value} {od__law_rule an__law_rule : Option Addr} {osl__law_rule : Array (Option Value)} {cc__law_rule : Addr} {f__law_key : Addr} {oc__law_key doc__law_key pm__law_key  ct__law_key kV__law_key : Value} {od__law_key an__law_key : Option Addr} {osl__law_key : Array (Option Value)} {cc__law_key : Addr} {f__law_orders : Addr} {oc__law_orders doc__law_orders pm__law_orders cd__law_orders ct__law_orders kV__law_orders : Value} {od__law_orders an__law_orders : Option Addr} {osl__law_orders : Array (Option Value)} {f__law_keyed : Addr} {oc__law_keyed doc__law_keyed pm__law_keyed cd__law_keyed ct__law_keyed kV__law_keyed : Value} {od__law_keyed an__law_keyed : Option Addr} {osl__law_keyed : Array (Option Value)} {f__law_ahead : Addr} {oc__law_ahead doc__law_ahead pm__law_ahead cd__law_ahead ct__law_ahead kV__law_ahead : Value} {od__law_ahead an__law_ahead : Option Addr} {osl__law_ahead : Array (Option Value)} {f__law_alike : Addr} {oc__law_alike doc__law_alike pm__law_alike cd__law_alike ct__law_alike kV__law_alike : Value} {od__law_alike an__law_alike : Option Addr} {osl__law_alike : Array (Option Value)} {f__law_called : Addr} {oc__law_called doc__law_called pm__law_called cd__law_called ct__law_called kV__law_called : Value} {od__law_called an__law_called : Option Addr} {osl__law_called : Array (Option Value)} {f__law_asked : Addr} {oc__law_asked doc__law_asked pm__law_asked cd__law_asked ct__law_asked kV__law_asked : Value} {od__law_asked an__law_asked : Option Addr} {osl__law_asked : Array (Option Value)} {f__law_by_hand_right : Addr} {oc__law_by_hand_right doc__law_by_hand_right pm__law_by_hand_right  ct__law_by_hand_right kV__law_by_hand_right : Value} {od__law_by_hand_right an__law_by_hand_right : Option Addr} {osl__law_by_hand_right : Array (Option Value)} {cc__law_by_hand_right : Addr} {f_law : Addr} {oc_law doc_law pm_law cd_law ct_law kV_law : Value} {od_law an_law : Option Addr} {osl_law : Array (Option Value)} (X : K.In h) (G : h.Ns mainGlobals mg)
    (a_BadAnswer : PySem.W.nsIn K mainGlobals "BadAnswer" = some (some (.ref C_BadAnswer)))
    (ini_BadAnswer : PySem.W.excInitIn K C_BadAnswer [.type "TypeError", .type "Exception", .type "BaseException", .type "object"] "TypeError.__new__" = true)
    (ovr_BadAnswer : PySem.W.excOver K C_BadAnswer [.type "TypeError", .type "Exception", .type "BaseException", .type "object"] = true)
    (dic_BadAnswer : PySem.W.hasDictIn K C_BadAnswer = true)
    (sav_BadAnswer : PySem.W.findIn K (.ref C_BadAnswer) "__setattr__" = some (some (.builtin "object.__setattr__")))
    (bex_BadAnswer : PySem.W.subIn K (.ref C_BadAnswer) (.type "BaseException") = some true)
    (tyc_BadAnswer : PySem.W.typeIn K (.ref C_BadAnswer) = some (.type "type"))
    (kpc_BadAnswer : PySem.W.keepIn K (.ref C_BadAnswer) = true)
    (xcl_BadAnswer : (PySem.W.clsIn K C_BadAnswer).isSome = true)
    (xga_BadAnswer : PySem.W.findIn K (.ref C_BadAnswer) "__getattribute__" = some (some (.builtin "BaseException.__getattribute__")))
    (xgg_BadAnswer : PySem.W.findIn K (.ref C_BadAnswer) "__getattr__" = some none)
    (xha_BadAnswer : PySem.W.findIn K (.ref C_BadAnswer) "__class__" = some (some (.builtin "object.__class__")))
    (xhn_BadAnswer : PySem.W.specialIn K (.builtin "object.__class__") "__get__" = some (some (.builtin "getset_descriptor.__get__")))
    (xht_BadAnswer : PySem.W.takesIn K (.builtin "object.__class__") = some true)
    (xhm_BadAnswer : PySem.W.mroIn K C_BadAnswer (.type "object") = some true)
    (tk_BadAnswer_answer : PySem.W.takerIn K C_BadAnswer "answer" = some none)
    (na_BadAnswer_answer : PySem.W.findIn K (.ref C_BadAnswer) "answer" = some none)
    (a_BadAnswer___init__ : PySem.W.findIn K (.ref C_BadAnswer) "__init__" = some (some (.ref f_BadAnswer___init__)))
    (y_BadAnswer___init__ : PySem.W.typeIn K (.ref f_BadAnswer___init__) = some (.type "function"))
    (l_BadAnswer___init__ : K.lookup f_BadAnswer___init__ = some ⟨oc_BadAnswer___init__, od_BadAnswer___init__, .func (PySem.W.fnOf "__init__" "BadAnswer.__init__" (defArgs s_BadAnswer___init__) (defBody s_BadAnswer___init__) (defScope s_BadAnswer___init__) .none kV_BadAnswer___init__ doc_BadAnswer___init__ pm_BadAnswer___init__ an_BadAnswer___init__ cd_BadAnswer___init__ ct_BadAnswer___init__), osl_BadAnswer___init__⟩)
    (e_BadAnswer___init__ : PySem.W.codeIn K cd_BadAnswer___init__ "BadAnswer.__init__" = true)
    (k_BadAnswer___init__ : PySem.W.keepIn K (.ref f_BadAnswer___init__) = true)
    (v_BadAnswer : PySem.W.findCls K (.type "TypeError") (.type "type") "__init__" = some (.val (.builtin "TypeError.__init__")))
    (a_BadKind : PySem.W.nsIn K mainGlobals "BadKind" = some (some (.ref C_BadKind)))
    (ini_BadKind : PySem.W.excInitIn K C_BadKind [.type "TypeError", .type "Exception", .type "BaseException", .type "object"] "TypeError.__new__" = true)
    (ovr_BadKind : PySem.W.excOver K C_BadKind [.type "TypeError", .type "Exception", .type "BaseException", .type "object"] = true)
    (dic_BadKind : PySem.W.hasDictIn K C_BadKind = true)
    (sav_BadKind : PySem.W.findIn K (.ref C_BadKind) "__setattr__" = some (some (.builtin "object.__setattr__")))
    (bex_BadKind : PySem.W.subIn K (.ref C_BadKind) (.type "BaseException") = some true)
    (tyc_BadKind : PySem.W.typeIn K (.ref C_BadKind) = some (.type "type"))
    (kpc_BadKind : PySem.W.keepIn K (.ref C_BadKind) = true)
    (xcl_BadKind : (PySem.W.clsIn K C_BadKind).isSome = true)
    (xga_BadKind : PySem.W.findIn K (.ref C_BadKind) "__getattribute__" = some (some (.builtin "BaseException.__getattribute__")))
    (xgg_BadKind : PySem.W.findIn K (.ref C_BadKind) "__getattr__" = some none)
    (xha_BadKind : PySem.W.findIn K (.ref C_BadKind) "__class__" = some (some (.builtin "object.__class__")))
    (xhn_BadKind : PySem.W.specialIn K (.builtin "object.__class__") "__get__" = some (some (.builtin "getset_descriptor.__get__")))
    (xht_BadKind : PySem.W.takesIn K (.builtin "object.__class__") = some true)
    (xhm_BadKind : PySem.W.mroIn K C_BadKind (.type "object") = some true)
    (tk_BadKind_wanted : PySem.W.takerIn K C_BadKind "wanted" = some none)
    (na_BadKind_wanted : PySem.W.findIn K (.ref C_BadKind) "wanted" = some none)
    (a_BadKind___init__ : PySem.W.findIn K (.ref C_BadKind) "__init__" = some (some (.ref f_BadKind___init__)))
    (y_BadKind___init__ : PySem.W.typeIn K (.ref f_BadKind___init__) = some (.type "function"))
    (l_BadKind___init__ : K.lookup f_BadKind___init__ = some ⟨oc_BadKind___init__, od_BadKind___init__, .func (PySem.W.fnOf "__init__" "BadKind.__init__" (defArgs s_BadKind___init__) (defBody s_BadKind___init__) (defScope s_BadKind___init__) .none kV_BadKind___init__ doc_BadKind___init__ pm_BadKind___init__ an_BadKind___init__ cd_BadKind___init__ ct_BadKind___init__), osl_BadKind___init__⟩)
    (e_BadKind___init__ : PySem.W.codeIn K cd_BadKind___init__ "BadKind.__init__" = true)
    (k_BadKind___init__ : PySem.W.keepIn K (.ref f_BadKind___init__) = true)
    (v_BadKind : PySem.W.findCls K (.type "TypeError") (.type "type") "__init__" = some (.val (.builtin "TypeError.__init__")))
    (a_Stopped : PySem.W.nsIn K mainGlobals "Stopped" = some (some (.ref C_Stopped)))
    (ini_Stopped : PySem.W.excInitIn K C_Stopped [.type "RuntimeError", .type "Exception", .type "BaseException", .type "object"] "RuntimeError.__new__" = true)
    (ovr_Stopped : PySem.W.excOver K C_Stopped [.type "RuntimeError", .type "Exception", .type "BaseException", .type "object"] = true)
    (dic_Stopped : PySem.W.hasDictIn K C_Stopped = true)
    (sav_Stopped : PySem.W.findIn K (.ref C_Stopped) "__setattr__" = some (some (.builtin "object.__setattr__")))
    (bex_Stopped : PySem.W.subIn K (.ref C_Stopped) (.type "BaseException") = some true)
    (tyc_Stopped : PySem.W.typeIn K (.ref C_Stopped) = some (.type "type"))
    (kpc_Stopped : PySem.W.keepIn K (.ref C_Stopped) = true)
    (xcl_Stopped : (PySem.W.clsIn K C_Stopped).isSome = true)
    (xga_Stopped : PySem.W.findIn K (.ref C_Stopped) "__getattribute__" = some (some (.builtin "BaseException.__getattribute__")))
    (xgg_Stopped : PySem.W.findIn K (.ref C_Stopped) "__getattr__" = some none)
    (xha_Stopped : PySem.W.findIn K (.ref C_Stopped) "__class__" = some (some (.builtin "object.__class__")))
    (xhn_Stopped : PySem.W.specialIn K (.builtin "object.__class__") "__get__" = some (some (.builtin "getset_descriptor.__get__")))
    (xht_Stopped : PySem.W.takesIn K (.builtin "object.__class__") = some true)
    (xhm_Stopped : PySem.W.mroIn K C_Stopped (.type "object") = some true)
    (tk_Stopped_at : PySem.W.takerIn K C_Stopped "at" = some none)
    (na_Stopped_at : PySem.W.findIn K (.ref C_Stopped) "at" = some none)
    (a_Stopped___init__ : PySem.W.findIn K (.ref C_Stopped) "__init__" = some (some (.ref f_Stopped___init__)))
    (y_Stopped___init__ : PySem.W.typeIn K (.ref f_Stopped___init__) = some (.type "function"))
    (l_Stopped___init__ : K.lookup f_Stopped___init__ = some ⟨oc_Stopped___init__, od_Stopped___init__, .func (PySem.W.fnOf "__init__" "Stopped.__init__" (defArgs s_Stopped___init__) (defBody s_Stopped___init__) (defScope s_Stopped___init__) .none kV_Stopped___init__ doc_Stopped___init__ pm_Stopped___init__ an_Stopped___init__ cd_Stopped___init__ ct_Stopped___init__), osl_Stopped___init__⟩)
    (e_Stopped___init__ : PySem.W.codeIn K cd_Stopped___init__ "Stopped.__init__" = true)
    (k_Stopped___init__ : PySem.W.keepIn K (.ref f_Stopped___init__) = true)
    (v_Stopped : PySem.W.findCls K (.type "RuntimeError") (.type "type") "__init__" = some (.val (.builtin "RuntimeError.__init__")))
    (a_Order : PySem.W.nsIn K mainGlobals "Order" = some (some (.ref C_Order)))
    (pg_Order : PySem.W.plainGet K C_Order Str.empty = true)
    (hd_Order : PySem.W.hasDictIn K C_Order = true)
    (po_Order : PySem.W.plainOver K C_Order = true)
    (sa_Order : PySem.W.findIn K (.ref C_Order) "__setattr__" = some (some (.builtin "object.__setattr__")))
    (mk_Order : PySem.W.makesIn K C_Order = true)
    (kc_Order : PySem.W.keepIn K (.ref C_Order) = true)
    (na_Order_own_rule : PySem.W.findIn K (.ref C_Order) "own_rule" = some none)
    (na_Order_times_asked : PySem.W.findIn K (.ref C_Order) "times_asked" = some none)
    (a_Order___init__ : PySem.W.findIn K (.ref C_Order) "__init__" = some (some (.ref f_Order___init__)))
    (i_Order___init__ : PySem.W.isFn K (.ref f_Order___init__) = true)
    (l_Order___init__ : K.lookup f_Order___init__ = some ⟨oc_Order___init__, od_Order___init__, .func (PySem.W.fnOf "__init__" "Order.__init__" (defArgs s_Order___init__) (defBody s_Order___init__) (defScope s_Order___init__) .none kV_Order___init__ doc_Order___init__ pm_Order___init__ an_Order___init__ cd_Order___init__ ct_Order___init__), osl_Order___init__⟩)
    (e_Order___init__ : PySem.W.codeIn K cd_Order___init__ "Order.__init__" = true)
    (k_Order___init__ : PySem.W.keepIn K (.ref f_Order___init__) = true)
    (a_Order_counted : PySem.W.findIn K (.ref C_Order) "counted" = some (some (.ref f_Order_counted)))
    (i_Order_counted : PySem.W.isFn K (.ref f_Order_counted) = true)
    (l_Order_counted : K.lookup f_Order_counted = some ⟨oc_Order_counted, od_Order_counted, .func (PySem.W.fnOf "counted" "Order.counted" (defArgs s_Order_counted) (defBody s_Order_counted) (defScope s_Order_counted) .none kV_Order_counted doc_Order_counted pm_Order_counted an_Order_counted cd_Order_counted ct_Order_counted), osl_Order_counted⟩)
    (e_Order_counted : PySem.W.codeIn K cd_Order_counted "Order.counted" = true)
    (k_Order_counted : PySem.W.keepIn K (.ref f_Order_counted) = true)
    (a_Order_ahead : PySem.W.findIn K (.ref C_Order) "ahead" = some (some (.ref f_Order_ahead)))
    (i_Order_ahead : PySem.W.isFn K (.ref f_Order_ahead) = true)
    (l_Order_ahead : K.lookup f_Order_ahead = some ⟨oc_Order_ahead, od_Order_ahead, .func (PySem.W.fnOf "ahead" "Order.ahead" (defArgs s_Order_ahead) (defBody s_Order_ahead) (defScope s_Order_ahead) .none kV_Order_ahead doc_Order_ahead pm_Order_ahead an_Order_ahead cd_Order_ahead ct_Order_ahead), osl_Order_ahead⟩)
    (e_Order_ahead : PySem.W.codeIn K cd_Order_ahead "Order.ahead" = true)
    (k_Order_ahead : PySem.W.keepIn K (.ref f_Order_ahead) = true)
    (a_Order_alike : PySem.W.findIn K (.ref C_Order) "alike" = some (some (.ref f_Order_alike)))
    (i_Order_alike : PySem.W.isFn K (.ref f_Order_alike) = true)
    (l_Order_alike : K.lookup f_Order_alike = some ⟨oc_Order_alike, od_Order_alike, .func (PySem.W.fnOf "alike" "Order.alike" (defArgs s_Order_alike) (defBody s_Order_alike) (defScope s_Order_alike) .none kV_Order_alike doc_Order_alike pm_Order_alike an_Order_alike cd_Order_alike ct_Order_alike), osl_Order_alike⟩)
    (e_Order_alike : PySem.W.codeIn K cd_Order_alike "Order.alike" = true)
    (k_Order_alike : PySem.W.keepIn K (.ref f_Order_alike) = true)
    (a_Order_many_asked : PySem.W.findIn K (.ref C_Order) "many_asked" = some (some (.ref f_Order_many_asked)))
    (i_Order_many_asked : PySem.W.isFn K (.ref f_Order_many_asked) = true)
    (l_Order_many_asked : K.lookup f_Order_many_asked = some ⟨oc_Order_many_asked, od_Order_many_asked, .func (PySem.W.fnOf "many_asked" "Order.many_asked" (defArgs s_Order_many_asked) (defBody s_Order_many_asked) (defScope s_Order_many_asked) .none kV_Order_many_asked doc_Order_many_asked pm_Order_many_asked an_Order_many_asked cd_Order_many_asked ct_Order_many_asked), osl_Order_many_asked⟩)
    (e_Order_many_asked : PySem.W.codeIn K cd_Order_many_asked "Order.many_asked" = true)
    (k_Order_many_asked : PySem.W.keepIn K (.ref f_Order_many_asked) = true)
    (rd_Order : PySem.W.readsIn K C_Order (.type "type") = true)
    (rg_Order : PySem.W.specialIn K (.ref C_Order) "__getattribute__" = some (some (.builtin "type.__getattribute__")))
    (vi_Order : PySem.W.findCls K (.ref C_Order) (.type "type") "__init__" = some (.val (.ref f_Order___init__)))
    (a_PlainOrder : PySem.W.nsIn K mainGlobals "PlainOrder" = some (some (.ref C_PlainOrder)))
    (pg_PlainOrder : PySem.W.plainGet K C_PlainOrder Str.empty = true)
    (hd_PlainOrder : PySem.W.hasDictIn K C_PlainOrder = true)
    (po_PlainOrder : PySem.W.plainOver K C_PlainOrder = true)
    (sa_PlainOrder : PySem.W.findIn K (.ref C_PlainOrder) "__setattr__" = some (some (.builtin "object.__setattr__")))
    (mk_PlainOrder : PySem.W.makesIn K C_PlainOrder = true)
    (kc_PlainOrder : PySem.W.keepIn K (.ref C_PlainOrder) = true)
    (na_PlainOrder_own_rule : PySem.W.findIn K (.ref C_PlainOrder) "own_rule" = some none)
    (na_PlainOrder_times_asked : PySem.W.findIn K (.ref C_PlainOrder) "times_asked" = some none)
    (a_PlainOrder___init__ : PySem.W.findIn K (.ref C_PlainOrder) "__init__" = some (some (.ref f_PlainOrder___init__)))
    (i_PlainOrder___init__ : PySem.W.isFn K (.ref f_PlainOrder___init__) = true)
    (l_PlainOrder___init__ : K.lookup f_PlainOrder___init__ = some ⟨oc_PlainOrder___init__, od_PlainOrder___init__, .func (PySem.W.fnOf "__init__" "PlainOrder.__init__" (defArgs s_PlainOrder___init__) (defBody s_PlainOrder___init__) (defScope s_PlainOrder___init__) .none kV_PlainOrder___init__ doc_PlainOrder___init__ pm_PlainOrder___init__ an_PlainOrder___init__ cd_PlainOrder___init__ ct_PlainOrder___init__), osl_PlainOrder___init__⟩)
    (e_PlainOrder___init__ : PySem.W.codeIn K cd_PlainOrder___init__ "PlainOrder.__init__" = true)
    (k_PlainOrder___init__ : PySem.W.keepIn K (.ref f_PlainOrder___init__) = true)
    (a_PlainOrder_ahead : PySem.W.findIn K (.ref C_PlainOrder) "ahead" = some (some (.ref f_PlainOrder_ahead)))
    (i_PlainOrder_ahead : PySem.W.isFn K (.ref f_PlainOrder_ahead) = true)
    (l_PlainOrder_ahead : K.lookup f_PlainOrder_ahead = some ⟨oc_PlainOrder_ahead, od_PlainOrder_ahead, .func (PySem.W.fnOf "ahead" "PlainOrder.ahead" (defArgs s_PlainOrder_ahead) (defBody s_PlainOrder_ahead) (defScope s_PlainOrder_ahead) .none kV_PlainOrder_ahead doc_PlainOrder_ahead pm_PlainOrder_ahead an_PlainOrder_ahead cd_PlainOrder_ahead ct_PlainOrder_ahead), osl_PlainOrder_ahead⟩)
    (e_PlainOrder_ahead : PySem.W.codeIn K cd_PlainOrder_ahead "PlainOrder.ahead" = true)
    (k_PlainOrder_ahead : PySem.W.keepIn K (.ref f_PlainOrder_ahead) = true)
    (a_PlainOrder_counted : PySem.W.findIn K (.ref C_PlainOrder) "counted" = some (some (.ref f_Order_counted)))
    (a_PlainOrder_alike : PySem.W.findIn K (.ref C_PlainOrder) "alike" = some (some (.ref f_Order_alike)))
    (a_PlainOrder_many_asked : PySem.W.findIn K (.ref C_PlainOrder) "many_asked" = some (some (.ref f_Order_many_asked)))
    (a_KeyOrder : PySem.W.nsIn K mainGlobals "KeyOrder" = some (some (.ref C_KeyOrder)))
    (pg_KeyOrder : PySem.W.plainGet K C_KeyOrder Str.empty = true)
    (hd_KeyOrder : PySem.W.hasDictIn K C_KeyOrder = true)
    (po_KeyOrder : PySem.W.plainOver K C_KeyOrder = true)
    (sa_KeyOrder : PySem.W.findIn K (.ref C_KeyOrder) "__setattr__" = some (some (.builtin "object.__setattr__")))
    (mk_KeyOrder : PySem.W.makesIn K C_KeyOrder = true)
    (kc_KeyOrder : PySem.W.keepIn K (.ref C_KeyOrder) = true)
    (na_KeyOrder_own_rule : PySem.W.findIn K (.ref C_KeyOrder) "own_rule" = some none)
    (na_KeyOrder_times_asked : PySem.W.findIn K (.ref C_KeyOrder) "times_asked" = some none)
    (na_KeyOrder_inner : PySem.W.findIn K (.ref C_KeyOrder) "inner" = some none)
    (na_KeyOrder_own_key : PySem.W.findIn K (.ref C_KeyOrder) "own_key" = some none)
    (a_KeyOrder___init__ : PySem.W.findIn K (.ref C_KeyOrder) "__init__" = some (some (.ref f_KeyOrder___init__)))
    (i_KeyOrder___init__ : PySem.W.isFn K (.ref f_KeyOrder___init__) = true)
    (l_KeyOrder___init__ : K.lookup f_KeyOrder___init__ = some ⟨oc_KeyOrder___init__, od_KeyOrder___init__, .func (PySem.W.fnOf "__init__" "KeyOrder.__init__" (defArgs s_KeyOrder___init__) (defBody s_KeyOrder___init__) (defScope s_KeyOrder___init__) (.ref DT_KeyOrder) kV_KeyOrder___init__ doc_KeyOrder___init__ pm_KeyOrder___init__ an_KeyOrder___init__ cd_KeyOrder___init__ ct_KeyOrder___init__), osl_KeyOrder___init__⟩)
    (e_KeyOrder___init__ : PySem.W.codeIn K cd_KeyOrder___init__ "KeyOrder.__init__" = true)
    (k_KeyOrder___init__ : PySem.W.keepIn K (.ref f_KeyOrder___init__) = true)
    (dl_KeyOrder : K.lookup DT_KeyOrder = some DO_KeyOrder)
    (do_KeyOrder : DO_KeyOrder.data = .seq DI_KeyOrder.toArray DN_KeyOrder)
    (dr_KeyOrder : Vals [.non] DI_KeyOrder)
    (a_KeyOrder_ahead : PySem.W.findIn K (.ref C_KeyOrder) "ahead" = some (some (.ref f_KeyOrder_ahead)))
    (i_KeyOrder_ahead : PySem.W.isFn K (.ref f_KeyOrder_ahead) = true)
    (l_KeyOrder_ahead : K.lookup f_KeyOrder_ahead = some ⟨oc_KeyOrder_ahead, od_KeyOrder_ahead, .func (PySem.W.fnOf "ahead" "KeyOrder.ahead" (defArgs s_KeyOrder_ahead) (defBody s_KeyOrder_ahead) (defScope s_KeyOrder_ahead) .none kV_KeyOrder_ahead doc_KeyOrder_ahead pm_KeyOrder_ahead an_KeyOrder_ahead cd_KeyOrder_ahead ct_KeyOrder_ahead), osl_KeyOrder_ahead⟩)
    (e_KeyOrder_ahead : PySem.W.codeIn K cd_KeyOrder_ahead "KeyOrder.ahead" = true)
    (k_KeyOrder_ahead : PySem.W.keepIn K (.ref f_KeyOrder_ahead) = true)
    (a_KeyOrder_counted : PySem.W.findIn K (.ref C_KeyOrder) "counted" = some (some (.ref f_Order_counted)))
    (a_KeyOrder_alike : PySem.W.findIn K (.ref C_KeyOrder) "alike" = some (some (.ref f_Order_alike)))
    (a_KeyOrder_many_asked : PySem.W.findIn K (.ref C_KeyOrder) "many_asked" = some (some (.ref f_Order_many_asked)))
    (a_DownOrder : PySem.W.nsIn K mainGlobals "DownOrder" = some (some (.ref C_DownOrder)))
    (pg_DownOrder : PySem.W.plainGet K C_DownOrder Str.empty = true)
    (hd_DownOrder : PySem.W.hasDictIn K C_DownOrder = true)
    (po_DownOrder : PySem.W.plainOver K C_DownOrder = true)
    (sa_DownOrder : PySem.W.findIn K (.ref C_DownOrder) "__setattr__" = some (some (.builtin "object.__setattr__")))
    (mk_DownOrder : PySem.W.makesIn K C_DownOrder = true)
    (kc_DownOrder : PySem.W.keepIn K (.ref C_DownOrder) = true)
    (na_DownOrder_own_rule : PySem.W.findIn K (.ref C_DownOrder) "own_rule" = some none)
    (na_DownOrder_times_asked : PySem.W.findIn K (.ref C_DownOrder) "times_asked" = some none)
    (na_DownOrder_inner : PySem.W.findIn K (.ref C_DownOrder) "inner" = some none)
    (a_DownOrder___init__ : PySem.W.findIn K (.ref C_DownOrder) "__init__" = some (some (.ref f_DownOrder___init__)))
    (i_DownOrder___init__ : PySem.W.isFn K (.ref f_DownOrder___init__) = true)
    (l_DownOrder___init__ : K.lookup f_DownOrder___init__ = some ⟨oc_DownOrder___init__, od_DownOrder___init__, .func (PySem.W.fnOf "__init__" "DownOrder.__init__" (defArgs s_DownOrder___init__) (defBody s_DownOrder___init__) (defScope s_DownOrder___init__) .none kV_DownOrder___init__ doc_DownOrder___init__ pm_DownOrder___init__ an_DownOrder___init__ cd_DownOrder___init__ ct_DownOrder___init__), osl_DownOrder___init__⟩)
    (e_DownOrder___init__ : PySem.W.codeIn K cd_DownOrder___init__ "DownOrder.__init__" = true)
    (k_DownOrder___init__ : PySem.W.keepIn K (.ref f_DownOrder___init__) = true)
    (a_DownOrder_ahead : PySem.W.findIn K (.ref C_DownOrder) "ahead" = some (some (.ref f_DownOrder_ahead)))
    (i_DownOrder_ahead : PySem.W.isFn K (.ref f_DownOrder_ahead) = true)
    (l_DownOrder_ahead : K.lookup f_DownOrder_ahead = some ⟨oc_DownOrder_ahead, od_DownOrder_ahead, .func (PySem.W.fnOf "ahead" "DownOrder.ahead" (defArgs s_DownOrder_ahead) (defBody s_DownOrder_ahead) (defScope s_DownOrder_ahead) .none kV_DownOrder_ahead doc_DownOrder_ahead pm_DownOrder_ahead an_DownOrder_ahead cd_DownOrder_ahead ct_DownOrder_ahead), osl_DownOrder_ahead⟩)
    (e_DownOrder_ahead : PySem.W.codeIn K cd_DownOrder_ahead "DownOrder.ahead" = true)
    (k_DownOrder_ahead : PySem.W.keepIn K (.ref f_DownOrder_ahead) = true)
    (a_DownOrder_counted : PySem.W.findIn K (.ref C_DownOrder) "counted" = some (some (.ref f_Order_counted)))
    (a_DownOrder_alike : PySem.W.findIn K (.ref C_DownOrder) "alike" = some (some (.ref f_Order_alike)))
    (a_DownOrder_many_asked : PySem.W.findIn K (.ref C_DownOrder) "many_asked" = some (some (.ref f_Order_many_asked)))
    (a_ThenOrder : PySem.W.nsIn K mainGlobals "ThenOrder" = some (some (.ref C_ThenOrder)))
    (pg_ThenOrder : PySem.W.plainGet K C_ThenOrder Str.empty = true)
    (hd_ThenOrder : PySem.W.hasDictIn K C_ThenOrder = true)
    (po_ThenOrder : PySem.W.plainOver K C_ThenOrder = true)
    (sa_ThenOrder : PySem.W.findIn K (.ref C_ThenOrder) "__setattr__" = some (some (.builtin "object.__setattr__")))
    (mk_ThenOrder : PySem.W.makesIn K C_ThenOrder = true)
    (kc_ThenOrder : PySem.W.keepIn K (.ref C_ThenOrder) = true)
    (na_ThenOrder_own_rule : PySem.W.findIn K (.ref C_ThenOrder) "own_rule" = some none)
    (na_ThenOrder_times_asked : PySem.W.findIn K (.ref C_ThenOrder) "times_asked" = some none)
    (na_ThenOrder_inner : PySem.W.findIn K (.ref C_ThenOrder) "inner" = some none)
    (na_ThenOrder_second_one : PySem.W.findIn K (.ref C_ThenOrder) "second_one" = some none)
    (a_ThenOrder___init__ : PySem.W.findIn K (.ref C_ThenOrder) "__init__" = some (some (.ref f_ThenOrder___init__)))
    (i_ThenOrder___init__ : PySem.W.isFn K (.ref f_ThenOrder___init__) = true)
    (l_ThenOrder___init__ : K.lookup f_ThenOrder___init__ = some ⟨oc_ThenOrder___init__, od_ThenOrder___init__, .func (PySem.W.fnOf "__init__" "ThenOrder.__init__" (defArgs s_ThenOrder___init__) (defBody s_ThenOrder___init__) (defScope s_ThenOrder___init__) .none kV_ThenOrder___init__ doc_ThenOrder___init__ pm_ThenOrder___init__ an_ThenOrder___init__ cd_ThenOrder___init__ ct_ThenOrder___init__), osl_ThenOrder___init__⟩)
    (e_ThenOrder___init__ : PySem.W.codeIn K cd_ThenOrder___init__ "ThenOrder.__init__" = true)
    (k_ThenOrder___init__ : PySem.W.keepIn K (.ref f_ThenOrder___init__) = true)
    (a_ThenOrder_ahead : PySem.W.findIn K (.ref C_ThenOrder) "ahead" = some (some (.ref f_ThenOrder_ahead)))
    (i_ThenOrder_ahead : PySem.W.isFn K (.ref f_ThenOrder_ahead) = true)
    (l_ThenOrder_ahead : K.lookup f_ThenOrder_ahead = some ⟨oc_ThenOrder_ahead, od_ThenOrder_ahead, .func (PySem.W.fnOf "ahead" "ThenOrder.ahead" (defArgs s_ThenOrder_ahead) (defBody s_ThenOrder_ahead) (defScope s_ThenOrder_ahead) .none kV_ThenOrder_ahead doc_ThenOrder_ahead pm_ThenOrder_ahead an_ThenOrder_ahead cd_ThenOrder_ahead ct_ThenOrder_ahead), osl_ThenOrder_ahead⟩)
    (e_ThenOrder_ahead : PySem.W.codeIn K cd_ThenOrder_ahead "ThenOrder.ahead" = true)
    (k_ThenOrder_ahead : PySem.W.keepIn K (.ref f_ThenOrder_ahead) = true)
    (a_ThenOrder_counted : PySem.W.findIn K (.ref C_ThenOrder) "counted" = some (some (.ref f_Order_counted)))
    (a_ThenOrder_alike : PySem.W.findIn K (.ref C_ThenOrder) "alike" = some (some (.ref f_Order_alike)))
    (a_ThenOrder_many_asked : PySem.W.findIn K (.ref C_ThenOrder) "many_asked" = some (some (.ref f_Order_many_asked)))
    (a_need_order : PySem.W.nsIn K mainGlobals "need_order" = some (some (.ref f_need_order)))
    (l_need_order : K.lookup f_need_order = some ⟨oc_need_order, od_need_order, .func (PySem.W.fnOf "need_order" "need_order" (defArgs s_need_order) (defBody s_need_order) (defScope s_need_order) .none kV_need_order doc_need_order pm_need_order an_need_order cd_need_order ct_need_order), osl_need_order⟩)
    (e_need_order : PySem.W.codeIn K cd_need_order "need_order" = true)
    (k_need_order : PySem.W.keepIn K (.ref f_need_order) = true)
    (a__law_mixed : PySem.W.nsIn K mainGlobals "_law_mixed" = some (some (.ref f__law_mixed)))
    (l__law_mixed : K.lookup f__law_mixed = some ⟨oc__law_mixed, od__law_mixed, .func (PySem.W.fnOf "_law_mixed" "_law_mixed" (defArgs s_l_mixed) (defBody s_l_mixed) (defScope s_l_mixed) .none kV__law_mixed doc__law_mixed pm__law_mixed an__law_mixed cd__law_mixed ct__law_mixed), osl__law_mixed⟩)
    (e__law_mixed : PySem.W.codeIn K cd__law_mixed "_law_mixed" = true)
    (k__law_mixed : PySem.W.keepIn K (.ref f__law_mixed) = true)
    (a__law_take : PySem.W.nsIn K mainGlobals "_law_take" = some (some (.ref f__law_take)))
    (l__law_take : K.lookup f__law_take = some ⟨oc__law_take, od__law_take, .func (PySem.W.fnOf "_law_take" "_law_take" (defArgs s_l_take) (defBody s_l_take) (defScope s_l_take) .none kV__law_take doc__law_take pm__law_take an__law_take cd__law_take ct__law_take), osl__law_take⟩)
    (e__law_take : PySem.W.codeIn K cd__law_take "_law_take" = true)
    (k__law_take : PySem.W.keepIn K (.ref f__law_take) = true)
    (a__law_kinds_by : PySem.W.nsIn K mainGlobals "_law_kinds_by" = some (some (.ref f__law_kinds_by)))
    (l__law_kinds_by : K.lookup f__law_kinds_by = some ⟨oc__law_kinds_by, od__law_kinds_by, .func (PySem.W.fnOf "_law_kinds_by" "_law_kinds_by" (defArgs s_l_kinds_by) (defBody s_l_kinds_by) (defScope s_l_kinds_by) .none kV__law_kinds_by doc__law_kinds_by pm__law_kinds_by an__law_kinds_by cd__law_kinds_by ct__law_kinds_by), osl__law_kinds_by⟩)
    (e__law_kinds_by : PySem.W.codeIn K cd__law_kinds_by "_law_kinds_by" = true)
    (k__law_kinds_by : PySem.W.keepIn K (.ref f__law_kinds_by) = true)
    (a__law_noted : PySem.W.nsIn K mainGlobals "_law_noted" = some (some (.ref f__law_noted)))
    (l__law_noted : K.lookup f__law_noted = some ⟨oc__law_noted, od__law_noted, .func (PySem.W.fnOf "_law_noted" "_law_noted" (defArgs s_l_noted) (defBody s_l_noted) (defScope s_l_noted) .none kV__law_noted doc__law_noted pm__law_noted an__law_noted cd__law_noted ct__law_noted), osl__law_noted⟩)
    (e__law_noted : PySem.W.codeIn K cd__law_noted "_law_noted" = true)
    (k__law_noted : PySem.W.keepIn K (.ref f__law_noted) = true)
    (a__law_rule : PySem.W.nsIn K mainGlobals "_law_rule" = some (some (.ref f__law_rule)))
    (l__law_rule : K.lookup f__law_rule = some ⟨oc__law_rule, od__law_rule, .func (PySem.W.fnOf "_law_rule" "_law_rule" (defArgs s_l_rule) (defBody s_l_rule) (defScope s_l_rule) .none kV__law_rule doc__law_rule pm__law_rule an__law_rule (.ref cc__law_rule) ct__law_rule), osl__law_rule⟩)
    (e__law_rule : PySem.W.codeIn K (.ref cc__law_rule) "_law_rule" = true)
    (nt__law_rule : K.lookup 265 = none)
    (ht__law_rule : PySem.W.codeHdIn K cc__law_rule 265 = true)
    (k__law_rule : PySem.W.keepIn K (.ref f__law_rule) = true)
    (a__law_key : PySem.W.nsIn K mainGlobals "_law_key" = some (some (.ref f__law_key)))
    (l__law_key : K.lookup f__law_key = some ⟨oc__law_key, od__law_key, .func (PySem.W.fnOf "_law_key" "_law_key" (defArgs s_l_key) (defBody s_l_key) (defScope s_l_key) .none kV__law_key doc__law_key pm__law_key an__law_key (.ref cc__law_key) ct__law_key), osl__law_key⟩)
    (e__law_key : PySem.W.codeIn K (.ref cc__law_key) "_law_key" = true)
    (nt__law_key : K.lookup 272 = none)
    (ht__law_key : PySem.W.codeHdIn K cc__law_key 272 = true)
    (k__law_key : PySem.W.keepIn K (.ref f__law_key) = true)
    (a__law_orders : PySem.W.nsIn K mainGlobals "_law_orders" = some (some (.ref f__law_orders)))
    (l__law_orders : K.lookup f__law_orders = some ⟨oc__law_orders, od__law_orders, .func (PySem.W.fnOf "_law_orders" "_law_orders" (defArgs s_l_orders) (defBody s_l_orders) (defScope s_l_orders) .none kV__law_orders doc__law_orders pm__law_orders an__law_orders cd__law_orders ct__law_orders), osl__law_orders⟩)
    (e__law_orders : PySem.W.codeIn K cd__law_orders "_law_orders" = true)
    (k__law_orders : PySem.W.keepIn K (.ref f__law_orders) = true)
    (a__law_keyed : PySem.W.nsIn K mainGlobals "_law_keyed" = some (some (.ref f__law_keyed)))
    (l__law_keyed : K.lookup f__law_keyed = some ⟨oc__law_keyed, od__law_keyed, .func (PySem.W.fnOf "_law_keyed" "_law_keyed" (defArgs s_l_keyed) (defBody s_l_keyed) (defScope s_l_keyed) .none kV__law_keyed doc__law_keyed pm__law_keyed an__law_keyed cd__law_keyed ct__law_keyed), osl__law_keyed⟩)
    (e__law_keyed : PySem.W.codeIn K cd__law_keyed "_law_keyed" = true)
    (k__law_keyed : PySem.W.keepIn K (.ref f__law_keyed) = true)
    (a__law_ahead : PySem.W.nsIn K mainGlobals "_law_ahead" = some (some (.ref f__law_ahead)))
    (l__law_ahead : K.lookup f__law_ahead = some ⟨oc__law_ahead, od__law_ahead, .func (PySem.W.fnOf "_law_ahead" "_law_ahead" (defArgs s_l_ahead) (defBody s_l_ahead) (defScope s_l_ahead) .none kV__law_ahead doc__law_ahead pm__law_ahead an__law_ahead cd__law_ahead ct__law_ahead), osl__law_ahead⟩)
    (e__law_ahead : PySem.W.codeIn K cd__law_ahead "_law_ahead" = true)
    (k__law_ahead : PySem.W.keepIn K (.ref f__law_ahead) = true)
    (a__law_alike : PySem.W.nsIn K mainGlobals "_law_alike" = some (some (.ref f__law_alike)))
    (l__law_alike : K.lookup f__law_alike = some ⟨oc__law_alike, od__law_alike, .func (PySem.W.fnOf "_law_alike" "_law_alike" (defArgs s_l_alike) (defBody s_l_alike) (defScope s_l_alike) .none kV__law_alike doc__law_alike pm__law_alike an__law_alike cd__law_alike ct__law_alike), osl__law_alike⟩)
    (e__law_alike : PySem.W.codeIn K cd__law_alike "_law_alike" = true)
    (k__law_alike : PySem.W.keepIn K (.ref f__law_alike) = true)
    (a__law_called : PySem.W.nsIn K mainGlobals "_law_called" = some (some (.ref f__law_called)))
    (l__law_called : K.lookup f__law_called = some ⟨oc__law_called, od__law_called, .func (PySem.W.fnOf "_law_called" "_law_called" (defArgs s_l_called) (defBody s_l_called) (defScope s_l_called) .none kV__law_called doc__law_called pm__law_called an__law_called cd__law_called ct__law_called), osl__law_called⟩)
    (e__law_called : PySem.W.codeIn K cd__law_called "_law_called" = true)
    (k__law_called : PySem.W.keepIn K (.ref f__law_called) = true)
    (a__law_asked : PySem.W.nsIn K mainGlobals "_law_asked" = some (some (.ref f__law_asked)))
    (l__law_asked : K.lookup f__law_asked = some ⟨oc__law_asked, od__law_asked, .func (PySem.W.fnOf "_law_asked" "_law_asked" (defArgs s_l_asked) (defBody s_l_asked) (defScope s_l_asked) .none kV__law_asked doc__law_asked pm__law_asked an__law_asked cd__law_asked ct__law_asked), osl__law_asked⟩)
    (e__law_asked : PySem.W.codeIn K cd__law_asked "_law_asked" = true)
    (k__law_asked : PySem.W.keepIn K (.ref f__law_asked) = true)
    (a__law_by_hand_right : PySem.W.nsIn K mainGlobals "_law_by_hand_right" = some (some (.ref f__law_by_hand_right)))
    (l__law_by_hand_right : K.lookup f__law_by_hand_right = some ⟨oc__law_by_hand_right, od__law_by_hand_right, .func (PySem.W.fnOf "_law_by_hand_right" "_law_by_hand_right" (defArgs s_l_by_hand_right) (defBody s_l_by_hand_right) (defScope s_l_by_hand_right) .none kV__law_by_hand_right doc__law_by_hand_right pm__law_by_hand_right an__law_by_hand_right (.ref cc__law_by_hand_right) ct__law_by_hand_right), osl__law_by_hand_right⟩)
    (e__law_by_hand_right : PySem.W.codeIn K (.ref cc__law_by_hand_right) "_law_by_hand_right" = true)
    (nt__law_by_hand_right : K.lookup 321 = none)
    (ht__law_by_hand_right : PySem.W.codeHdIn K cc__law_by_hand_right 321 = true)
    (k__law_by_hand_right : PySem.W.keepIn K (.ref f__law_by_hand_right) = true)
    (a_law : PySem.W.nsIn K mainGlobals "law" = some (some (.ref f_law)))
    (l_law : K.lookup f_law = some ⟨oc_law, od_law, .func (PySem.W.fnOf "law" "law" (defArgs s_law) (defBody s_law) (defScope s_law) .none kV_law doc_law pm_law an_law cd_law ct_law), osl_law⟩)
    (e_law : PySem.W.codeIn K cd_law "law" = true)
    (k_law : PySem.W.keepIn K (.ref f_law) = true)
    (x_stat : PySem.W.nsIn K cStatics "sys.int_max_str_digits" = some none)
    (x_any_Stopped : PySem.W.exmAny K (.ref C_Stopped) [.ref C_Stopped] = some true)
    (x_i_Order : PySem.W.kitOne K (.ref C_Order) (.ref C_Order) = some true)
    (x_oha_Order : PySem.W.findIn K (.ref C_Order) "__class__" = some (some (.builtin "object.__class__")))
    (x_ohm_Order : PySem.W.mroIn K C_Order (.type "object") = some true)
    (x_i_PlainOrder : PySem.W.kitOne K (.ref C_PlainOrder) (.ref C_Order) = some true)
    (x_oha_PlainOrder : PySem.W.findIn K (.ref C_PlainOrder) "__class__" = some (some (.builtin "object.__class__")))
    (x_ohm_PlainOrder : PySem.W.mroIn K C_PlainOrder (.type "object") = some true)
    (x_i_KeyOrder : PySem.W.kitOne K (.ref C_KeyOrder) (.ref C_Order) = some true)
    (x_oha_KeyOrder : PySem.W.findIn K (.ref C_KeyOrder) "__class__" = some (some (.builtin "object.__class__")))
    (x_ohm_KeyOrder : PySem.W.mroIn K C_KeyOrder (.type "object") = some true)
    (x_i_DownOrder : PySem.W.kitOne K (.ref C_DownOrder) (.ref C_Order) = some true)
    (x_oha_DownOrder : PySem.W.findIn K (.ref C_DownOrder) "__class__" = some (some (.builtin "object.__class__")))
    (x_ohm_DownOrder : PySem.W.mroIn K C_DownOrder (.type "object") = some true)
    (x_i_ThenOrder : PySem.W.kitOne K (.ref C_ThenOrder) (.ref C_Order) = some true)
    (x_oha_ThenOrder : PySem.W.findIn K (.ref C_ThenOrder) "__class__" = some (some (.builtin "object.__class__")))
    (x_ohm_ThenOrder : PySem.W.mroIn K C_ThenOrder (.type "object") = some true)
    (x_ohn : PySem.W.specialIn K (.builtin "object.__class__") "__get__" = some (some (.builtin "getset_descriptor.__get__")))
    (x_oht : PySem.W.takesIn K (.builtin "object.__class__") = some true)
    (z_len : PySem.W.nsIn K mainGlobals "len" = some none)
    (z_min : PySem.W.nsIn K mainGlobals "min" = some none)
    (z_range : PySem.W.nsIn K mainGlobals "range" = some none)
    (z_repr : PySem.W.nsIn K mainGlobals "repr" = some none)
    (z_isinstance : PySem.W.nsIn K mainGlobals "isinstance" = some none)
    (z_bool : PySem.W.nsIn K mainGlobals "bool" = some none)
    (z_tuple : PySem.W.nsIn K mainGlobals "tuple" = some none)
    (z_TypeError : PySem.W.nsIn K mainGlobals "TypeError" = some none)
    (z_RuntimeError : PySem.W.nsIn K mainGlobals "RuntimeError" = some none)
    (z_Exception : PySem.W.nsIn K mainGlobals "Exception" = some none)
    : ∃ A, Txt K mg w A :=
  ⟨⟨C_BadAnswer, f_BadAnswer___init__, C_BadKind, f_BadKind___init__, C_Stopped, f_Stopped___init__, C_Order, f_Order___init__, f_Order_counted, f_Order_ahead, f_Order_alike, f_Order_many_asked, C_PlainOrder, f_PlainOrder___init__, f_PlainOrder_ahead, C_KeyOrder, f_KeyOrder___init__, f_KeyOrder_ahead, C_DownOrder, f_DownOrder___init__, f_DownOrder_ahead, C_ThenOrder, f_ThenOrder___init__, f_ThenOrder_ahead, f_need_order, f__law_mixed, f__law_take, f__law_kinds_by, f__law_noted, f__law_rule, cc__law_rule, f__law_key, cc__law_key, f__law_orders, f__law_keyed, f__law_ahead, f__law_alike, f__law_called, f__law_asked, f__law_by_hand_right, cc__law_by_hand_right, f_law, (PySem.W.fnOf "__init__" "BadAnswer.__init__" (defArgs s_BadAnswer___init__) (defBody s_BadAnswer___init__) (defScope s_BadAnswer___init__) .none kV_BadAnswer___init__ doc_BadAnswer___init__ pm_BadAnswer___init__ an_BadAnswer___init__ cd_BadAnswer___init__ ct_BadAnswer___init__), (PySem.W.fnOf "__init__" "BadKind.__init__" (defArgs s_BadKind___init__) (defBody s_BadKind___init__) (defScope s_BadKind___init__) .none kV_BadKind___init__ doc_BadKind___init__ pm_BadKind___init__ an_BadKind___init__ cd_BadKind___init__ ct_BadKind___init__), (PySem.W.fnOf "__init__" "Stopped.__init__" (defArgs s_Stopped___init__) (defBody s_Stopped___init__) (defScope s_Stopped___init__) .none kV_Stopped___init__ doc_Stopped___init__ pm_Stopped___init__ an_Stopped___init__ cd_Stopped___init__ ct_Stopped___init__), (PySem.W.fnOf "__init__" "Order.__init__" (defArgs s_Order___init__) (defBody s_Order___init__) (defScope s_Order___init__) .none kV_Order___init__ doc_Order___init__ pm_Order___init__ an_Order___init__ cd_Order___init__ ct_Order___init__), (PySem.W.fnOf "counted" "Order.counted" (defArgs s_Order_counted) (defBody s_Order_counted) (defScope s_Order_counted) .none kV_Order_counted doc_Order_counted pm_Order_counted an_Order_counted cd_Order_counted ct_Order_counted), (PySem.W.fnOf "ahead" "Order.ahead" (defArgs s_Order_ahead) (defBody s_Order_ahead) (defScope s_Order_ahead) .none kV_Order_ahead doc_Order_ahead pm_Order_ahead an_Order_ahead cd_Order_ahead ct_Order_ahead), (PySem.W.fnOf "alike" "Order.alike" (defArgs s_Order_alike) (defBody s_Order_alike) (defScope s_Order_alike) .none kV_Order_alike doc_Order_alike pm_Order_alike an_Order_alike cd_Order_alike ct_Order_alike), (PySem.W.fnOf "many_asked" "Order.many_asked" (defArgs s_Order_many_asked) (defBody s_Order_many_asked) (defScope s_Order_many_asked) .none kV_Order_many_asked doc_Order_many_asked pm_Order_many_asked an_Order_many_asked cd_Order_many_asked ct_Order_many_asked), (PySem.W.fnOf "__init__" "PlainOrder.__init__" (defArgs s_PlainOrder___init__) (defBody s_PlainOrder___init__) (defScope s_PlainOrder___init__) .none kV_PlainOrder___init__ doc_PlainOrder___init__ pm_PlainOrder___init__ an_PlainOrder___init__ cd_PlainOrder___init__ ct_PlainOrder___init__), (PySem.W.fnOf "ahead" "PlainOrder.ahead" (defArgs s_PlainOrder_ahead) (defBody s_PlainOrder_ahead) (defScope s_PlainOrder_ahead) .none kV_PlainOrder_ahead doc_PlainOrder_ahead pm_PlainOrder_ahead an_PlainOrder_ahead cd_PlainOrder_ahead ct_PlainOrder_ahead), (PySem.W.fnOf "__init__" "KeyOrder.__init__" (defArgs s_KeyOrder___init__) (defBody s_KeyOrder___init__) (defScope s_KeyOrder___init__) (.ref DT_KeyOrder) kV_KeyOrder___init__ doc_KeyOrder___init__ pm_KeyOrder___init__ an_KeyOrder___init__ cd_KeyOrder___init__ ct_KeyOrder___init__), (PySem.W.fnOf "ahead" "KeyOrder.ahead" (defArgs s_KeyOrder_ahead) (defBody s_KeyOrder_ahead) (defScope s_KeyOrder_ahead) .none kV_KeyOrder_ahead doc_KeyOrder_ahead pm_KeyOrder_ahead an_KeyOrder_ahead cd_KeyOrder_ahead ct_KeyOrder_ahead), (PySem.W.fnOf "__init__" "DownOrder.__init__" (defArgs s_DownOrder___init__) (defBody s_DownOrder___init__) (defScope s_DownOrder___init__) .none kV_DownOrder___init__ doc_DownOrder___init__ pm_DownOrder___init__ an_DownOrder___init__ cd_DownOrder___init__ ct_DownOrder___init__), (PySem.W.fnOf "ahead" "DownOrder.ahead" (defArgs s_DownOrder_ahead) (defBody s_DownOrder_ahead) (defScope s_DownOrder_ahead) .none kV_DownOrder_ahead doc_DownOrder_ahead pm_DownOrder_ahead an_DownOrder_ahead cd_DownOrder_ahead ct_DownOrder_ahead), (PySem.W.fnOf "__init__" "ThenOrder.__init__" (defArgs s_ThenOrder___init__) (defBody s_ThenOrder___init__) (defScope s_ThenOrder___init__) .none kV_ThenOrder___init__ doc_ThenOrder___init__ pm_ThenOrder___init__ an_ThenOrder___init__ cd_ThenOrder___init__ ct_ThenOrder___init__), (PySem.W.fnOf "ahead" "ThenOrder.ahead" (defArgs s_ThenOrder_ahead) (defBody s_ThenOrder_ahead) (defScope s_ThenOrder_ahead) .none kV_ThenOrder_ahead doc_ThenOrder_ahead pm_ThenOrder_ahead an_ThenOrder_ahead cd_ThenOrder_ahead ct_ThenOrder_ahead), (PySem.W.fnOf "need_order" "need_order" (defArgs s_need_order) (defBody s_need_order) (defScope s_need_order) .none kV_need_order doc_need_order pm_need_order an_need_order cd_need_order ct_need_order), (PySem.W.fnOf "_law_mixed" "_law_mixed" (defArgs s_l_mixed) (defBody s_l_mixed) (defScope s_l_mixed) .none kV__law_mixed doc__law_mixed pm__law_mixed an__law_mixed cd__law_mixed ct__law_mixed), (PySem.W.fnOf "_law_take" "_law_take" (defArgs s_l_take) (defBody s_l_take) (defScope s_l_take) .none kV__law_take doc__law_take pm__law_take an__law_take cd__law_take ct__law_take), (PySem.W.fnOf "_law_kinds_by" "_law_kinds_by" (defArgs s_l_kinds_by) (defBody s_l_kinds_by) (defScope s_l_kinds_by) .none kV__law_kinds_by doc__law_kinds_by pm__law_kinds_by an__law_kinds_by cd__law_kinds_by ct__law_kinds_by), (PySem.W.fnOf "_law_noted" "_law_noted" (defArgs s_l_noted) (defBody s_l_noted) (defScope s_l_noted) .none kV__law_noted doc__law_noted pm__law_noted an__law_noted cd__law_noted ct__law_noted), (PySem.W.fnOf "_law_rule" "_law_rule" (defArgs s_l_rule) (defBody s_l_rule) (defScope s_l_rule) .none kV__law_rule doc__law_rule pm__law_rule an__law_rule (.ref cc__law_rule) ct__law_rule), (PySem.W.fnOf "_law_key" "_law_key" (defArgs s_l_key) (defBody s_l_key) (defScope s_l_key) .none kV__law_key doc__law_key pm__law_key an__law_key (.ref cc__law_key) ct__law_key), (PySem.W.fnOf "_law_orders" "_law_orders" (defArgs s_l_orders) (defBody s_l_orders) (defScope s_l_orders) .none kV__law_orders doc__law_orders pm__law_orders an__law_orders cd__law_orders ct__law_orders), (PySem.W.fnOf "_law_keyed" "_law_keyed" (defArgs s_l_keyed) (defBody s_l_keyed) (defScope s_l_keyed) .none kV__law_keyed doc__law_keyed pm__law_keyed an__law_keyed cd__law_keyed ct__law_keyed), (PySem.W.fnOf "_law_ahead" "_law_ahead" (defArgs s_l_ahead) (defBody s_l_ahead) (defScope s_l_ahead) .none kV__law_ahead doc__law_ahead pm__law_ahead an__law_ahead cd__law_ahead ct__law_ahead), (PySem.W.fnOf "_law_alike" "_law_alike" (defArgs s_l_alike) (defBody s_l_alike) (defScope s_l_alike) .none kV__law_alike doc__law_alike pm__law_alike an__law_alike cd__law_alike ct__law_alike), (PySem.W.fnOf "_law_called" "_law_called" (defArgs s_l_called) (defBody s_l_called) (defScope s_l_called) .none kV__law_called doc__law_called pm__law_called an__law_called cd__law_called ct__law_called), (PySem.W.fnOf "_law_asked" "_law_asked" (defArgs s_l_asked) (defBody s_l_asked) (defScope s_l_asked) .none kV__law_asked doc__law_asked pm__law_asked an__law_asked cd__law_asked ct__law_asked), (PySem.W.fnOf "_law_by_hand_right" "_law_by_hand_right" (defArgs s_l_by_hand_right) (defBody s_l_by_hand_right) (defScope s_l_by_hand_right) .none kV__law_by_hand_right doc__law_by_hand_right pm__law_by_hand_right an__law_by_hand_right (.ref cc__law_by_hand_right) ct__law_by_hand_right), (PySem.W.fnOf "law" "law" (defArgs s_law) (defBody s_law) (defScope s_law) .none kV_law doc_law pm_law an_law cd_law ct_law)⟩,
    { m_BadAnswer := PySem.W.mg_of X G a_BadAnswer
      o_BadAnswer := ⟨⟨_, Xc.XB.of PySem.F.excBase_TypeError⟩, PySem.F.store_TypeError, ini_BadAnswer, ovr_BadAnswer, dic_BadAnswer, sav_BadAnswer, bex_BadAnswer, tyc_BadAnswer, kpc_BadAnswer⟩
      k_BadAnswer := ⟨xcl_BadAnswer, xga_BadAnswer, xgg_BadAnswer, bex_BadAnswer, dic_BadAnswer, xha_BadAnswer, xhn_BadAnswer, xht_BadAnswer, xhm_BadAnswer⟩
      t_BadAnswer_answer := tk_BadAnswer_answer
      na_BadAnswer_answer := na_BadAnswer_answer
      i_BadAnswer := a_BadAnswer___init__
      y_BadAnswer := y_BadAnswer___init__
      c_BadAnswer___init__ := ⟨fun_mk l_BadAnswer___init__ e_BadAnswer___init__ k_BadAnswer___init__, (fun_mk (st := s_BadAnswer___init__) l_BadAnswer___init__ e_BadAnswer___init__ k_BadAnswer___init__).binds (ps := ["self", "answer"]) (fun _ _ _ _ _ _ us hl => match us, hl with | [_, _], _ => rfl)⟩
      v_BadAnswer := v_BadAnswer
      m_BadKind := PySem.W.mg_of X G a_BadKind
      o_BadKind := ⟨⟨_, Xc.XB.of PySem.F.excBase_TypeError⟩, PySem.F.store_TypeError, ini_BadKind, ovr_BadKind, dic_BadKind, sav_BadKind, bex_BadKind, tyc_BadKind, kpc_BadKind⟩
      k_BadKind := ⟨xcl_BadKind, xga_BadKind, xgg_BadKind, bex_BadKind, dic_BadKind, xha_BadKind, xhn_BadKind, xht_BadKind, xhm_BadKind⟩
      t_BadKind_wanted := tk_BadKind_wanted
      na_BadKind_wanted := na_BadKind_wanted
      i_BadKind := a_BadKind___init__
      y_BadKind := y_BadKind___init__
      c_BadKind___init__ := ⟨fun_mk l_BadKind___init__ e_BadKind___init__ k_BadKind___init__, (fun_mk (st := s_BadKind___init__) l_BadKind___init__ e_BadKind___init__ k_BadKind___init__).binds (ps := ["self", "wanted"]) (fun _ _ _ _ _ _ us hl => match us, hl with | [_, _], _ => rfl)⟩
      v_BadKind := v_BadKind
      m_Stopped := PySem.W.mg_of X G a_Stopped
      o_Stopped := ⟨⟨_, Xc.XB.of PySem.F.excBase_RuntimeError⟩, PySem.F.store_RuntimeError, ini_Stopped, ovr_Stopped, dic_Stopped, sav_Stopped, bex_Stopped, tyc_Stopped, kpc_Stopped⟩
      k_Stopped := ⟨xcl_Stopped, xga_Stopped, xgg_Stopped, bex_Stopped, dic_Stopped, xha_Stopped, xhn_Stopped, xht_Stopped, xhm_Stopped⟩
      t_Stopped_at := tk_Stopped_at
      na_Stopped_at := na_Stopped_at
      i_Stopped := a_Stopped___init__
      y_Stopped := y_Stopped___init__
      c_Stopped___init__ := ⟨fun_mk l_Stopped___init__ e_Stopped___init__ k_Stopped___init__, (fun_mk (st := s_Stopped___init__) l_Stopped___init__ e_Stopped___init__ k_Stopped___init__).binds (ps := ["self", "at"]) (fun _ _ _ _ _ _ us hl => match us, hl with | [_, _], _ => rfl)⟩
      v_Stopped := v_Stopped
      m_Order := PySem.W.mg_of X G a_Order
      cl_Order := ⟨pg_Order, hd_Order, po_Order, sa_Order⟩
      na_Order_own_rule := na_Order_own_rule
      na_Order_times_asked := na_Order_times_asked
      i_Order := ⟨mk_Order, a_Order___init__, i_Order___init__, kc_Order⟩
      c_Order___init__ := ⟨fun_mk l_Order___init__ e_Order___init__ k_Order___init__, (fun_mk (st := s_Order___init__) l_Order___init__ e_Order___init__ k_Order___init__).binds (ps := ["self", "rule"]) (fun _ _ _ _ _ _ us hl => match us, hl with | [_, _], _ => rfl)⟩
      h_Order_counted := ⟨a_Order_counted, i_Order_counted, k_Order_counted⟩
      c_Order_counted := ⟨fun_mk l_Order_counted e_Order_counted k_Order_counted, (fun_mk (st := s_Order_counted) l_Order_counted e_Order_counted k_Order_counted).binds (ps := ["self"]) (fun _ _ _ _ _ _ us hl => match us, hl with | [_], _ => rfl)⟩
      h_Order_ahead := ⟨a_Order_ahead, i_Order_ahead, k_Order_ahead⟩
      c_Order_ahead := ⟨fun_mk l_Order_ahead e_Order_ahead k_Order_ahead, (fun_mk (st := s_Order_ahead) l_Order_ahead e_Order_ahead k_Order_ahead).binds (ps := ["self", "one", "other"]) (fun _ _ _ _ _ _ us hl => match us, hl with | [_, _, _], _ => rfl)⟩
      h_Order_alike := ⟨a_Order_alike, i_Order_alike, k_Order_alike⟩
      c_Order_alike := ⟨fun_mk l_Order_alike e_Order_alike k_Order_alike, (fun_mk (st := s_Order_alike) l_Order_alike e_Order_alike k_Order_alike).binds (ps := ["self", "one", "other"]) (fun _ _ _ _ _ _ us hl => match us, hl with | [_, _, _], _ => rfl)⟩
      h_Order_many_asked := ⟨a_Order_many_asked, i_Order_many_asked, k_Order_many_asked⟩
      c_Order_many_asked := ⟨fun_mk l_Order_many_asked e_Order_many_asked k_Order_many_asked, (fun_mk (st := s_Order_many_asked) l_Order_many_asked e_Order_many_asked k_Order_many_asked).binds (ps := ["self"]) (fun _ _ _ _ _ _ us hl => match us, hl with | [_], _ => rfl)⟩
      r_Order := ⟨rd_Order, rg_Order⟩
      vi_Order := vi_Order
      m_PlainOrder := PySem.W.mg_of X G a_PlainOrder
      cl_PlainOrder := ⟨pg_PlainOrder, hd_PlainOrder, po_PlainOrder, sa_PlainOrder⟩
      na_PlainOrder_own_rule := na_PlainOrder_own_rule
      na_PlainOrder_times_asked := na_PlainOrder_times_asked
      i_PlainOrder := ⟨mk_PlainOrder, a_PlainOrder___init__, i_PlainOrder___init__, kc_PlainOrder⟩
      c_PlainOrder___init__ := ⟨fun_mk l_PlainOrder___init__ e_PlainOrder___init__ k_PlainOrder___init__, (fun_mk (st := s_PlainOrder___init__) l_PlainOrder___init__ e_PlainOrder___init__ k_PlainOrder___init__).binds (ps := ["self"]) (fun _ _ _ _ _ _ us hl => match us, hl with | [_], _ => rfl)⟩
      h_PlainOrder_ahead := ⟨a_PlainOrder_ahead, i_PlainOrder_ahead, k_PlainOrder_ahead⟩
      c_PlainOrder_ahead := ⟨fun_mk l_PlainOrder_ahead e_PlainOrder_ahead k_PlainOrder_ahead, (fun_mk (st := s_PlainOrder_ahead) l_PlainOrder_ahead e_PlainOrder_ahead k_PlainOrder_ahead).binds (ps := ["self", "one", "other"]) (fun _ _ _ _ _ _ us hl => match us, hl with | [_, _, _], _ => rfl)⟩
      h_PlainOrder_counted := ⟨a_PlainOrder_counted, i_Order_counted, k_Order_counted⟩
      h_PlainOrder_alike := ⟨a_PlainOrder_alike, i_Order_alike, k_Order_alike⟩
      h_PlainOrder_many_asked := ⟨a_PlainOrder_many_asked, i_Order_many_asked, k_Order_many_asked⟩
      m_KeyOrder := PySem.W.mg_of X G a_KeyOrder
      cl_KeyOrder := ⟨pg_KeyOrder, hd_KeyOrder, po_KeyOrder, sa_KeyOrder⟩
      na_KeyOrder_own_rule := na_KeyOrder_own_rule
      na_KeyOrder_times_asked := na_KeyOrder_times_asked
      na_KeyOrder_inner := na_KeyOrder_inner
      na_KeyOrder_own_key := na_KeyOrder_own_key
      i_KeyOrder := ⟨mk_KeyOrder, a_KeyOrder___init__, i_KeyOrder___init__, kc_KeyOrder⟩
      c_KeyOrder___init__ := ⟨⟨⟨_, _, .ref DT_KeyOrder, _, _, _, _, _, _, _, rfl, l_KeyOrder___init__, e_KeyOrder___init__, Or.inr ⟨by simp, DT_KeyOrder, DO_KeyOrder, DI_KeyOrder, DN_KeyOrder, rfl, dl_KeyOrder, do_KeyOrder, dr_KeyOrder⟩, Or.inl rfl⟩, k_KeyOrder___init__⟩⟩
      h_KeyOrder_ahead := ⟨a_KeyOrder_ahead, i_KeyOrder_ahead, k_KeyOrder_ahead⟩
      c_KeyOrder_ahead := ⟨fun_mk l_KeyOrder_ahead e_KeyOrder_ahead k_KeyOrder_ahead, (fun_mk (st := s_KeyOrder_ahead) l_KeyOrder_ahead e_KeyOrder_ahead k_KeyOrder_ahead).binds (ps := ["self", "one", "other"]) (fun _ _ _ _ _ _ us hl => match us, hl with | [_, _, _], _ => rfl)⟩
      h_KeyOrder_counted := ⟨a_KeyOrder_counted, i_Order_counted, k_Order_counted⟩
      h_KeyOrder_alike := ⟨a_KeyOrder_alike, i_Order_alike, k_Order_alike⟩
      h_KeyOrder_many_asked := ⟨a_KeyOrder_many_asked, i_Order_many_asked, k_Order_many_asked⟩
      m_DownOrder := PySem.W.mg_of X G a_DownOrder
      cl_DownOrder := ⟨pg_DownOrder, hd_DownOrder, po_DownOrder, sa_DownOrder⟩
      na_DownOrder_own_rule := na_DownOrder_own_rule
      na_DownOrder_times_asked := na_DownOrder_times_asked
      na_DownOrder_inner := na_DownOrder_inner
      i_DownOrder := ⟨mk_DownOrder, a_DownOrder___init__, i_DownOrder___init__, kc_DownOrder⟩
      c_DownOrder___init__ := ⟨fun_mk l_DownOrder___init__ e_DownOrder___init__ k_DownOrder___init__, (fun_mk (st := s_DownOrder___init__) l_DownOrder___init__ e_DownOrder___init__ k_DownOrder___init__).binds (ps := ["self", "order"]) (fun _ _ _ _ _ _ us hl => match us, hl with | [_, _], _ => rfl)⟩
      h_DownOrder_ahead := ⟨a_DownOrder_ahead, i_DownOrder_ahead, k_DownOrder_ahead⟩
      c_DownOrder_ahead := ⟨fun_mk l_DownOrder_ahead e_DownOrder_ahead k_DownOrder_ahead, (fun_mk (st := s_DownOrder_ahead) l_DownOrder_ahead e_DownOrder_ahead k_DownOrder_ahead).binds (ps := ["self", "one", "other"]) (fun _ _ _ _ _ _ us hl => match us, hl with | [_, _, _], _ => rfl)⟩
      h_DownOrder_counted := ⟨a_DownOrder_counted, i_Order_counted, k_Order_counted⟩
      h_DownOrder_alike := ⟨a_DownOrder_alike, i_Order_alike, k_Order_alike⟩
      h_DownOrder_many_asked := ⟨a_DownOrder_many_asked, i_Order_many_asked, k_Order_many_asked⟩
      m_ThenOrder := PySem.W.mg_of X G a_ThenOrder
      cl_ThenOrder := ⟨pg_ThenOrder, hd_ThenOrder, po_ThenOrder, sa_ThenOrder⟩
      na_ThenOrder_own_rule := na_ThenOrder_own_rule
      na_ThenOrder_times_asked := na_ThenOrder_times_asked
      na_ThenOrder_inner := na_ThenOrder_inner
      na_ThenOrder_second_one := na_ThenOrder_second_one
      i_ThenOrder := ⟨mk_ThenOrder, a_ThenOrder___init__, i_ThenOrder___init__, kc_ThenOrder⟩
      c_ThenOrder___init__ := ⟨fun_mk l_ThenOrder___init__ e_ThenOrder___init__ k_ThenOrder___init__⟩
      h_ThenOrder_ahead := ⟨a_ThenOrder_ahead, i_ThenOrder_ahead, k_ThenOrder_ahead⟩
      c_ThenOrder_ahead := ⟨fun_mk l_ThenOrder_ahead e_ThenOrder_ahead k_ThenOrder_ahead, (fun_mk (st := s_ThenOrder_ahead) l_ThenOrder_ahead e_ThenOrder_ahead k_ThenOrder_ahead).binds (ps := ["self", "one", "other"]) (fun _ _ _ _ _ _ us hl => match us, hl with | [_, _, _], _ => rfl)⟩
      h_ThenOrder_counted := ⟨a_ThenOrder_counted, i_Order_counted, k_Order_counted⟩
      h_ThenOrder_alike := ⟨a_ThenOrder_alike, i_Order_alike, k_Order_alike⟩
      h_ThenOrder_many_asked := ⟨a_ThenOrder_many_asked, i_Order_many_asked, k_Order_many_asked⟩
      c_need_order := ⟨fun_mk l_need_order e_need_order k_need_order, (fun_mk (st := s_need_order) l_need_order e_need_order k_need_order).binds (ps := ["thing"]) (fun _ _ _ _ _ _ us hl => match us, hl with | [_], _ => rfl), PySem.W.mg_of X G a_need_order⟩
      c__law_mixed := ⟨fun_mk l__law_mixed e__law_mixed k__law_mixed, (fun_mk (st := s_l_mixed) l__law_mixed e__law_mixed k__law_mixed).binds (ps := ["_law_drawn", "_law_k"]) (fun _ _ _ _ _ _ us hl => match us, hl with | [_, _], _ => rfl), PySem.W.mg_of X G a__law_mixed⟩
      c__law_take := ⟨fun_mk l__law_take e__law_take k__law_take, (fun_mk (st := s_l_take) l__law_take e__law_take k__law_take).binds (ps := ["_law_stream", "_law_many"]) (fun _ _ _ _ _ _ us hl => match us, hl with | [_, _], _ => rfl), PySem.W.mg_of X G a__law_take⟩
      c__law_kinds_by := ⟨fun_mk l__law_kinds_by e__law_kinds_by k__law_kinds_by, (fun_mk (st := s_l_kinds_by) l__law_kinds_by e__law_kinds_by k__law_kinds_by).binds (ps := ["_law_stream", "_law_many"]) (fun _ _ _ _ _ _ us hl => match us, hl with | [_, _], _ => rfl), PySem.W.mg_of X G a__law_kinds_by⟩
      c__law_noted := ⟨fun_mk l__law_noted e__law_noted k__law_noted, (fun_mk (st := s_l_noted) l__law_noted e__law_noted k__law_noted).binds (ps := ["_law_notes", "_law_halt", "_law_what"]) (fun _ _ _ _ _ _ us hl => match us, hl with | [_, _, _], _ => rfl), PySem.W.mg_of X G a__law_noted⟩
      cx__law_rule := ⟨_, _, _, _, _, _, _, _, rfl, l__law_rule, e__law_rule⟩
      nt__law_rule := nt__law_rule
      ht__law_rule := ht__law_rule
      c__law_rule := ⟨fun_mk l__law_rule e__law_rule k__law_rule, (fun_mk (st := s_l_rule) l__law_rule e__law_rule k__law_rule).binds (ps := ["_law_notes", "_law_halt", "_law_part"]) (fun _ _ _ _ _ _ us hl => match us, hl with | [_, _, _], _ => rfl), PySem.W.mg_of X G a__law_rule⟩
      cx__law_key := ⟨_, _, _, _, _, _, _, _, rfl, l__law_key, e__law_key⟩
      nt__law_key := nt__law_key
      ht__law_key := ht__law_key
      c__law_key := ⟨fun_mk l__law_key e__law_key k__law_key, (fun_mk (st := s_l_key) l__law_key e__law_key k__law_key).binds (ps := ["_law_notes", "_law_halt", "_law_part", "_law_whole"]) (fun _ _ _ _ _ _ us hl => match us, hl with | [_, _, _, _], _ => rfl), PySem.W.mg_of X G a__law_key⟩
      c__law_orders := ⟨fun_mk l__law_orders e__law_orders k__law_orders, (fun_mk (st := s_l_orders) l__law_orders e__law_orders k__law_orders).binds (ps := ["_law_rows", "_law_notes", "_law_halt"]) (fun _ _ _ _ _ _ us hl => match us, hl with | [_, _, _], _ => rfl), PySem.W.mg_of X G a__law_orders⟩
      c__law_keyed := ⟨fun_mk l__law_keyed e__law_keyed k__law_keyed, (fun_mk (st := s_l_keyed) l__law_keyed e__law_keyed k__law_keyed).binds (ps := ["_law_due", "_law_what"]) (fun _ _ _ _ _ _ us hl => match us, hl with | [_, _], _ => rfl), PySem.W.mg_of X G a__law_keyed⟩
      c__law_ahead := ⟨fun_mk l__law_ahead e__law_ahead k__law_ahead, (fun_mk (st := s_l_ahead) l__law_ahead e__law_ahead k__law_ahead).binds (ps := ["_law_rows", "_law_due", "_law_k", "_law_item", "_law_mate"]) (fun _ _ _ _ _ _ us hl => match us, hl with | [_, _, _, _, _], _ => rfl), PySem.W.mg_of X G a__law_ahead⟩
      c__law_alike := ⟨fun_mk l__law_alike e__law_alike k__law_alike, (fun_mk (st := s_l_alike) l__law_alike e__law_alike k__law_alike).binds (ps := ["_law_rows", "_law_due", "_law_k", "_law_item", "_law_mate"]) (fun _ _ _ _ _ _ us hl => match us, hl with | [_, _, _, _, _], _ => rfl), PySem.W.mg_of X G a__law_alike⟩
      c__law_called := ⟨fun_mk l__law_called e__law_called k__law_called, (fun_mk (st := s_l_called) l__law_called e__law_called k__law_called).binds (ps := ["_law_house", "_law_is_alike", "_law_item", "_law_mate", "_law_way"]) (fun _ _ _ _ _ _ us hl => match us, hl with | [_, _, _, _, _], _ => rfl), PySem.W.mg_of X G a__law_called⟩
      c__law_asked := ⟨fun_mk l__law_asked e__law_asked k__law_asked, (fun_mk (st := s_l_asked) l__law_asked e__law_asked k__law_asked).binds (ps := ["_law_house", "_law_is_alike", "_law_item", "_law_mate", "_law_way"]) (fun _ _ _ _ _ _ us hl => match us, hl with | [_, _, _, _, _], _ => rfl), PySem.W.mg_of X G a__law_asked⟩
      cx__law_by_hand_right := ⟨_, _, _, _, _, _, _, _, rfl, l__law_by_hand_right, e__law_by_hand_right⟩
      nt__law_by_hand_right := nt__law_by_hand_right
      ht__law_by_hand_right := ht__law_by_hand_right
      c__law_by_hand_right := ⟨fun_mk l__law_by_hand_right e__law_by_hand_right k__law_by_hand_right, (fun_mk (st := s_l_by_hand_right) l__law_by_hand_right e__law_by_hand_right k__law_by_hand_right).binds (ps := []) (fun _ _ _ _ _ _ us hl => match us, hl with | [], _ => rfl), PySem.W.mg_of X G a__law_by_hand_right⟩
      c_law := ⟨fun_mk l_law e_law k_law, (fun_mk (st := s_law) l_law e_law k_law).binds (ps := ["_law_script"]) (fun _ _ _ _ _ _ us hl => match us, hl with | [_], _ => rfl), PySem.W.mg_of X G a_law⟩
      x_stat := x_stat
      x_any_Stopped := x_any_Stopped
      x_i_Order := x_i_Order
      x_oha_Order := x_oha_Order
      x_ohm_Order := x_ohm_Order
      x_i_PlainOrder := x_i_PlainOrder
      x_oha_PlainOrder := x_oha_PlainOrder
      x_ohm_PlainOrder := x_ohm_PlainOrder
      x_i_KeyOrder := x_i_KeyOrder
      x_oha_KeyOrder := x_oha_KeyOrder
      x_ohm_KeyOrder := x_ohm_KeyOrder
      x_i_DownOrder := x_i_DownOrder
      x_oha_DownOrder := x_oha_DownOrder
      x_ohm_DownOrder := x_ohm_DownOrder
      x_i_ThenOrder := x_i_ThenOrder
      x_oha_ThenOrder := x_oha_ThenOrder
      x_ohm_ThenOrder := x_ohm_ThenOrder
      x_ohn := x_ohn
      x_oht := x_oht
      n_len := PySem.W.mg_none_of X G z_len
      n_min := PySem.W.mg_none_of X G z_min
      n_range := PySem.W.mg_none_of X G z_range
      n_repr := PySem.W.mg_none_of X G z_repr
      n_isinstance := PySem.W.mg_none_of X G z_isinstance
      n_bool := PySem.W.mg_none_of X G z_bool
      n_tuple := PySem.W.mg_none_of X G z_tuple
      n_TypeError := PySem.W.mg_none_of X G z_TypeError
      n_RuntimeError := PySem.W.mg_none_of X G z_RuntimeError
      n_Exception := PySem.W.mg_none_of X G z_Exception }⟩

/-! orders -/
/-- the fields of an order: its rule, how often it was asked, what else -/
def flds (r : V) (n : Int) (rest : List (Str × V)) : List (Str × V) := ("own_rule", r) :: ("times_asked", .int n) :: rest
theorem fl_put (r : V) : putF "times_asked" (.int 0) (putF "own_rule" r []) = flds r 0 [] := by rfl
theorem fl_up (r : V) (n m : Int) (rest : List (Str × V)) : putF "times_asked" (.int m) (flds r n rest) = flds r m rest := by rfl
theorem fl_times (r : V) (n : Int) (rest : List (Str × V)) : (flds r n rest).lookup ("times_asked" : Str) = some (.int n) := by rfl
theorem fl_rule (r : V) (n : Int) (rest : List (Str × V)) : (flds r n rest).lookup ("own_rule" : Str) = some r := by rfl
/-- a class of orders -/
structure OrdC (K : PySem.W.Frag) (A : Ad) (C : Addr) : Prop where
  cl : Cls K C
  oha : PySem.W.findIn K (.ref C) "__class__" = some (some (.builtin "object.__class__"))
  ohm : PySem.W.mroIn K C (.type "object") = some true
  kit : PySem.W.kitOne K (.ref C) (.ref A.C_Order) = some true
  nt : NoAttr K C "times_asked"
  nr : NoAttr K C "own_rule"
  hc : Meth K C "counted" A.f_Order_counted
  ha : Meth K C "alike" A.f_Order_alike
  hm : Meth K C "many_asked" A.f_Order_many_asked
/-- the order x tells of these two: what its class's ahead keeps -/
def AhTo (P : Program) (w : World) (K : PySem.W.Frag) (mg : Str → Option Value) (base : Heap) (k : Nat) (x one other : V) (H : Hp) (Q : VK) (E : XK) : Prop := ∃ a C dx fs f, x = .ref a ∧ H a = some (.ins C dx fs) ∧ Cls K C ∧ Meth K C "ahead" f ∧ fs.lookup ("ahead" : Str) = none ∧ CallsTo P w K mg base (L2.CX P w) k f H [x, one, other] Q E
/-- what the order makes of what its rule answered -/
def afterR (K : PySem.W.Frag) (C : Addr) (Q : VK) (E : XK) : VK := fun v H => ∃ kd, Kin K H v kd ∧ ((∃ b, v = .bl b ∧ Q v H) ∨ (kd ≠ .bool ∧ ∀ d, H d = none → E (.ref C) (some d) (upd H d (.xd [("answer", v)]))))
def sp_norder (K : PySem.W.Frag) (A : Ad) : Sp := fun vs H Q _ => ∃ (a C dx : Addr) (fs : List (Str × V)), vs = [.ref a] ∧ H a = some (.ins C dx fs) ∧ OrdC K A C ∧ Q .non H
def sp_oinit (C : Addr) : Sp := fun vs H Q _ => ∃ (x dx : Addr) (r : V), vs = [.ref x, r] ∧ H x = some (.ins C dx []) ∧ ∀ H', H' x = some (.ins C dx (flds r 0 [])) → (∀ b o, H b = some o → b ≠ x → H' b = some o) → Q .non H'
def sp_counted (C : Addr) : Sp := fun vs H Q _ => ∃ (x dx : Addr) (r : V) (n : Int) (rest : List (Str × V)), vs = [.ref x] ∧ H x = some (.ins C dx (flds r n rest)) ∧ rest.length ≤ 10 ∧ ∀ H', H' x = some (.ins C dx (flds r (n + 1) rest)) → (∀ b o, H b = some o → b ≠ x → H' b = some o) → Q .non H'
def sp_ahead (P : Program) (w : World) (K : PySem.W.Frag) (mg : Str → Option Value) (base : Heap) (C CA : Addr) : Sp := fun vs H Q E => ∃ (x dx f : Addr) (n : Int) (one other : V), vs = [.ref x, one, other] ∧ H x = some (.ins C dx (flds (.ref f) n [])) ∧
  ∀ H', H' x = some (.ins C dx (flds (.ref f) (n + 1) [])) → (∀ b o, H b = some o → b ≠ x → H' b = some o) → IsFn f H' ∧ CallsTo P w K mg base (L2.CX P w) 5 f H' [one, other] (afterR K CA Q E) E
def dR (i : Addr) : List (Str × V) := [("inner", .ref i)]
def kR (kf i : Addr) : List (Str × V) := [("own_key", .ref kf), ("inner", .ref i)]
def tR (i s : Addr) : List (Str × V) := [("inner", .ref i), ("second_one", .ref s)]
theorem fl_din (r : V) (n : Int) (i : Addr) : (flds r n (dR i)).lookup ("inner" : Str) = some (.ref i) := by rfl
theorem fl_kin (r : V) (n : Int) (f i : Addr) : (flds r n (kR f i)).lookup ("inner" : Str) = some (.ref i) := by rfl
theorem fl_kkey (r : V) (n : Int) (f i : Addr) : (flds r n (kR f i)).lookup ("own_key" : Str) = some (.ref f) := by rfl
theorem fl_tin (r : V) (n : Int) (i s : Addr) : (flds r n (tR i s)).lookup ("inner" : Str) = some (.ref i) := by rfl
theorem fl_tsec (r : V) (n : Int) (i s : Addr) : (flds r n (tR i s)).lookup ("second_one" : Str) = some (.ref s) := by rfl
theorem fl_o1 (r : V) (n : Int) : (flds r n []).lookup ("counted" : Str) = none := by rfl
theorem fl_o2 (r : V) (n : Int) : (flds r n []).lookup ("ahead" : Str) = none := by rfl
theorem fl_d1 (r : V) (n : Int) (i : Addr) : (flds r n (dR i)).lookup ("counted" : Str) = none := by rfl
theorem fl_d2 (r : V) (n : Int) (i : Addr) : (flds r n (dR i)).lookup ("ahead" : Str) = none := by rfl
theorem fl_k1 (r : V) (n : Int) (f i : Addr) : (flds r n (kR f i)).lookup ("counted" : Str) = none := by rfl
theorem fl_k2 (r : V) (n : Int) (f i : Addr) : (flds r n (kR f i)).lookup ("ahead" : Str) = none := by rfl
theorem fl_t1 (r : V) (n : Int) (i s : Addr) : (flds r n (tR i s)).lookup ("counted" : Str) = none := by rfl
theorem fl_t2 (r : V) (n : Int) (i s : Addr) : (flds r n (tR i s)).lookup ("ahead" : Str) = none := by rfl
theorem fl_oa (r : V) (n : Int) : (flds r n []).lookup ("alike" : Str) = none := by rfl
theorem fl_om (r : V) (n : Int) : (flds r n []).lookup ("many_asked" : Str) = none := by rfl
theorem fl_da (r : V) (n : Int) (i : Addr) : (flds r n (dR i)).lookup ("alike" : Str) = none := by rfl
theorem fl_dm (r : V) (n : Int) (i : Addr) : (flds r n (dR i)).lookup ("many_asked" : Str) = none := by rfl
theorem fl_ka (r : V) (n : Int) (f i : Addr) : (flds r n (kR f i)).lookup ("alike" : Str) = none := by rfl
theorem fl_km (r : V) (n : Int) (f i : Addr) : (flds r n (kR f i)).lookup ("many_asked" : Str) = none := by rfl
theorem fl_ta (r : V) (n : Int) (i s : Addr) : (flds r n (tR i s)).lookup ("alike" : Str) = none := by rfl
theorem fl_tm (r : V) (n : Int) (i s : Addr) : (flds r n (tR i s)).lookup ("many_asked" : Str) = none := by rfl
local macro_rules | `(tactic| walk_at "fv") => `(tactic| first | exact K04.fl_times _ _ _ | exact K04.fl_rule _ _ _ | exact K04.fl_din _ _ _ | exact K04.fl_kin _ _ _ _ | exact K04.fl_kkey _ _ _ _ | exact K04.fl_tin _ _ _ _ | exact K04.fl_tsec _ _ _ _ | exact K04.fl_o1 _ _ | exact K04.fl_o2 _ _ | exact K04.fl_d1 _ _ _ | exact K04.fl_d2 _ _ _ | exact K04.fl_k1 _ _ _ _ | exact K04.fl_k2 _ _ _ _ | exact K04.fl_t1 _ _ _ _ | exact K04.fl_t2 _ _ _ _)
/-- down -/
def sp_dahead (j : Nat) (P : Program) (w : World) (K : PySem.W.Frag) (mg : Str → Option Value) (base : Heap) (C : Addr) : Sp := fun vs H Q E => ∃ (x dx i : Addr) (r : V) (n : Int) (one other : V), vs = [.ref x, one, other] ∧ H x = some (.ins C dx (flds r n (dR i))) ∧
  ∀ H', H' x = some (.ins C dx (flds r (n + 1) (dR i))) → (∀ b o, H b = some o → b ≠ x → H' b = some o) → AhTo P w K mg base j (.ref i) other one H' Q E
/-- by keys -/
def sp_kahead (j : Nat) (P : Program) (w : World) (K : PySem.W.Frag) (mg : Str → Option Value) (base : Heap) (C : Addr) : Sp := fun vs H Q E => ∃ (x dx i kf : Addr) (r : V) (n : Int) (one other : V), vs = [.ref x, one, other] ∧ H x = some (.ins C dx (flds r n (kR kf i))) ∧
  ∀ H', H' x = some (.ins C dx (flds r (n + 1) (kR kf i))) → (∀ b o, H b = some o → b ≠ x → H' b = some o) → IsFn kf H' ∧ CallsTo P w K mg base (L2.CX P w) 5 kf H' [one] (fun v1 H2 => H2 x = some (.ins C dx (flds r (n + 1) (kR kf i))) ∧ IsFn kf H2 ∧
    ∃ Ci dxi fsi f, H2 i = some (.ins Ci dxi fsi) ∧ Cls K Ci ∧ Meth K Ci "ahead" f ∧ fsi.lookup ("ahead" : Str) = none ∧ CallsTo P w K mg base (L2.CX P w) 5 kf H2 [other] (fun v2 H3 => CallsTo P w K mg base (L2.CX P w) j f H3 [.ref i, v1, v2] Q E) E) E
/-- behind a first one -/
def sp_tahead (j : Nat) (P : Program) (w : World) (K : PySem.W.Frag) (mg : Str → Option Value) (base : Heap) (C : Addr) : Sp := fun vs H Q E => ∃ (x dx i s : Addr) (r : V) (n : Int) (one other : V), vs = [.ref x, one, other] ∧ H x = some (.ins C dx (flds r n (tR i s))) ∧
  ∀ H', H' x = some (.ins C dx (flds r (n + 1) (tR i s))) → (∀ b o, H b = some o → b ≠ x → H' b = some o) → AhTo P w K mg base j (.ref i) one other H' (fun v H2 => ∃ b, v = .bl b ∧ if b = true then Q (.bl true) H2 else (∃ (dx2 : Addr) (n2 : Int), H2 x = some (.ins C dx2 (flds r n2 (tR i s)))) ∧
    AhTo P w K mg base j (.ref i) other one H2 (fun v H3 => ∃ b, v = .bl b ∧ if b = true then Q (.bl false) H3 else (∃ (dx2 : Addr) (n2 : Int), H3 x = some (.ins C dx2 (flds r n2 (tR i s)))) ∧ AhTo P w K mg base j (.ref s) one other H3 Q E) E) E
/-- by Python's own less -/
def sp_pahead (K : PySem.W.Frag) (C : Addr) : Sp := fun vs H Q _ => ∃ (x dx : Addr) (r : V) (n : Int) (one other : V), vs = [.ref x, one, other] ∧ H x = some (.ins C dx (flds r n [])) ∧
  ∀ H', H' x = some (.ins C dx (flds r (n + 1) [])) → (∀ b o, H b = some o → b ≠ x → H' b = some o) → rLtG K one other H' Q
/-- alike -/
def sp_alike (j : Nat) (P : Program) (w : World) (K : PySem.W.Frag) (mg : Str → Option Value) (base : Heap) : Sp := fun vs H Q E => ∃ (x : Addr) (one other : V), vs = [.ref x, one, other] ∧
  AhTo P w K mg base j (.ref x) one other H (fun v H2 => ∃ b, v = .bl b ∧ if b = true then Q (.bl false) H2 else AhTo P w K mg base j (.ref x) other one H2 (fun v H3 => ∃ b, v = .bl b ∧ Q (.bl (!b)) H3) E) E
def sp_many (C : Addr) : Sp := fun vs H Q _ => ∃ (x dx : Addr) (r : V) (n : Int) (rest : List (Str × V)), vs = [.ref x] ∧ H x = some (.ins C dx (flds r n rest)) ∧ Q (.int n) H
section
variable {P : Program} {w : World} {K : PySem.W.Frag} {mg : Str → Option Value} {base : Heap} {A : Ad} {H H0 : Hp} {MM : List Addr} {L L' F : Led} {Q : VK} {E : XK}
local macro_rules | `(tactic| walk_at "rd1") => `(tactic| first
  | with_reducible refine Xc.rd_bi ?_
  | with_reducible refine Xc.rd_put1 ?_
  | with_reducible refine Xc.rd_tmk ?_
  | with_reducible refine Xc.rd_xv ?_
  | with_reducible refine Xh.rd_callF ?_
  | with_reducible refine Xj.rd_clsF ?_
  | with_reducible refine Xj.rd_methD ?_)
theorem ok_xBadAnswer (T : Txt K mg w A) : FnOk P w K mg base CX0 1 A.f_BadAnswer___init__ A.d_BadAnswer___init__ ["self", "answer"] (Xc.spInit1 A.C_BadAnswer "answer") := by
  refine T.c_BadAnswer___init__.F.ok sc_BadAnswer___init__ (fun vs H Q E h => ?_) (fun cdv Ar outer s H vs Q E hr h => ?_)
  · obtain ⟨a, v, rfl, _⟩ := h; rfl
  · obtain ⟨a, v, rfl, ha, k⟩ := h
    refine ⟨_, (pss_cons (ps_expr (Xc.pe_binit T.o_BadAnswer rfl T.n_TypeError (by decide +kernel) (by kernel_rfl) (by decide +kernel) (by decide +kernel) T.v_BadAnswer (pa_cons (pv 0) (pa_cons (pv 1) pa_nil))))
      (pss_one (Xc.ps_put T.o_BadAnswer (pv 0) (pv 1) rfl))), ?_⟩
    walk_at "st"
    walk_at "rd"
    refine ⟨a, _, [v], rfl, by simp, T.o_BadAnswer, ha, ?_⟩
    walk_at "rd"
    refine ⟨a, _, rfl, T.o_BadAnswer, T.t_BadAnswer_answer, Or.inl ⟨ha, fun dx n1 n2 => ?_⟩⟩
    exact k dx n1 n2
theorem ok_xStopped (T : Txt K mg w A) : FnOk P w K mg base CX0 1 A.f_Stopped___init__ A.d_Stopped___init__ ["self", "at"] (Xc.spInit1 A.C_Stopped "at") := by
  refine T.c_Stopped___init__.F.ok sc_Stopped___init__ (fun vs H Q E h => ?_) (fun cdv Ar outer s H vs Q E hr h => ?_)
  · obtain ⟨a, v, rfl, _⟩ := h; rfl
  · obtain ⟨a, v, rfl, ha, k⟩ := h
    refine ⟨_, (pss_cons (ps_expr (Xc.pe_binit T.o_Stopped rfl T.n_RuntimeError (by decide +kernel) (by kernel_rfl) (by decide +kernel) (by decide +kernel) T.v_Stopped (pa_cons (pv 0) (pa_cons (pv 1) pa_nil))))
      (pss_one (Xc.ps_put T.o_Stopped (pv 0) (pv 1) rfl))), ?_⟩
    walk_at "st"
    walk_at "rd"
    refine ⟨a, _, [v], rfl, by simp, T.o_Stopped, ha, ?_⟩
    walk_at "rd"
    refine ⟨a, _, rfl, T.o_Stopped, T.t_Stopped_at, Or.inl ⟨ha, fun dx n1 n2 => ?_⟩⟩
    exact k dx n1 n2
theorem ord_o (T : Txt K mg w A) : OrdC K A A.C_Order := ⟨T.cl_Order, T.x_oha_Order, T.x_ohm_Order, T.x_i_Order, T.na_Order_times_asked, T.na_Order_own_rule, T.h_Order_counted, T.h_Order_alike, T.h_Order_many_asked⟩
theorem ord_d (T : Txt K mg w A) : OrdC K A A.C_DownOrder := ⟨T.cl_DownOrder, T.x_oha_DownOrder, T.x_ohm_DownOrder, T.x_i_DownOrder, T.na_DownOrder_times_asked, T.na_DownOrder_own_rule, T.h_DownOrder_counted, T.h_DownOrder_alike, T.h_DownOrder_many_asked⟩
theorem ord_p (T : Txt K mg w A) : OrdC K A A.C_PlainOrder := ⟨T.cl_PlainOrder, T.x_oha_PlainOrder, T.x_ohm_PlainOrder, T.x_i_PlainOrder, T.na_PlainOrder_times_asked, T.na_PlainOrder_own_rule, T.h_PlainOrder_counted, T.h_PlainOrder_alike, T.h_PlainOrder_many_asked⟩
theorem ord_k (T : Txt K mg w A) : OrdC K A A.C_KeyOrder := ⟨T.cl_KeyOrder, T.x_oha_KeyOrder, T.x_ohm_KeyOrder, T.x_i_KeyOrder, T.na_KeyOrder_times_asked, T.na_KeyOrder_own_rule, T.h_KeyOrder_counted, T.h_KeyOrder_alike, T.h_KeyOrder_many_asked⟩
theorem ord_t (T : Txt K mg w A) : OrdC K A A.C_ThenOrder := ⟨T.cl_ThenOrder, T.x_oha_ThenOrder, T.x_ohm_ThenOrder, T.x_i_ThenOrder, T.na_ThenOrder_times_asked, T.na_ThenOrder_own_rule, T.h_ThenOrder_counted, T.h_ThenOrder_alike, T.h_ThenOrder_many_asked⟩
theorem ok_norder (T : Txt K mg w A) : FnOk P w K mg base CX0 1 A.f_need_order A.d_need_order ["thing"] (sp_norder K A) := by
  refine T.c_need_order.F.ok sc_need_order (fun vs H Q E h => ?_) (fun cdv Ar outer s H vs Q E hr h => ?_)
  · obtain ⟨a, C, dx, fs, rfl, _⟩ := h; rfl
  · obtain ⟨a, C, dx, fs, rfl, ha, O, q⟩ := h
    refine ⟨_, (pss_one (ps_if (pt_not (pt_val (pe_callB call_isi (by rfl) T.n_isinstance PyProof.Rows.boot_isinstance (pa_cons (pv 0) (pa_cons (pe_glob (v := .ref A.C_Order) rfl T.m_Order rfl) pa_nil)))))
        (pss_one ps_never)
        pss_nil)), ?_⟩
    walk_at "st"
    walk_at "rd"
    refine ⟨.ref a, .ref A.C_Order, .ref C, .ref A.C_Order, true, rfl, .own _, .base (.ins ha O.cl O.oha T.x_ohn T.x_oht O.ohm), O.kit, ?_⟩
    walk_at "rd"
    walk_at "if0"
    exact q
theorem ok_oinit (T : Txt K mg w A) {C : Addr} (O : OrdC K A C) : FnOk P w K mg base CX0 1 A.f_Order___init__ A.d_Order___init__ ["self", "rule"] (sp_oinit C) := by
  have hC := O.cl
  have n1 := O.nr
  have n2 := O.nt
  refine T.c_Order___init__.F.ok sc_Order___init__ (fun vs H Q E h => ?_) (fun cdv Ar outer s H vs Q E hr h => ?_)
  · obtain ⟨x, dx, f, rfl, _⟩ := h; rfl
  · obtain ⟨x, dx, f, rfl, hx, k⟩ := h
    refine ⟨_, (pss_cons (ps_fld (pv 0) (pv 1) rfl)
      (pss_one (ps_fld (pv 0) pe_int rfl))), ?_⟩
    have S := Hs.start1 hx [x] (.inr rfl)
    walk_at "st"
    walk_at "rd"
    rename_i H1 S1 H2 S2
    exact k _ (S2.get (o := .ins C dx (flds f 0 [])) (by rw [fl_put]; exact List.mem_cons_self)) (fun b o e hb => S2.old1 e hb)
theorem rd_fldaug {f : Str} {ta tv : TE} {rd : V → V → Hp → VK → Prop} {σ : L2.St} {nx : L2.St → Hp → Prop} {rt : VK} {bk ct : L2.St → Hp → Prop} (h : ta σ H fun x H1 => ∃ a C dx fs v, x = .ref a ∧ H1 a = some (.ins C dx fs) ∧ Cls K C ∧ NoAttr K C f ∧ fs.lookup f = some v ∧
  tv σ H1 fun y H2 => rd v y H2 fun z H3 => ∃ dx' fs', H3 a = some (.ins C dx' fs') ∧ fs'.length < 1000 ∧ nx σ (upd H3 a (.ins C dx' (putF f z fs')))) : sFldAug K ta tv rd f ⟨nx, rt, bk, ct⟩ σ H := h
theorem ok_counted (T : Txt K mg w A) {C : Addr} (O : OrdC K A C) : FnOk P w K mg base CX0 1 A.f_Order_counted A.d_Order_counted ["self"] (sp_counted C) := by
  have hC := O.cl
  have n2 := O.nt
  refine T.c_Order_counted.F.ok sc_Order_counted (fun vs H Q E h => ?_) (fun cdv Ar outer s H vs Q E hr h => ?_)
  · obtain ⟨x, dx, r, n, rest, rfl, _⟩ := h; rfl
  · obtain ⟨x, dx, r, n, rest, rfl, hx, hl, k⟩ := h
    refine ⟨_, (pss_one (ps_fldaug (pv 0) pe_int in_add)), ?_⟩
    have S := Hs.start1 hx [x] (.inr rfl)
    walk_at "st"
    walk_at "rd"
    refine rd_fldaug ?_
    walk_at "rd"
    refine ⟨x, _, dx, _, .int n, rfl, hx, hC, n2, fl_times r n rest, ?_⟩
    walk_at "rd"
    refine ⟨n, 1, rfl, rfl, ⟨dx, _, hx, by simp [flds]; omega, ?_⟩⟩
    have S1 := S.put (o' := .ins C dx (flds r (n + 1) rest)) .here (.inr (by simp))
    rw [fl_up]
    exact k _ (S1.get (by walk_at "mem")) (fun b o e hb => S1.old1 e hb)
theorem use_counted {C x dx : Addr} {r : V} {n : Int} {rest : List (Str × V)} {F : HO → Led} (S : Hs H0 MM H L) (ch : ∀ o', Chg x (.ins C dx (flds r n rest)) o' L (F o')) (hl : rest.length ≤ 10) (own : H0 x = none ∨ x ∈ MM) (h : ∀ H', Hs H0 MM H' (F (.ins C dx (flds r (n + 1) rest))) → Q .non H') : sp_counted C [.ref x] H Q E :=
  ⟨x, dx, r, n, rest, rfl, S.is _ (ch (.dK [])).mem, hl, fun H' e k => h H' (S.one (ch _) own k e)⟩
theorem ok_ahead (T : Txt K mg w A) : FnOk P w K mg base (L2.CX P w) 6 A.f_Order_ahead A.d_Order_ahead ["self", "one", "other"] (sp_ahead P w K mg base A.C_Order A.C_BadAnswer) := by
  have G_Order_counted : FnOk P w K mg base CX0 1 A.f_Order_counted A.d_Order_counted ["self"] (sp_counted A.C_Order) := ok_counted T (ord_o T)
  have G_BadAnswer : FnOk P w K mg base CX0 1 A.f_BadAnswer___init__ A.d_BadAnswer___init__ ["self", "answer"] (Xc.spInit1 A.C_BadAnswer "answer") := ok_xBadAnswer T
  have hC := T.cl_Order
  have n1 := T.na_Order_own_rule
  refine T.c_Order_ahead.F.okX sc_Order_ahead (fun vs H Q E h => ?_) (fun cdv Ar outer s H vs Q E hr h => ?_)
  · obtain ⟨x, dx, f, n, one, other, rfl, _⟩ := h; rfl
  · obtain ⟨x, dx, f, n, one, other, rfl, hx, k⟩ := h
    refine ⟨_, (pss_cons (ps_expr (pe_meth0 (pv 0) T.cl_Order T.h_Order_counted G_Order_counted (hr.mono (by first | decide | omega)) T.c_Order_counted.b .nil pass0))
      (pss_cons (ps_set (i := 3) sc_Order_ahead.nd rfl (Or.inl rfl) (Xh.pe_callF (CX := L2.CX P w) (k := 5) (pv 0) (pa_cons (pv 1) (pa_cons (pv 2) pa_nil)) hr (by first | decide | omega) (passes_call (takes_of rfl rfl rfl rfl) fun _ _ _ _ z => z)))
      (pss_cons (ps_if (pt_not (pt_val (pe_callB call_isi (by rfl) T.n_isinstance PyProof.Rows.boot_isinstance (pa_cons (pv 3) (pa_cons (pe_bltn (v := .ty "bool") rfl T.n_bool PyProof.Rows.boot_bool rfl) pa_nil)))))
        (pss_one (ps_raise rfl (takes_of rfl rfl rfl rfl) (Xc.pmk_own T.o_BadAnswer T.i_BadAnswer T.y_BadAnswer G_BadAnswer (hr.mono (by first | decide | omega)) T.c_BadAnswer___init__.b .nil pass0 rfl T.m_BadAnswer (pa_cons (pv 3) pa_nil))))
        pss_nil)
      (pss_one (ps_ret (pv 3)))))), ?_⟩
    have S := Hs.start1 hx [x] (.inr rfl)
    walk_at "st"
    walk_at "rd"
    refine use_counted S (by walk_at "chgF") (Nat.le_of_ble_eq_true rfl) (by walk_at "own") fun H1 S1 => ?_
    obtain ⟨k1, k2⟩ := k H1 (S1.get (by walk_at "mem")) (fun b o e hb => S1.old1 e hb)
    walk_at "rd"
    refine rd_callFV S1 (by walk_at "mem") hC n1 (fl_rule _ _ _) k1 ?_
    walk_at "rd"
    show CallsTo P w K mg base (L2.CX P w) 5 f H1 [one, other] _ E
    refine calls_mono k2 fun v H2 ⟨kd, hk, hv⟩ => ?_
    walk_at "rd"
    refine rd_isi hk (kit_bool _) ?_
    rcases hv with ⟨b, rfl, q⟩ | ⟨hn, q⟩
    · cases hk
      walk_at "rd"
      walk_at "if0"
      exact q
    · rw [show (kd == Kn.bool) = false from beq_eq_false_iff_ne.mpr hn]
      walk_at "rd"
      walk_at "if1"
      exact Xc.rd_mk1 q
theorem ok_dahead (T : Txt K mg w A) {j : Nat} (hj : 5 ≤ j) : FnOk P w K mg base (L2.CX P w) (j + 1) A.f_DownOrder_ahead A.d_DownOrder_ahead ["self", "one", "other"] (sp_dahead j P w K mg base A.C_DownOrder) := by
  have G_DownOrder_counted : FnOk P w K mg base CX0 1 A.f_Order_counted A.d_Order_counted ["self"] (sp_counted A.C_DownOrder) := ok_counted T (ord_d T)
  have hC := T.cl_DownOrder
  have n1 := T.na_DownOrder_inner
  refine T.c_DownOrder_ahead.F.okX sc_DownOrder_ahead (fun vs H Q E h => ?_) (fun cdv Ar outer s H vs Q E hr h => ?_)
  · obtain ⟨x, dx, i, r, n, one, other, rfl, _⟩ := h; rfl
  · obtain ⟨x, dx, i, r, n, one, other, rfl, hx, k⟩ := h
    refine ⟨_, (pss_cons (ps_expr (pe_meth0 (pv 0) T.cl_DownOrder T.h_DownOrder_counted G_DownOrder_counted (hr.mono (by first | decide | omega)) T.c_Order_counted.b .nil pass0))
      (pss_one (ps_ret (Xj.pe_methD (CX := L2.CX P w) (k := j) (pe_fld (pv 0) rfl) (pa_cons (pv 2) (pa_cons (pv 1) pa_nil)) hr (by first | decide | omega) (passes_call (takes_of rfl rfl rfl rfl) fun _ _ _ _ z => z))))), ?_⟩
    have S := Hs.start1 hx [x] (.inr rfl)
    walk_at "st"
    walk_at "rd"
    refine use_counted S (by walk_at "chgF") (Nat.le_of_ble_eq_true rfl) (by walk_at "own") fun H1 S1 => ?_
    obtain ⟨_, C, dxi, fs, f, e, q1, q2, q3, q4, q5⟩ := k H1 (S1.get (by walk_at "mem")) (fun b o e hb => S1.old1 e hb)
    cases e
    walk_at "rd"
    refine ⟨i, C, dxi, fs, f, rfl, q1, q2, q3, q4, ?_⟩
    walk_at "rd"
    exact q5
theorem ok_kahead (T : Txt K mg w A) {j : Nat} (hj : 5 ≤ j) : FnOk P w K mg base (L2.CX P w) (j + 1) A.f_KeyOrder_ahead A.d_KeyOrder_ahead ["self", "one", "other"] (sp_kahead j P w K mg base A.C_KeyOrder) := by
  have G_KeyOrder_counted : FnOk P w K mg base CX0 1 A.f_Order_counted A.d_Order_counted ["self"] (sp_counted A.C_KeyOrder) := ok_counted T (ord_k T)
  have hC := T.cl_KeyOrder
  have n1 := T.na_KeyOrder_inner
  have n2 := T.na_KeyOrder_own_key
  refine T.c_KeyOrder_ahead.F.okX sc_KeyOrder_ahead (fun vs H Q E h => ?_) (fun cdv Ar outer s H vs Q E hr h => ?_)
  · obtain ⟨x, dx, i, kf, r, n, one, other, rfl, _⟩ := h; rfl
  · obtain ⟨x, dx, i, kf, r, n, one, other, rfl, hx, k⟩ := h
    refine ⟨_, (pss_cons (ps_expr (pe_meth0 (pv 0) T.cl_KeyOrder T.h_KeyOrder_counted G_KeyOrder_counted (hr.mono (by first | decide | omega)) T.c_Order_counted.b .nil pass0))
      (pss_cons (ps_set (i := 3) sc_KeyOrder_ahead.nd rfl (Or.inl rfl) (Xh.pe_callF (CX := L2.CX P w) (k := 5) (pv 0) (pa_cons (pv 1) pa_nil) hr (by first | decide | omega) (passes_call (takes_of rfl rfl rfl rfl) fun _ _ _ _ z => z)))
      (pss_one (ps_ret (Xj.pe_methD (CX := L2.CX P w) (k := j) (pe_fld (pv 0) rfl) (pa_cons (pv 3) (pa_cons (Xh.pe_callF (CX := L2.CX P w) (k := 5) (pv 0) (pa_cons (pv 2) pa_nil) hr (by first | decide | omega) (passes_call (takes_of rfl rfl rfl rfl) fun _ _ _ _ z => z)) pa_nil)) hr (by first | decide | omega) (passes_call (takes_of rfl rfl rfl rfl) fun _ _ _ _ z => z)))))), ?_⟩
    have S := Hs.start1 hx [x] (.inr rfl)
    walk_at "st"
    walk_at "rd"
    refine use_counted S (by walk_at "chgF") (Nat.le_of_ble_eq_true rfl) (by walk_at "own") fun H1 S1 => ?_
    obtain ⟨q1, q2⟩ := k H1 (S1.get (by walk_at "mem")) (fun b o e hb => S1.old1 e hb)
    walk_at "rd"
    refine rd_callFV S1 (by walk_at "mem") hC n2 (fl_kkey _ _ _ _) q1 ?_
    walk_at "rd"
    show CallsTo P w K mg base (L2.CX P w) 5 kf H1 [one] _ E
    refine calls_mono q2 fun v1 H2 ⟨hx2, f2, C, dxi, fs, f, p1, p2, p3, p4, p5⟩ => ?_
    clear S S1
    have S := Hs.start1 hx2 [] (.inl rfl)
    walk_at "rd"
    refine ⟨i, C, dxi, fs, f, rfl, p1, p2, p3, p4, ?_⟩
    walk_at "rd"
    refine rd_callFV S (by walk_at "mem") hC n2 (fl_kkey _ _ _ _) f2 ?_
    walk_at "rd"
    exact p5
theorem ok_tahead (T : Txt K mg w A) {j : Nat} (hj : 5 ≤ j) : FnOk P w K mg base (L2.CX P w) (j + 1) A.f_ThenOrder_ahead A.d_ThenOrder_ahead ["self", "one", "other"] (sp_tahead j P w K mg base A.C_ThenOrder) := by
  have G_ThenOrder_counted : FnOk P w K mg base CX0 1 A.f_Order_counted A.d_Order_counted ["self"] (sp_counted A.C_ThenOrder) := ok_counted T (ord_t T)
  have hC := T.cl_ThenOrder
  have n1 := T.na_ThenOrder_inner
  have n2 := T.na_ThenOrder_second_one
  refine T.c_ThenOrder_ahead.F.okX sc_ThenOrder_ahead (fun vs H Q E h => ?_) (fun cdv Ar outer s H vs Q E hr h => ?_)
  · obtain ⟨x, dx, i, s, r, n, one, other, rfl, _⟩ := h; rfl
  · obtain ⟨x, dx, i, s, r, n, one, other, rfl, hx, k⟩ := h
    refine ⟨_, (pss_cons (ps_expr (pe_meth0 (pv 0) T.cl_ThenOrder T.h_ThenOrder_counted G_ThenOrder_counted (hr.mono (by first | decide | omega)) T.c_Order_counted.b .nil pass0))
      (pss_cons (ps_if (pt_val (Xj.pe_methD (CX := L2.CX P w) (k := j) (pe_fld (pv 0) rfl) (pa_cons (pv 1) (pa_cons (pv 2) pa_nil)) hr (by first | decide | omega) (passes_call (takes_of rfl rfl rfl rfl) fun _ _ _ _ z => z)))
        (pss_one (ps_ret pe_bl))
        pss_nil)
      (pss_cons (ps_if (pt_val (Xj.pe_methD (CX := L2.CX P w) (k := j) (pe_fld (pv 0) rfl) (pa_cons (pv 2) (pa_cons (pv 1) pa_nil)) hr (by first | decide | omega) (passes_call (takes_of rfl rfl rfl rfl) fun _ _ _ _ z => z)))
        (pss_one (ps_ret pe_bl))
        pss_nil)
      (pss_one (ps_ret (Xj.pe_methD (CX := L2.CX P w) (k := j) (pe_fld (pv 0) rfl) (pa_cons (pv 1) (pa_cons (pv 2) pa_nil)) hr (by first | decide | omega) (passes_call (takes_of rfl rfl rfl rfl) fun _ _ _ _ z => z))))))), ?_⟩
    have S := Hs.start1 hx [x] (.inr rfl)
    walk_at "st"
    walk_at "rd"
    refine use_counted S (by walk_at "chgF") (Nat.le_of_ble_eq_true rfl) (by walk_at "own") fun H1 S1 => ?_
    obtain ⟨_, C, dxi, fs, f, e, q1, q2, q3, q4, q5⟩ := k H1 (S1.get (by walk_at "mem")) (fun b o e hb => S1.old1 e hb)
    cases e
    walk_at "rd"
    refine ⟨i, C, dxi, fs, f, rfl, q1, q2, q3, q4, ?_⟩
    walk_at "rd"
    refine calls_mono q5 fun v H2 ⟨b, hb, q⟩ => ?_
    subst hb
    clear S S1
    walk_at "rd"
    cases b with
    | true => exact q
    | false =>
      rw [if_neg Bool.false_ne_true] at q
      obtain ⟨⟨dx2, n2, hx2⟩, _, C, dxi, fs, f, e, q1, q2, q3, q4, q5⟩ := q
      cases e
      have S := Hs.start1 hx2 [] (.inl rfl)
      walk_at "rd"
      refine ⟨i, C, dxi, fs, f, rfl, q1, q2, q3, q4, ?_⟩
      walk_at "rd"
      refine calls_mono q5 fun v H3 ⟨b, hb, q⟩ => ?_
      subst hb
      clear S
      walk_at "rd"
      cases b with
      | true => exact q
      | false =>
        rw [if_neg Bool.false_ne_true] at q
        obtain ⟨⟨dx3, n3, hx3⟩, _, C, dxi, fs, f, e, q1, q2, q3, q4, q5⟩ := q
        cases e
        have S := Hs.start1 hx3 [] (.inl rfl)
        walk_at "rd"
        refine ⟨_, C, dxi, fs, f, rfl, q1, q2, q3, q4, ?_⟩
        walk_at "rd"
        exact q5
theorem ok_pahead (T : Txt K mg w A) : FnOk P w K mg base (L2.CX P w) 6 A.f_PlainOrder_ahead A.d_PlainOrder_ahead ["self", "one", "other"] (sp_pahead K A.C_PlainOrder) := by
  have G_PlainOrder_counted : FnOk P w K mg base CX0 1 A.f_Order_counted A.d_Order_counted ["self"] (sp_counted A.C_PlainOrder) := ok_counted T (ord_p T)
  have G_Order_counted := G_PlainOrder_counted
  have hC := T.cl_PlainOrder
  refine T.c_PlainOrder_ahead.F.okX sc_PlainOrder_ahead (fun vs H Q E h => ?_) (fun cdv Ar outer s H vs Q E hr h => ?_)
  · obtain ⟨_, _, _, _, _, _, rfl, _⟩ := h; rfl
  · obtain ⟨x, dx, r, n, one, other, rfl, hx, k⟩ := h
    refine ⟨_, (pss_cons (ps_expr (pe_meth0 (pv 0) T.cl_PlainOrder T.h_PlainOrder_counted G_PlainOrder_counted (hr.mono (by first | decide | omega)) T.c_Order_counted.b .nil pass0))
      (pss_one (ps_ret (pe_cmpR (Xm.op_ltG hr.units) (pv 1) (pv 2) (nomark _))))), ?_⟩
    have S := Hs.start1 hx [x] (.inr rfl)
    walk_at "st"
    walk_at "rd"
    refine use_counted S (by walk_at "chgF") (by simp) (by walk_at "own") fun H1 S1 => ?_
    walk_at "rd"
    exact k H1 (S1.get (by walk_at "mem")) (fun b o e hb => S1.old1 e hb)
theorem ok_alike (T : Txt K mg w A) {j : Nat} (hj : 5 ≤ j) : FnOk P w K mg base (L2.CX P w) (j + 1) A.f_Order_alike A.d_Order_alike ["self", "one", "other"] (sp_alike j P w K mg base) := by
  refine T.c_Order_alike.F.okX sc_Order_alike (fun vs H Q E h => ?_) (fun cdv Ar outer s H vs Q E hr h => ?_)
  · obtain ⟨x, one, other, rfl, _⟩ := h; rfl
  · obtain ⟨x, one, other, rfl, h⟩ := h
    refine ⟨_, (pss_one (ps_ret (pe_and (pe_not (Xj.pe_methD (CX := L2.CX P w) (k := j) (pv 0) (pa_cons (pv 1) (pa_cons (pv 2) pa_nil)) hr (by first | decide | omega) (passes_call (takes_of rfl rfl rfl rfl) fun _ _ _ _ z => z))) (pe_one (pe_not (Xj.pe_methD (CX := L2.CX P w) (k := j) (pv 0) (pa_cons (pv 2) (pa_cons (pv 1) pa_nil)) hr (by first | decide | omega) (passes_call (takes_of rfl rfl rfl rfl) fun _ _ _ _ z => z))))))), ?_⟩
    obtain ⟨_, C, dx, fs, f, e, q1, q2, q3, q4, q5⟩ := h
    cases e
    walk_at "st"
    walk_at "rd"
    refine ⟨_, C, dx, fs, f, rfl, q1, q2, q3, q4, ?_⟩
    walk_at "rd"
    refine calls_mono q5 fun v H2 ⟨b, hb, q⟩ => ?_
    subst hb
    walk_at "rd"
    cases b with
    | true => exact q
    | false =>
      rw [if_neg Bool.false_ne_true] at q
      obtain ⟨_, C, dx, fs, f, e, q1, q2, q3, q4, q5⟩ := q
      cases e
      walk_at "rd"
      refine ⟨_, C, dx, fs, f, rfl, q1, q2, q3, q4, ?_⟩
      walk_at "rd"
      refine calls_mono q5 fun v H2 ⟨b, hb, q⟩ => ?_
      subst hb
      walk_at "rd"
      exact q
theorem ok_many (T : Txt K mg w A) {C : Addr} (O : OrdC K A C) : FnOk P w K mg base CX0 1 A.f_Order_many_asked A.d_Order_many_asked ["self"] (sp_many C) := by
  have hC := O.cl
  have n2 := O.nt
  refine T.c_Order_many_asked.F.ok sc_Order_many_asked (fun vs H Q E h => ?_) (fun cdv Ar outer s H vs Q E hr h => ?_)
  · obtain ⟨x, dx, r, n, rest, rfl, _⟩ := h; rfl
  · obtain ⟨x, dx, r, n, rest, rfl, hx, k⟩ := h
    refine ⟨_, (pss_one (ps_ret (pe_fld (pv 0) rfl))), ?_⟩
    have S := Hs.start1 hx [] (.inl rfl)
    walk_at "st"
    walk_at "rd"
    exact k
end
end K04

namespace K04
open PySem PySem.Spec PyProof.Rows L2 Rs Xc Xd Xg Xh Xi Xj Xk NdefX Xf Xq
def But (a : Addr) (H H' : Hp) : Prop := ∀ b o, H b = some o → b ≠ a → H' b = some o
theorem _root_.Xj.CalMD.b {K : PySem.W.Frag} {f : Addr} {fd : FuncData} (c : CalMD K "KeyOrder.__init__" s_KeyOrder___init__ [.non] f fd) : Binds K fd ["self", "key", "order"] [] := by
  obtain ⟨ds, hv, hb⟩ := c.F.binds1 (ps := ["self", "key", "order"]) 3 1 (by simp) rfl (by
    intro T kV doc pm an cdv ct us its h1 h2
    match us, h1, its, h2 with
    | [u, v, x], _, [i], _ => exact ⟨_, rfl, rfl⟩)
  cases hv
  exact hb
def sp_dinit (K : PySem.W.Frag) (A : Ad) : Sp := fun vs H Q _ => ∃ (x dx i C dxi : Addr) (fs : List (Str × V)), vs = [.ref x, .ref i] ∧ H x = some (.ins A.C_DownOrder dx []) ∧ H i = some (.ins C dxi fs) ∧ OrdC K A C ∧ x ≠ i ∧ ∀ H', H' x = some (.ins A.C_DownOrder dx (flds .non 0 (dR i))) → But x H H' → Q .non H'
def sp_kinit (K : PySem.W.Frag) (A : Ad) : Sp := fun vs H Q _ => ∃ (x dx kf : Addr) (v : V), vs = [.ref x, .ref kf, v] ∧ H x = some (.ins A.C_KeyOrder dx []) ∧
  ((∃ (i C dxi : Addr) (fs : List (Str × V)), v = .ref i ∧ H i = some (.ins C dxi fs) ∧ OrdC K A C ∧ x ≠ i ∧ ∀ H', H' x = some (.ins A.C_KeyOrder dx (flds .non 0 (kR kf i))) → But x H H' → Q .non H') ∨
   (v = .non ∧ ∀ (y dy : Addr) (H' : Hp), H y = none → y ≠ x → H' y = some (.ins A.C_PlainOrder dy (flds .non 0 [])) → H' x = some (.ins A.C_KeyOrder dx (flds .non 0 (kR kf y))) → But x H H' → Q .non H'))
def sp_pinit (A : Ad) : Sp := fun vs H Q _ => ∃ (x dx : Addr), vs = [.ref x] ∧ H x = some (.ins A.C_PlainOrder dx []) ∧ ∀ H', H' x = some (.ins A.C_PlainOrder dx (flds .non 0 [])) → But x H H' → Q .non H'
def sp_tinit (K : PySem.W.Frag) (A : Ad) : Sp := fun vs H Q _ => ∃ (x dx i s C dxi C2 dxs : Addr) (fs fs2 : List (Str × V)), vs = [.ref x, .ref i, .ref s] ∧ H x = some (.ins A.C_ThenOrder dx []) ∧ H i = some (.ins C dxi fs) ∧ OrdC K A C ∧ H s = some (.ins C2 dxs fs2) ∧ OrdC K A C2 ∧ x ≠ i ∧ x ≠ s ∧ ∀ H', H' x = some (.ins A.C_ThenOrder dx (flds .non 0 (tR i s))) → But x H H' → Q .non H'
theorem put_inner (i : Addr) : putF "inner" (.ref i) (flds .non 0 []) = flds .non 0 (dR i) := by rfl
theorem put_key (kf : Addr) : putF "own_key" (.ref kf) (flds .non 0 []) = flds .non 0 [("own_key", .ref kf)] := by rfl
theorem put_inner2 (kf i : Addr) : putF "inner" (.ref i) (flds .non 0 [("own_key", .ref kf)]) = flds .non 0 (kR kf i) := by rfl
theorem put_second (i s : Addr) : putF "second_one" (.ref s) (flds .non 0 (dR i)) = flds .non 0 (tR i s) := by rfl
section
variable {P : Program} {w : World} {K : PySem.W.Frag} {mg : Str → Option Value} {base : Heap} {A : Ad} {H H0 : Hp} {MM : List Addr} {L L' F : Led} {Q : VK} {E : XK}
local macro_rules | `(tactic| walk_at "rd1") => `(tactic| first
  | with_reducible refine Xc.rd_bi ?_
  | with_reducible refine Xc.rd_put1 ?_
  | with_reducible refine Xc.rd_tmk ?_
  | with_reducible refine Xc.rd_xv ?_
  | with_reducible refine Xh.rd_callF ?_
  | with_reducible refine Xj.rd_clsF ?_
  | with_reducible refine Xj.rd_methD ?_)
theorem use_oinit {x dx C : Addr} {r : V} {F : HO → Led} (S : Hs H0 MM H L) (ch : ∀ o', Chg x (.ins C dx []) o' L (F o')) (own : H0 x = none ∨ x ∈ MM) (h : ∀ H', Hs H0 MM H' (F (.ins C dx (flds r 0 []))) → Q .non H') : sp_oinit C [.ref x, r] H Q E :=
  ⟨x, dx, r, rfl, S.is _ (ch (.dK [])).mem, fun H' e k => h H' (S.one (ch _) own k e)⟩
theorem use_norder {i C dxi : Addr} {fs : List (Str × V)} (S : Hs H0 MM H L) (m : (i, HO.ins C dxi fs) ∈ L) (O : OrdC K A C) (h : Q .non H) : sp_norder K A [.ref i] H Q E := ⟨i, C, dxi, fs, rfl, S.is _ m, O, h⟩
theorem ok_dinit (T : Txt K mg w A) : FnOk P w K mg base CX0 2 A.f_DownOrder___init__ A.d_DownOrder___init__ ["self", "order"] (sp_dinit K A) := by
  have G_Order___init__ : FnOk P w K mg base CX0 1 A.f_Order___init__ A.d_Order___init__ ["self", "rule"] (sp_oinit A.C_DownOrder) := ok_oinit T (ord_d T)
  have G_need_order : FnOk P w K mg base CX0 1 A.f_need_order A.d_need_order ["thing"] (sp_norder K A) := ok_norder T
  have hC := T.cl_DownOrder
  have n1 := T.na_DownOrder_inner
  refine T.c_DownOrder___init__.F.ok sc_DownOrder___init__ (fun vs H Q E h => ?_) (fun cdv Ar outer s H vs Q E hr h => ?_)
  · obtain ⟨_, _, _, _, _, _, rfl, _⟩ := h; rfl
  · obtain ⟨x, dx, i, C, dxi, fs, rfl, hx, hi, O, ne, k⟩ := h
    refine ⟨_, (pss_cons (ps_expr (Xj.pe_clsF rfl T.m_Order T.r_Order T.vi_Order rfl T.c_Order___init__.F.kp G_Order___init__ (hr.mono (by decide)) T.c_Order___init__.b pass0 (pa_cons (pv 0) (pa_cons pe_non pa_nil))))
      (pss_cons (ps_expr (pe_call G_need_order (hr.mono (by decide)) rfl T.c_need_order.m T.c_need_order.F.kp T.c_need_order.b .nil pass0 (pa_cons (pv 1) pa_nil)))
      (pss_one (ps_fld (pv 0) (pv 1) rfl)))), ?_⟩
    have S := Hs.start H [x] [(x, .ins A.C_DownOrder dx []), (i, .ins C dxi fs)] (by simpa using ne) (by
      intro q hq
      simp only [List.mem_cons, List.not_mem_nil, or_false] at hq
      rcases hq with rfl | rfl
      · exact hx
      · exact hi) (by
      intro b hb
      simp only [List.mem_cons, List.not_mem_nil, or_false] at hb
      subst hb
      rw [hx]; simp)
    walk_at "st"
    walk_at "rd"
    refine use_oinit S (by walk_at "chgF") (by walk_at "own") fun H1 S1 => ?_
    walk_at "rd"
    refine use_norder S1 (by walk_at "mem") O ?_
    walk_at "rd"
    rename_i H2 S2
    rw [put_inner] at S2
    exact k _ (S2.get (by walk_at "mem")) (fun b o e hb => S2.old1 e hb)
theorem ok_pinit (T : Txt K mg w A) : FnOk P w K mg base CX0 2 A.f_PlainOrder___init__ A.d_PlainOrder___init__ ["self"] (sp_pinit A) := by
  have G_Order___init__ : FnOk P w K mg base CX0 1 A.f_Order___init__ A.d_Order___init__ ["self", "rule"] (sp_oinit A.C_PlainOrder) := ok_oinit T (ord_p T)
  have hC := T.cl_PlainOrder
  refine T.c_PlainOrder___init__.F.ok sc_PlainOrder___init__ (fun vs H Q E h => ?_) (fun cdv Ar outer s H vs Q E hr h => ?_)
  · obtain ⟨_, _, rfl, _⟩ := h; rfl
  · obtain ⟨x, dx, rfl, hx, k⟩ := h
    refine ⟨_, (pss_one (ps_expr (Xj.pe_clsF rfl T.m_Order T.r_Order T.vi_Order rfl T.c_Order___init__.F.kp G_Order___init__ (hr.mono (by decide)) T.c_Order___init__.b pass0 (pa_cons (pv 0) (pa_cons pe_non pa_nil))))), ?_⟩
    have S := Hs.start1 hx [x] (.inr rfl)
    walk_at "st"
    walk_at "rd"
    refine use_oinit S (by walk_at "chgF") (by walk_at "own") fun H1 S1 => ?_
    walk_at "rd"
    exact k _ (S1.get (by walk_at "mem")) (fun b o e hb => S1.old1 e hb)
theorem ok_kinit (T : Txt K mg w A) : FnOk P w K mg base CX0 4 A.f_KeyOrder___init__ A.d_KeyOrder___init__ ["self", "key", "order"] (sp_kinit K A) := by
  have G_Order___init__ : FnOk P w K mg base CX0 1 A.f_Order___init__ A.d_Order___init__ ["self", "rule"] (sp_oinit A.C_KeyOrder) := ok_oinit T (ord_k T)
  have G_PlainOrder___init__ : FnOk P w K mg base CX0 2 A.f_PlainOrder___init__ A.d_PlainOrder___init__ ["self"] (sp_pinit A) := ok_pinit T
  have G_need_order : FnOk P w K mg base CX0 1 A.f_need_order A.d_need_order ["thing"] (sp_norder K A) := ok_norder T
  have hC := T.cl_KeyOrder
  have n1 := T.na_KeyOrder_inner
  have n2 := T.na_KeyOrder_own_key
  refine T.c_KeyOrder___init__.F.ok sc_KeyOrder___init__ (fun vs H Q E h => ?_) (fun cdv Ar outer s H vs Q E hr h => ?_)
  · obtain ⟨_, _, _, _, rfl, _⟩ := h; rfl
  · obtain ⟨x, dx, kf, v, rfl, hx, h⟩ := h
    refine ⟨_, (pss_cons (ps_expr (Xj.pe_clsF rfl T.m_Order T.r_Order T.vi_Order rfl T.c_Order___init__.F.kp G_Order___init__ (hr.mono (by decide)) T.c_Order___init__.b pass0 (pa_cons (pv 0) (pa_cons pe_non pa_nil))))
      (pss_cons (ps_if (pt_cmpR op_notN (pv 2) pe_non (nomark _))
        (pss_one (ps_expr (pe_call G_need_order (hr.mono (by decide)) rfl T.c_need_order.m T.c_need_order.F.kp T.c_need_order.b .nil pass0 (pa_cons (pv 2) pa_nil))))
        pss_nil)
      (pss_cons (ps_fld (pv 0) (pv 1) rfl)
      (pss_one (ps_fld (pv 0) (pe_ifExp (pt_cmpR op_isN (pv 2) pe_non (nomark _)) (pe_make0 T.i_PlainOrder G_PlainOrder___init__ (hr.mono (by decide)) rfl T.m_PlainOrder T.c_PlainOrder___init__.b .nil pass0) (pv 2)) rfl))))), ?_⟩
    rcases h with ⟨i, C, dxi, fs, rfl, hi, O, ne, k⟩ | ⟨rfl, k⟩
    · have S := Hs.start H [x] [(x, .ins A.C_KeyOrder dx []), (i, .ins C dxi fs)] (by simpa using ne) (by
        intro q hq
        simp only [List.mem_cons, List.not_mem_nil, or_false] at hq
        rcases hq with rfl | rfl
        · exact hx
        · exact hi) (by
        intro b hb
        simp only [List.mem_cons, List.not_mem_nil, or_false] at hb
        subst hb
        rw [hx]; simp)
      walk_at "st"
      walk_at "rd"
      refine use_oinit S (by walk_at "chgF") (by walk_at "own") fun H1 S1 => ?_
      walk_at "rd"
      walk_at "if1"
      refine use_norder S1 (by walk_at "mem") O ?_
      walk_at "rd"
      rename_i H2 S2
      rw [put_key] at S2
      rw [decide_eq_false (fun z => by cases z)]
      walk_at "if0"
      rename_i H3 S3
      rw [put_inner2] at S3
      exact k _ (S3.get (by walk_at "mem")) (fun b o e hb => S3.old1 e hb)
    · have S := Hs.start1 hx [x] (.inr rfl)
      walk_at "st"
      walk_at "rd"
      refine use_oinit S (by walk_at "chgF") (by walk_at "own") fun H1 S1 => ?_
      walk_at "rd"
      walk_at "if0"
      rename_i H2 S2
      rw [put_key] at S2
      rw [decide_eq_true rfl]
      walk_at "if1"
      intro y dy hy hdy nd
      obtain ⟨hd0, S3⟩ := S2.new hdy (.own y)
      obtain ⟨hy0, S4⟩ := S3.new (a := y) (by rw [upd_ne (Ne.symm nd)]; exact hy) (.ins A.C_PlainOrder dy [])
      refine ⟨y, dy, rfl, upd_same, fun H5 e5 k5 => ⟨rfl, ?_⟩⟩
      have S5 := S4.one (o' := .ins A.C_PlainOrder dy (flds .non 0 [])) (by walk_at "chg") (.inl hy0) k5 e5
      walk_at "rd"
      rename_i H6 S6
      rw [put_inner2] at S6
      have yx : y ≠ x := fun z => by rw [z, hx] at hy0; cases hy0
      exact k y dy H6 hy0 yx (S6.get (by walk_at "mem")) (S6.get (by walk_at "mem")) (fun b o e hb => S6.old1 e hb)
theorem ok_tinit (T : Txt K mg w A) : FnOk P w K mg base CX0 2 A.f_ThenOrder___init__ A.d_ThenOrder___init__ ["self", "first", "second"] (sp_tinit K A) := by
  have G_Order___init__ : FnOk P w K mg base CX0 1 A.f_Order___init__ A.d_Order___init__ ["self", "rule"] (sp_oinit A.C_ThenOrder) := ok_oinit T (ord_t T)
  have G_need_order : FnOk P w K mg base CX0 1 A.f_need_order A.d_need_order ["thing"] (sp_norder K A) := ok_norder T
  have hC := T.cl_ThenOrder
  have n1 := T.na_ThenOrder_inner
  have n2 := T.na_ThenOrder_second_one
  refine T.c_ThenOrder___init__.F.ok sc_ThenOrder___init__ (fun vs H Q E h => ?_) (fun cdv Ar outer s H vs Q E hr h => ?_)
  · obtain ⟨_, _, _, _, _, _, _, _, _, _, rfl, _⟩ := h; rfl
  · obtain ⟨x, dx, i, s, C, dxi, C2, dxs, fs, fs2, rfl, hx, hi, O, hs, O2, ne, ne2, k⟩ := h
    refine ⟨_, (pss_cons (ps_expr (Xj.pe_clsF rfl T.m_Order T.r_Order T.vi_Order rfl T.c_Order___init__.F.kp G_Order___init__ (hr.mono (by decide)) T.c_Order___init__.b pass0 (pa_cons (pv 0) (pa_cons pe_non pa_nil))))
      (pss_cons (ps_expr (pe_call G_need_order (hr.mono (by decide)) rfl T.c_need_order.m T.c_need_order.F.kp T.c_need_order.b .nil pass0 (pa_cons (pv 1) pa_nil)))
      (pss_cons (ps_expr (pe_call G_need_order (hr.mono (by decide)) rfl T.c_need_order.m T.c_need_order.F.kp T.c_need_order.b .nil pass0 (pa_cons (pv 2) pa_nil)))
      (pss_cons (ps_fld (pv 0) (pv 1) rfl)
      (pss_one (ps_fld (pv 0) (pv 2) rfl)))))), ?_⟩
    have S := Hs.start1 hx [x] (.inr rfl)
    walk_at "st"
    walk_at "rd"
    refine use_oinit S (by walk_at "chgF") (by walk_at "own") fun H1 S1 => ?_
    walk_at "rd"
    refine ⟨i, C, dxi, fs, rfl, S1.old1 hi ne.symm, O, ?_⟩
    walk_at "rd"
    refine ⟨s, C2, dxs, fs2, rfl, S1.old1 hs ne2.symm, O2, ?_⟩
    walk_at "rd"
    rename_i H2 S2 H3 S3
    rw [put_inner, put_second] at S3
    exact k _ (S3.get (by walk_at "mem")) (fun b o e hb => S3.old1 e hb)
theorem mk_keep {x dx C : Addr} {H' : Hp} (hx : H x = none) (hd : H dx = none) (k : ∀ b o, upd (upd H dx (.own x)) x (.ins C dx []) b = some o → b ≠ x → H' b = some o) : Same H H' := fun b o e => by
  have n1 : b ≠ x := fun z => by subst z; rw [hx] at e; cases e
  have n2 : b ≠ dx := fun z => by subst z; rw [hd] at e; cases e
  exact k b o (by rw [upd_ne n1, upd_ne n2]; exact e) n1
theorem mk_ne {x i : Addr} {o : HO} (hx : H x = none) (e : H i = some o) : x ≠ i := fun z => by subst z; rw [hx] at e; cases e
theorem mk_at {x dx C i : Addr} {o : HO} (hx : H x = none) (hd : H dx = none) (e : H i = some o) : upd (upd H dx (.own x)) x (.ins C dx []) i = some o := by
  have n1 : i ≠ x := fun z => by subst z; rw [hx] at e; cases e
  have n2 : i ≠ dx := fun z => by subst z; rw [hd] at e; cases e
  rw [upd_ne n1, upd_ne n2]; exact e
theorem mk_o {R : Addr → Hp → Prop} {f : Addr} (h : ∀ x dx H', H x = none → H' x = some (.ins A.C_Order dx (flds (.ref f) 0 [])) → Same H H' → R x H') : ∀ x dx, H x = none → H dx = none → dx ≠ x → sp_oinit A.C_Order (.ref x :: ([.ref f] ++ [])) (upd (upd H dx (.own x)) x (.ins A.C_Order dx [])) (fun v H2 => v = .non ∧ R x H2) E :=
  fun x dx hx hd ne => ⟨x, dx, .ref f, rfl, upd_same, fun H' e k => ⟨rfl, h x dx H' hx e (mk_keep hx hd k)⟩⟩
theorem mk_d {R : Addr → Hp → Prop} {i C dxi : Addr} {fs : List (Str × V)} (hi : H i = some (.ins C dxi fs)) (O : OrdC K A C) (h : ∀ x dx H', H x = none → H' x = some (.ins A.C_DownOrder dx (flds .non 0 (dR i))) → Same H H' → R x H') : ∀ x dx, H x = none → H dx = none → dx ≠ x → sp_dinit K A (.ref x :: ([.ref i] ++ [])) (upd (upd H dx (.own x)) x (.ins A.C_DownOrder dx [])) (fun v H2 => v = .non ∧ R x H2) E :=
  fun x dx hx hd ne => ⟨x, dx, i, C, dxi, fs, rfl, upd_same, mk_at hx hd hi, O, mk_ne hx hi, fun H' e k => ⟨rfl, h x dx H' hx e (mk_keep hx hd k)⟩⟩
theorem mk_p {R : Addr → Hp → Prop} (h : ∀ x dx H', H x = none → H' x = some (.ins A.C_PlainOrder dx (flds .non 0 [])) → Same H H' → R x H') : ∀ x dx, H x = none → H dx = none → dx ≠ x → sp_pinit A [.ref x] (upd (upd H dx (.own x)) x (.ins A.C_PlainOrder dx [])) (fun v H2 => v = .non ∧ R x H2) E :=
  fun x dx hx hd ne => ⟨x, dx, rfl, upd_same, fun H' e k => ⟨rfl, h x dx H' hx e (mk_keep hx hd k)⟩⟩
theorem mk_k {R : Addr → Hp → Prop} {kf i C dxi : Addr} {fs : List (Str × V)} (hi : H i = some (.ins C dxi fs)) (O : OrdC K A C) (h : ∀ x dx H', H x = none → H' x = some (.ins A.C_KeyOrder dx (flds .non 0 (kR kf i))) → Same H H' → R x H') : ∀ x dx, H x = none → H dx = none → dx ≠ x → sp_kinit K A (.ref x :: ([.ref kf, .ref i] ++ [])) (upd (upd H dx (.own x)) x (.ins A.C_KeyOrder dx [])) (fun v H2 => v = .non ∧ R x H2) E :=
  fun x dx hx hd ne => ⟨x, dx, kf, .ref i, rfl, upd_same, .inl ⟨i, C, dxi, fs, rfl, mk_at hx hd hi, O, mk_ne hx hi, fun H' e k => ⟨rfl, h x dx H' hx e (mk_keep hx hd k)⟩⟩⟩
theorem mk_kn {R : Addr → Hp → Prop} {kf : Addr} (h : ∀ x dx y dy H', H x = none → H y = none → x ≠ y → H' y = some (.ins A.C_PlainOrder dy (flds .non 0 [])) → H' x = some (.ins A.C_KeyOrder dx (flds .non 0 (kR kf y))) → Same H H' → R x H') : ∀ x dx, H x = none → H dx = none → dx ≠ x → sp_kinit K A (.ref x :: ([.ref kf] ++ [.non])) (upd (upd H dx (.own x)) x (.ins A.C_KeyOrder dx [])) (fun v H2 => v = .non ∧ R x H2) E :=
  fun x dx hx hd ne => ⟨x, dx, kf, .non, rfl, upd_same, .inr ⟨rfl, fun y dy H' hy yx ey ex k => ⟨rfl, h x dx y dy H' hx (by
    by_cases q : y = dx
    · subst q; rw [upd_ne yx, upd_same] at hy; cases hy
    · rw [upd_ne yx, upd_ne q] at hy; exact hy) yx.symm ey ex (mk_keep hx hd k)⟩⟩⟩
theorem mk_t {R : Addr → Hp → Prop} {i s C dxi C2 dxs : Addr} {fs fs2 : List (Str × V)} (hi : H i = some (.ins C dxi fs)) (O : OrdC K A C) (hs : H s = some (.ins C2 dxs fs2)) (O2 : OrdC K A C2) (h : ∀ x dx H', H x = none → H' x = some (.ins A.C_ThenOrder dx (flds .non 0 (tR i s))) → Same H H' → R x H') : ∀ x dx, H x = none → H dx = none → dx ≠ x → sp_tinit K A [.ref x, .ref i, .ref s] (upd (upd H dx (.own x)) x (.ins A.C_ThenOrder dx [])) (fun v H2 => v = .non ∧ R x H2) E :=
  fun x dx hx hd ne => ⟨x, dx, i, s, C, dxi, C2, dxs, fs, fs2, rfl, upd_same, mk_at hx hd hi, O, mk_at hx hd hs, O2, mk_ne hx hi, mk_ne hx hs, fun H' e k => ⟨rfl, h x dx H' hx e (mk_keep hx hd k)⟩⟩
theorem b_key (T : Txt K mg w A) : ∃ ds : List Value, Vals [V.non] ds ∧ Binds K A.d_KeyOrder___init__ ["self", "key", "order"] ds := by
  obtain ⟨ds, hv, hb⟩ := T.c_KeyOrder___init__.F.binds1 (ps := ["self", "key", "order"]) 2 0 (by simp) rfl (by
    intro T kV doc pm an cdv ct us its h1 h2
    match us, h1, its, h2 with
    | [u, v], _, [i], _ => exact ⟨_, rfl, rfl⟩)
  exact ⟨ds, hv, hb⟩
end
end K04

namespace K04
open PySem PySem.Spec PyProof.Rows L2 Rs Xc Xd Xg Xh Xi Xj Xk NdefX Xf Xq
/-! the rules and keys, and what they note -/
abbrev ruleSt : Stmt := (defBody s_l_rule).getD 0 (.Pass ⟨0, 0, 0, 0⟩)
abbrev keySt : Stmt := (defBody s_l_key).getD 0 (.Pass ⟨0, 0, 0, 0⟩)
abbrev ruleQ : Str := (("_law_rule" : Str) ++ ".<locals>.") ++ "_law_told"
abbrev keyQ : Str := (("_law_key" : Str) ++ ".<locals>.") ++ "_law_told"
abbrev ruleFn (cl : List (Str × Addr)) (c : Addr) : NF := NF.of ruleSt "_law_told" ruleQ cl c
abbrev keyFn (cl : List (Str × Addr)) (c : Addr) : NF := NF.of keySt "_law_told" keyQ cl c
def TT : List (Addr × Str) := [(321, (("_law_by_hand_right" : Str) ++ ".<locals>.") ++ "<lambda>"), (272, keyQ), (265, ruleQ)]
theorem rule_scope : NScope ["_law_item", "_law_mate", "_law_halt", "_law_notes", "_law_part"] ["_law_item", "_law_mate"] ["_law_halt", "_law_notes", "_law_part"] (C8.fnScope ruleSt) := nscope_by (by decide +kernel)
theorem key_scope : NScope ["_law_item", "_law_halt", "_law_notes", "_law_part", "_law_whole"] ["_law_item"] ["_law_halt", "_law_notes", "_law_part", "_law_whole"] (C8.fnScope keySt) := nscope_by (by decide +kernel)
/-- it stops -/
def StopW (A : Ad) (halt : Int) (H : Hp) (E : XK) : Prop := ∀ d, H d = none → E (.ref A.C_Stopped) (some d) (upd H d (.xd [("at", .int halt)]))
/-- a tuple of numbers -/
def TI (H : Hp) (v : V) (x : List Int) : Prop := ∃ a, v = .ref a ∧ H a = some (.tup (x.map V.int))
theorem TI.more {H H' : Hp} {v : V} {x : List Int} (h : TI H v x) (k : ∀ b xs, H b = some (.tup xs) → H' b = some (.tup xs)) : TI H' v x := by
  obtain ⟨a, e, h⟩ := h
  exact ⟨a, e, k _ _ h⟩
def TupV (H : Hp) (v : V) (xs : List V) : Prop := ∃ a, v = .ref a ∧ H a = some (.tup xs)
theorem TupV.more {H H' : Hp} {v : V} {xs : List V} (t : TupV H v xs) (k : Same H H') : TupV H' v xs := by
  obtain ⟨a, e, h⟩ := t
  exact ⟨a, e, k _ _ h⟩
def rot (p : Nat) (x : List Int) : List Int := x.drop p ++ x.take p
def sp_noted (A : Ad) : Sp := fun vs H Q E => ∃ (nt : Addr) (ws : List V) (halt : Int) (v : V), vs = [.ref nt, .int halt, v] ∧ H nt = some (.lst ws) ∧ ws.length ≤ 200000 ∧
  ∀ H', H' nt = some (.lst (ws ++ [v])) → But nt H H' → if (ws.length : Int) + 1 = halt then StopW A halt H' E else Q .non H'
def sp_rtold (A : Ad) : List (Option V) → Sp := fun cs vs H Q E => ∃ (nt ai aj : Addr) (ns : List V) (x y : List Int) (halt : Int) (p : Nat) (i j : Int), cs = [some (.int halt), some (.ref nt), some (.int p)] ∧ vs = [.ref ai, .ref aj] ∧ H nt = some (.lst ns) ∧ ns.length ≤ 200000 ∧
  H ai = some (.tup (x.map V.int)) ∧ H aj = some (.tup (y.map V.int)) ∧ x[p]? = some i ∧ y[p]? = some j ∧
  ∀ (t : Addr) (H' : Hp), H t = none → H' t = some (.tup [.str "rule", .int p, .ref ai, .ref aj]) → H' nt = some (.lst (ns ++ [.ref t])) → But nt H H' → if (ns.length : Int) + 1 = halt then StopW A halt H' E else Q (.bl (decide (i < j))) H'
def sp_ktold (A : Ad) : List (Option V) → Sp := fun cs vs H Q E => ∃ (nt ai : Addr) (ns : List V) (x : List Int) (halt : Int) (p : Nat) (wh : Bool) (i : Int), cs = [some (.int halt), some (.ref nt), some (.int p), some (.bl wh)] ∧ vs = [.ref ai] ∧ H nt = some (.lst ns) ∧ ns.length ≤ 200000 ∧
  H ai = some (.tup (x.map V.int)) ∧ x[p]? = some i ∧ x.length ≤ 10 ∧
  ∀ (t : Addr) (H' : Hp), H t = none → H' t = some (.tup [.str "key", .int p, .ref ai]) → H' nt = some (.lst (ns ++ [.ref t])) → But nt H H' → if (ns.length : Int) + 1 = halt then StopW A halt H' E else if wh = true then ∀ v H2, Same H' H2 → TI H2 v (rot p x) → Q v H2 else Q (.int i) H'
section
variable {P : Program} {w : World} {K : PySem.W.Frag} {mg : Str → Option Value} {base : Heap} {A : Ad} {H H0 : Hp} {MM : List Addr} {L L' F : Led} {Q : VK} {E : XK}
local macro_rules | `(tactic| walk_at "rd1") => `(tactic| first
  | with_reducible refine Xc.rd_bi ?_
  | with_reducible refine Xc.rd_put1 ?_
  | with_reducible refine Xc.rd_tmk ?_
  | with_reducible refine Xc.rd_xv ?_
  | with_reducible refine Xh.rd_callF ?_
  | with_reducible refine Xj.rd_clsF ?_
  | with_reducible refine Xj.rd_methD ?_)
theorem cut_whole {xs : List V} {lo hi : Option Int} (h : HT.sIx xs.length 0 lo = 0 ∧ HT.sIx xs.length xs.length hi = xs.length) : cutV xs lo hi = xs := by
  unfold cutV
  rw [h.1, h.2, List.drop_zero, Nat.sub_zero, List.take_length]
theorem rd_slT {x : V} {xs ys : List V} {lo hi : Option Int} (S : Hs H0 MM H L) (t : TupV H x xs) (e : cutV xs lo hi = ys) (k : ∀ v H', TupV H' v ys → Hs H0 MM H' L → Same H H' → Q v H') : rSlA K x lo hi H Q := by
  subst e
  obtain ⟨a, rfl, e⟩ := t
  refine ⟨a, xs, rfl, SqT.of e, fun h => k _ _ ⟨a, rfl, by rw [cut_whole h]; exact e⟩ S (fun _ _ e => e), fun _ p hp => ?_⟩
  obtain ⟨h0, S1⟩ := S.new hp (.tup (cutV xs lo hi))
  exact k _ _ ⟨p, rfl, upd_same⟩ (S1.sub (.cons _ (.refl _))) fun b o e => by rw [upd_ne (ne_of_none e hp)]; exact e
theorem rd_catT {x y : V} {xs ys : List V} (S : Hs H0 MM H L) (t : TupV H x xs) (u : TupV H y ys) (hz : xs.length + ys.length ≤ 1000) (k : ∀ v H', TupV H' v (xs ++ ys) → Hs H0 MM H' L → Same H H' → Q v H') : rCatA K x y H Q := by
  obtain ⟨a, rfl, e⟩ := t
  obtain ⟨b, rfl, e2⟩ := u
  refine ⟨a, b, xs, ys, rfl, rfl, SqT.of e, SqT.of e2, Rs.sz (by omega), fun h => k _ _ ⟨b, rfl, by rw [h]; exact e2⟩ S (fun _ _ e => e), fun h1 h2 => k _ _ ⟨a, rfl, by rw [h2, List.append_nil]; exact e⟩ S (fun _ _ e => e), fun _ _ p hp => ?_⟩
  obtain ⟨h0, S1⟩ := S.new hp (.tup (xs ++ ys))
  exact k _ _ ⟨p, rfl, upd_same⟩ (S1.sub (.cons _ (.refl _))) fun b o e => by rw [upd_ne (ne_of_none e hp)]; exact e
theorem at_nat {xs : List V} {i : Nat} {v : V} (h : xs[i]? = some v) : atI xs (i : Int) = some v := by
  have hl := (List.getElem?_eq_some_iff.mp h).1
  unfold atI
  unfold ixN
  rw [if_pos (by omega), if_pos (by omega)]
  simpa using h
theorem ok_noted (T : Txt K mg w A) : FnOk P w K mg base (L2.CX P w) 3 A.f__law_noted A.d__law_noted ["_law_notes", "_law_halt", "_law_what"] (sp_noted A) := by
  have G_Stopped : FnOk P w K mg base CX0 1 A.f_Stopped___init__ A.d_Stopped___init__ ["self", "at"] (Xc.spInit1 A.C_Stopped "at") := ok_xStopped T
  refine T.c__law_noted.F.okX sc_l_noted (fun vs H Q E h => ?_) (fun cdv Ar outer s H vs Q E hr h => ?_)
  · obtain ⟨_, _, _, _, rfl, _⟩ := h; rfl
  · obtain ⟨nt, ws, halt, v, rfl, hn, hl, k⟩ := h
    refine ⟨_, (pss_cons (ps_expr (pe_bm PySem.F.plainAttrs_list PySem.F.slot_list_append PySem.F.type_list_append mt_append (pv 0) (pa_cons (pv 2) pa_nil)))
      (pss_one (ps_if (pt_cmpR op_eq (pe_callB call_len_seq (by rfl) T.n_len PySem.boot_len (pa_cons (pv 0) pa_nil)) (pv 1) (nomark _))
        (pss_one (ps_raise rfl (takes_of rfl rfl rfl rfl) (Xc.pmk_own T.o_Stopped T.i_Stopped T.y_Stopped G_Stopped (hr.mono (by decide)) T.c_Stopped___init__.b .nil pass0 rfl T.m_Stopped (pa_cons (pv 1) pa_nil))))
        pss_nil))), ?_⟩
    have S := Hs.start1 hn [nt] (.inr rfl)
    walk_at "st"
    walk_at "rd"
    rename_i H1 S1
    have k := k H1 (S1.get (by walk_at "mem")) (fun b o e hb => S1.old1 e hb)
    refine rd_dec ?_ ?_ <;> intro hc
    · rw [if_pos (by simpa using hc)] at k
      refine Xc.rd_tmk ?_
      walk_at "rd"
      exact Xc.rd_mk1 k
    · rw [if_neg (by simpa using hc)] at k
      walk_at "rd"
      exact k
theorem at_int {x : List Int} {p : Nat} {i : Int} (h : x[p]? = some i) : atI (x.map V.int) (p : Int) = some (.int i) := at_nat (by rw [List.getElem?_map, h]; rfl)
theorem rd_ixP {p : Addr} {xs : List V} {i : Int} {v : V} {R : VK} (h : H p = some (.tup xs)) (e : atI xs i = some v) (k : R v H) : rIxT K (.ref p) (.int i) H R := ⟨p, xs, i, v, rfl, rfl, SqT.of h, e, k⟩
theorem ok_rtold (T : Txt K mg w A) (f : Addr) (cl : List (Str × Addr)) (c : Addr) : NOk P w K mg base (L2.CX P w) 4 f (ruleFn cl c) ["_law_item", "_law_mate"] ["_law_halt", "_law_notes", "_law_part"] (sp_rtold A) := by
  have G__law_noted : FnOk P w K mg base (L2.CX P w) 3 A.f__law_noted A.d__law_noted ["_law_notes", "_law_halt", "_law_what"] (sp_noted A) := ok_noted T
  refine nok_of rule_scope (fun doc pm ctv us hl => match us, hl with | [_, _], _ => rfl) (fun ws vs H Q E h => ?_) (fun Ar outer s H vs ws Q E hr hf hc hw h => ?_)
  · obtain ⟨_, _, _, _, _, _, _, _, _, _, _, rfl, _⟩ := h; rfl
  · obtain ⟨nt, ai, aj, ns, x, y, halt, p, i, j, rfl, rfl, hn, hl, hi, hj, ei, ej, k⟩ := h
    refine ⟨_, (pss_cons (ps_expr (pe_call G__law_noted (hr.mono (by decide)) rfl T.c__law_noted.m T.c__law_noted.F.kp T.c__law_noted.b .nil (passes_call (takes_of rfl rfl rfl rfl) fun _ _ _ _ z => z) (pa_cons (pv 3) (pa_cons (pv 2) (pa_cons (pe_tup (pa_cons pe_str (pa_cons (pv 4) (pa_cons (pv 0) (pa_cons (pv 1) pa_nil))))) pa_nil)))))
      (pss_one (ps_ret (pe_cmpR op_lt (pe_ix ix_tup (pv 0) (pv 4) (fun _ _ => rfl)) (pe_ix ix_tup (pv 1) (pv 4) (fun _ _ => rfl)) (nomark _))))), ?_⟩
    have S := Hs.start1 hn [nt] (.inr rfl)
    show tSeq _ _ _ [some (.ref ai), some (.ref aj), some (.int halt), some (.ref nt), some (.int p)] H
    walk_at "rd"
    rename_i t H1 ht S1
    refine ⟨nt, ns, halt, .ref t, rfl, S1.get (by walk_at "mem"), hl, fun H2 e2 k2 => ?_⟩
    have et := S1.get (a := t) (o := .tup [.str "rule", .int p, .ref ai, .ref aj]) (by walk_at "mem")
    have tn : t ≠ nt := fun z => by rw [z] at ht; rw [ht] at hn; cases hn
    have bt : But nt H H2 := fun b o e hb => k2 _ _ (S1.old1 e hb) hb
    have k := k t H2 ht (k2 _ _ et tn) e2 bt
    split
    · rename_i hc
      rw [if_pos hc] at k
      exact k
    · rename_i hc
      rw [if_neg hc] at k
      walk_at "rd"
      refine rd_ixP (bt _ _ hi (ne_of hi hn (fun z => by cases z))) (at_int ei) ?_
      walk_at "rd"
      refine rd_ixP (bt _ _ hj (ne_of hj hn (fun z => by cases z))) (at_int ej) ?_
      walk_at "rd"
      exact k
theorem ok_ktold (T : Txt K mg w A) (f : Addr) (cl : List (Str × Addr)) (c : Addr) : NOk P w K mg base (L2.CX P w) 4 f (keyFn cl c) ["_law_item"] ["_law_halt", "_law_notes", "_law_part", "_law_whole"] (sp_ktold A) := by
  have G__law_noted : FnOk P w K mg base (L2.CX P w) 3 A.f__law_noted A.d__law_noted ["_law_notes", "_law_halt", "_law_what"] (sp_noted A) := ok_noted T
  refine nok_of key_scope (fun doc pm ctv us hl => match us, hl with | [_], _ => rfl) (fun ws vs H Q E h => ?_) (fun Ar outer s H vs ws Q E hr hf hc hw h => ?_)
  · obtain ⟨_, _, _, _, _, _, _, _, _, rfl, _⟩ := h; rfl
  · obtain ⟨nt, ai, ns, x, halt, p, wh, i, rfl, rfl, hn, hl, hi, ei, xl, k⟩ := h
    refine ⟨_, (pss_cons (ps_expr (pe_call G__law_noted (hr.mono (by decide)) rfl T.c__law_noted.m T.c__law_noted.F.kp T.c__law_noted.b .nil (passes_call (takes_of rfl rfl rfl rfl) fun _ _ _ _ z => z) (pa_cons (pv 2) (pa_cons (pv 1) (pa_cons (pe_tup (pa_cons pe_str (pa_cons (pv 3) (pa_cons (pv 0) pa_nil)))) pa_nil)))))
      (pss_one (ps_ret (pe_ifExp (pt_val (pv 4)) (pe_op op_catA (pe_slice sl_tupA (pv 0) (po_some (pv 3)) po_none) (pe_slice sl_tupA (pv 0) po_none (po_some (pv 3)))) (pe_ix ix_tup (pv 0) (pv 3) (fun _ _ => rfl)))))), ?_⟩
    have S := Hs.start1 hn [nt] (.inr rfl)
    show tSeq _ _ _ [some (.ref ai), some (.int halt), some (.ref nt), some (.int p), some (.bl wh)] H
    walk_at "rd"
    rename_i t H1 ht S1
    refine ⟨nt, ns, halt, .ref t, rfl, S1.get (by walk_at "mem"), hl, fun H2 e2 k2 => ?_⟩
    have et := S1.get (a := t) (o := .tup [.str "key", .int p, .ref ai]) (by walk_at "mem")
    have tn : t ≠ nt := fun z => by rw [z] at ht; rw [ht] at hn; cases hn
    have bt : But nt H H2 := fun b o e hb => k2 _ _ (S1.old1 e hb) hb
    have k := k t H2 ht (k2 _ _ et tn) e2 bt
    split
    · rename_i hc
      rw [if_pos hc] at k
      exact k
    · rename_i hc
      rw [if_neg hc] at k
      have hi2 := bt _ _ hi (ne_of hi hn (fun z => by cases z))
      cases wh with
      | true =>
        rw [if_pos rfl] at k
        have S := Hs.start0 H2
        walk_at "rd"
        refine rd_slT S ⟨ai, rfl, hi2⟩ (Xd.cut_from _ _) fun v1 H3 t1 S3 s3 => ?_
        walk_at "rd"
        refine rd_slT S3 ⟨ai, rfl, s3 _ _ hi2⟩ (Xd.cut_to _ _) fun v2 H4 t2 S4 s4 => ?_
        walk_at "rd"
        refine rd_catT S4 (t1.more s4) t2 (by simp; omega) fun v3 H5 t3 S5 s5 => ?_
        refine k v3 H5 (fun b u e => s5 _ _ (s4 _ _ (s3 _ _ e))) ?_
        obtain ⟨a, e, h⟩ := t3
        exact ⟨a, e, by rw [h, ← List.map_drop, ← List.map_take, ← List.map_append]; rfl⟩
      | false =>
        rw [if_neg Bool.false_ne_true] at k
        walk_at "rd"
        refine rd_ixP hi2 (at_int ei) ?_
        exact k
end
end K04

namespace K04
open PySem L2 Rs Xc Xd Xg Xh Xi Xj Xk NdefX Xf Xq
theorem tabs_n {H : Hp} (t : LamX.Tabs TT H) : TabsN (TT.map fun p => (p.1, fun _ _ => p.2)) H := by
  intro p hp
  obtain ⟨q, hq, rfl⟩ := List.mem_map.mp hp
  exact TabN.of (t q hq)
theorem tabs_of {H : Hp} (t : TabsN (TT.map fun p => (p.1, fun _ _ => p.2)) H) : LamX.Tabs TT H := fun p hp => TabN.to (t _ (List.mem_map_of_mem (f := fun (p : Addr × Str) => (p.1, fun _ _ => p.2)) hp))
theorem tt_uni : ∀ (q : Addr × Str), q ∈ TT → ∀ p ∈ TT, p.1 = q.1 → p.2 = q.2 := by
  intro q hq p hp e
  simp only [TT, List.mem_cons, List.not_mem_nil, or_false] at hp hq
  rcases hp with rfl | rfl | rfl <;> rcases hq with rfl | rfl | rfl <;> first | exact absurd e (by decide) | rfl
section
variable {P : Program} {w : World} {K : PySem.W.Frag} {mg : Str → Option Value} {base : Heap} {A : Ad} {H H0 : Hp} {MM : List Addr} {L L' F : Led} {Q : VK} {E : XK}
abbrev capR : List Str := ["_law_halt", "_law_notes", "_law_part"]
/-- the function as it stands, with what it captured -/
def RAt (H : Hp) (f nt : Addr) (halt : Int) (p : Nat) : Prop := ∃ (cl : List (Str × Addr)) (c : Addr) (cs : CL), H f = some (FnO f (ruleFn cl c)) ∧ H c = some (LamX.CodeO c ruleQ) ∧ ClAt cl capR [some (.int halt), some (.ref nt), some (.int p)] cs ∧ Trk cs H
theorem RAt.ext {H H' : Hp} {f nt : Addr} {halt : Int} {p : Nat} (r : RAt H f nt halt p) (k : ∀ b r, H b = some (.ext r) → H' b = some (.ext r)) : RAt H' f nt halt p := by
  obtain ⟨cl, c, cs, h1, h2, h3, h4⟩ := r
  exact ⟨cl, c, cs, k _ _ h1, k _ _ h2, h3, fun b v e => k _ _ (h4 b v e)⟩
def sp_mkR : Sp := fun vs H Q _ => ∃ (nt : Addr) (halt : Int) (p : Nat), vs = [.ref nt, .int halt, .int p] ∧ LamX.Tabs TT H ∧
  ∀ (f : Addr) (H' : Hp), LamX.ExtN H H' → LamX.Tabs TT H' → H f = none → RAt H' f nt halt p → Q (.ref f) H'
theorem cells_R {n : Nat} {y : Str} {c : Addr} (h : (cellsFrom n (defScope s_l_rule).names []).lookup y = some c) : y = "_law_notes" ∨ y = "_law_halt" ∨ y = "_law_part" := by
  rcases cellsFrom_kind _ _ _ _ _ (PySem.mem_of_lookup h) with z | z
  · cases z
  · have q : ∀ p ∈ (defScope s_l_rule).names, p.2 = .cell → p.1 = "_law_notes" ∨ p.1 = "_law_halt" ∨ p.1 = "_law_part" := by decide +kernel
    exact q _ z rfl
theorem tn_inR : (265, fun _ _ => ruleQ) ∈ TT.map fun p => ((p.1, fun _ _ => p.2) : NTab) := List.mem_map.mpr ⟨(265, ruleQ), by simp [TT], rfl⟩
theorem tn_oneR : ∀ p ∈ TT.map fun p => ((p.1, fun _ _ => p.2) : NTab), p.1 = 265 → p.2 = fun _ _ => ruleQ := by
  intro p hp e
  obtain ⟨q, hq, rfl⟩ := List.mem_map.mp hp
  have := tt_uni (265, ruleQ) (by simp [TT]) q hq e
  dsimp only
  rw [show q.2 = ruleQ from this]
theorem ok_mkR (T : Txt K mg w A) (TB : LamX.TabB base mg A.cc__law_rule 265) : FnOk P w K mg base CX0 1 A.f__law_rule A.d__law_rule ["_law_notes", "_law_halt", "_law_part"] sp_mkR := by
  refine fnC_maker T.cx__law_rule sc_l_rule (by decide +kernel) (fun vs H Q E h => ?_) (fun Ar outer s H vs Q E hr h => ?_)
  · obtain ⟨nt, halt, p, rfl, _⟩ := h; rfl
  · obtain ⟨nt, halt, p, rfl, ht, k⟩ := h
    refine ⟨_, psr_cons (p1_lift (ps_ndefMS (st := ruleSt) (T := TT.map fun p => (p.1, fun _ _ => p.2)) (nm := fun _ _ => ruleQ) (i := 3) rfl TB rfl tn_inR rfl tn_oneR (ndef_free (fr := capR) (by first | rfl | kernel_rfl)) rfl rfl rfl sc_l_rule.nd rfl (Or.inl rfl) (Or.inl rfl))) (psr_one (p1_ret (pv 3))), ?_⟩
    refine ⟨tabs_n ht, fun f c' H1 eN nn T1 f0 f1 c1 => ?_⟩
    refine ⟨.ref f, rfl, ?_⟩
    have all : ∀ (y : Str) (c : Addr), (cellsFrom (s.heap.objs.size + 1) (defScope s_l_rule).names []).lookup y = some c → ∃ (j : Nat) (v : V), (["_law_notes", "_law_halt", "_law_part", "_law_told"] : List Str)[j]? = some y ∧ ([some (.ref nt), some (.int halt), some (.int p), some (.ref f)] : L2.St)[j]? = some (some v) := by
      intro y c h
      rcases cells_R h with rfl | rfl | rfl
      · exact ⟨0, _, rfl, rfl⟩
      · exact ⟨1, _, rfl, rfl⟩
      · exact ⟨2, _, rfl, rfl⟩
    refine ⟨all, fun cs inj cv fr => k f _ (fun b o e n => unhide_keep fr (eN b o e n)) ((tabs_of T1).ext fun b o e => unhide_keep fr e) f0 ⟨_, c', cs, unhide_keep fr f1, unhide_keep fr c1, clAt_of cv inj all ?_ (ndef_fr (by decide +kernel : ndefB (defScope s_l_rule) (C8.fnScope ruleSt) capR = true)) rfl ?_, unhide_trk⟩⟩
    · intro y hy e
      have q := ndef_free (by decide +kernel : ndefB (defScope s_l_rule) (C8.fnScope ruleSt) capR = true) y hy e
      rcases q with q | q
      · exact cell_has q
      · exact absurd rfl (sc_l_rule.nofree _ (PySem.mem_of_lookup q))
    · intro i y v e1 e2
      match i, e1, e2 with
      | 0, e1, e2 => cases e1; cases e2; exact ⟨1, rfl, rfl⟩
      | 1, e1, e2 => cases e1; cases e2; exact ⟨0, rfl, rfl⟩
      | 2, e1, e2 => cases e1; cases e2; exact ⟨2, rfl, rfl⟩
      | n + 3, e1, e2 => simp at e1
abbrev capK : List Str := ["_law_halt", "_law_notes", "_law_part", "_law_whole"]
/-- the function as it stands, with what it captured -/
def KAt (H : Hp) (f nt : Addr) (halt : Int) (p : Nat) (wh : Bool) : Prop := ∃ (cl : List (Str × Addr)) (c : Addr) (cs : CL), H f = some (FnO f (keyFn cl c)) ∧ H c = some (LamX.CodeO c keyQ) ∧ ClAt cl capK [some (.int halt), some (.ref nt), some (.int p), some (.bl wh)] cs ∧ Trk cs H
theorem KAt.ext {H H' : Hp} {f nt : Addr} {halt : Int} {p : Nat} {wh : Bool} (r : KAt H f nt halt p wh) (k : ∀ b r, H b = some (.ext r) → H' b = some (.ext r)) : KAt H' f nt halt p wh := by
  obtain ⟨cl, c, cs, h1, h2, h3, h4⟩ := r
  exact ⟨cl, c, cs, k _ _ h1, k _ _ h2, h3, fun b v e => k _ _ (h4 b v e)⟩
def sp_mkK : Sp := fun vs H Q _ => ∃ (nt : Addr) (halt : Int) (p : Nat) (wh : Bool), vs = [.ref nt, .int halt, .int p, .bl wh] ∧ LamX.Tabs TT H ∧
  ∀ (f : Addr) (H' : Hp), LamX.ExtN H H' → LamX.Tabs TT H' → H f = none → KAt H' f nt halt p wh → Q (.ref f) H'
theorem cells_K {n : Nat} {y : Str} {c : Addr} (h : (cellsFrom n (defScope s_l_key).names []).lookup y = some c) : y = "_law_notes" ∨ y = "_law_halt" ∨ y = "_law_part" ∨ y = "_law_whole" := by
  rcases cellsFrom_kind _ _ _ _ _ (PySem.mem_of_lookup h) with z | z
  · cases z
  · have q : ∀ p ∈ (defScope s_l_key).names, p.2 = .cell → p.1 = "_law_notes" ∨ p.1 = "_law_halt" ∨ p.1 = "_law_part" ∨ p.1 = "_law_whole" := by decide +kernel
    exact q _ z rfl
theorem tn_inK : (272, fun _ _ => keyQ) ∈ TT.map fun p => ((p.1, fun _ _ => p.2) : NTab) := List.mem_map.mpr ⟨(272, keyQ), by simp [TT], rfl⟩
theorem tn_oneK : ∀ p ∈ TT.map fun p => ((p.1, fun _ _ => p.2) : NTab), p.1 = 272 → p.2 = fun _ _ => keyQ := by
  intro p hp e
  obtain ⟨q, hq, rfl⟩ := List.mem_map.mp hp
  have := tt_uni (272, keyQ) (by simp [TT]) q hq e
  dsimp only
  rw [show q.2 = keyQ from this]
theorem ok_mkK (T : Txt K mg w A) (TB : LamX.TabB base mg A.cc__law_key 272) : FnOk P w K mg base CX0 1 A.f__law_key A.d__law_key ["_law_notes", "_law_halt", "_law_part", "_law_whole"] sp_mkK := by
  refine fnC_maker T.cx__law_key sc_l_key (by decide +kernel) (fun vs H Q E h => ?_) (fun Ar outer s H vs Q E hr h => ?_)
  · obtain ⟨nt, halt, p, wh, rfl, _⟩ := h; rfl
  · obtain ⟨nt, halt, p, wh, rfl, ht, k⟩ := h
    refine ⟨_, psr_cons (p1_lift (ps_ndefMS (st := keySt) (T := TT.map fun p => (p.1, fun _ _ => p.2)) (nm := fun _ _ => keyQ) (i := 4) rfl TB rfl tn_inK rfl tn_oneK (ndef_free (fr := capK) (by first | rfl | kernel_rfl)) rfl rfl rfl sc_l_key.nd rfl (Or.inl rfl) (Or.inl rfl))) (psr_one (p1_ret (pv 4))), ?_⟩
    refine ⟨tabs_n ht, fun f c' H1 eN nn T1 f0 f1 c1 => ?_⟩
    refine ⟨.ref f, rfl, ?_⟩
    have all : ∀ (y : Str) (c : Addr), (cellsFrom (s.heap.objs.size + 1) (defScope s_l_key).names []).lookup y = some c → ∃ (j : Nat) (v : V), (["_law_notes", "_law_halt", "_law_part", "_law_whole", "_law_told"] : List Str)[j]? = some y ∧ ([some (.ref nt), some (.int halt), some (.int p), some (.bl wh), some (.ref f)] : L2.St)[j]? = some (some v) := by
      intro y c h
      rcases cells_K h with rfl | rfl | rfl | rfl
      · exact ⟨0, _, rfl, rfl⟩
      · exact ⟨1, _, rfl, rfl⟩
      · exact ⟨2, _, rfl, rfl⟩
      · exact ⟨3, _, rfl, rfl⟩
    refine ⟨all, fun cs inj cv fr => k f _ (fun b o e n => unhide_keep fr (eN b o e n)) ((tabs_of T1).ext fun b o e => unhide_keep fr e) f0 ⟨_, c', cs, unhide_keep fr f1, unhide_keep fr c1, clAt_of cv inj all ?_ (ndef_fr (by decide +kernel : ndefB (defScope s_l_key) (C8.fnScope keySt) capK = true)) rfl ?_, unhide_trk⟩⟩
    · intro y hy e
      have q := ndef_free (by decide +kernel : ndefB (defScope s_l_key) (C8.fnScope keySt) capK = true) y hy e
      rcases q with q | q
      · exact cell_has q
      · exact absurd rfl (sc_l_key.nofree _ (PySem.mem_of_lookup q))
    · intro i y v e1 e2
      match i, e1, e2 with
      | 0, e1, e2 => cases e1; cases e2; exact ⟨1, rfl, rfl⟩
      | 1, e1, e2 => cases e1; cases e2; exact ⟨0, rfl, rfl⟩
      | 2, e1, e2 => cases e1; cases e2; exact ⟨2, rfl, rfl⟩
      | 3, e1, e2 => cases e1; cases e2; exact ⟨3, rfl, rfl⟩
      | n + 4, e1, e2 => simp at e1
end
end K04

namespace K04
open PySem L2 Rs Xc Xd Xg Xh Xi Xj Xk NdefX Xf Xq
/-! ### what orders of orders tell -/
inductive Nt where
  | rule (p : Nat) (x y : List Int)
  | key (p : Nat) (x : List Int)
/-- a row: 0 rule, 1 plain, 2 key, 3 keyed, 4 down, 5 then -/
structure Rw where
  w : Nat
  base : Nat
  more : Nat
  part : Nat
structure S4 where
  asked : List Int
  notes : List Nt
def S4.bump (s : S4) (k : Nat) : S4 := ⟨s.asked.set k (s.asked.getD k 0 + 1), s.notes⟩
def S4.add (s : S4) (n : Nt) : S4 := ⟨s.asked, s.notes ++ [n]⟩
/-- it is noted: does that stop -/
def S4.stop (s : S4) (halt : Int) : Bool := decide ((s.notes.length : Int) + 1 = halt)
/-- the key of both -/
def keysF (halt : Int) (p : Nat) (x y : List Int) (s : S4) : Bool × S4 :=
  if s.stop halt then (true, s.add (.key p x)) else ((s.add (.key p x)).stop halt, (s.add (.key p x)).add (.key p y))
def thenF (a b c : S4 → Option Bool × S4) (s : S4) : Option Bool × S4 :=
  match a s with
  | (none, s1) => (none, s1)
  | (some true, s1) => (some true, s1)
  | (some false, s1) => match b s1 with
    | (none, s2) => (none, s2)
    | (some true, s2) => (some false, s2)
    | (some false, s2) => c s2
def aheadF (rows : List Rw) (halt : Int) : Nat → Nat → List Int → List Int → S4 → Option Bool × S4
  | 0, _, _, _, s => (none, s)
  | m + 1, k, x, y, s => match rows[k]? with
    | none => (none, s)
    | some r => match r.w with
      | 0 => if (s.bump k).stop halt then (none, (s.bump k).add (.rule r.part x y)) else (some (decide (x.getD r.part 0 < y.getD r.part 0)), (s.bump k).add (.rule r.part x y))
      | 1 => (some (HT.lexLt x y), s.bump k)
      | 2 => if (keysF halt r.part x y (s.bump k)).1 then (none, (keysF halt r.part x y (s.bump k)).2) else (some (decide (x.getD r.part 0 < y.getD r.part 0)), (keysF halt r.part x y (s.bump k)).2)
      | 3 => if (keysF halt r.part x y (s.bump k)).1 then (none, (keysF halt r.part x y (s.bump k)).2) else aheadF rows halt m r.base (rot r.part x) (rot r.part y) (keysF halt r.part x y (s.bump k)).2
      | 4 => aheadF rows halt m r.base y x (s.bump k)
      | _ => thenF (aheadF rows halt m r.base x y) (aheadF rows halt m r.base y x) (aheadF rows halt m r.more x y) (s.bump k)
structure RowsOk (rows : List Rw) : Prop where
  part : ∀ (k : Nat) r, rows[k]? = some r → r.part < 3
  w : ∀ (k : Nat) r, rows[k]? = some r → r.w ≤ 5
  base : ∀ (k : Nat) r, rows[k]? = some r → 3 ≤ r.w → r.base < k ∧ r.more < k
theorem rot_len (p : Nat) (x : List Int) : (rot p x).length = x.length := by
  unfold rot
  rw [List.length_append, List.length_drop, List.length_take]
  omega
theorem keys_len {halt : Int} {p : Nat} {x y : List Int} {s : S4} : (keysF halt p x y s).2.notes.length ≤ s.notes.length + 2 ∧ s.notes.length ≤ (keysF halt p x y s).2.notes.length := by
  unfold keysF S4.add
  split <;> simp
theorem then_len {a b c : S4 → Option Bool × S4} {n : Nat} (ha : ∀ s, (a s).2.notes.length ≤ s.notes.length + n) (hb : ∀ s, (b s).2.notes.length ≤ s.notes.length + n) (hc : ∀ s, (c s).2.notes.length ≤ s.notes.length + n) (s : S4) : (thenF a b c s).2.notes.length ≤ s.notes.length + 3 * n := by
  unfold thenF
  have h1 := ha s
  revert h1
  rcases a s with ⟨_ | _ | _, s1⟩ <;> intro h1 <;> dsimp only at h1 ⊢
  · omega
  · have h2 := hb s1
    revert h2
    rcases b s1 with ⟨_ | _ | _, s2⟩ <;> intro h2 <;> dsimp only at h2 ⊢
    · omega
    · have h3 := hc s2
      omega
    · omega
  · omega
theorem ahead_len {rows : List Rw} {halt : Int} : ∀ (m k : Nat) (x y : List Int) (s : S4), (aheadF rows halt m k x y s).2.notes.length ≤ s.notes.length + 2 * 3 ^ m
  | 0, k, x, y, s => Nat.le_add_right _ _
  | m + 1, k, x, y, s => by
    have hp : 1 ≤ 3 ^ m := Nat.one_le_pow _ _ (by decide)
    have e3 : 3 ^ (m + 1) = 3 * 3 ^ m := by rw [Nat.pow_succ]; omega
    have hb : (s.bump k).notes.length = s.notes.length := rfl
    unfold aheadF
    split
    · exact Nat.le_add_right _ _
    · rename_i r hr
      have kl := @keys_len halt r.part x y (s.bump k)
      split
      · split <;> (show (s.notes ++ [_]).length ≤ _; simp; omega)
      · show s.notes.length ≤ _; omega
      · split <;> (show (keysF halt r.part x y (s.bump k)).2.notes.length ≤ _; omega)
      · split
        · show (keysF halt r.part x y (s.bump k)).2.notes.length ≤ _; omega
        · have := ahead_len (rows := rows) (halt := halt) m r.base (rot r.part x) (rot r.part y) (keysF halt r.part x y (s.bump k)).2
          omega
      · have := ahead_len (rows := rows) (halt := halt) m r.base y x (s.bump k)
        omega
      · have := then_len (n := 2 * 3 ^ m) (fun s => ahead_len (rows := rows) (halt := halt) m r.base x y s) (fun s => ahead_len (rows := rows) (halt := halt) m r.base y x s) (fun s => ahead_len (rows := rows) (halt := halt) m r.more x y s) (s.bump k)
        omega
/-- by two askings -/
def alikeF (f g : S4 → Option Bool × S4) (s : S4) : Option Bool × S4 :=
  match f s with
  | (none, s1) => (none, s1)
  | (some true, s1) => (some false, s1)
  | (some false, s1) => match g s1 with
    | (none, s2) => (none, s2)
    | (some b, s2) => (some (!b), s2)
/-! ### the orders as they stand -/
inductive NtAt (H : Hp) : V → Nt → Prop
  | rule {a : Addr} {p : Nat} {vx vy : V} {x y : List Int} (e : H a = some (.tup [.str "rule", .int p, vx, vy])) (hx : TI H vx x) (hy : TI H vy y) : NtAt H (.ref a) (.rule p x y)
  | key {a : Addr} {p : Nat} {vx : V} {x : List Int} (e : H a = some (.tup [.str "key", .int p, vx])) (hx : TI H vx x) : NtAt H (.ref a) (.key p x)
inductive NtsAt (H : Hp) : List V → List Nt → Prop
  | nil : NtsAt H [] []
  | cons {v : V} {n : Nt} {vs : List V} {ns : List Nt} (h : NtAt H v n) (t : NtsAt H vs ns) : NtsAt H (v :: vs) (n :: ns)
theorem NtAt.more {H H' : Hp} {v : V} {n : Nt} (h : NtAt H v n) (k : ∀ b xs, H b = some (.tup xs) → H' b = some (.tup xs)) : NtAt H' v n := by
  cases h with
  | rule e hx hy => exact .rule (k _ _ e) (hx.more k) (hy.more k)
  | key e hx => exact .key (k _ _ e) (hx.more k)
theorem NtsAt.more {H H' : Hp} {vs : List V} {ns : List Nt} (h : NtsAt H vs ns) (k : ∀ b xs, H b = some (.tup xs) → H' b = some (.tup xs)) : NtsAt H' vs ns := by
  induction h with
  | nil => exact .nil
  | cons e _ ih => exact .cons (e.more k) ih
theorem NtsAt.snoc {H : Hp} {vs : List V} {ns : List Nt} {v : V} {n : Nt} (h : NtsAt H vs ns) (e : NtAt H v n) : NtsAt H (vs ++ [v]) (ns ++ [n]) := by
  induction h with
  | nil => exact .cons e .nil
  | cons e' _ ih => exact .cons e' ih
theorem NtsAt.len {H : Hp} {vs : List V} {ns : List Nt} (h : NtsAt H vs ns) : vs.length = ns.length := by
  induction h with
  | nil => rfl
  | cons _ _ ih => simp [ih]
inductive OrdAt (A : Ad) (H : Hp) (nt : Addr) (halt : Int) (os : List Addr) (x : Addr) : Rw → Int → Prop
  | rule {r : Rw} {n : Int} {dx f : Addr} (e : r.w = 0) (hx : H x = some (.ins A.C_Order dx (flds (.ref f) n []))) (hf : RAt H f nt halt r.part) : OrdAt A H nt halt os x r n
  | plain {r : Rw} {n : Int} {dx : Addr} (e : r.w = 1) (hx : H x = some (.ins A.C_PlainOrder dx (flds .non n []))) : OrdAt A H nt halt os x r n
  | key {r : Rw} {n m : Int} {dx kf y dy : Addr} (e : r.w = 2) (hx : H x = some (.ins A.C_KeyOrder dx (flds .non n (kR kf y)))) (hy : H y = some (.ins A.C_PlainOrder dy (flds .non m []))) (ny : y ∉ os) (hf : KAt H kf nt halt r.part false) : OrdAt A H nt halt os x r n
  | keyed {r : Rw} {n : Int} {dx kf o : Addr} (e : r.w = 3) (hx : H x = some (.ins A.C_KeyOrder dx (flds .non n (kR kf o)))) (ho : os[r.base]? = some o) (hf : KAt H kf nt halt r.part true) : OrdAt A H nt halt os x r n
  | down {r : Rw} {n : Int} {dx o : Addr} (e : r.w = 4) (hx : H x = some (.ins A.C_DownOrder dx (flds .non n (dR o)))) (ho : os[r.base]? = some o) : OrdAt A H nt halt os x r n
  | thn {r : Rw} {n : Int} {dx o o2 : Addr} (e : r.w = 5) (hx : H x = some (.ins A.C_ThenOrder dx (flds .non n (tR o o2)))) (ho : os[r.base]? = some o) (ho2 : os[r.more]? = some o2) : OrdAt A H nt halt os x r n
structure SysAt (A : Ad) (H : Hp) (nt : Addr) (halt : Int) (rows : List Rw) (os : List Addr) (s : S4) : Prop where
  len : os.length = rows.length
  al : s.asked.length = rows.length
  nd : os.Nodup
  ord : ∀ (i : Nat) r x, rows[i]? = some r → os[i]? = some x → OrdAt A H nt halt os x r (s.asked.getD i 0)
  nts : ∃ ws, H nt = some (.lst ws) ∧ NtsAt H ws s.notes
/-- what stays: all but instances and the notes' list -/
def KeepS (nt : Addr) (H H' : Hp) : Prop := ∀ b u, H b = some u → b ≠ nt → (∀ C dx fs, u ≠ .ins C dx fs) → H' b = some u
theorem KeepS.trans {nt : Addr} {H H' H'' : Hp} (a : KeepS nt H H') (b : KeepS nt H' H'') : KeepS nt H H'' := fun c u e n1 n2 => b _ _ (a _ _ e n1 n2) n1 n2
def FinS (A : Ad) (halt : Int) (res : Option Bool) (H : Hp) (Q : VK) (E : XK) : Prop := match res with
  | some b => Q (.bl b) H
  | none => StopW A halt H E
section
variable {A : Ad} {H H' : Hp} {nt : Addr} {halt : Int} {rows : List Rw} {os : List Addr} {s : S4}
theorem OrdAt.keep {x : Addr} {r : Rw} {n : Int} (h : OrdAt A H nt halt os x r n) (k0 : ∀ b r, H b = some (.ext r) → H' b = some (.ext r)) (k1 : ∀ o, H x = some o → H' x = some o) (k2 : ∀ y dy m, y ∉ os → H y = some (.ins A.C_PlainOrder dy (flds .non m [])) → ∃ m', H' y = some (.ins A.C_PlainOrder dy (flds .non m' []))) : OrdAt A H' nt halt os x r n := by
  cases h with
  | rule e hx hf => exact .rule e (k1 _ hx) (hf.ext k0)
  | plain e hx => exact .plain e (k1 _ hx)
  | key e hx hy ny hf => obtain ⟨m', e'⟩ := k2 _ _ _ ny hy; exact .key e (k1 _ hx) e' ny (hf.ext k0)
  | keyed e hx ho hf => exact .keyed e (k1 _ hx) ho (hf.ext k0)
  | down e hx ho => exact .down e (k1 _ hx) ho
  | thn e hx ho ho2 => exact .thn e (k1 _ hx) ho ho2
theorem OrdAt.ins {x : Addr} {r : Rw} {n : Int} (h : OrdAt A H nt halt os x r n) : ∃ C dx fs, H x = some (.ins C dx fs) := by
  cases h with
  | rule e hx hf => exact ⟨_, _, _, hx⟩
  | plain e hx => exact ⟨_, _, _, hx⟩
  | key e hx hy ny hf => exact ⟨_, _, _, hx⟩
  | keyed e hx ho hf => exact ⟨_, _, _, hx⟩
  | down e hx ho => exact ⟨_, _, _, hx⟩
  | thn e hx ho ho2 => exact ⟨_, _, _, hx⟩
theorem SysAt.at_ (S : SysAt A H nt halt rows os s) {i : Nat} (h : i < rows.length) : ∃ r x, rows[i]? = some r ∧ os[i]? = some x ∧ OrdAt A H nt halt os x r (s.asked.getD i 0) := by
  have h2 : i < os.length := by rw [S.len]; exact h
  exact ⟨_, _, List.getElem?_eq_getElem h, List.getElem?_eq_getElem h2, S.ord i _ _ (List.getElem?_eq_getElem h) (List.getElem?_eq_getElem h2)⟩
/-- the order k is counted -/
theorem SysAt.bump (S : SysAt A H nt halt rows os s) {k : Nat} {x : Addr} {r : Rw} (hk : rows[k]? = some r) (hx : os[k]? = some x) (b : But x H H') (o : OrdAt A H' nt halt os x r (s.asked.getD k 0 + 1)) : SysAt A H' nt halt rows os (s.bump k) := by
  have kl : k < s.asked.length := by rw [S.al]; exact (List.getElem?_eq_some_iff.mp hk).1
  obtain ⟨C, dx, fs, ox⟩ := (S.ord k r x hk hx).ins
  obtain ⟨ws, hn, hw⟩ := S.nts
  refine ⟨S.len, by show (s.asked.set _ _).length = _; rw [List.length_set, S.al], S.nd, fun i r' x' h1 h2 => ?_, ws, b _ _ hn (ne_of hn ox (fun z => by cases z)), hw.more fun c xs e => b _ _ e (ne_of e ox (fun z => by cases z))⟩
  by_cases c : i = k
  · subst c
    rw [hk] at h1; cases h1
    rw [hx] at h2; cases h2
    show OrdAt A H' nt halt os x r ((s.asked.set i _).getD i 0)
    rw [List.getD_eq_getElem?_getD, List.getElem?_set_self kl]
    exact o
  · have e : (s.bump k).asked.getD i 0 = s.asked.getD i 0 := by
      show (s.asked.set k _).getD i 0 = _
      simp only [List.getD_eq_getElem?_getD]
      rw [List.getElem?_set_ne (fun z => c z.symm)]
    rw [e]
    have nx : x' ≠ x := fun z => by
      subst z
      obtain ⟨a1, a2⟩ := List.getElem?_eq_some_iff.mp h2
      obtain ⟨b1, b2⟩ := List.getElem?_eq_some_iff.mp hx
      have pw := List.pairwise_iff_getElem.mp S.nd
      rcases Nat.lt_or_gt_of_ne c with h | h
      · exact pw i k a1 b1 h (a2.trans b2.symm)
      · exact pw k i b1 a1 h (b2.trans a2.symm)
    refine (S.ord i r' x' h1 h2).keep (fun c r e => b _ _ e (ne_of e ox (fun z => by cases z))) (fun o e => b _ _ e nx) fun y dy m hy e => ⟨m, b _ _ e fun z => hy ?_⟩
    rw [z]; exact List.mem_of_getElem? hx
/-- a note more -/
theorem SysAt.note (S : SysAt A H nt halt rows os s) {t : Addr} {n : Nt} {ws : List V} (hn : H nt = some (.lst ws)) (hn' : H' nt = some (.lst (ws ++ [.ref t]))) (b : But nt H H') (e : NtAt H' (.ref t) n) : SysAt A H' nt halt rows os (s.add n) := by
  obtain ⟨ws', h1, hw⟩ := S.nts
  rw [hn] at h1; cases h1
  have tp : ∀ c xs, H c = some (.tup xs) → H' c = some (.tup xs) := fun c xs e => b _ _ e (ne_of e hn (fun z => by cases z))
  refine ⟨S.len, S.al, S.nd, fun i r x h1 h2 => (S.ord i r x h1 h2).keep (fun c r e => b _ _ e (ne_of e hn (fun z => by cases z))) (fun o e => ?_) (fun y dy m _ e => ⟨m, b _ _ e (ne_of e hn (fun z => by cases z))⟩), _, hn', (hw.more tp).snoc e⟩
  obtain ⟨C, dx, fs, ox⟩ := (S.ord i r x h1 h2).ins
  exact b _ _ e fun z => by rw [z, hn] at ox; cases ox
/-- an inner plain one is counted -/
theorem SysAt.plain (S : SysAt A H nt halt rows os s) {y dy : Addr} {m m' : Int} (hy : H y = some (.ins A.C_PlainOrder dy (flds .non m []))) (ny : y ∉ os) (hy' : H' y = some (.ins A.C_PlainOrder dy (flds .non m' []))) (b : But y H H') : SysAt A H' nt halt rows os s := by
  obtain ⟨ws, hn, hw⟩ := S.nts
  refine ⟨S.len, S.al, S.nd, fun i r x h1 h2 => (S.ord i r x h1 h2).keep (fun c r e => b _ _ e (ne_of e hy (fun z => by cases z))) (fun o e => b _ _ e fun z => ny (by rw [← z]; exact List.mem_of_getElem? h2)) (fun z dz mz _ e => ?_), ws, b _ _ hn (ne_of hn hy (fun z => by cases z)), hw.more fun c xs e => b _ _ e (ne_of e hy (fun z => by cases z))⟩
  by_cases c : z = y
  · subst c
    rw [hy] at e
    cases e
    exact ⟨m', hy'⟩
  · exact ⟨mz, b _ _ e c⟩
end
end K04

namespace K04
open PySem L2 Rs Xc Xd Xg Xh Xi Xj Xk NdefX Xf Xq
/-! ### the rules and keys as they are called -/
section
variable {P : Program} {w : World} {K : PySem.W.Frag} {mg : Str → Option Value} {base : Heap} {A : Ad} {H H' H0 : Hp} {MM : List Addr} {L L' F : Led} {Q : VK} {E : XK} {cs : CL} {nt f : Addr} {halt : Int} {p : Nat} {x y : List Int} {vx vy : V} {ns : List V}
theorem stop_hide (h : Free cs H → StopW A halt (unhide cs H) E) : StopW A halt H (Eh cs E) := by
  intro d hd fr
  have nd : cs.lookup d = none := by
    cases e : cs.lookup d with
    | none => rfl
    | some u => have := fr d u e; rw [upd_same] at this; cases this
  have fr' : Free cs H := fun b u e => by
    have := fr b u e
    unfold upd at this
    split at this
    · cases this
    · exact this
  have q := h fr' d (by rw [unhide_out nd]; exact hd)
  have e : unhide cs (upd H d (.xd [("at", .int halt)])) = upd (unhide cs H) d (.xd [("at", .int halt)]) := by
    funext b
    by_cases hb : b = d
    · subst hb; rw [upd_same, unhide_out nd, upd_same]
    · rw [upd_ne hb]
      unfold unhide
      split
      · rfl
      · exact upd_ne hb
  rw [e]
  exact q
theorem hide_lst {b : Addr} {xs : List V} (t : Trk cs H) (e : H b = some (.lst xs)) : hide cs H b = some (.lst xs) := by
  rw [hide_out (t.out e fun v q => by cases q)]; exact e
theorem hide_tup {b : Addr} {xs : List V} (t : Trk cs H) (e : H b = some (.tup xs)) : hide cs H b = some (.tup xs) := by
  rw [hide_out (t.out e fun v q => cell_tup q)]; exact e
/-- behind a note -/
theorem note_back {t : Addr} {u : HO} {ws : List V} (tr : Trk cs H) (ht : hide cs H t = none) (et : H' t = some u) (en : H' nt = some (.lst ws)) (b : But nt (hide cs H) H') (fr : Free cs H') : H t = none ∧ unhide cs H' t = some u ∧ unhide cs H' nt = some (.lst ws) ∧ But nt H (unhide cs H') := by
  refine ⟨?_, unhide_keep fr et, unhide_keep fr en, fun c o e hc => ?_⟩
  · cases e : cs.lookup t with
    | some v => rw [fr t v e] at et; cases et
    | none => rw [hide_out e] at ht; exact ht
  · cases q : cs.lookup c with
    | some v =>
      have e3 := tr c v q
      rw [e] at e3
      rw [unhide_in q, e3]
    | none => exact unhide_keep fr (b c o (by rw [hide_out q]; exact e) hc)
theorem calls_rule (T : Txt K mg w A) (r : RAt H f nt halt p) (hn : H nt = some (.lst ns)) (nl : ns.length ≤ 200000) (hx : TI H vx x) (hy : TI H vy y) (lx : p < x.length) (ly : p < y.length)
    (k : ∀ (t : Addr) (H' : Hp), H t = none → H' t = some (.tup [.str "rule", .int p, vx, vy]) → H' nt = some (.lst (ns ++ [.ref t])) → But nt H H' → if (ns.length : Int) + 1 = halt then StopW A halt H' E else Q (.bl (decide (x.getD p 0 < y.getD p 0))) H') :
    IsFn f H ∧ CallsTo P w K mg base (L2.CX P w) 5 f H [vx, vy] Q E := by
  obtain ⟨cl, c, cs, f1, f2, f3, f4⟩ := r
  obtain ⟨ai, rfl, hi⟩ := hx
  obtain ⟨aj, rfl, hj⟩ := hy
  have gd : ∀ {z : List Int}, p < z.length → z[p]? = some (z.getD p 0) := fun h => by rw [List.getD_eq_getElem?_getD, List.getElem?_eq_getElem h]; rfl
  refine ⟨isFn_nd f1, calls_up (calls_nd (ok_rtold T f cl c) f4 f3 f1 f2 ⟨nt, ai, aj, ns, x, y, halt, p, _, _, rfl, rfl, hide_lst f4 hn, nl, hide_tup f4 hi, hide_tup f4 hj, gd lx, gd ly, fun t H1 ht et en b => ?_⟩) (by decide)⟩
  by_cases hc : (ns.length : Int) + 1 = halt
  · rw [if_pos hc]
    refine stop_hide fun fr => ?_
    obtain ⟨a1, a2, a3, a4⟩ := note_back f4 ht et en b fr
    have := k t _ a1 a2 a3 a4
    rw [if_pos hc] at this
    exact this
  · rw [if_neg hc]
    intro fr
    obtain ⟨a1, a2, a3, a4⟩ := note_back f4 ht et en b fr
    have := k t _ a1 a2 a3 a4
    rw [if_neg hc] at this
    exact this
theorem calls_key (T : Txt K mg w A) {wh : Bool} (r : KAt H f nt halt p wh) (hn : H nt = some (.lst ns)) (nl : ns.length ≤ 200000) (hx : TI H vx x) (lx : p < x.length) (l10 : x.length ≤ 10)
    (k : ∀ (t : Addr) (H' : Hp), H t = none → H' t = some (.tup [.str "key", .int p, vx]) → H' nt = some (.lst (ns ++ [.ref t])) → But nt H H' → if (ns.length : Int) + 1 = halt then StopW A halt H' E else if wh = true then ∀ v H2, Same H' H2 → TI H2 v (rot p x) → Q v H2 else Q (.int (x.getD p 0)) H') :
    IsFn f H ∧ CallsTo P w K mg base (L2.CX P w) 5 f H [vx] Q E := by
  obtain ⟨cl, c, cs, f1, f2, f3, f4⟩ := r
  obtain ⟨ai, rfl, hi⟩ := hx
  have gd : ∀ {z : List Int}, p < z.length → z[p]? = some (z.getD p 0) := fun h => by rw [List.getD_eq_getElem?_getD, List.getElem?_eq_getElem h]; rfl
  refine ⟨isFn_nd f1, calls_up (calls_nd (ok_ktold T f cl c) f4 f3 f1 f2 ⟨nt, ai, ns, x, halt, p, wh, _, rfl, rfl, hide_lst f4 hn, nl, hide_tup f4 hi, gd lx, l10, fun t H1 ht et en b => ?_⟩) (by decide)⟩
  by_cases hc : (ns.length : Int) + 1 = halt
  · rw [if_pos hc]
    refine stop_hide fun fr => ?_
    obtain ⟨a1, a2, a3, a4⟩ := note_back f4 ht et en b fr
    have := k t _ a1 a2 a3 a4
    rw [if_pos hc] at this
    exact this
  · rw [if_neg hc]
    cases wh with
    | true =>
      rw [if_pos rfl]
      intro v H2 s2 hv fr2
      have fr : Free cs H1 := fun b u e => by
        cases z : H1 b with
        | none => rfl
        | some o => have := s2 _ _ z; rw [fr2 b u e] at this; cases this
      obtain ⟨a1, a2, a3, a4⟩ := note_back f4 ht et en b fr
      have := k t _ a1 a2 a3 a4
      rw [if_neg hc, if_pos rfl] at this
      refine this v _ (fun c o e => ?_) (hv.more fun c xs e => unhide_keep fr2 e)
      cases q : cs.lookup c with
      | some u => rw [unhide_in q] at e ⊢; exact e
      | none => rw [unhide_out q] at e ⊢; exact s2 _ _ e
    | false =>
      rw [if_neg Bool.false_ne_true]
      intro fr
      obtain ⟨a1, a2, a3, a4⟩ := note_back f4 ht et en b fr
      have := k t _ a1 a2 a3 a4
      rw [if_neg hc, if_neg Bool.false_ne_true] at this
      exact this
end
end K04

namespace K04
open PySem L2 Rs Xc Xd Xg Xh Xi Xj Xk NdefX Xf Xq
/-- what tells, by the kind of the order -/
def ahF (A : Ad) (r : Rw) : Addr := if r.w = 0 then A.f_Order_ahead else if r.w = 1 then A.f_PlainOrder_ahead else if r.w = 4 then A.f_DownOrder_ahead else if r.w = 5 then A.f_ThenOrder_ahead else A.f_KeyOrder_ahead
section
variable {P : Program} {w : World} {K : PySem.W.Frag} {mg : Str → Option Value} {base : Heap} {A : Ad} {H H' H0 : Hp} {Q : VK} {E : XK} {nt : Addr} {halt : Int} {rows : List Rw} {os : List Addr} {s : S4}
theorem ord_facts (T : Txt K mg w A) {x : Addr} {r : Rw} {n : Int} (od : OrdAt A H nt halt os x r n) : ∃ C dx rv rest, H x = some (.ins C dx (flds rv n rest)) ∧ OrdC K A C ∧ Meth K C "ahead" (ahF A r) ∧ (flds rv n rest).lookup ("ahead" : Str) = none ∧ (flds rv n rest).lookup ("alike" : Str) = none ∧ (flds rv n rest).lookup ("many_asked" : Str) = none := by
  unfold ahF
  cases od with
  | rule e hx hf => rw [e]; exact ⟨_, _, _, _, hx, ord_o T, T.h_Order_ahead, rfl, rfl, rfl⟩
  | plain e hx => rw [e]; exact ⟨_, _, _, _, hx, ord_p T, T.h_PlainOrder_ahead, rfl, rfl, rfl⟩
  | key e hx hy ny hf => rw [e]; exact ⟨_, _, _, _, hx, ord_k T, T.h_KeyOrder_ahead, rfl, rfl, rfl⟩
  | keyed e hx ho hf => rw [e]; exact ⟨_, _, _, _, hx, ord_k T, T.h_KeyOrder_ahead, rfl, rfl, rfl⟩
  | down e hx ho => rw [e]; exact ⟨_, _, _, _, hx, ord_d T, T.h_DownOrder_ahead, rfl, rfl, rfl⟩
  | thn e hx ho ho2 => rw [e]; exact ⟨_, _, _, _, hx, ord_t T, T.h_ThenOrder_ahead, rfl, rfl, rfl⟩
theorem keep_ins {x C dx : Addr} {fs : List (Str × V)} (hx : H x = some (.ins C dx fs)) (b : But x H H') : KeepS nt H H' := fun c u e n1 n2 => b _ _ e fun z => by
  subst z
  rw [hx] at e
  exact n2 _ _ _ (Option.some.inj e).symm
theorem keep_nt (b : But nt H H') : KeepS nt H H' := fun c u e n1 _ => b _ _ e n1
theorem keep_same (k : Same H H') : KeepS nt H H' := fun c u e _ _ => k _ _ e
theorem KeepS.tup (k : KeepS nt H H') (hn : ∃ ws, H nt = some (.lst ws)) : ∀ b xs, H b = some (.tup xs) → H' b = some (.tup xs) := fun b xs e => k _ _ e (fun z => by obtain ⟨ws, h⟩ := hn; rw [z, h] at e; cases e) (fun _ _ _ z => by cases z)
theorem SysAt.same (S : SysAt A H nt halt rows os s) (k : Same H H') : SysAt A H' nt halt rows os s := by
  obtain ⟨ws, hn, hw⟩ := S.nts
  exact ⟨S.len, S.al, S.nd, fun i r x h1 h2 => (S.ord i r x h1 h2).keep (fun c r e => k _ _ e) (fun o e => k _ _ e) (fun y dy m _ e => ⟨m, k _ _ e⟩), ws, k _ _ hn, hw.more fun c xs e => k _ _ e⟩
theorem SysAt.nl (S : SysAt A H nt halt rows os s) {ws : List V} (hn : H nt = some (.lst ws)) : ws.length = s.notes.length := by
  obtain ⟨ws', h, hw⟩ := S.nts
  rw [hn] at h; cases h
  exact hw.len
theorem stop_iff {s : S4} {ws : List V} (h : ws.length = s.notes.length) : ((ws.length : Int) + 1 = halt) = (s.stop halt = true) := by
  unfold S4.stop
  rw [decide_eq_true_eq, h]
/-- the keys of both -/
theorem keys_two (T : Txt K mg w A) {kf o C dx i Ci dxi : Addr} {fs fsi : List (Str × V)} {p : Nat} {wh : Bool} {x y : List Int} {vx vy : V} {R : V → V → Hp → Prop} (S : SysAt A H nt halt rows os s) (kat : KAt H kf nt halt p wh) (hx : TI H vx x) (hy : TI H vy y) (lx : x.length = 3) (ly : y.length = 3) (hp : p < 3) (nl : s.notes.length + 2 ≤ 100000)
    (ho : H o = some (.ins C dx fs)) (hi : H i = some (.ins Ci dxi fsi))
    (stop : ∀ H', SysAt A H' nt halt rows os (keysF halt p x y s).2 → KeepS nt H H' → (keysF halt p x y s).1 = true → StopW A halt H' E)
    (go : ∀ v1 v2 H', SysAt A H' nt halt rows os (keysF halt p x y s).2 → KeepS nt H H' → H' i = some (.ins Ci dxi fsi) → (keysF halt p x y s).1 = false → (wh = true → TI H' v1 (rot p x) ∧ TI H' v2 (rot p y)) → (wh = false → v1 = .int (x.getD p 0) ∧ v2 = .int (y.getD p 0)) → R v1 v2 H') :
    IsFn kf H ∧ CallsTo P w K mg base (L2.CX P w) 5 kf H [vx] (fun v1 H2 => H2 o = some (.ins C dx fs) ∧ IsFn kf H2 ∧ H2 i = some (.ins Ci dxi fsi) ∧ CallsTo P w K mg base (L2.CX P w) 5 kf H2 [vy] (fun v2 H3 => R v1 v2 H3) E) E := by
  obtain ⟨ws, hn, hw⟩ := S.nts
  have wl := hw.len
  refine calls_key T kat hn (by omega) hx (by omega) (by omega) fun t H1 ht et en b => ?_
  have tp : ∀ c xs, H c = some (.tup xs) → H1 c = some (.tup xs) := fun c xs e => b _ _ e (ne_of e hn (fun z => by cases z))
  have S1 := S.note hn en b (.key et (hx.more tp))
  have ho1 := b _ _ ho (ne_of ho hn (fun z => by cases z))
  have hi1 := b _ _ hi (ne_of hi hn (fun z => by cases z))
  have kat1 : KAt H1 kf nt halt p wh := kat.ext fun c r e => b _ _ e (ne_of e hn (fun z => by cases z))
  by_cases c1 : s.stop halt = true
  · rw [if_pos (by rw [stop_iff wl]; exact c1)]
    have e : keysF halt p x y s = (true, s.add (.key p x)) := by unfold keysF; rw [if_pos c1]
    rw [e] at stop
    exact stop H1 S1 (keep_nt b) rfl
  · rw [if_neg (by rw [stop_iff wl]; exact c1)]
    have e : keysF halt p x y s = ((s.add (.key p x)).stop halt, (s.add (.key p x)).add (.key p y)) := by unfold keysF; rw [if_neg c1]
    rw [e] at stop go
    -- the second key, from any heap with what the first told
    have second : ∀ (v1 : V) (H2 : Hp), Same H1 H2 → (wh = true → TI H2 v1 (rot p x)) → (wh = false → v1 = .int (x.getD p 0)) → H2 o = some (.ins C dx fs) ∧ IsFn kf H2 ∧ H2 i = some (.ins Ci dxi fsi) ∧ CallsTo P w K mg base (L2.CX P w) 5 kf H2 [vy] (fun v2 H3 => R v1 v2 H3) E := by
      intro v1 H2 s2 w1 w2
      have S2 := S1.same s2
      have hn2 := s2 _ _ en
      have wl2 := S2.nl hn2
      have hy2 : TI H2 vy y := (hy.more tp).more fun c xs e => s2 _ _ e
      have q := calls_key (P := P) (base := base) (E := E) (Q := fun v2 H3 => R v1 v2 H3) T (kat1.ext fun c r e => s2 _ _ e) hn2 (by rw [wl2]; show (s.notes ++ [_]).length ≤ _; simp; omega) hy2 (by omega) (by omega) fun t' H3 ht' et' en' b' => by
        have tp' : ∀ c xs, H2 c = some (.tup xs) → H3 c = some (.tup xs) := fun c xs e => b' _ _ e (ne_of e hn2 (fun z => by cases z))
        have S3 := S2.note hn2 en' b' (.key et' (hy2.more tp'))
        have hi3 := b' _ _ (s2 _ _ hi1) (ne_of (s2 _ _ hi1) hn2 (fun z => by cases z))
        have k3 : KeepS nt H H3 := ((keep_nt b).trans (keep_same s2)).trans (keep_nt b')
        by_cases c2 : (s.add (.key p x)).stop halt = true
        · rw [if_pos (by rw [stop_iff wl2]; exact c2)]
          exact stop H3 S3 k3 c2
        · rw [if_neg (by rw [stop_iff wl2]; exact c2)]
          have c2 := Bool.not_eq_true _ ▸ c2
          cases wh with
          | true =>
            rw [if_pos rfl]
            exact fun v2 H4 s4 hv => go v1 v2 H4 (S3.same s4) (k3.trans (keep_same s4)) (s4 _ _ hi3) c2 (fun _ => ⟨((w1 rfl).more tp').more fun c xs e => s4 _ _ e, hv⟩) (fun z => nomatch z)
          | false =>
            rw [if_neg Bool.false_ne_true]
            exact go v1 _ H3 S3 k3 hi3 c2 (fun z => nomatch z) (fun _ => ⟨w2 rfl, rfl⟩)
      exact ⟨s2 _ _ ho1, q.1, s2 _ _ hi1, q.2⟩
    cases wh with
    | true =>
      rw [if_pos rfl]
      exact fun v1 H2 s2 hv => second v1 H2 s2 (fun _ => hv) (fun z => nomatch z)
    | false =>
      rw [if_neg Bool.false_ne_true]
      exact second _ H1 (fun _ _ e => e) (fun z => nomatch z) (fun _ => rfl)
end
end K04

namespace K04
open PySem L2 Rs Xc Xd Xg Xh Xi Xj Xk NdefX Xf Xq
section
variable {P : Program} {w : World} {K : PySem.W.Frag} {mg : Str → Option Value} {base : Heap} {A : Ad} {H H' H0 : Hp} {Q : VK} {E : XK} {nt : Addr} {halt : Int} {rows : List Rw} {os : List Addr} {s : S4}
theorem ah_of (T : Txt K mg w A) {x : Addr} {r : Rw} {n : Int} {j : Nat} {vx vy : V} (od : OrdAt A H nt halt os x r n) (c : CallsTo P w K mg base (L2.CX P w) j (ahF A r) H [.ref x, vx, vy] Q E) : AhTo P w K mg base j (.ref x) vx vy H Q E := by
  obtain ⟨C, dx, rv, rest, hx, O, hm, l, _, _⟩ := ord_facts T od
  exact ⟨x, C, dx, _, _, rfl, hx, O.cl, hm, l, c⟩
/-- what an order of orders tells when it is asked -/
theorem ask_sys (T : Txt K mg w A) (ro : RowsOk rows) : ∀ (m k : Nat) (r : Rw) (o : Addr) (x y : List Int) (vx vy : V) (s : S4) (H : Hp) (Q : VK), k < m → rows[k]? = some r → os[k]? = some o → SysAt A H nt halt rows os s → TI H vx x → TI H vy y → x.length = 3 → y.length = 3 → s.notes.length + 2 * 3 ^ m ≤ 100000 →
    (∀ H', SysAt A H' nt halt rows os (aheadF rows halt m k x y s).2 → KeepS nt H H' → FinS A halt (aheadF rows halt m k x y s).1 H' Q E) → CallsTo P w K mg base (L2.CX P w) (6 + m) (ahF A r) H [.ref o, vx, vy] Q E
  | 0, k, r, o, x, y, vx, vy, s, H, Q, hk, _, _, _, _, _, _, _, _, _ => absurd hk (Nat.not_lt_zero _)
  | m + 1, k, r, o, x, y, vx, vy, s, H, Q, hk, hr, ho, S, hx, hy, lx, ly, nl, kk => by
    have hp := ro.part k r hr
    have e3 : 3 ^ (m + 1) = 3 * 3 ^ m := by rw [Nat.pow_succ]; omega
    have p1 : 1 ≤ 3 ^ m := Nat.one_le_pow _ _ (by decide)
    have od := S.ord k r o hr ho
    have unf : aheadF rows halt (m + 1) k x y s = match r.w with
      | 0 => if (s.bump k).stop halt then (none, (s.bump k).add (.rule r.part x y)) else (some (decide (x.getD r.part 0 < y.getD r.part 0)), (s.bump k).add (.rule r.part x y))
      | 1 => (some (HT.lexLt x y), s.bump k)
      | 2 => if (keysF halt r.part x y (s.bump k)).1 then (none, (keysF halt r.part x y (s.bump k)).2) else (some (decide (x.getD r.part 0 < y.getD r.part 0)), (keysF halt r.part x y (s.bump k)).2)
      | 3 => if (keysF halt r.part x y (s.bump k)).1 then (none, (keysF halt r.part x y (s.bump k)).2) else aheadF rows halt m r.base (rot r.part x) (rot r.part y) (keysF halt r.part x y (s.bump k)).2
      | 4 => aheadF rows halt m r.base y x (s.bump k)
      | _ => thenF (aheadF rows halt m r.base x y) (aheadF rows halt m r.base y x) (aheadF rows halt m r.more x y) (s.bump k) := by
      rw [aheadF, hr] <;> rfl
    rw [unf] at kk
    have bl : (s.bump k).notes.length = s.notes.length := rfl
    have old : ∀ {C dx : Addr} {fs : List (Str × V)} {H1 : Hp}, H o = some (.ins C dx fs) → But o H H1 → (∀ c r, H c = some (.ext r) → H1 c = some (.ext r)) ∧ (∀ c xs, H c = some (.tup xs) → H1 c = some (.tup xs)) := fun h b => ⟨fun c r e => b _ _ e (ne_of e h (fun z => by cases z)), fun c xs e => b _ _ e (ne_of e h (fun z => by cases z))⟩
    cases od with
    | @rule dx f e ox hf =>
      rw [e] at kk
      simp only at kk
      unfold ahF
      rw [if_pos e]
      refine calls_up (k := 6 + (m + 1)) (j := 6) (calls_fn T.c_Order_ahead.F (ok_ahead T) T.c_Order_ahead.b ⟨o, dx, f, _, vx, vy, rfl, ox, fun H1 e1 k1 => ?_⟩) (by omega)
      obtain ⟨x1, x2⟩ := old ox k1
      have S1 := S.bump hr ho k1 (.rule e e1 (hf.ext x1))
      obtain ⟨ws, hn, hw⟩ := S1.nts
      have wl := hw.len
      refine calls_rule T (hf.ext x1) hn (by rw [wl, bl]; omega) (hx.more x2) (hy.more x2) (by omega) (by omega) fun t H2 ht et en b => ?_
      have tp : ∀ c xs, H1 c = some (.tup xs) → H2 c = some (.tup xs) := fun c xs e => b _ _ e (ne_of e hn (fun z => by cases z))
      have S2 := S1.note hn en b (.rule et ((hx.more x2).more tp) ((hy.more x2).more tp))
      have k2 : KeepS nt H H2 := (keep_ins ox k1).trans (keep_nt b)
      by_cases c : (s.bump k).stop halt = true
      · rw [if_pos (by rw [stop_iff wl]; exact c)]
        rw [if_pos c] at kk
        exact kk H2 S2 k2
      · rw [if_neg (by rw [stop_iff wl]; exact c)]
        rw [if_neg c] at kk
        exact ⟨.bool, .bl _, .inl ⟨_, rfl, kk H2 S2 k2⟩⟩
    | @plain dx e ox =>
      rw [e] at kk
      simp only at kk
      unfold ahF
      rw [if_neg (by omega), if_pos e]
      refine calls_up (k := 6 + (m + 1)) (j := 6) (calls_fn T.c_PlainOrder_ahead.F (ok_pahead T) T.c_PlainOrder_ahead.b ⟨o, dx, .non, _, vx, vy, rfl, ox, fun H1 e1 k1 => ?_⟩) (by omega)
      obtain ⟨x1, x2⟩ := old ox k1
      have S1 := S.bump hr ho k1 (.plain e e1)
      obtain ⟨a, rfl, ha⟩ := hx.more x2
      obtain ⟨b, rfl, hb⟩ := hy.more x2
      exact .inr (.inr ⟨a, b, x, y, rfl, rfl, SqT.of ha, SqT.of hb, kk H1 S1 (keep_ins ox k1)⟩)
    | @key mm dx kf yy dy e ox oy ny hf =>
      rw [e] at kk
      simp only at kk
      unfold ahF
      rw [if_neg (by omega), if_neg (by omega), if_neg (by omega), if_neg (by omega)]
      refine calls_up (k := 6 + (m + 1)) (j := 7) (calls_fn T.c_KeyOrder_ahead.F (ok_kahead T (j := 6) (by omega)) T.c_KeyOrder_ahead.b ⟨o, dx, yy, kf, .non, _, vx, vy, rfl, ox, fun H1 e1 k1 => ?_⟩) (by omega)
      obtain ⟨x1, x2⟩ := old ox k1
      have yo : yy ≠ o := fun z => ny (by rw [z]; exact List.mem_of_getElem? ho)
      have oy1 := k1 _ _ oy yo
      have S1 := S.bump hr ho k1 (.key e e1 oy1 ny (hf.ext x1))
      have q := keys_two (P := P) (base := base) (E := E) (R := fun v1 v2 H3 => CallsTo P w K mg base (L2.CX P w) 6 A.f_PlainOrder_ahead H3 [.ref yy, v1, v2] Q E) T S1 (hf.ext x1) (hx.more x2) (hy.more x2) lx ly hp (by rw [bl]; omega) e1 oy1 (fun H2 S2 k2 c => by
        rw [if_pos c] at kk
        exact kk H2 S2 ((keep_ins ox k1).trans k2)) (fun v1 v2 H2 S2 k2 oy2 c _ w2 => by
        rw [if_neg (by rw [c]; exact Bool.false_ne_true)] at kk
        obtain ⟨rfl, rfl⟩ := w2 rfl
        refine calls_fn T.c_PlainOrder_ahead.F (ok_pahead T) T.c_PlainOrder_ahead.b ⟨yy, dy, .non, mm, _, _, rfl, oy2, fun H3 e3 k3 => .inl ⟨_, _, rfl, rfl, ?_⟩⟩
        exact kk H3 (S2.plain oy2 ny e3 k3) (((keep_ins ox k1).trans k2).trans (keep_ins oy2 k3)))
      refine ⟨q.1, calls_mono q.2 fun v1 H2 ⟨h1, h2, h3, h4⟩ => ⟨h1, h2, _, _, _, _, h3, T.cl_PlainOrder, T.h_PlainOrder_ahead, rfl, h4⟩⟩
    | @keyed dx kf ob e ox hob hf =>
      rw [e] at kk
      simp only at kk
      unfold ahF
      rw [if_neg (by omega), if_neg (by omega), if_neg (by omega), if_neg (by omega)]
      obtain ⟨hb1, hb2⟩ := ro.base k r hr (by omega)
      refine calls_up (k := 6 + (m + 1)) (j := 6 + m + 1) (calls_fn T.c_KeyOrder_ahead.F (ok_kahead T (j := 6 + m) (by omega)) T.c_KeyOrder_ahead.b ⟨o, dx, ob, kf, .non, _, vx, vy, rfl, ox, fun H1 e1 k1 => ?_⟩) (by omega)
      obtain ⟨x1, x2⟩ := old ox k1
      have S1 := S.bump hr ho k1 (.keyed e e1 hob (hf.ext x1))
      have lk : k < rows.length := (List.getElem?_eq_some_iff.mp hr).1
      obtain ⟨rb, ob', hrb, hob', odb⟩ := S1.at_ (i := r.base) (by omega)
      rw [hob] at hob'; cases hob'
      obtain ⟨C, dxb, rv, rest, hxb, O, hm, l, _, _⟩ := ord_facts T odb
      have q := keys_two (P := P) (base := base) (E := E) (R := fun v1 v2 H3 => CallsTo P w K mg base (L2.CX P w) (6 + m) (ahF A rb) H3 [.ref ob, v1, v2] Q E) T S1 (hf.ext x1) (hx.more x2) (hy.more x2) lx ly hp (by rw [bl]; omega) e1 hxb (fun H2 S2 k2 c => by
        rw [if_pos c] at kk
        exact kk H2 S2 ((keep_ins ox k1).trans k2)) (fun v1 v2 H2 S2 k2 oy2 c w1 _ => by
        rw [if_neg (by rw [c]; exact Bool.false_ne_true)] at kk
        obtain ⟨t1, t2⟩ := w1 rfl
        have kl := @keys_len halt r.part x y (s.bump k)
        exact ask_sys T ro m r.base rb ob _ _ v1 v2 _ H2 Q (by omega) hrb hob S2 t1 t2 (by rw [rot_len]; exact lx) (by rw [rot_len]; exact ly) (by rw [bl] at kl; omega) fun H3 S3 k3 => kk H3 S3 (((keep_ins ox k1).trans k2).trans k3))
      refine ⟨q.1, calls_mono q.2 fun v1 H2 ⟨h1, h2, h3, h4⟩ => ⟨h1, h2, _, _, _, _, h3, O.cl, hm, l, h4⟩⟩
    | @down dx ob e ox hob =>
      rw [e] at kk
      simp only at kk
      unfold ahF
      rw [if_neg (by omega), if_neg (by omega), if_pos e]
      obtain ⟨hb1, hb2⟩ := ro.base k r hr (by omega)
      refine calls_up (k := 6 + (m + 1)) (j := 6 + m + 1) (calls_fn T.c_DownOrder_ahead.F (ok_dahead T (j := 6 + m) (by omega)) T.c_DownOrder_ahead.b ⟨o, dx, ob, .non, _, vx, vy, rfl, ox, fun H1 e1 k1 => ?_⟩) (by omega)
      obtain ⟨x1, x2⟩ := old ox k1
      have S1 := S.bump hr ho k1 (.down e e1 hob)
      have lk : k < rows.length := (List.getElem?_eq_some_iff.mp hr).1
      obtain ⟨rb, ob', hrb, hob', odb⟩ := S1.at_ (i := r.base) (by omega)
      rw [hob] at hob'; cases hob'
      refine ah_of T odb (ask_sys T ro m r.base rb ob _ _ _ _ _ H1 Q (by omega) hrb hob S1 (hy.more x2) (hx.more x2) ly lx (by rw [bl]; omega) fun H3 S3 k3 => kk H3 S3 ((keep_ins ox k1).trans k3))
    | @thn dx ob ob2 e ox hob hob2 =>
      rw [e] at kk
      simp only at kk
      unfold ahF
      rw [if_neg (by omega), if_neg (by omega), if_neg (by omega), if_pos e]
      obtain ⟨hb1, hb2⟩ := ro.base k r hr (by omega)
      refine calls_up (k := 6 + (m + 1)) (j := 6 + m + 1) (calls_fn T.c_ThenOrder_ahead.F (ok_tahead T (j := 6 + m) (by omega)) T.c_ThenOrder_ahead.b ⟨o, dx, ob, ob2, .non, _, vx, vy, rfl, ox, fun H1 e1 k1 => ?_⟩) (by omega)
      obtain ⟨x1, x2⟩ := old ox k1
      have S1 := S.bump hr ho k1 (.thn e e1 hob hob2)
      have lk : k < rows.length := (List.getElem?_eq_some_iff.mp hr).1
      obtain ⟨rb, ob', hrb, hob', odb⟩ := S1.at_ (i := r.base) (by omega)
      rw [hob] at hob'; cases hob'
      have kA : KeepS nt H H1 := keep_ins ox k1
      have again : ∀ {H2 : Hp} {s2 : S4}, SysAt A H2 nt halt rows os s2 → ∃ (dx2 : Addr) (n2 : Int), H2 o = some (.ins A.C_ThenOrder dx2 (flds .non n2 (tR ob ob2))) := fun S2 => by
        have od2 := S2.ord k r o hr ho
        cases od2 with
        | rule e2 _ _ => omega
        | plain e2 _ => omega
        | key e2 _ _ _ _ => omega
        | keyed e2 _ _ _ => omega
        | down e2 _ _ => omega
        | thn e2 hx2 h3 h4 =>
          rw [hob] at h3; cases h3
          rw [hob2] at h4; cases h4
          exact ⟨_, _, hx2⟩
      have bl2 : (s.bump k).notes.length = s.notes.length := rfl
      have len1 := ahead_len (rows := rows) (halt := halt) m r.base x y (s.bump k)
      refine ah_of T odb (ask_sys T ro m r.base rb ob _ _ _ _ _ H1 _ (by omega) hrb hob S1 (hx.more x2) (hy.more x2) lx ly (by rw [bl]; omega) fun H2 S2 k2 => ?_)
      unfold thenF at kk
      revert S2 kk len1
      rcases aheadF rows halt m r.base x y (s.bump k) with ⟨_ | _ | _, s1⟩ <;> intro kk len1 S2 <;> dsimp only at kk len1 S2 ⊢
      · exact kk H2 S2 (kA.trans k2)
      · have tp2 : ∀ c xs, H1 c = some (.tup xs) → H2 c = some (.tup xs) := k2.tup (S1.nts.imp fun _ h => h.1)
        have hx2 := (hx.more x2).more tp2
        have hy2 := (hy.more x2).more tp2
        obtain ⟨rb', ob', hrb', hob', odb2⟩ := S2.at_ (i := r.base) (by omega)
        rw [hob] at hob'; cases hob'
        rw [hrb] at hrb'; cases hrb'
        refine ⟨false, rfl, ?_⟩
        rw [if_neg Bool.false_ne_true]
        have len2 := ahead_len (rows := rows) (halt := halt) m r.base y x s1
        refine ⟨again S2, ah_of T odb2 (ask_sys T ro m r.base rb ob _ _ _ _ _ H2 _ (by omega) hrb hob S2 hy2 hx2 ly lx (by omega) fun H3 S3 k3 => ?_)⟩
        revert S3 kk len2
        rcases aheadF rows halt m r.base y x s1 with ⟨_ | _ | _, s2⟩ <;> intro kk len2 S3 <;> dsimp only at kk len2 S3 ⊢
        · exact kk H3 S3 ((kA.trans k2).trans k3)
        · have tp3 : ∀ c xs, H2 c = some (.tup xs) → H3 c = some (.tup xs) := k3.tup (S2.nts.imp fun _ h => h.1)
          obtain ⟨rm, om, hrm, hom, odm⟩ := S3.at_ (i := r.more) (by omega)
          rw [hob2] at hom; cases hom
          refine ⟨false, rfl, ?_⟩
          rw [if_neg Bool.false_ne_true]
          exact ⟨again S3, ah_of T odm (ask_sys T ro m r.more rm ob2 _ _ _ _ _ H3 _ (by omega) hrm hob2 S3 (hx2.more tp3) (hy2.more tp3) lx ly (by omega) fun H4 S4 k4 => kk H4 S4 (((kA.trans k2).trans k3).trans k4))⟩
        · refine ⟨true, rfl, ?_⟩
          rw [if_pos rfl]
          exact kk H3 S3 ((kA.trans k2).trans k3)
      · refine ⟨true, rfl, ?_⟩
        rw [if_pos rfl]
        exact kk H2 S2 (kA.trans k2)
end
end K04

namespace K04
open PySem L2 Rs
/-! the draws -/
abbrev stm (b : Addr) (l k m : Int) : HO := .lst [.ref b, .int l, .int k, .int m]
def R_mixed : SepM := fun vs Ch L post => ∃ c k : Int, vs = [.int c, .int k] ∧ L = [] ∧ Ch = [] ∧ 0 ≤ k ∧ k < 2 ^ 16 ∧ post = fun v N L' => ∃ r : Int, v = .int r ∧ 0 ≤ r ∧ r < 2147483629 ∧ N = [] ∧ L' = []
def R_take : SepM := fun vs Ch L post => ∃ (a b : Addr) (l k m n : Int) (ns : List Int), vs = [.ref a, .int n] ∧ L = [(a, stm b l k m), (b, .lst (ns.map V.int))] ∧ Ch = [a, b] ∧ 1 ≤ n ∧ n < 2 ^ 40 ∧ 0 ≤ k ∧ k < 2 ^ 15 ∧
  post = fun v N L' => ∃ (r l' m' : Int) (ns' : List Int), v = .int r ∧ 0 ≤ r ∧ r < n ∧ N = [] ∧ L' = [(a, stm b l' (k + 1) m'), (b, .lst (ns'.map V.int))]
section
variable {P : Program} {w : World} {K : PySem.W.Frag} {mg : Str → Option Value} {base : Heap} {A : Ad} {H H0 : Hp} {MM : List Addr} {L L' F : Led} {Q : VK} {E : XK}
theorem ok_mixed (T : Txt K mg w A) : FnOk P w K mg base CX0 1 A.f__law_mixed A.d__law_mixed ["_law_drawn", "_law_k"] (SepN R_mixed) := by
  refine T.c__law_mixed.F.ok sc_l_mixed (fun vs H Q E h => ?_) (fun cdv Ar outer s H vs Q E hr h => ?_)
  · obtain ⟨_, _, _, ⟨_, _, rfl, _⟩, _⟩ := h; rfl
  · obtain ⟨Ch, L, post, ⟨c, kk, rfl, rfl, rfl, hk0, hk1, rfl⟩, nd, is, hc, k⟩ := h
    refine ⟨_, (pss_cons (ps_set (i := 0) sc_l_mixed.nd rfl (Or.inl rfl) (pe_op op_mod (pe_op op_pow (pe_op op_add (pe_op op_add (pe_op op_add (pe_op op_mod (pv 0) pe_int) (pe_op op_mul (pe_op op_mul pe_int (pv 1)) (pv 1))) (pe_op op_mul pe_int (pv 1))) pe_int) pe_int) pe_int))
      (pss_one (ps_ret (pe_op op_fdivW (pe_op op_mod (pe_op op_mul (pv 0) (pe_op op_add pe_int (pe_op op_mul pe_int (pv 1)))) pe_int) pe_int)))), ?_⟩
    have S := Sep.led nd is hc
    have q1 : 0 ≤ 7919 * kk * kk := Int.mul_nonneg (by omega) hk0
    have q2 : 7919 * kk * kk ≤ 7919 * 2 ^ 16 * 2 ^ 16 := Int.mul_le_mul (by omega) (by omega) hk0 (by omega)
    walk_at "st"
    walk_at "rd"
    exact k _ _ [] [] ⟨_, rfl, by omega, by omega, rfl, rfl⟩ (Hs.sub (by assumption) (List.nil_sublist _)) (fun q h => nomatch h) (fun q h => nomatch h)
theorem use_mixed {c kk : Int} (S : Hs H0 MM H L) (h0 : 0 ≤ kk) (h1 : kk < 2 ^ 16) (h : ∀ (r : Int) (H' : Hp), Hs H0 MM H' L → 0 ≤ r → r < 2147483629 → Q (.int r) H') : SepN R_mixed [.int c, .int kk] H Q E :=
  sepn_use (F := L) S ⟨c, kk, rfl, rfl, rfl, h0, h1, rfl⟩ (fun _ => Nat.le_refl _) (fun c hc => nomatch hc) fun v H' N L' ⟨r, e1, b0, b1, e2, e3⟩ _ S' => by subst e1 e2 e3; exact h r H' S' b0 b1
local macro_rules | `(tactic| walk_at "rd1") => `(tactic| ((with_reducible refine' use_mixed (by assumption) ?a ?b ?_); (case a => omega); (case b => omega); intro r H S h0 h1))
theorem set1 {a b : Addr} {l k m z : Int} {N : Hp → Prop} (S : Hs H0 MM H L) (c : Chg a (stm b l k m) (stm b z k m) L L') (hm : H0 a = none ∨ a ∈ MM) (h : ∀ H', Hs H0 MM H' L' → N H') : rSetL (.ref a) (.int 1) (.int z) H N := gt_setL (j := 1) S c hm rfl h
theorem set2 {a b : Addr} {l k m z : Int} {N : Hp → Prop} (S : Hs H0 MM H L) (c : Chg a (stm b l k m) (stm b l z m) L L') (hm : H0 a = none ∨ a ∈ MM) (h : ∀ H', Hs H0 MM H' L' → N H') : rSetL (.ref a) (.int 2) (.int z) H N := gt_setL (j := 2) S c hm rfl h
theorem set3 {a b : Addr} {l k m z : Int} {N : Hp → Prop} (S : Hs H0 MM H L) (c : Chg a (stm b l k m) (stm b l k z) L L') (hm : H0 a = none ∨ a ∈ MM) (h : ∀ H', Hs H0 MM H' L' → N H') : rSetL (.ref a) (.int 3) (.int z) H N := gt_setL (j := 3) S c hm rfl h
local macro_rules | `(tactic| walk_at "rd1") => `(tactic| first
  | ((with_reducible refine' set1 (by assumption) ?c ?o ?_); (case c => (walk_at "chg"; done)); (case o => walk_at "own"); intro H S)
  | ((with_reducible refine' set2 (by assumption) ?c ?o ?_); (case c => (walk_at "chg"; done)); (case o => walk_at "own"); intro H S)
  | ((with_reducible refine' set3 (by assumption) ?c ?o ?_); (case c => (walk_at "chg"; done)); (case o => walk_at "own"); intro H S))
theorem ok_take (T : Txt K mg w A) : FnOk P w K mg base CX0 2 A.f__law_take A.d__law_take ["_law_stream", "_law_many"] (SepN R_take) := by
  have G__law_mixed : FnOk P w K mg base CX0 1 A.f__law_mixed A.d__law_mixed ["_law_drawn", "_law_k"] (SepN R_mixed) := ok_mixed T
  refine T.c__law_take.F.ok sc_l_take (fun vs H Q E h => ?_) (fun cdv Ar outer s H vs Q E hr h => ?_)
  · obtain ⟨_, _, _, ⟨_, _, _, _, _, _, _, rfl, _⟩, _⟩ := h; rfl
  · obtain ⟨Ch, L, post, ⟨a, b, l, kk, m, n, ns, rfl, rfl, rfl, hn1, hn2, hk1, hk2, rfl⟩, nd, is, hc, k⟩ := h
    refine ⟨_, (pss_cons (ps_asg (pe_op op_add (pe_ix ix_list (pv 0) pe_int (fun _ _ => rfl)) pe_int) (pg_sub (pv 0) pe_int set_list))
      (pss_cons (ps_if (PW.pt (pw_and (pt_cmpR op_lt (pe_ix ix_list (pv 0) pe_int (fun _ _ => rfl)) pe_int (nomark _)) (pw_and1 (pt_cmpR (op_neD hr.units) (pe_ix ix_list (pv 0) pe_int (fun _ _ => rfl)) (pe_lst pa_nil) (nomark _)))))
        (pss_cons (ps_set (i := 2) sc_l_take.nd rfl (Or.inl rfl) (pe_bm PySem.F.plainAttrs_list PySem.F.slot_list_pop PySem.F.type_list_pop mt_popAt (pe_ix ix_list (pv 0) pe_int (fun _ _ => rfl)) (pa_cons pe_int pa_nil)))
        (pss_cons (ps_asg (pe_ifExp (pt_cmpR op_ge (pv 2) (pe_op op_pow pe_int pe_int) (nomark _)) (pv 2) pe_int) (pg_sub (pv 0) pe_int set_list))
        (pss_one (ps_asg (pe_call G__law_mixed (hr.mono (by decide)) rfl T.c__law_mixed.m T.c__law_mixed.F.kp T.c__law_mixed.b .nil pass0 (pa_cons (pe_op op_add (pe_ix ix_list (pv 0) pe_int (fun _ _ => rfl)) (pv 2)) (pa_cons (pe_ix ix_list (pv 0) pe_int (fun _ _ => rfl)) pa_nil))) (pg_sub (pv 0) pe_int set_list)))))
        pss_nil)
      (pss_cons (ps_if (pt_cmpR op_gt (pe_ix ix_list (pv 0) pe_int (fun _ _ => rfl)) pe_int (nomark _))
        (pss_cons (ps_set (i := 3) sc_l_take.nd rfl (Or.inl rfl) (pe_op op_mod (pe_ix ix_list (pv 0) pe_int (fun _ _ => rfl)) (pv 1)))
        (pss_cons (ps_asg (pe_op op_fdivW (pe_ix ix_list (pv 0) pe_int (fun _ _ => rfl)) (pv 1)) (pg_sub (pv 0) pe_int set_list))
        (pss_one (ps_ret (pv 3)))))
        pss_nil)
      (pss_one (ps_ret (pe_op op_mod (pe_op op_fdivW (pe_call G__law_mixed (hr.mono (by decide)) rfl T.c__law_mixed.m T.c__law_mixed.F.kp T.c__law_mixed.b .nil pass0 (pa_cons (pe_op op_add (pe_ix ix_list (pv 0) pe_int (fun _ _ => rfl)) (pe_op op_mul pe_int (pe_ix ix_list (pv 0) pe_int (fun _ _ => rfl)))) (pa_cons (pe_ix ix_list (pv 0) pe_int (fun _ _ => rfl)) pa_nil))) pe_int) (pv 1))))))), ?_⟩
    have S := Sep.led nd is hc
    have k2 : ∀ (r l' m' : Int) (ns' : List Int) (H' : Hp) (F : Led), Hs H [a, b] H' ((a, stm b l' (kk + 1) m') :: (b, .lst (ns'.map V.int)) :: F) → 0 ≤ r → r < n → Q (.int r) H' := fun r l' m' ns' H' F S h0 h1 =>
      k _ _ [] [_, _] ⟨r, l', m', ns', rfl, h0, h1, rfl, rfl⟩ (S.re (L' := [(a, stm b l' (kk + 1) m'), (b, .lst (ns'.map V.int))]) (by walk_at "led")) (by simp) (fun q h => nomatch h)
    clear k
    walk_at "st"
    walk_at "rd"
    rename_i H1 S1
    clear S
    refine rd_dec ?_ ?_ <;> intro hl
    · walk_at "rd"
      rename_i p H2 hp S2
      refine rd_neIs (xs := ns.map V.int) (ys := []) (ns := ns) (ms := []) S2 (by walk_at "mem") (by walk_at "mem") rfl rfl ?_
      have S3 : Hs H [a, b] H2 [(a, stm b l (kk + 1) m), (b, .lst (ns.map V.int))] := S2.sub (by walk_at "sub")
      clear S1 S2
      walk_at "rd"
      cases ns with
      | nil =>
        refine rd_decF (by simp) ?_
        walk_at "rd"
        refine rd_decF (by omega) ?_
        walk_at "rd"
        exact k2 _ l m [] _ [] (by assumption) (by assumption) (by assumption)
      | cons z ns =>
        refine rd_decT (by simp) ?_
        walk_at "rd"
        refine rd_popAt (i := 0) (xs := (z :: ns).map V.int) (xs' := ns.map V.int) (y := .int z) S3 (by walk_at "chg") (by walk_at "own") rfl (by decide) rfl fun H4 S4 => ?_
        clear S3
        walk_at "rd"
        refine rd_dec ?_ ?_ <;> intro hz
        · walk_at "rd"
          refine rd_decT (by have : (10 : Int) ^ (18 : Int).toNat = 1000000000000000000 := by decide
                             omega) ?_
          walk_at "rd"
          exact k2 _ _ _ ns _ [] (by assumption) (by assumption) (by assumption)
        · walk_at "rd"
          refine rd_decF (by omega) ?_
          walk_at "rd"
          exact k2 _ _ _ ns _ [] (by assumption) (by assumption) (by assumption)
    · walk_at "rd"
      refine rd_decT (by omega) ?_
      walk_at "rd"
      exact k2 _ _ _ _ _ [] (by assumption) (by assumption) (by assumption)
theorem use_take {a b : Addr} {l k m n : Int} {ns : List Int} (S : Hs H0 MM H L) (pm : ∀ x, cn x ([(a, stm b l k m), (b, HO.lst (ns.map V.int))] ++ F) ≤ cn x L) (own : H0 a = none ∨ a ∈ MM) (own2 : H0 b = none ∨ b ∈ MM) (h1 : 1 ≤ n) (h2 : n < 2 ^ 40) (h3 : 0 ≤ k) (h4 : k < 2 ^ 15)
    (h : ∀ (r l' m' : Int) (ns' : List Int) (H' : Hp), Hs H0 MM H' ((a, stm b l' (k + 1) m') :: (b, .lst (ns'.map V.int)) :: F) → 0 ≤ r → r < n → Q (.int r) H') : SepN R_take [.ref a, .int n] H Q E :=
  sepn_use S ⟨a, b, l, k, m, n, ns, rfl, rfl, rfl, h1, h2, h3, h4, rfl⟩ pm (fun c hc => by
    simp only [List.mem_cons, List.not_mem_nil, or_false] at hc
    rcases hc with rfl | rfl
    · exact ⟨by simp, own⟩
    · exact ⟨by simp, own2⟩) fun v H' N L' ⟨r, l', m', ns', e1, b0, b1, e2, e3⟩ _ S' => by subst e1 e2 e3; exact h r l' m' ns' H' S' b0 b1
end
end K04
namespace K04
open PySem L2 Rs Xc Xd Xg Xh Xi Xj Xk NdefX Xf Xq
/-! what the orders are made of -/
def wOf : Nat → Str
  | 0 => "rule" | 1 => "plain" | 2 => "key" | 3 => "keyed" | 4 => "down" | _ => "then"
def rwV (r : Rw) : List V := [.str (wOf r.w), .int r.base, .int r.more, .int r.part]
def rwsL (ts : List (Addr × Rw)) : Led := ts.map fun q => (q.1, .tup (rwV q.2))
theorem rwsL_snoc (ts : List (Addr × Rw)) (p : Addr) (r : Rw) : rwsL (ts ++ [(p, r)]) = rwsL ts ++ [(p, .tup (rwV r))] := by simp [rwsL]
def R_kinds : SepM := fun vs Ch L post => ∃ (a b : Addr) (l k m : Int) (n : Nat) (ns : List Int), vs = [.ref a, .int n] ∧ L = [(a, stm b l k m), (b, .lst (ns.map V.int))] ∧ Ch = [a, b] ∧ n ≤ 5 ∧ 0 ≤ k ∧ k < 30000 ∧
  post = fun v N L' => ∃ (f : Addr) (ts : List (Addr × Rw)) (l' k' m' : Int) (ns' : List Int), v = .ref f ∧ N = (f, .lst (ts.map fun q => .ref q.1)) :: rwsL ts ∧ L' = [(a, stm b l' k' m'), (b, .lst (ns'.map V.int))] ∧ k ≤ k' ∧ k' ≤ k + 4 * n ∧ RowsOk (ts.map (·.2)) ∧ ts.length = n
theorem RowsOk.snoc {rows : List Rw} (h : RowsOk rows) {r : Rw} (hp : r.part < 3) (hw : r.w ≤ 5) (hb : 3 ≤ r.w → r.base < rows.length ∧ r.more < rows.length) : RowsOk (rows ++ [r]) := by
  have cases_ : ∀ (k : Nat) q, (rows ++ [r])[k]? = some q → (rows[k]? = some q ∨ (k = rows.length ∧ q = r)) := by
    intro k q e
    rcases Nat.lt_trichotomy k rows.length with z | z | z
    · rw [List.getElem?_append_left z] at e; exact .inl e
    · subst z
      simp at e
      exact .inr ⟨rfl, e.symm⟩
    · rw [List.getElem?_eq_none (by simp; omega)] at e
      cases e
  refine ⟨fun k q e => ?_, fun k q e => ?_, fun k q e hw' => ?_⟩
  · rcases cases_ k q e with e | ⟨_, rfl⟩
    · exact h.part k q e
    · exact hp
  · rcases cases_ k q e with e | ⟨_, rfl⟩
    · exact h.w k q e
    · exact hw
  · rcases cases_ k q e with e | ⟨rfl, rfl⟩
    · exact h.base k q e hw'
    · exact hb hw'
theorem w3 {r : Nat} (h : r < 3) : ([.str "rule", .str "plain", .str "key"] : List V)[r]? = some (.str (wOf (([0, 1, 2] : List Nat).getD r 0))) := by
  match r, h with
  | 0, _ => rfl
  | 1, _ => rfl
  | 2, _ => rfl
theorem w8 {r : Nat} (h : r < 8) : ([.str "rule", .str "plain", .str "key", .str "keyed", .str "down", .str "then", .str "then", .str "keyed"] : List V)[r]? = some (.str (wOf (([0, 1, 2, 3, 4, 5, 5, 3] : List Nat).getD r 0))) := by
  match r, h with
  | 0, _ => rfl
  | 1, _ => rfl
  | 2, _ => rfl
  | 3, _ => rfl
  | 4, _ => rfl
  | 5, _ => rfl
  | 6, _ => rfl
  | 7, _ => rfl
theorem w3' {r : Nat} (h : r < 3) : ([0, 1, 2] : List Nat).getD r 0 ≤ 2 := by
  match r, h with
  | 0, _ => decide
  | 1, _ => decide
  | 2, _ => decide
theorem w8' {r : Nat} (h : r < 8) : ([0, 1, 2, 3, 4, 5, 5, 3] : List Nat).getD r 0 ≤ 5 := by
  match r, h with
  | 0, _ => decide
  | 1, _ => decide
  | 2, _ => decide
  | 3, _ => decide
  | 4, _ => decide
  | 5, _ => decide
  | 6, _ => decide
  | 7, _ => decide
section
variable {P : Program} {w : World} {K : PySem.W.Frag} {mg : Str → Option Value} {base : Heap} {A : Ad} {H H0 : Hp} {MM : List Addr} {L L' F : Led} {Q : VK} {E : XK}
theorem ok_kinds (T : Txt K mg w A) : FnOk P w K mg base CX0 3 A.f__law_kinds_by A.d__law_kinds_by ["_law_stream", "_law_many"] (SepN R_kinds) := by
  have G__law_take : FnOk P w K mg base CX0 2 A.f__law_take A.d__law_take ["_law_stream", "_law_many"] (SepN R_take) := ok_take T
  refine T.c__law_kinds_by.F.ok sc_l_kinds_by (fun vs H Q E h => ?_) (fun cdv Ar outer s H vs Q E hr h => ?_)
  · obtain ⟨_, _, _, ⟨_, _, _, _, _, _, _, rfl, _⟩, _⟩ := h; rfl
  · obtain ⟨Ch, L, post, ⟨a, b, l, kk, m, n, ns, rfl, rfl, rfl, n5, k0, k1, rfl⟩, nd, is, hc, k⟩ := h
    refine ⟨_, (pss_cons (ps_set (i := 2) sc_l_kinds_by.nd rfl (Or.inl rfl) (pe_lst pa_nil))
      (pss_cons (ps_for PassesOwn.never rfl (pi_range1 rfl T.n_range (pa_cons (pv 1) pa_nil)) (pg_name (i := 3) sc_l_kinds_by.nd rfl (Or.inl rfl))
        (pss_cons (ps_set (i := 4) sc_l_kinds_by.nd rfl (Or.inl rfl) (pe_call G__law_take (hr.mono (by decide)) rfl T.c__law_take.m T.c__law_take.F.kp T.c__law_take.b .nil pass0 (pa_cons (pv 0) (pa_cons pe_int pa_nil))))
        (pss_one (ps_if (pt_cmpR op_eq (pv 3) pe_int (nomark _))
          (pss_one (ps_expr (pe_bm PySem.F.plainAttrs_list PySem.F.slot_list_append PySem.F.type_list_append mt_append (pv 2) (pa_cons (pe_tup (pa_cons (pe_ix ix_list (pe_lst (pa_cons pe_str (pa_cons pe_str (pa_cons pe_str pa_nil)))) (pe_call G__law_take (hr.mono (by decide)) rfl T.c__law_take.m T.c__law_take.F.kp T.c__law_take.b .nil pass0 (pa_cons (pv 0) (pa_cons pe_int pa_nil))) (fun _ _ => rfl)) (pa_cons pe_int (pa_cons pe_int (pa_cons (pv 4) pa_nil))))) pa_nil))))
          (pss_cons (ps_set (i := 5) sc_l_kinds_by.nd rfl (Or.inl rfl) (pe_ix ix_list (pe_lst (pa_cons pe_str (pa_cons pe_str (pa_cons pe_str (pa_cons pe_str (pa_cons pe_str (pa_cons pe_str (pa_cons pe_str (pa_cons pe_str pa_nil))))))))) (pe_call G__law_take (hr.mono (by decide)) rfl T.c__law_take.m T.c__law_take.F.kp T.c__law_take.b .nil pass0 (pa_cons (pv 0) (pa_cons pe_int pa_nil))) (fun _ _ => rfl)))
          (pss_one (ps_expr (pe_bm PySem.F.plainAttrs_list PySem.F.slot_list_append PySem.F.type_list_append mt_append (pv 2) (pa_cons (pe_tup (pa_cons (pv 5) (pa_cons (pe_call G__law_take (hr.mono (by decide)) rfl T.c__law_take.m T.c__law_take.F.kp T.c__law_take.b .nil pass0 (pa_cons (pv 0) (pa_cons (pv 3) pa_nil))) (pa_cons (pe_call G__law_take (hr.mono (by decide)) rfl T.c__law_take.m T.c__law_take.F.kp T.c__law_take.b .nil pass0 (pa_cons (pv 0) (pa_cons (pv 3) pa_nil))) (pa_cons (pv 4) pa_nil))))) pa_nil)))))))))
      (pss_one (ps_ret (pv 2))))), ?_⟩
    have S := Sep.led nd is hc
    walk_at "st"
    walk_at "rd"
    rename_i D H1 hD S1
    refine fw_range (fun i σ H' => ∃ (ts : List (Addr × Rw)) (o3 o4 o5 : Option V) (l' k' m' : Int) (ns' : List Int), σ = [some (.ref a), some (.int n), some (.ref D), o3, o4, o5] ∧ Hs H [a, b] H' ((D, .lst (ts.map fun q => .ref q.1)) :: (a, stm b l' k' m') :: (b, .lst (ns'.map V.int)) :: rwsL ts) ∧ ts.length = i ∧ RowsOk (ts.map (·.2)) ∧ (∀ q ∈ ts, H q.1 = none) ∧ kk ≤ k' ∧ k' ≤ kk + 4 * i)
      ⟨[], _, _, _, l, kk, m, ns, rfl, S1.re (by simp only [rwsL, List.map_nil]; walk_at "led"), rfl, ⟨fun k r e => by simp at e, fun k r e => by simp at e, fun k r e => by simp at e⟩, fun q hq => (nomatch hq), by omega, by omega⟩ ?_ ?_
    · clear S S1
      rintro i σ H2 hi ⟨ts, o3, o4, o5, l1, k2, m1, ns1, rfl, S, hl, ro, fr, c1, c2⟩
      have hi5 : i < 5 := by omega
      walk_at "rd"
      refine use_take (b := b) (l := l1) (k := k2) (m := m1) (ns := ns1) (F := (D, .lst (ts.map fun q => .ref q.1)) :: rwsL ts) S (by walk_at "led") (.inr (by simp)) (.inr (by simp)) (by decide) (by decide) (by omega) (by omega) fun r1 l2 m2 ns2 H3 S3 a1 b1 => ?_
      obtain ⟨part, rfl⟩ : ∃ n : Nat, r1 = n := ⟨r1.toNat, by omega⟩
      clear S
      walk_at "rd"
      refine rd_dec ?_ ?_ <;> intro hz
      · walk_at "rd"
        rename_i p H4 hp S4
        refine use_take (b := b) (l := l2) (k := k2 + 1) (m := m2) (ns := ns2) (F := (p, .lst [.str "rule", .str "plain", .str "key"]) :: (D, .lst (ts.map fun q => .ref q.1)) :: rwsL ts) S4 (by walk_at "led") (.inr (by simp)) (.inr (by simp)) (by decide) (by decide) (by omega) (by omega) fun r2 l3 m3 ns3 H5 S5 a2 b2 => ?_
        obtain ⟨r, rfl⟩ : ∃ n : Nat, r2 = n := ⟨r2.toNat, by omega⟩
        clear S3 S4
        refine rd_ixL S5 (by walk_at "mem") (at_nat (w3 (by omega))) ?_
        walk_at "rd"
        rename_i pv H6 hpv S6 H7 S7
        refine ⟨ts ++ [(pv, ⟨([0, 1, 2] : List Nat).getD r 0, 0, 0, part⟩)], _, _, _, l3, k2 + 1 + 1, m3, ns3, rfl, S7.re (by simp only [rwsL_snoc, List.map_append, List.map_cons, List.map_nil, rwV, Int.natCast_zero]; walk_at "led"), by simp [hl], by rw [List.map_append]; exact ro.snoc (by show part < 3; omega) (Nat.le_trans (w3' (by omega)) (by decide)) (fun z => absurd (w3' (r := r) (by omega)) (by dsimp only at z; omega)), fun q hq => ?_, by omega, by omega⟩
        rcases List.mem_append.mp hq with hq | hq
        · exact fr q hq
        · rw [List.mem_singleton.mp hq]; exact hpv
      · have i0 : 0 < i := by omega
        walk_at "rd"
        rename_i p H4 hp S4
        refine use_take (b := b) (l := l2) (k := k2 + 1) (m := m2) (ns := ns2) (F := (p, .lst [.str "rule", .str "plain", .str "key", .str "keyed", .str "down", .str "then", .str "then", .str "keyed"]) :: (D, .lst (ts.map fun q => .ref q.1)) :: rwsL ts) S4 (by walk_at "led") (.inr (by simp)) (.inr (by simp)) (by decide) (by decide) (by omega) (by omega) fun r2 l3 m3 ns3 H5 S5 a2 b2 => ?_
        obtain ⟨r, rfl⟩ : ∃ n : Nat, r2 = n := ⟨r2.toNat, by omega⟩
        clear S3 S4
        refine rd_ixL S5 (by walk_at "mem") (at_nat (w8 (by omega))) ?_
        walk_at "rd"
        refine use_take (b := b) (l := l3) (k := k2 + 1 + 1) (m := m3) (ns := ns3) (F := (D, .lst (ts.map fun q => .ref q.1)) :: rwsL ts) S5 (by walk_at "led") (.inr (by simp)) (.inr (by simp)) (by omega) (by omega) (by omega) (by omega) fun r3 l4 m4 ns4 H6 S6 a3 b3 => ?_
        obtain ⟨bs, rfl⟩ : ∃ n : Nat, r3 = n := ⟨r3.toNat, by omega⟩
        clear S5
        walk_at "rd"
        refine use_take (b := b) (l := l4) (k := k2 + 1 + 1 + 1) (m := m4) (ns := ns4) (F := (D, .lst (ts.map fun q => .ref q.1)) :: rwsL ts) S6 (by walk_at "led") (.inr (by simp)) (.inr (by simp)) (by omega) (by omega) (by omega) (by omega) fun r4 l5 m5 ns5 H7 S7 a4 b4 => ?_
        obtain ⟨ms, rfl⟩ : ∃ n : Nat, r4 = n := ⟨r4.toNat, by omega⟩
        clear S6
        walk_at "rd"
        rename_i pv H8 hpv S8 H9 S9
        refine ⟨ts ++ [(pv, ⟨([0, 1, 2, 3, 4, 5, 5, 3] : List Nat).getD r 0, bs, ms, part⟩)], _, _, _, l5, k2 + 1 + 1 + 1 + 1, m5, ns5, rfl, S9.re (by simp only [rwsL_snoc, List.map_append, List.map_cons, List.map_nil, rwV, Int.natCast_zero]; walk_at "led"), by simp [hl], by rw [List.map_append]; exact ro.snoc (by show part < 3; omega) (w8' (by omega)) (fun _ => by rw [List.length_map, hl]; exact ⟨by dsimp only; omega, by dsimp only; omega⟩), fun q hq => ?_, by omega, by omega⟩
        rcases List.mem_append.mp hq with hq | hq
        · exact fr q hq
        · rw [List.mem_singleton.mp hq]; exact hpv
    · rintro σ H2 ⟨ts, o3, o4, o5, l1, k2, m1, ns1, rfl, S, hl, ro, fr, c1, c2⟩
      walk_at "rd"
      exact k _ _ ((D, .lst (ts.map fun q => .ref q.1)) :: rwsL ts) _ ⟨D, ts, l1, k2, m1, ns1, rfl, rfl, rfl, c1, by omega, ro, by omega⟩ (S.re (by walk_at "led")) (fun q hq => by simpa using List.mem_map_of_mem (f := (·.1)) hq) (by
        intro q hq
        rcases List.mem_cons.mp hq with rfl | hq
        · exact hD
        · obtain ⟨x, hx, rfl⟩ := List.mem_map.mp hq
          exact fr x hx)
end
end K04

namespace K04
open PySem L2 Rs Xc Xd Xg Xh Xi Xj Xk NdefX Xf Xq
/-! the orders made -/
/-- all that an order leans on stays -/
def MoveS (nt : Addr) (H H' : Hp) : Prop := ∀ b o, H b = some o → (b = nt ∨ (∃ r, o = .ext r) ∨ (∃ xs, o = .tup xs) ∨ (∃ C dx fs, o = .ins C dx fs)) → H' b = some o
section
variable {A : Ad} {H H' : Hp} {nt : Addr} {halt : Int} {rows : List Rw} {os : List Addr} {s : S4}
theorem SysAt.move (S : SysAt A H nt halt rows os s) (m : MoveS nt H H') : SysAt A H' nt halt rows os s := by
  obtain ⟨ws, hn, hw⟩ := S.nts
  refine ⟨S.len, S.al, S.nd, fun i r x h1 h2 => ?_, ws, m _ _ hn (.inl rfl), hw.more fun c xs e => m _ _ e (.inr (.inr (.inl ⟨_, rfl⟩)))⟩
  have od := S.ord i r x h1 h2
  obtain ⟨C, dx, fs, hx⟩ := od.ins
  exact od.keep (fun c r e => m _ _ e (.inr (.inl ⟨_, rfl⟩))) (fun o e => m _ _ e (by rw [hx] at e; cases e; exact .inr (.inr (.inr ⟨_, _, _, rfl⟩)))) fun y dy n _ e => ⟨n, m _ _ e (.inr (.inr (.inr ⟨_, _, _, rfl⟩)))⟩
theorem MoveS.extN (e : LamX.ExtN H H') (hn : ∃ ws, H nt = some (.lst ws)) : MoveS nt H H' := fun b o h c => e b o h (by
  obtain ⟨ws, hn⟩ := hn
  rcases c with rfl | ⟨_, rfl⟩ | ⟨_, rfl⟩ | ⟨_, _, _, rfl⟩
  · rw [hn] at h; cases h; exact fun _ z => by cases z
  · exact fun _ z => by cases z
  · exact fun _ z => by cases z
  · exact fun _ z => by cases z)
theorem OrdAt.snoc {x z : Addr} {r : Rw} {n : Int} (od : OrdAt A H nt halt os x r n) (hz : ∀ C dx fs, H z ≠ some (.ins C dx fs)) : OrdAt A H nt halt (os ++ [z]) x r n := by
  have up : ∀ {i : Nat} {o : Addr}, os[i]? = some o → (os ++ [z])[i]? = some o := fun e => by
    rw [List.getElem?_append_left (List.getElem?_eq_some_iff.mp e).1]; exact e
  cases od with
  | rule e hx hf => exact .rule e hx hf
  | plain e hx => exact .plain e hx
  | key e hx hy ny hf => exact .key e hx hy (by
      intro h
      rcases List.mem_append.mp h with h | h
      · exact ny h
      · rw [List.mem_singleton.mp h] at hy; exact hz _ _ _ hy) hf
  | keyed e hx ho hf => exact .keyed e hx (up ho) hf
  | down e hx ho => exact .down e hx (up ho)
  | thn e hx ho ho2 => exact .thn e hx (up ho) (up ho2)
theorem SysAt.snoc (S : SysAt A H nt halt rows os s) {z : Addr} {r : Rw} (hz : ∀ C dx fs, H z ≠ some (.ins C dx fs)) (m : MoveS nt H H') (od : OrdAt A H' nt halt (os ++ [z]) z r 0) : SysAt A H' nt halt (rows ++ [r]) (os ++ [z]) ⟨s.asked ++ [0], s.notes⟩ := by
  have S' := S.move m
  have lo := S.len
  have al := S.al
  refine ⟨by simp [lo], by simp [al], ?_, fun i q x h1 h2 => ?_, S'.nts⟩
  · rw [List.nodup_append]
    refine ⟨S.nd, by simp, fun a ha b hb e => ?_⟩
    rw [List.mem_singleton.mp hb] at e
    subst e
    obtain ⟨i, hi, e⟩ := List.mem_iff_getElem.mp ha
    obtain ⟨q, hq⟩ : ∃ q, rows[i]? = some q := ⟨_, List.getElem?_eq_getElem (by omega)⟩
    obtain ⟨C, dx, fs, hx⟩ := (S.ord i q a hq (by rw [List.getElem?_eq_getElem hi, e])).ins
    exact hz _ _ _ hx
  · rcases Nat.lt_trichotomy i os.length with c | c | c
    · rw [List.getElem?_append_left (by omega)] at h1
      rw [List.getElem?_append_left c] at h2
      have e : (s.asked ++ [0]).getD i 0 = s.asked.getD i 0 := by
        rw [List.getD_eq_getElem?_getD, List.getD_eq_getElem?_getD, List.getElem?_append_left (by omega)]
      rw [e]
      have od1 := (S.ord i q x h1 h2).snoc hz
      obtain ⟨C, dx, fs, hx⟩ := od1.ins
      exact od1.keep (fun c r e => m _ _ e (.inr (.inl ⟨_, rfl⟩))) (fun o e => m _ _ e (by rw [hx] at e; cases e; exact .inr (.inr (.inr ⟨_, _, _, rfl⟩)))) fun y dy n _ e => ⟨n, m _ _ e (.inr (.inr (.inr ⟨_, _, _, rfl⟩)))⟩
    · subst c
      rw [lo] at h1
      simp only [List.getElem?_concat_length] at h1 h2
      cases h1; cases h2
      have e : (s.asked ++ [0]).getD os.length 0 = 0 := by
        rw [List.getD_eq_getElem?_getD, lo, ← al, List.getElem?_concat_length]; rfl
      rw [e]
      exact od
    · rw [List.getElem?_eq_none (by simp; omega)] at h2
      cases h2
def OInv (A : Ad) (H : Hp) (nt D : Addr) (halt : Int) (rows : List Rw) (i : Nat) (H' : Hp) (os : List Addr) : Prop := LamX.ExtN H H' ∧ LamX.Tabs TT H' ∧ H' D = some (.lst (os.map V.ref)) ∧ SysAt A H' nt halt (rows.take i) os ⟨List.replicate i 0, []⟩
def sp_orders (A : Ad) : Sp := fun vs H Q _ => ∃ (f nt : Addr) (halt : Int) (ts : List (Addr × Rw)), vs = [.ref f, .ref nt, .int halt] ∧ H f = some (.lst (ts.map fun q => .ref q.1)) ∧ (∀ q ∈ ts, H q.1 = some (.tup (rwV q.2))) ∧ H nt = some (.lst []) ∧ RowsOk (ts.map (·.2)) ∧ ts.length ≤ 5 ∧ LamX.Tabs TT H ∧
  ∀ (D : Addr) (H' : Hp) (os : List Addr), H D = none → OInv A H nt D halt (ts.map (·.2)) ts.length H' os → Q (.ref D) H'
end
section
variable {P : Program} {w : World} {K : PySem.W.Frag} {mg : Str → Option Value} {base : Heap} {A : Ad} {H H0 : Hp} {MM : List Addr} {L L' F : Led} {Q : VK} {E : XK}
local macro_rules | `(tactic| walk_at "rd1") => `(tactic| first
  | with_reducible refine Xc.rd_bi ?_
  | with_reducible refine Xc.rd_put1 ?_
  | with_reducible refine Xc.rd_tmk ?_
  | with_reducible refine Xc.rd_xv ?_
  | with_reducible refine Xh.rd_callF ?_
  | with_reducible refine Xj.rd_clsF ?_
  | with_reducible refine Xj.rd_methD ?_)
theorem rd_mkP {C : Addr} {sp : Sp} {dvs : List V} {E : XK} {t : TA} {σ : L2.St} (h : t σ H fun vs H1 => ∀ x dx, H1 x = none → H1 dx = none → dx ≠ x → sp (.ref x :: (vs ++ dvs)) (upd (upd H1 dx (.own x)) x (.ins C dx [])) (fun v H3 => v = .non ∧ Q (.ref x) H3) E) : tMake C sp dvs E t σ H Q := h
theorem ok_orders (T : Txt K mg w A) (TR : LamX.TabB base mg A.cc__law_rule 265) (TK : LamX.TabB base mg A.cc__law_key 272) : FnOk P w K mg base CX0 6 A.f__law_orders A.d__law_orders ["_law_rows", "_law_notes", "_law_halt"] (sp_orders A) := by
  have G__law_rule : FnOk P w K mg base CX0 1 A.f__law_rule A.d__law_rule ["_law_notes", "_law_halt", "_law_part"] sp_mkR := ok_mkR T TR
  have G__law_key : FnOk P w K mg base CX0 1 A.f__law_key A.d__law_key ["_law_notes", "_law_halt", "_law_part", "_law_whole"] sp_mkK := ok_mkK T TK
  have G_Order___init__ : FnOk P w K mg base CX0 1 A.f_Order___init__ A.d_Order___init__ ["self", "rule"] (sp_oinit A.C_Order) := ok_oinit T (ord_o T)
  have G_PlainOrder___init__ : FnOk P w K mg base CX0 2 A.f_PlainOrder___init__ A.d_PlainOrder___init__ ["self"] (sp_pinit A) := ok_pinit T
  have G_DownOrder___init__ : FnOk P w K mg base CX0 2 A.f_DownOrder___init__ A.d_DownOrder___init__ ["self", "order"] (sp_dinit K A) := ok_dinit T
  have G_KeyOrder___init__ : FnOk P w K mg base CX0 4 A.f_KeyOrder___init__ A.d_KeyOrder___init__ ["self", "key", "order"] (sp_kinit K A) := ok_kinit T
  have G_ThenOrder___init__ : FnOk P w K mg base CX0 2 A.f_ThenOrder___init__ A.d_ThenOrder___init__ ["self", "first", "second"] (sp_tinit K A) := ok_tinit T
  obtain ⟨_, d_KeyOrder, b_KeyOrder⟩ := b_key T
  have kb_ThenOrder_init_second : KBn K A.d_ThenOrder___init__ ["self", "first", "second"] 2 ["second"] (fun us ws => us ++ [0].filterMap (ws[·]?)) (fun us ws => us ++ [0].filterMap (ws[·]?)) :=
    kb_of T.c_ThenOrder___init__.F _ fun _ _ _ _ _ _ us ws h1 h2 => match us, h1, ws, h2 with | [_, _], _, [_], _ => rfl
  obtain ⟨_, kb_KeyOrder_init⟩ := T.c_KeyOrder___init__.F.kbindsD (ps := ["self", "key", "order"]) 1 ["order", "key"] (fun us _ ws => us ++ [1, 0].filterMap (ws[·]?)) (by simp) (fun r1 _ rz => r1.append (vals_pick rz _)) (by
    intro T kV doc pm an cdv ct us its ws h1 h2 h3
    match us, h1, its, h2, ws, h3 with
    | [_], _, [i], _, [_, _], _ => exact ⟨_, rfl, rfl⟩)
  have hC1 := T.cl_Order
  have hC2 := T.cl_PlainOrder
  have hC3 := T.cl_DownOrder
  have hC4 := T.cl_KeyOrder
  have hC5 := T.cl_ThenOrder
  refine T.c__law_orders.F.ok sc_l_orders (fun vs H Q E h => ?_) (fun cdv Ar outer s H vs Q E hr h => ?_)
  · obtain ⟨_, _, _, _, rfl, _⟩ := h; rfl
  · obtain ⟨f, nt, halt, ts, rfl, hf, hts, hn, ro, l5, tb, k⟩ := h
    refine ⟨_, (pss_cons (ps_set (i := 3) sc_l_orders.nd rfl (Or.inl rfl) (pe_lst pa_nil))
      (pss_cons (ps_for PassesOwn.never rfl (pi_list (pv 0)) (pg_tup rfl (pgs_cons (pg_name (i := 4) sc_l_orders.nd rfl (Or.inl rfl)) (pgs_cons (pg_name (i := 5) sc_l_orders.nd rfl (Or.inl rfl)) (pgs_cons (pg_name (i := 6) sc_l_orders.nd rfl (Or.inl rfl)) (pgs_cons (pg_name (i := 7) sc_l_orders.nd rfl (Or.inl rfl)) pgs_nil)))))
        (pss_one (ps_if (pt_cmpR op_eq (pv 4) pe_str (nomark _))
          (pss_one (ps_expr (pe_bm PySem.F.plainAttrs_list PySem.F.slot_list_append PySem.F.type_list_append mt_append (pv 3) (pa_cons (pe_make T.i_Order G_Order___init__ (hr.mono (by decide)) rfl T.m_Order T.c_Order___init__.b .nil pass0 (pa_cons (pe_call G__law_rule (hr.mono (by decide)) rfl T.c__law_rule.m T.c__law_rule.F.kp T.c__law_rule.b .nil pass0 (pa_cons (pv 1) (pa_cons (pv 2) (pa_cons (pv 7) pa_nil)))) pa_nil)) pa_nil))))
          (pss_one (ps_if (pt_cmpR op_eq (pv 4) pe_str (nomark _))
            (pss_one (ps_expr (pe_bm PySem.F.plainAttrs_list PySem.F.slot_list_append PySem.F.type_list_append mt_append (pv 3) (pa_cons (pe_make0 T.i_PlainOrder G_PlainOrder___init__ (hr.mono (by decide)) rfl T.m_PlainOrder T.c_PlainOrder___init__.b .nil pass0) pa_nil))))
            (pss_one (ps_if (pt_cmpR op_eq (pv 4) pe_str (nomark _))
              (pss_one (ps_expr (pe_bm PySem.F.plainAttrs_list PySem.F.slot_list_append PySem.F.type_list_append mt_append (pv 3) (pa_cons (pe_make T.i_KeyOrder G_KeyOrder___init__ (hr.mono (by decide)) rfl T.m_KeyOrder b_KeyOrder d_KeyOrder pass0 (pa_cons (pe_call G__law_key (hr.mono (by decide)) rfl T.c__law_key.m T.c__law_key.F.kp T.c__law_key.b .nil pass0 (pa_cons (pv 1) (pa_cons (pv 2) (pa_cons (pv 7) (pa_cons pe_bl pa_nil))))) pa_nil)) pa_nil))))
              (pss_one (ps_if (pt_cmpR op_eq (pv 4) pe_str (nomark _))
                (pss_one (ps_expr (pe_bm PySem.F.plainAttrs_list PySem.F.slot_list_append PySem.F.type_list_append mt_append (pv 3) (pa_cons (pe_makeK0 T.i_KeyOrder G_KeyOrder___init__ (hr.mono (by decide)) rfl T.m_KeyOrder kb_KeyOrder_init pass0 (pk_cons (pe_ix ix_list (pv 3) (pv 5) (fun _ _ => rfl)) (pk_cons (pe_call G__law_key (hr.mono (by decide)) rfl T.c__law_key.m T.c__law_key.F.kp T.c__law_key.b .nil pass0 (pa_cons (pv 1) (pa_cons (pv 2) (pa_cons (pv 7) (pa_cons pe_bl pa_nil))))) pk_nil))) pa_nil))))
                (pss_one (ps_if (pt_cmpR op_eq (pv 4) pe_str (nomark _))
                  (pss_one (ps_expr (pe_bm PySem.F.plainAttrs_list PySem.F.slot_list_append PySem.F.type_list_append mt_append (pv 3) (pa_cons (pe_make T.i_DownOrder G_DownOrder___init__ (hr.mono (by decide)) rfl T.m_DownOrder T.c_DownOrder___init__.b .nil pass0 (pa_cons (pe_ix ix_list (pv 3) (pv 5) (fun _ _ => rfl)) pa_nil)) pa_nil))))
                  (pss_one (ps_expr (pe_bm PySem.F.plainAttrs_list PySem.F.slot_list_append PySem.F.type_list_append mt_append (pv 3) (pa_cons (pe_makeK T.i_ThenOrder G_ThenOrder___init__ (hr.mono (by decide)) rfl T.m_ThenOrder kb_ThenOrder_init_second pass0 (pa_cons (pe_ix ix_list (pv 3) (pv 5) (fun _ _ => rfl)) pa_nil) (pk_cons (pe_ix ix_list (pv 3) (pv 6) (fun _ _ => rfl)) pk_nil)) pa_nil)))))))))))))))
      (pss_one (ps_ret (pv 3))))), ?_⟩
    have S := Hs.start0 H
    walk_at "st"
    walk_at "rd"
    rename_i D H1 hD S1
    have e1 : LamX.ExtN H H1 := fun b o e _ => S1.old _ _ e (fun z => nomatch z)
    have d1 : H1 D = some (.lst []) := S1.get (by walk_at "mem")
    have t1 := tb.ext S1.same
    have n1 := S1.same _ _ hn
    have f1 := S1.same _ _ hf
    clear S S1
    refine ⟨f, rfl, ⟨_, SqL.of f1⟩, ?_⟩
    have hnD : nt ≠ D := fun z => by rw [z, hD] at hn; cases hn
    have hfD : f ≠ D := fun z => by rw [z, hD] at hf; cases hf
    refine fw_list (xs := ts.map fun q => .ref q.1) (fun i σ H' => ∃ (os : List Addr) (o4 o5 o6 o7 : Option V), σ = [some (.ref f), some (.ref nt), some (.int halt), some (.ref D), o4, o5, o6, o7] ∧ OInv A H nt D halt (ts.map (·.2)) i H' os)
      ⟨[], _, _, _, _, rfl, e1, t1, d1, ⟨rfl, rfl, .nil, fun i r x h1 h2 => by simp at h2, _, n1, .nil⟩⟩ (fun i σ H' _ ⟨os, _, _, _, _, _, e, _⟩ => SqL.of (e _ _ hf (fun _ z => by cases z))) ?_ ?_
    · clear e1 d1 t1 n1 f1
      rintro i v σ H2 hv ⟨os, o4, o5, o6, o7, rfl, e2, t2, d2, S2⟩
      obtain ⟨⟨t, r⟩, ht, rfl⟩ : ∃ q, ts[i]? = some q ∧ v = .ref q.1 := by
        rw [List.getElem?_map] at hv
        cases c : ts[i]? with
        | none => rw [c] at hv; cases hv
        | some q => rw [c] at hv; exact ⟨q, rfl, (Option.some.inj hv).symm⟩
      have hr' : (ts.map (·.2))[i]? = some r := by rw [List.getElem?_map, ht]; rfl
      have it := hts _ (List.mem_of_getElem? ht)
      have tD : t ≠ D := fun z => by dsimp only at it; rw [z, hD] at it; cases it
      have it2 := e2 _ _ it (fun _ z => by cases z)
      have n2 := e2 _ _ hn (fun _ z => by cases z)
      have ol : os.length = i := by
        have := S2.len
        rw [List.length_take, List.length_map] at this
        have hi := (List.getElem?_eq_some_iff.mp ht).1
        omega
      have o5' : os.length ≤ 5 := by
        have hi := (List.getElem?_eq_some_iff.mp ht).1
        omega
      -- an order more
      have fin : ∀ (x : Addr) (H3 H4 : Hp) (o4 o5 o6 o7 : Option V), LamX.ExtN H2 H3 → LamX.Tabs TT H3 → (∀ C dx fs, H2 x ≠ some (.ins C dx fs)) → OrdAt A H3 nt halt (os ++ [x]) x r 0 → Hs H3 [D] H4 [(D, .lst (os.map V.ref ++ [.ref x]))] → ∃ (os : List Addr) (o4' o5' o6' o7' : Option V), [some (.ref f), some (.ref nt), some (.int halt), some (.ref D), o4, o5, o6, o7] = [some (V.ref f), some (.ref nt), some (.int halt), some (.ref D), o4', o5', o6', o7'] ∧ OInv A H nt D halt (ts.map (·.2)) (i + 1) H4 os := by
        intro x H3 H4 o4 o5 o6 o7 e3 t3 hx od S4
        have d3 := e3 _ _ d2 (fun _ z => by cases z)
        have m4 : ∀ b o, H3 b = some o → b ≠ D → H4 b = some o := fun b o e hb => S4.old1 e hb
        have eD : ∀ b o, H3 b = some o → (∀ xs, o ≠ .lst xs) → H4 b = some o := fun b o e n => m4 _ _ e (fun z => by rw [z, d3] at e; cases e; exact n _ rfl)
        refine ⟨os ++ [x], o4, o5, o6, o7, rfl, fun b o e n => m4 _ _ (e3 _ _ (e2 _ _ e n) n) (fun z => by rw [z, hD] at e; cases e), tabs_pers ⟨fun b r e => eD _ _ e (fun _ z => by cases z), fun b r e => eD _ _ e (fun _ z => by cases z)⟩ (fun b ps e => eD _ _ e (fun _ z => by cases z)) t3, by rw [List.map_append]; exact S4.get (by simp), ?_⟩
        have mv : MoveS nt H3 H4 := fun b o e c => by
          rcases c with rfl | ⟨_, rfl⟩ | ⟨_, rfl⟩ | ⟨_, _, _, rfl⟩
          · exact m4 _ _ e hnD
          · exact eD _ _ e (fun _ z => by cases z)
          · exact eD _ _ e (fun _ z => by cases z)
          · exact eD _ _ e (fun _ z => by cases z)
        have S5 := ((S2.snoc hx (MoveS.extN e3 ⟨_, n2⟩) od).move mv)
        have e : (ts.map (·.2)).take (i + 1) = (ts.map (·.2)).take i ++ [r] := by rw [List.take_add_one, hr']; rfl
        rw [e]
        have e' : List.replicate (i + 1) (0 : Int) = List.replicate i 0 ++ [0] := List.replicate_succ'
        rw [e']
        exact S5
      have hrw := ro.w i r hr'
      have S := Hs.start H2 [D] [(D, .lst (os.map V.ref)), (t, .tup (rwV r))] (by simpa using tD.symm) (by
        intro q hq
        simp only [List.mem_cons, List.not_mem_nil, or_false] at hq
        rcases hq with rfl | rfl
        · exact d2
        · exact it2) (by
        intro b hb
        simp only [List.mem_cons, List.not_mem_nil, or_false] at hb
        subst hb
        rw [d2]; simp)
      obtain ⟨rw', rb, rm, rp⟩ := r
      dsimp only at hrw
      unfold rwV at S
      dsimp only at S
      walk_at "rd"
      have c6 : rw' = 0 ∨ rw' = 1 ∨ rw' = 2 ∨ rw' = 3 ∨ rw' = 4 ∨ rw' = 5 := by omega
      have e2' : ∀ {H5 : Hp}, Same H2 H5 → LamX.ExtN H2 H5 := fun s b o e _ => s b o e
      have up : ∀ {j : Nat} {o x : Addr}, os[j]? = some o → (os ++ [x])[j]? = some o := fun e => by
        rw [List.getElem?_append_left (List.getElem?_eq_some_iff.mp e).1]; exact e
      have nins : ∀ {x : Addr} {H3 : Hp}, LamX.ExtN H2 H3 → H3 x = none → ∀ C dx fs, H2 x ≠ some (.ins C dx fs) := fun e hx C dx fs z => by
        have := e _ _ z (fun _ q => by cases q)
        rw [hx] at this; cases this
      -- an order ahead
      have ahead : ∀ {j : Nat}, j < i → ∃ o C dxo fs, os[j]? = some o ∧ H2 o = some (.ins C dxo fs) ∧ OrdC K A C := fun {j} hj => by
        obtain ⟨r, o, h1, h2, od⟩ := S2.at_ (i := j) (by rw [List.length_take, List.length_map]; have hi := (List.getElem?_eq_some_iff.mp ht).1; omega)
        obtain ⟨C, dx, rv, rest, hx, O, _⟩ := ord_facts T od
        exact ⟨o, C, dx, _, h2, hx, O⟩
      rcases c6 with rfl | rfl | rfl | rfl | rfl | rfl
      · rw [if_pos (decide_eq_true (show wOf 0 = ("rule" : Str) from rfl))]
        walk_at "rd"
        refine rd_mkP ?_
        walk_at "rd"
        refine ⟨nt, halt, rp, rfl, t2, fun kf H3 e3 t3 hk ra => ?_⟩
        clear S
        walk_at "rd"
        refine mk_o fun x dx H4 hx hx4 s4 => ?_
        have S := Hs.start1 (s4 _ _ (e3 _ _ d2 (fun _ z => by cases z))) [D] (.inr rfl)
        walk_at "rd"
        rename_i H5 S5
        refine fin x H4 H5 _ _ _ _ (fun b o e n => s4 _ _ (e3 _ _ e n)) (t3.ext s4) (nins e3 hx) (.rule rfl hx4 (ra.ext fun _ _ e => s4 _ _ e)) S5
      · rw [if_neg (by rw [decide_eq_false (by decide)]; decide)]
        walk_at "rd"
        rw [if_pos (decide_eq_true (show wOf 1 = ("plain" : Str) from rfl))]
        walk_at "rd"
        refine rd_mkP ?_
        walk_at "rd"
        refine mk_p fun x dx H4 hx hx4 s4 => ?_
        have S := Hs.start1 (s4 _ _ d2) [D] (.inr rfl)
        walk_at "rd"
        rename_i H5 S5
        exact fin x H4 H5 _ _ _ _ (e2' s4) (t2.ext s4) (fun _ _ _ z => by rw [hx] at z; cases z) (.plain rfl hx4) S5
      · rw [if_neg (by rw [decide_eq_false (by decide)]; decide)]
        walk_at "rd"
        rw [if_neg (by rw [decide_eq_false (by decide)]; decide)]
        walk_at "rd"
        rw [if_pos (decide_eq_true (show wOf 2 = ("key" : Str) from rfl))]
        walk_at "rd"
        refine rd_mkP ?_
        walk_at "rd"
        refine ⟨nt, halt, rp, false, rfl, t2, fun kf H3 e3 t3 hk ra => ?_⟩
        clear S
        walk_at "rd"
        refine mk_kn fun x dx y dy H4 hx hy xy hy4 hx4 s4 => ?_
        have S := Hs.start1 (s4 _ _ (e3 _ _ d2 (fun _ z => by cases z))) [D] (.inr rfl)
        walk_at "rd"
        rename_i H5 S5
        refine fin x H4 H5 _ _ _ _ (fun b o e n => s4 _ _ (e3 _ _ e n)) (t3.ext s4) (nins e3 hx) (.key rfl hx4 hy4 (fun h => ?_) (ra.ext fun _ _ e => s4 _ _ e)) S5
        rcases List.mem_append.mp h with h | h
        · obtain ⟨j, hj, e⟩ := List.mem_iff_getElem.mp h
          obtain ⟨o, C, dxo, fs, h1, h2, _⟩ := ahead (j := j) (by omega)
          rw [List.getElem?_eq_getElem hj, e] at h1
          cases h1
          exact nins e3 hy _ _ _ h2
        · exact xy (List.mem_singleton.mp h).symm
      · obtain ⟨lb, lm⟩ := ro.base i _ hr' (by dsimp only; omega)
        dsimp only at lb lm
        obtain ⟨o, C, dxo, fs, h1, h2, O⟩ := ahead lb
        rw [if_neg (by rw [decide_eq_false (by decide)]; decide)]
        walk_at "rd"
        rw [if_neg (by rw [decide_eq_false (by decide)]; decide)]
        walk_at "rd"
        rw [if_neg (by rw [decide_eq_false (by decide)]; decide)]
        walk_at "rd"
        rw [if_pos (decide_eq_true (show wOf 3 = ("keyed" : Str) from rfl))]
        walk_at "rd"
        refine rd_mkK ?_
        walk_at "rd"
        refine rd_ixL S (by walk_at "mem") (at_nat (by rw [List.getElem?_map, h1]; rfl)) ?_
        walk_at "rd"
        refine ⟨nt, halt, rp, true, rfl, t2, fun kf H3 e3 t3 hk ra => ?_⟩
        clear S
        walk_at "rd"
        refine ⟨rfl, rfl, mk_k (e3 _ _ h2 (fun _ z => by cases z)) O fun x dx H4 hx hx4 s4 => ?_⟩
        have S := Hs.start1 (s4 _ _ (e3 _ _ d2 (fun _ z => by cases z))) [D] (.inr rfl)
        walk_at "rd"
        rename_i H5 S5
        exact fin x H4 H5 _ _ _ _ (fun b o e n => s4 _ _ (e3 _ _ e n)) (t3.ext s4) (nins e3 hx) (.keyed rfl hx4 (up h1) (ra.ext fun _ _ e => s4 _ _ e)) S5
      · obtain ⟨lb, lm⟩ := ro.base i _ hr' (by dsimp only; omega)
        dsimp only at lb lm
        obtain ⟨o, C, dxo, fs, h1, h2, O⟩ := ahead lb
        rw [if_neg (by rw [decide_eq_false (by decide)]; decide)]
        walk_at "rd"
        rw [if_neg (by rw [decide_eq_false (by decide)]; decide)]
        walk_at "rd"
        rw [if_neg (by rw [decide_eq_false (by decide)]; decide)]
        walk_at "rd"
        rw [if_neg (by rw [decide_eq_false (by decide)]; decide)]
        walk_at "rd"
        rw [if_pos (decide_eq_true (show wOf 4 = ("down" : Str) from rfl))]
        walk_at "rd"
        refine rd_mkP ?_
        walk_at "rd"
        refine rd_ixL S (by walk_at "mem") (at_nat (by rw [List.getElem?_map, h1]; rfl)) ?_
        walk_at "rd"
        refine mk_d h2 O fun x dx H4 hx hx4 s4 => ?_
        clear S
        have S := Hs.start1 (s4 _ _ d2) [D] (.inr rfl)
        walk_at "rd"
        rename_i H5 S5
        exact fin x H4 H5 _ _ _ _ (e2' s4) (t2.ext s4) (fun _ _ _ z => by rw [hx] at z; cases z) (.down rfl hx4 (up h1)) S5
      · obtain ⟨lb, lm⟩ := ro.base i _ hr' (by dsimp only; omega)
        dsimp only at lb lm
        obtain ⟨o, C, dxo, fs, h1, h2, O⟩ := ahead lb
        obtain ⟨o', C', dxo', fs', h1', h2', O'⟩ := ahead lm
        rw [if_neg (by rw [decide_eq_false (by decide)]; decide)]
        walk_at "rd"
        rw [if_neg (by rw [decide_eq_false (by decide)]; decide)]
        walk_at "rd"
        rw [if_neg (by rw [decide_eq_false (by decide)]; decide)]
        walk_at "rd"
        rw [if_neg (by rw [decide_eq_false (by decide)]; decide)]
        walk_at "rd"
        rw [if_neg (by rw [decide_eq_false (by decide)]; decide)]
        walk_at "rd"
        refine rd_mkK ?_
        walk_at "rd"
        refine rd_ixL S (by walk_at "mem") (at_nat (by rw [List.getElem?_map, h1]; rfl)) ?_
        walk_at "rd"
        refine rd_ixL S (by walk_at "mem") (at_nat (by rw [List.getElem?_map, h1']; rfl)) ?_
        walk_at "rd"
        refine ⟨rfl, rfl, mk_t h2 O h2' O' fun x dx H4 hx hx4 s4 => ?_⟩
        clear S
        have S := Hs.start1 (s4 _ _ d2) [D] (.inr rfl)
        walk_at "rd"
        rename_i H5 S5
        exact fin x H4 H5 _ _ _ _ (e2' s4) (t2.ext s4) (fun _ _ _ z => by rw [hx] at z; cases z) (.thn rfl hx4 (up h1) (up h1')) S5
    · rintro σ H2 ⟨os, o4, o5, o6, o7, rfl, I⟩
      walk_at "rd"
      exact k D H2 os hD (by rw [List.length_map] at I; exact I)
end
end K04

namespace K04
open PySem L2 Rs Xc Xd Xg Xh Xi Xj Xk NdefX Xf Xq
/-! the law's own going through -/
def dueK (dn da : Addr) (halt : Int) : List (Key × V) := [(.inr "notes", .ref dn), (.inr "halt", .int halt), (.inr "asked", .ref da)]
structure DueAt (H : Hp) (d dn da : Addr) (halt : Int) (s : S4) : Prop where
  hd : H d = some (.dK (dueK dn da halt))
  ha : H da = some (.lst (s.asked.map V.int))
  hn : ∃ ws, H dn = some (.lst ws) ∧ NtsAt H ws s.notes
  ne : dn ≠ da
def KeepD (dn da : Addr) (H H' : Hp) : Prop := ∀ b o, H b = some o → b ≠ dn → b ≠ da → H' b = some o
def resV : Option Bool → V
  | none => .non
  | some b => .bl b
def RowsAt (H : Hp) (f : Addr) (ts : List (Addr × Rw)) : Prop := H f = some (.lst (ts.map fun q => .ref q.1)) ∧ ∀ q ∈ ts, H q.1 = some (.tup (rwV q.2))
/-- `x is not b`, x may be None -/
def rNotO : R2 := fun x y H Q => ∃ b : Bool, y = .bl b ∧ ((∃ a : Bool, x = .bl a ∧ Q (.bl (!decide (a = b))) H) ∨ (x = .non ∧ Q (.bl true) H))
theorem op_notO {X : Cx} : OpR X (compareOp .IsNot) rNotO := by
  intro pins s σ H x y v u Q I rx ry h
  obtain ⟨b, rfl, h⟩ := h
  rcases h with ⟨a, rfl, q⟩ | ⟨rfl, q⟩
  · exact op_notBl pins s σ H _ _ v u Q I rx ry ⟨a, b, rfl, rfl, q⟩
  · cases (show v = Value.none from rx)
    cases (show u = Value.bool b from ry)
    exact wpAny_isNot_other rfl (fun z => by cases z) ⟨.bl true, H, I, rfl, q⟩
def sp_keyed : Sp := fun vs H Q _ => ∃ (d dn da : Addr) (halt : Int) (v : V) (ws : List V), vs = [.ref d, v] ∧ H d = some (.dK (dueK dn da halt)) ∧ H dn = some (.lst ws) ∧ ws.length ≤ 200000 ∧
  ∀ H', H' dn = some (.lst (ws ++ [v])) → But dn H H' → Q (.bl (decide (¬ (ws.length : Int) + 1 = halt))) H'
def sp_ahd (m : Nat) : Sp := fun vs H Q _ => ∃ (f d dn da : Addr) (halt : Int) (ts : List (Addr × Rw)) (k : Nat) (vx vy : V) (x y : List Int) (s : S4), vs = [.ref f, .ref d, .int k, vx, vy] ∧ k < m ∧ k < ts.length ∧ RowsAt H f ts ∧ RowsOk (ts.map (·.2)) ∧ f ≠ dn ∧ f ≠ da ∧ DueAt H d dn da halt s ∧ s.asked.length = ts.length ∧ TI H vx x ∧ TI H vy y ∧ x.length = 3 ∧ y.length = 3 ∧ s.notes.length + 2 * 3 ^ m ≤ 100000 ∧
  ∀ H', DueAt H' d dn da halt (aheadF (ts.map (·.2)) halt m k x y s).2 → KeepD dn da H H' → Q (resV (aheadF (ts.map (·.2)) halt m k x y s).1) H'
section
variable {P : Program} {w : World} {K : PySem.W.Frag} {mg : Str → Option Value} {base : Heap} {A : Ad} {H H0 : Hp} {MM : List Addr} {L L' F : Led} {Q : VK} {E : XK}
theorem ok_keyed (T : Txt K mg w A) : FnOk P w K mg base CX0 3 A.f__law_keyed A.d__law_keyed ["_law_due", "_law_what"] sp_keyed := by
  refine T.c__law_keyed.F.ok sc_l_keyed (fun vs H Q E h => ?_) (fun cdv Ar outer s H vs Q E hr h => ?_)
  · obtain ⟨_, _, _, _, _, _, rfl, _⟩ := h; rfl
  · obtain ⟨d, dn, da, halt, v, ws, rfl, hd, hn, hl, k⟩ := h
    have hu := hu_of hr
    refine ⟨_, (pss_cons (ps_expr (pe_bm PySem.F.plainAttrs_list PySem.F.slot_list_append PySem.F.type_list_append mt_append (pe_dget hu (pv 0) pe_str (fun _ _ => rfl)) (pa_cons (pv 1) pa_nil)))
      (pss_one (ps_ret (pe_cmpR op_ne (pe_callB call_len_seq (by rfl) T.n_len PySem.boot_len (pa_cons (pe_dget hu (pv 0) pe_str (fun _ _ => rfl)) pa_nil)) (pe_dget hu (pv 0) pe_str (fun _ _ => rfl)) (nomark _))))), ?_⟩
    have ne : d ≠ dn := fun z => by rw [z, hn] at hd; cases hd
    have S := Hs.start H [dn] [(d, .dK (dueK dn da halt)), (dn, .lst ws)] (by simpa using ne) (by
      intro q hq
      simp only [List.mem_cons, List.not_mem_nil, or_false] at hq
      rcases hq with rfl | rfl
      · exact hd
      · exact hn) (by
      intro b hb
      simp only [List.mem_cons, List.not_mem_nil, or_false] at hb
      subst hb
      rw [hn]; simp)
    unfold dueK at S
    walk_at "st"
    walk_at "rd"
    rename_i H1 S1
    have e := S1.get (a := dn) (by walk_at "mem")
    have q := k H1 e (fun b o e hb => S1.old1 e hb)
    rw [show ((ws ++ [v]).length : Int) = (ws.length : Int) + 1 by simp]
    exact q
theorem DueAt.same {d dn da : Addr} {halt : Int} {s : S4} {H' : Hp} (D : DueAt H d dn da halt s) (k : Same H H') : DueAt H' d dn da halt s := by
  obtain ⟨ws, hn, hw⟩ := D.hn
  exact ⟨k _ _ D.hd, k _ _ D.ha, ⟨ws, k _ _ hn, hw.more fun c xs e => k _ _ e⟩, D.ne⟩
theorem KeepD.trans {dn da : Addr} {H H' H'' : Hp} (a : KeepD dn da H H') (b : KeepD dn da H' H'') : KeepD dn da H H'' := fun c u e n1 n2 => b _ _ (a _ _ e n1 n2) n1 n2
theorem KeepD.of {dn da : Addr} {H H' : Hp} (k : Same H H') : KeepD dn da H H' := fun c u e _ _ => k _ _ e
theorem DueAt.tup {d dn da : Addr} {halt : Int} {s : S4} {H' : Hp} (D : DueAt H d dn da halt s) (k : KeepD dn da H H') : ∀ c xs, H c = some (.tup xs) → H' c = some (.tup xs) := fun c xs e => by
  obtain ⟨ws, hn, _⟩ := D.hn
  exact k _ _ e (fun z => by rw [z, hn] at e; cases e) (fun z => by rw [z, D.ha] at e; cases e)
theorem RowsAt.keep {f d dn da : Addr} {ts : List (Addr × Rw)} {halt : Int} {s : S4} {H' : Hp} (R : RowsAt H f ts) (D : DueAt H d dn da halt s) (k : KeepD dn da H H') (n1 : f ≠ dn) (n2 : f ≠ da) : RowsAt H' f ts := ⟨k _ _ R.1 n1 n2, fun q hq => D.tup k _ _ (R.2 q hq)⟩
theorem use_keyed {d dn da : Addr} {halt : Int} {s : S4} {v : V} {n : Nt} (D : DueAt H d dn da halt s) (hv : NtAt H v n) (nl : s.notes.length ≤ 200000) (k : ∀ H', DueAt H' d dn da halt (s.add n) → KeepD dn da H H' → Q (.bl (!(s.stop halt))) H') : sp_keyed [.ref d, v] H Q E := by
  obtain ⟨ws, hn, hw⟩ := D.hn
  have wl := hw.len
  refine ⟨d, dn, da, halt, v, ws, rfl, D.hd, hn, by omega, fun H' e b => ?_⟩
  have tp : ∀ c xs, H c = some (.tup xs) → H' c = some (.tup xs) := fun c xs e => b _ _ e (ne_of e hn (fun z => by cases z))
  have q := k H' ⟨b _ _ D.hd (ne_of D.hd hn (fun z => by cases z)), b _ _ D.ha D.ne.symm, ⟨_, e, (hw.more tp).snoc (hv.more tp)⟩, D.ne⟩ (fun c u e n1 _ => b _ _ e n1)
  have e2 : decide (¬ (ws.length : Int) + 1 = halt) = !(s.stop halt) := by
    unfold S4.stop
    rw [wl]
    simp
  rw [e2]
  exact q
theorem keys_asked {halt : Int} {p : Nat} {x y : List Int} {s : S4} : (keysF halt p x y s).2.asked.length = s.asked.length := by
  unfold keysF S4.add
  split <;> rfl
theorem then_asked {a b c : S4 → Option Bool × S4} (ha : ∀ s, (a s).2.asked.length = s.asked.length) (hb : ∀ s, (b s).2.asked.length = s.asked.length) (hc : ∀ s, (c s).2.asked.length = s.asked.length) (s : S4) : (thenF a b c s).2.asked.length = s.asked.length := by
  unfold thenF
  have h1 := ha s
  revert h1
  rcases a s with ⟨_ | _ | _, s1⟩ <;> intro h1 <;> dsimp only at h1 ⊢
  · omega
  · have h2 := hb s1
    revert h2
    rcases b s1 with ⟨_ | _ | _, s2⟩ <;> intro h2 <;> dsimp only at h2 ⊢
    · omega
    · have h3 := hc s2
      omega
    · omega
  · omega
theorem ahead_asked {rows : List Rw} {halt : Int} : ∀ (m k : Nat) (x y : List Int) (s : S4), (aheadF rows halt m k x y s).2.asked.length = s.asked.length
  | 0, k, x, y, s => rfl
  | m + 1, k, x, y, s => by
    have hb : (s.bump k).asked.length = s.asked.length := List.length_set
    have kl := @keys_asked halt
    unfold aheadF
    split
    · rfl
    · rename_i r hr
      split
      · split <;> exact hb
      · exact hb
      · split <;> (rw [← hb]; exact kl)
      · split
        · rw [← hb]; exact kl
        · rw [ahead_asked, kl]; exact hb
      · rw [ahead_asked]; exact hb
      · rw [then_asked (fun s => ahead_asked m _ _ _ s) (fun s => ahead_asked m _ _ _ s) (fun s => ahead_asked m _ _ _ s)]; exact hb
theorem ok_ahd (T : Txt K mg w A) : ∀ m : Nat, FnOk P w K mg base CX0 (4 + m) A.f__law_ahead A.d__law_ahead ["_law_rows", "_law_due", "_law_k", "_law_item", "_law_mate"] (sp_ahd m)
  | 0 => by
    refine T.c__law_ahead.F.ok sc_l_ahead (fun vs H Q E h => ?_) (fun cdv Ar outer s H vs Q E hr h => ?_)
    · obtain ⟨_, _, _, _, _, _, _, _, _, _, _, _, _, h, _⟩ := h; exact absurd h (Nat.not_lt_zero _)
    · obtain ⟨_, _, _, _, _, _, _, _, _, _, _, _, _, h, _⟩ := h; exact absurd h (Nat.not_lt_zero _)
  | m + 1 => by
    have G__law_keyed : FnOk P w K mg base CX0 3 A.f__law_keyed A.d__law_keyed ["_law_due", "_law_what"] sp_keyed := ok_keyed T
    have G__law_ahead : FnOk P w K mg base CX0 (4 + m) A.f__law_ahead A.d__law_ahead ["_law_rows", "_law_due", "_law_k", "_law_item", "_law_mate"] (sp_ahd m) := ok_ahd T m
    refine (show FnOk P w K mg base CX0 ((4 + m) + 1) A.f__law_ahead A.d__law_ahead ["_law_rows", "_law_due", "_law_k", "_law_item", "_law_mate"] (sp_ahd (m + 1)) from ?_)
    refine T.c__law_ahead.F.ok sc_l_ahead (fun vs H Q E h => ?_) (fun cdv Ar outer st H vs Q E hr h => ?_)
    · obtain ⟨_, _, _, _, _, _, _, _, _, _, _, _, rfl, _⟩ := h; rfl
    · obtain ⟨f, d, dn, da, halt, ts, k, vx, vy, x, y, s, rfl, km, kt, ⟨hf, hts⟩, ro, fn, fa, D, al, hx, hy, lx, ly, nl, kk⟩ := h
      have hu := hu_of hr
      refine ⟨_, (pss_cons (ps_asg (pe_ix ix_list (pv 0) (pv 2) (fun _ _ => rfl)) (pg_tup rfl (pgs_cons (pg_name (i := 5) sc_l_ahead.nd rfl (Or.inl rfl)) (pgs_cons (pg_name (i := 6) sc_l_ahead.nd rfl (Or.inl rfl)) (pgs_cons (pg_name (i := 7) sc_l_ahead.nd rfl (Or.inl rfl)) (pgs_cons (pg_name (i := 8) sc_l_ahead.nd rfl (Or.inl rfl)) pgs_nil))))))
      (pss_cons (ps_asg (pe_op op_add (pe_ix ix_list (pe_dget hu (pv 1) pe_str (fun _ _ => rfl)) (pv 2) (fun _ _ => rfl)) pe_int) (pg_sub (pe_dget hu (pv 1) pe_str (fun _ _ => rfl)) (pv 2) set_list))
      (pss_cons (ps_if (pt_cmpR op_eq (pv 5) pe_str (nomark _))
        (pss_one (ps_ret (pe_ifExp (pt_val (pe_call G__law_keyed (hr.mono (by first | decide | omega)) rfl T.c__law_keyed.m T.c__law_keyed.F.kp T.c__law_keyed.b .nil pass0 (pa_cons (pv 1) (pa_cons (pe_tup (pa_cons pe_str (pa_cons (pv 8) (pa_cons (pv 3) (pa_cons (pv 4) pa_nil))))) pa_nil)))) (pe_cmpR op_lt (pe_ix ix_tup (pv 3) (pv 8) (fun _ _ => rfl)) (pe_ix ix_tup (pv 4) (pv 8) (fun _ _ => rfl)) (nomark _)) pe_non)))
        pss_nil)
      (pss_cons (ps_if (pt_cmpR op_eq (pv 5) pe_str (nomark _))
        (pss_one (ps_ret (pe_cmpR (Xm.op_ltG hr.units) (pv 3) (pv 4) (nomark _))))
        pss_nil)
      (pss_cons (ps_if (pt_cmpR op_in_seq (pv 5) (pe_tup (pa_cons pe_str (pa_cons pe_str pa_nil))) (by rfl))
        (pss_cons (ps_if (PW.pt (pw_or (pt_not (pt_val (pe_call G__law_keyed (hr.mono (by first | decide | omega)) rfl T.c__law_keyed.m T.c__law_keyed.F.kp T.c__law_keyed.b .nil pass0 (pa_cons (pv 1) (pa_cons (pe_tup (pa_cons pe_str (pa_cons (pv 8) (pa_cons (pv 3) pa_nil)))) pa_nil))))) (pw_or1 (pt_not (pt_val (pe_call G__law_keyed (hr.mono (by first | decide | omega)) rfl T.c__law_keyed.m T.c__law_keyed.F.kp T.c__law_keyed.b .nil pass0 (pa_cons (pv 1) (pa_cons (pe_tup (pa_cons pe_str (pa_cons (pv 8) (pa_cons (pv 4) pa_nil)))) pa_nil))))))))
          (pss_one (ps_ret pe_non))
          pss_nil)
        (pss_cons (ps_if (pt_cmpR op_eq (pv 5) pe_str (nomark _))
          (pss_one (ps_ret (pe_cmpR op_lt (pe_ix ix_tup (pv 3) (pv 8) (fun _ _ => rfl)) (pe_ix ix_tup (pv 4) (pv 8) (fun _ _ => rfl)) (nomark _))))
          pss_nil)
        (pss_one (ps_ret (pe_call G__law_ahead (hr.mono (by first | decide | omega)) rfl T.c__law_ahead.m T.c__law_ahead.F.kp T.c__law_ahead.b .nil pass0 (pa_cons (pv 0) (pa_cons (pv 1) (pa_cons (pv 6) (pa_cons (pe_op op_catA (pe_slice sl_tupA (pv 3) (po_some (pv 8)) po_none) (pe_slice sl_tupA (pv 3) po_none (po_some (pv 8)))) (pa_cons (pe_op op_catA (pe_slice sl_tupA (pv 4) (po_some (pv 8)) po_none) (pe_slice sl_tupA (pv 4) po_none (po_some (pv 8)))) pa_nil))))))))))
        pss_nil)
      (pss_cons (ps_if (pt_cmpR op_eq (pv 5) pe_str (nomark _))
        (pss_one (ps_ret (pe_call G__law_ahead (hr.mono (by first | decide | omega)) rfl T.c__law_ahead.m T.c__law_ahead.F.kp T.c__law_ahead.b .nil pass0 (pa_cons (pv 0) (pa_cons (pv 1) (pa_cons (pv 6) (pa_cons (pv 4) (pa_cons (pv 3) pa_nil))))))))
        pss_nil)
      (pss_cons (ps_set (i := 9) sc_l_ahead.nd rfl (Or.inl rfl) (pe_call G__law_ahead (hr.mono (by first | decide | omega)) rfl T.c__law_ahead.m T.c__law_ahead.F.kp T.c__law_ahead.b .nil pass0 (pa_cons (pv 0) (pa_cons (pv 1) (pa_cons (pv 6) (pa_cons (pv 3) (pa_cons (pv 4) pa_nil)))))))
      (pss_cons (ps_if (pt_cmpR op_notO (pv 9) pe_bl (nomark _))
        (pss_one (ps_ret (pv 9)))
        pss_nil)
      (pss_cons (ps_set (i := 9) sc_l_ahead.nd rfl (Or.inl rfl) (pe_call G__law_ahead (hr.mono (by first | decide | omega)) rfl T.c__law_ahead.m T.c__law_ahead.F.kp T.c__law_ahead.b .nil pass0 (pa_cons (pv 0) (pa_cons (pv 1) (pa_cons (pv 6) (pa_cons (pv 4) (pa_cons (pv 3) pa_nil)))))))
      (pss_cons (ps_if (pt_cmpR op_notO (pv 9) pe_bl (nomark _))
        (pss_one (ps_ret (pe_ifExp (pt_cmpR op_isN (pv 9) pe_non (nomark _)) pe_non pe_bl)))
        pss_nil)
      (pss_one (ps_ret (pe_call G__law_ahead (hr.mono (by first | decide | omega)) rfl T.c__law_ahead.m T.c__law_ahead.F.kp T.c__law_ahead.b .nil pass0 (pa_cons (pv 0) (pa_cons (pv 1) (pa_cons (pv 7) (pa_cons (pv 3) (pa_cons (pv 4) pa_nil)))))))))))))))))), ?_⟩
      have hr' : (ts.map (·.2))[k]? = some (ts[k].2) := by rw [List.getElem?_map, List.getElem?_eq_getElem kt]; rfl
      have it := hts ts[k] (List.getElem_mem kt)
      have hp := ro.part k _ hr'
      have hw := ro.w k _ hr'
      have hb := ro.base k _ hr'
      have fr : (ts.map fun q => V.ref q.1)[k]? = some (.ref ts[k].1) := by rw [List.getElem?_map, List.getElem?_eq_getElem kt]; rfl
      have unf : aheadF (ts.map (·.2)) halt (m + 1) k x y s = match ts[k].2.w with
        | 0 => if (s.bump k).stop halt then (none, (s.bump k).add (.rule ts[k].2.part x y)) else (some (decide (x.getD ts[k].2.part 0 < y.getD ts[k].2.part 0)), (s.bump k).add (.rule ts[k].2.part x y))
        | 1 => (some (HT.lexLt x y), s.bump k)
        | 2 => if (keysF halt ts[k].2.part x y (s.bump k)).1 then (none, (keysF halt ts[k].2.part x y (s.bump k)).2) else (some (decide (x.getD ts[k].2.part 0 < y.getD ts[k].2.part 0)), (keysF halt ts[k].2.part x y (s.bump k)).2)
        | 3 => if (keysF halt ts[k].2.part x y (s.bump k)).1 then (none, (keysF halt ts[k].2.part x y (s.bump k)).2) else aheadF (ts.map (·.2)) halt m ts[k].2.base (rot ts[k].2.part x) (rot ts[k].2.part y) (keysF halt ts[k].2.part x y (s.bump k)).2
        | 4 => aheadF (ts.map (·.2)) halt m ts[k].2.base y x (s.bump k)
        | _ => thenF (aheadF (ts.map (·.2)) halt m ts[k].2.base x y) (aheadF (ts.map (·.2)) halt m ts[k].2.base y x) (aheadF (ts.map (·.2)) halt m ts[k].2.more x y) (s.bump k) := by
        rw [aheadF, hr'] <;> rfl
      rw [unf] at kk
      clear unf
      revert kk hp hw hb it fr hr'
      generalize ts[k] = q
      obtain ⟨t, ⟨rw', rb, rm, rp⟩⟩ := q
      intro kk hr' it hp hw hb fr
      dsimp only [rwV] at it hb hw hp kk
      obtain ⟨hd, ha, ⟨ws, hn, hws⟩, nda⟩ := D
      have d1 : d ≠ da := fun z => by rw [z, ha] at hd; cases hd
      have d2 : t ≠ da := fun z => by rw [z, ha] at it; cases it
      have d3 : f ≠ t := fun z => by rw [z, it] at hf; cases hf
      have d4 : d ≠ t := fun z => by rw [z, it] at hd; cases hd
      have d5 : d ≠ f := fun z => by rw [z, hf] at hd; cases hd
      have S := Hs.start H [da] [(d, .dK (dueK dn da halt)), (da, .lst (s.asked.map V.int)), (f, .lst (ts.map fun q => .ref q.1)), (t, .tup [.str (wOf rw'), .int rb, .int rm, .int rp])] (by simp; exact ⟨⟨d1, d5, d4⟩, ⟨fa.symm, d2.symm⟩, d3⟩) (by
        intro q hq
        simp only [List.mem_cons, List.not_mem_nil, or_false] at hq
        rcases hq with rfl | rfl | rfl | rfl
        · exact hd
        · exact ha
        · exact hf
        · exact it) (by
        intro b hb
        simp only [List.mem_cons, List.not_mem_nil, or_false] at hb
        subst hb
        rw [ha]; simp)
      unfold dueK at S
      walk_at "st"
      walk_at "rd"
      refine rd_ixL S (by walk_at "mem") (at_nat fr) ?_
      walk_at "rd"
      have ka : k < s.asked.length := by omega
      have ae : s.asked[k]? = some (s.asked.getD k 0) := by rw [List.getD_eq_getElem?_getD, List.getElem?_eq_getElem ka]; rfl
      refine rd_ixL S (by walk_at "mem") (at_int ae) ?_
      walk_at "rd"
      refine gt_setL (j := k) S (by walk_at "chg") (.inr (by simp)) (by unfold ixN; rw [List.length_map, if_pos (by omega), if_pos (by omega)]; rfl) fun H1 S1 => ?_
      have D1 : DueAt H1 d dn da halt (s.bump k) := by
        refine ⟨S1.get (by unfold dueK; walk_at "mem"), by have := S1.get (a := da) (by walk_at "mem"); rw [this]; unfold S4.bump; rw [List.map_set], ⟨ws, S1.old1 hn nda, hws.more fun c xs e => S1.old1 e (fun z => by rw [z, ha] at e; cases e)⟩, nda⟩
      have k1 : KeepD dn da H H1 := fun b o e _ n2 => S1.old1 e n2
      have R1 : RowsAt H1 f ts := ⟨S1.get (by walk_at "mem"), fun q hq => S1.old1 (hts q hq) (fun z => by have := hts q hq; rw [z, ha] at this; cases this)⟩
      have tp1 : ∀ c xs, H c = some (.tup xs) → H1 c = some (.tup xs) := fun c xs e => S1.old1 e (fun z => by rw [z, ha] at e; cases e)
      have hx1 := hx.more tp1
      have hy1 := hy.more tp1
      have al1 : (s.bump k).asked.length = ts.length := by unfold S4.bump; rw [List.length_set]; exact al
      have nl1 : (s.bump k).notes.length = s.notes.length := rfl
      have p1 : 1 ≤ 3 ^ m := Nat.one_le_pow _ _ (by decide)
      have e3 : 3 ^ (m + 1) = 3 * 3 ^ m := by rw [Nat.pow_succ]; omega
      clear S S1
      have gd : ∀ {z : List Int}, z.length = 3 → z[rp]? = some (z.getD rp 0) := fun h => by rw [List.getD_eq_getElem?_getD, List.getElem?_eq_getElem (by omega)]; rfl
      have c6 : rw' = 0 ∨ rw' = 1 ∨ rw' = 2 ∨ rw' = 3 ∨ rw' = 4 ∨ rw' = 5 := by omega
      rcases c6 with rfl | rfl | rfl | rfl | rfl | rfl
      · simp only at kk
        walk_at "rd"
        rw [if_pos (decide_eq_true (show wOf 0 = ("rule" : Str) from rfl))]
        have S := Hs.start0 H1
        walk_at "rd"
        rename_i p H2 hp2 S2
        have s12 := S2.same
        have D2 := D1.same s12
        have q2 := S2.get (a := p) (o := .tup [.str "rule", .int rp, vx, vy]) (by walk_at "mem")
        clear S S2
        refine use_keyed D2 (.rule q2 (hx1.more fun c xs e => s12 _ _ e) (hy1.more fun c xs e => s12 _ _ e)) (by omega) fun H3 D3 k3 => ⟨_, rfl, ?_⟩
        have k13 : KeepD dn da H H3 := (k1.trans (.of s12)).trans k3
        by_cases hs : (s.bump k).stop halt = true
        · rw [if_pos hs] at kk
          rw [hs, if_neg (by decide)]
          walk_at "rd"
          exact kk H3 D3 k13
        · rw [if_neg hs] at kk
          rw [Bool.not_eq_true] at hs
          rw [hs, if_pos (by decide)]
          have tp3 : ∀ c xs, H1 c = some (.tup xs) → H3 c = some (.tup xs) := fun c xs e => D2.tup k3 _ _ (s12 _ _ e)
          obtain ⟨ai, rfl, hi⟩ := hx1.more tp3
          obtain ⟨aj, rfl, hj⟩ := hy1.more tp3
          walk_at "rd"
          refine rd_ixP hi (at_int (gd lx)) ?_
          walk_at "rd"
          refine rd_ixP hj (at_int (gd ly)) ?_
          walk_at "rd"
          exact kk H3 D3 k13
      · simp only at kk
        walk_at "rd"
        rw [if_neg (by rw [decide_eq_false (by decide)]; decide)]
        walk_at "rd"
        rw [if_pos (decide_eq_true (show wOf 1 = ("plain" : Str) from rfl))]
        walk_at "rd"
        obtain ⟨ai, rfl, hi⟩ := hx1
        obtain ⟨aj, rfl, hj⟩ := hy1
        exact .inr (.inr ⟨ai, aj, x, y, rfl, rfl, SqT.of hi, SqT.of hj, kk H1 D1 k1⟩)
      · simp only at kk
        walk_at "rd"
        rw [if_neg (by rw [decide_eq_false (by decide)]; decide)]
        walk_at "rd"
        rw [if_neg (by rw [decide_eq_false (by decide)]; decide)]
        have S := Hs.start0 H1
        walk_at "rd"
        rename_i p H2 hp2 S2
        refine ⟨p, [.str "key", .str "keyed"], rfl, .inr (S2.tup (by walk_at "mem")), rfl, rfl, true, rfl, ?_⟩
        rw [if_pos rfl]
        walk_at "rd"
        rename_i q H3 hq3 S3
        have s13 := S3.same
        have D3 := D1.same s13
        have q3 := S3.get (a := q) (o := .tup [.str "key", .int rp, vx]) (by walk_at "mem")
        clear S S2 S3
        refine use_keyed D3 (.key q3 (hx1.more fun c xs e => s13 _ _ e)) (by omega) fun H4 D4 k4 => ⟨_, rfl, ?_⟩
        have k14 : KeepD dn da H H4 := (k1.trans (.of s13)).trans k4
        have tp4 : ∀ c xs, H1 c = some (.tup xs) → H4 c = some (.tup xs) := fun c xs e => D3.tup k4 _ _ (s13 _ _ e)
        by_cases hs : (s.bump k).stop halt = true
        · have ke : keysF halt rp x y (s.bump k) = (true, (s.bump k).add (.key rp x)) := by unfold keysF; rw [if_pos hs]
          rw [ke, if_pos rfl] at kk
          rw [hs, if_pos (by decide), if_pos rfl]
          walk_at "rd"
          exact kk H4 D4 k14
        · have ke : keysF halt rp x y (s.bump k) = (((s.bump k).add (.key rp x)).stop halt, ((s.bump k).add (.key rp x)).add (.key rp y)) := by unfold keysF; rw [if_neg hs]
          rw [ke] at kk
          rw [Bool.not_eq_true] at hs
          rw [hs, if_neg (by decide)]
          have S := Hs.start0 H4
          walk_at "rd"
          rename_i q2 H5 hq5 S5
          have s45 := S5.same
          have q5 := S5.get (a := q2) (o := .tup [.str "key", .int rp, vy]) (by walk_at "mem")
          have D5 := D4.same s45
          clear S S5
          have nl4 : ((s.bump k).add (.key rp x)).notes.length = s.notes.length + 1 := by unfold S4.add; rw [List.length_append]; rfl
          refine use_keyed D5 (.key q5 ((hy1.more tp4).more fun c xs e => s45 _ _ e)) (by omega) fun H6 D6 k6 => ⟨_, rfl, ?_⟩
          have k16 : KeepD dn da H H6 := (k14.trans (.of s45)).trans k6
          have tp6 : ∀ c xs, H1 c = some (.tup xs) → H6 c = some (.tup xs) := fun c xs e => D5.tup k6 _ _ (s45 _ _ (tp4 _ _ e))
          by_cases hs2 : ((s.bump k).add (.key rp x)).stop halt = true
          · rw [if_pos hs2] at kk
            rw [hs2, if_pos (by decide)]
            walk_at "rd"
            exact kk H6 D6 k16
          · rw [if_neg hs2] at kk
            rw [Bool.not_eq_true] at hs2
            rw [hs2, if_neg (by decide)]
            walk_at "rd"
            rw [if_pos (decide_eq_true (show wOf 2 = ("key" : Str) from rfl))]
            obtain ⟨ai, rfl, hi⟩ := hx1.more tp6
            obtain ⟨aj, rfl, hj⟩ := hy1.more tp6
            walk_at "rd"
            refine rd_ixP hi (at_int (gd lx)) ?_
            walk_at "rd"
            refine rd_ixP hj (at_int (gd ly)) ?_
            walk_at "rd"
            exact kk H6 D6 k16
      · simp only at kk
        walk_at "rd"
        rw [if_neg (by rw [decide_eq_false (by decide)]; decide)]
        walk_at "rd"
        rw [if_neg (by rw [decide_eq_false (by decide)]; decide)]
        have S := Hs.start0 H1
        walk_at "rd"
        rename_i p H2 hp2 S2
        refine ⟨p, [.str "key", .str "keyed"], rfl, .inr (S2.tup (by walk_at "mem")), rfl, rfl, true, rfl, ?_⟩
        rw [if_pos rfl]
        walk_at "rd"
        rename_i q H3 hq3 S3
        have s13 := S3.same
        have D3 := D1.same s13
        have q3 := S3.get (a := q) (o := .tup [.str "key", .int rp, vx]) (by walk_at "mem")
        clear S S2 S3
        refine use_keyed D3 (.key q3 (hx1.more fun c xs e => s13 _ _ e)) (by omega) fun H4 D4 k4 => ⟨_, rfl, ?_⟩
        have k14 : KeepD dn da H H4 := (k1.trans (.of s13)).trans k4
        have tp4 : ∀ c xs, H1 c = some (.tup xs) → H4 c = some (.tup xs) := fun c xs e => D3.tup k4 _ _ (s13 _ _ e)
        by_cases hs : (s.bump k).stop halt = true
        · have ke : keysF halt rp x y (s.bump k) = (true, (s.bump k).add (.key rp x)) := by unfold keysF; rw [if_pos hs]
          rw [ke, if_pos rfl] at kk
          rw [hs, if_pos (by decide), if_pos rfl]
          walk_at "rd"
          exact kk H4 D4 k14
        · have ke : keysF halt rp x y (s.bump k) = (((s.bump k).add (.key rp x)).stop halt, ((s.bump k).add (.key rp x)).add (.key rp y)) := by unfold keysF; rw [if_neg hs]
          rw [ke] at kk
          rw [Bool.not_eq_true] at hs
          rw [hs, if_neg (by decide)]
          have S := Hs.start0 H4
          walk_at "rd"
          rename_i q2 H5 hq5 S5
          have s45 := S5.same
          have q5 := S5.get (a := q2) (o := .tup [.str "key", .int rp, vy]) (by walk_at "mem")
          have D5 := D4.same s45
          clear S S5
          have nl4 : ((s.bump k).add (.key rp x)).notes.length = s.notes.length + 1 := by unfold S4.add; rw [List.length_append]; rfl
          refine use_keyed D5 (.key q5 ((hy1.more tp4).more fun c xs e => s45 _ _ e)) (by omega) fun H6 D6 k6 => ⟨_, rfl, ?_⟩
          have k16 : KeepD dn da H H6 := (k14.trans (.of s45)).trans k6
          have tp6 : ∀ c xs, H1 c = some (.tup xs) → H6 c = some (.tup xs) := fun c xs e => D5.tup k6 _ _ (s45 _ _ (tp4 _ _ e))
          by_cases hs2 : ((s.bump k).add (.key rp x)).stop halt = true
          · rw [if_pos hs2] at kk
            rw [hs2, if_pos (by decide)]
            walk_at "rd"
            exact kk H6 D6 k16
          · rw [if_neg hs2] at kk
            rw [Bool.not_eq_true] at hs2
            rw [hs2, if_neg (by decide)]
            walk_at "rd"
            rw [if_neg (by rw [decide_eq_false (by decide)]; decide)]
            obtain ⟨ai, rfl, hi⟩ := hx1.more tp6
            obtain ⟨aj, rfl, hj⟩ := hy1.more tp6
            obtain ⟨hb1, hb2⟩ := hb (by omega)
            have S := Hs.start0 H6
            walk_at "rd"
            refine rd_slT S ⟨ai, rfl, hi⟩ (Xd.cut_from _ _) fun v1 H7 t1 S7 s7 => ?_
            walk_at "rd"
            refine rd_slT S7 ⟨ai, rfl, s7 _ _ hi⟩ (Xd.cut_to _ _) fun v2 H8 t2 S8 s8 => ?_
            walk_at "rd"
            refine rd_catT S8 (t1.more s8) t2 (by simp; omega) fun v3 H9 t3 S9 s9 => ?_
            walk_at "rd"
            refine rd_slT S9 ⟨aj, rfl, s9 _ _ (s8 _ _ (s7 _ _ hj))⟩ (Xd.cut_from _ _) fun v4 HA t4 SA sA => ?_
            walk_at "rd"
            refine rd_slT SA ⟨aj, rfl, sA _ _ (s9 _ _ (s8 _ _ (s7 _ _ hj)))⟩ (Xd.cut_to _ _) fun v5 HB t5 SB sB => ?_
            walk_at "rd"
            refine rd_catT SB (t4.more sB) t5 (by simp; omega) fun v6 HC t6 SC sC => ?_
            have sall : Same H6 HC := SC.same
            have r1 : TI HC v3 (rot rp x) := by
              obtain ⟨a, e, h⟩ := ((t3.more sA).more sB).more sC
              exact ⟨a, e, by rw [h, ← List.map_drop, ← List.map_take, ← List.map_append]; rfl⟩
            have r2 : TI HC v6 (rot rp y) := by
              obtain ⟨a, e, h⟩ := t6
              exact ⟨a, e, by rw [h, ← List.map_drop, ← List.map_take, ← List.map_append]; rfl⟩
            clear S S7 S8 S9 SA SB SC
            walk_at "rd"
            have nl6 : (((s.bump k).add (.key rp x)).add (.key rp y)).notes.length = s.notes.length + 2 := by unfold S4.add; simp; rfl
            refine ⟨f, d, dn, da, halt, ts, rb, v3, v6, rot rp x, rot rp y, _, rfl, by omega, by omega, RowsAt.keep R1 D1 (((KeepD.of s13).trans k4).trans ((KeepD.of s45).trans (k6.trans (.of sall)))) fn fa, ro, fn, fa, D6.same sall, al1, r1, r2, by rw [rot_len]; exact lx, by rw [rot_len]; exact ly, by omega, fun H' D' k' => kk H' D' ((k16.trans (.of sall)).trans k')⟩
      · simp only at kk
        obtain ⟨hb1, hb2⟩ := hb (by omega)
        walk_at "rd"
        rw [if_neg (by rw [decide_eq_false (by decide)]; decide)]
        walk_at "rd"
        rw [if_neg (by rw [decide_eq_false (by decide)]; decide)]
        have S := Hs.start0 H1
        walk_at "rd"
        rename_i p H2 hp2 S2
        refine ⟨p, [.str "key", .str "keyed"], rfl, .inr (S2.tup (by walk_at "mem")), rfl, rfl, false, rfl, ?_⟩
        rw [if_neg Bool.false_ne_true]
        walk_at "rd"
        have s12 := S2.same
        have D2 := D1.same s12
        clear S S2
        rw [if_pos (decide_eq_true (show wOf 4 = ("down" : Str) from rfl))]
        walk_at "rd"
        refine ⟨f, d, dn, da, halt, ts, rb, vy, vx, y, x, _, rfl, by omega, by omega, RowsAt.keep R1 D1 (.of s12) fn fa, ro, fn, fa, D2, al1, hy1.more fun c xs e => s12 _ _ e, hx1.more fun c xs e => s12 _ _ e, ly, lx, by omega, fun H' D' k' => kk H' D' ((k1.trans (.of s12)).trans k')⟩
      · simp only at kk
        obtain ⟨hb1, hb2⟩ := hb (by omega)
        walk_at "rd"
        rw [if_neg (by rw [decide_eq_false (by decide)]; decide)]
        walk_at "rd"
        rw [if_neg (by rw [decide_eq_false (by decide)]; decide)]
        have S := Hs.start0 H1
        walk_at "rd"
        rename_i p H2 hp2 S2
        refine ⟨p, [.str "key", .str "keyed"], rfl, .inr (S2.tup (by walk_at "mem")), rfl, rfl, false, rfl, ?_⟩
        rw [if_neg Bool.false_ne_true]
        walk_at "rd"
        have s12 := S2.same
        have D2 := D1.same s12
        clear S S2
        rw [if_neg (by rw [decide_eq_false (by decide)]; decide)]
        walk_at "rd"
        refine ⟨f, d, dn, da, halt, ts, rb, vx, vy, x, y, _, rfl, by omega, by omega, RowsAt.keep R1 D1 (.of s12) fn fa, ro, fn, fa, D2, al1, hx1.more fun c xs e => s12 _ _ e, hy1.more fun c xs e => s12 _ _ e, lx, ly, by omega, fun H3 D3 k3 => ?_⟩
        have len1 := ahead_len (rows := ts.map (·.2)) (halt := halt) m rb x y (s.bump k)
        unfold thenF at kk
        have k13 : KeepD dn da H H3 := (k1.trans (.of s12)).trans k3
        have R3 := RowsAt.keep R1 D1 ((KeepD.of s12).trans k3) fn fa
        have al3 := ahead_asked (rows := ts.map (·.2)) (halt := halt) m rb x y (s.bump k)
        have tp3 : ∀ c xs, H1 c = some (.tup xs) → H3 c = some (.tup xs) := fun c xs e => D2.tup k3 _ _ (s12 _ _ e)
        have hx3 := hx1.more tp3
        have hy3 := hy1.more tp3
        walk_at "rd"
        revert D3 kk len1 al3
        generalize aheadF (ts.map (·.2)) halt m rb x y (s.bump k) = RA
        rcases RA with ⟨_ | _ | _, s1⟩ <;> intro kk D3 len1 al3 <;> dsimp only [resV] at kk D3 len1 al3 ⊢
        · refine ⟨_, rfl, .inr ⟨rfl, _, rfl, ?_⟩⟩
          rw [if_pos (by rfl)]
          walk_at "rd"
          exact kk H3 D3 k13
        · refine ⟨_, rfl, .inl ⟨_, rfl, _, rfl, ?_⟩⟩
          rw [if_neg (by decide)]
          walk_at "rd"
          refine ⟨f, d, dn, da, halt, ts, rb, vy, vx, y, x, _, rfl, by omega, by omega, R3, ro, fn, fa, D3, by omega, hy3, hx3, ly, lx, by omega, fun H4 D4 k4 => ?_⟩
          have len2 := ahead_len (rows := ts.map (·.2)) (halt := halt) m rb y x s1
          have al4 := ahead_asked (rows := ts.map (·.2)) (halt := halt) m rb y x s1
          have R4 := RowsAt.keep R3 D3 k4 fn fa
          have hx4 := hx3.more fun c xs e => D3.tup k4 _ _ e
          have hy4 := hy3.more fun c xs e => D3.tup k4 _ _ e
          walk_at "rd"
          revert D4 kk len2 al4
          generalize aheadF (ts.map (·.2)) halt m rb y x s1 = RB
          rcases RB with ⟨_ | _ | _, s2⟩ <;> intro kk D4 len2 al4 <;> dsimp only [resV] at kk D4 len2 al4 ⊢
          · refine ⟨_, rfl, .inr ⟨rfl, _, rfl, ?_⟩⟩
            rw [if_pos (by rfl)]
            walk_at "rd"
            rw [if_pos (by rfl)]
            walk_at "rd"
            exact kk H4 D4 (k13.trans k4)
          · refine ⟨_, rfl, .inl ⟨_, rfl, _, rfl, ?_⟩⟩
            rw [if_neg (by decide)]
            walk_at "rd"
            exact ⟨f, d, dn, da, halt, ts, rm, vx, vy, x, y, _, rfl, by omega, by omega, R4, ro, fn, fa, D4, by omega, hx4, hy4, lx, ly, by omega, fun H5 D5 k5 => kk H5 D5 ((k13.trans k4).trans k5)⟩
          · refine ⟨_, rfl, .inl ⟨_, rfl, _, rfl, ?_⟩⟩
            rw [if_pos (by rfl)]
            walk_at "rd"
            rw [if_neg (by decide)]
            walk_at "rd"
            exact kk H4 D4 (k13.trans k4)
        · refine ⟨_, rfl, .inl ⟨_, rfl, _, rfl, ?_⟩⟩
          rw [if_pos (by rfl)]
          walk_at "rd"
          exact kk H3 D3 k13
end
end K04

namespace K04
open PySem L2 Rs Xc Xd Xg Xh Xi Xj Xk NdefX Xf Xq
def alkF (rows : List Rw) (halt : Int) (m k : Nat) (x y : List Int) (s : S4) : Option Bool × S4 := alikeF (aheadF rows halt m k x y) (aheadF rows halt m k y x) s
def sp_alk (m : Nat) : Sp := fun vs H Q _ => ∃ (f d dn da : Addr) (halt : Int) (ts : List (Addr × Rw)) (k : Nat) (vx vy : V) (x y : List Int) (s : S4), vs = [.ref f, .ref d, .int k, vx, vy] ∧ k < m ∧ k < ts.length ∧ RowsAt H f ts ∧ RowsOk (ts.map (·.2)) ∧ f ≠ dn ∧ f ≠ da ∧ DueAt H d dn da halt s ∧ s.asked.length = ts.length ∧ TI H vx x ∧ TI H vy y ∧ x.length = 3 ∧ y.length = 3 ∧ s.notes.length + 2 * (2 * 3 ^ m) ≤ 100000 ∧
  ∀ H', DueAt H' d dn da halt (alkF (ts.map (·.2)) halt m k x y s).2 → KeepD dn da H H' → Q (resV (alkF (ts.map (·.2)) halt m k x y s).1) H'
section
variable {P : Program} {w : World} {K : PySem.W.Frag} {mg : Str → Option Value} {base : Heap} {A : Ad} {H H0 : Hp} {MM : List Addr} {L L' F : Led} {Q : VK} {E : XK}
theorem ite_yes {c : Prop} {i : Decidable c} {a b : Prop} (h : c) (k : a) : @ite Prop c i a b := by rw [if_pos h]; exact k
theorem ite_no {c : Prop} {i : Decidable c} {a b : Prop} (h : ¬ c) (k : b) : @ite Prop c i a b := by rw [if_neg h]; exact k
theorem ok_alk (T : Txt K mg w A) (m : Nat) : FnOk P w K mg base CX0 ((4 + m) + 1) A.f__law_alike A.d__law_alike ["_law_rows", "_law_due", "_law_k", "_law_item", "_law_mate"] (sp_alk m) := by
  have G__law_ahead : FnOk P w K mg base CX0 (4 + m) A.f__law_ahead A.d__law_ahead ["_law_rows", "_law_due", "_law_k", "_law_item", "_law_mate"] (sp_ahd m) := ok_ahd T m
  refine T.c__law_alike.F.ok sc_l_alike (fun vs H Q E h => ?_) (fun cdv Ar outer st H vs Q E hr h => ?_)
  · obtain ⟨_, _, _, _, _, _, _, _, _, _, _, _, rfl, _⟩ := h; rfl
  · obtain ⟨f, d, dn, da, halt, ts, k, vx, vy, x, y, s, rfl, km, kt, R, ro, fn, fa, D, al, hx, hy, lx, ly, nl, kk⟩ := h
    refine ⟨_, (pss_cons (ps_set (i := 5) sc_l_alike.nd rfl (Or.inl rfl) (pe_call G__law_ahead (hr.mono (by first | decide | omega)) rfl T.c__law_ahead.m T.c__law_ahead.F.kp T.c__law_ahead.b .nil pass0 (pa_cons (pv 0) (pa_cons (pv 1) (pa_cons (pv 2) (pa_cons (pv 3) (pa_cons (pv 4) pa_nil)))))))
      (pss_cons (ps_if (pt_cmpR op_notO (pv 5) pe_bl (nomark _))
        (pss_one (ps_ret (pe_ifExp (pt_cmpR op_isN (pv 5) pe_non (nomark _)) pe_non pe_bl)))
        pss_nil)
      (pss_cons (ps_set (i := 5) sc_l_alike.nd rfl (Or.inl rfl) (pe_call G__law_ahead (hr.mono (by first | decide | omega)) rfl T.c__law_ahead.m T.c__law_ahead.F.kp T.c__law_ahead.b .nil pass0 (pa_cons (pv 0) (pa_cons (pv 1) (pa_cons (pv 2) (pa_cons (pv 4) (pa_cons (pv 3) pa_nil)))))))
      (pss_one (ps_ret (pe_ifExp (pt_cmpR op_isN (pv 5) pe_non (nomark _)) pe_non (pe_not (pv 5)))))))), ?_⟩
    unfold alkF alikeF at kk
    have len1 := ahead_len (rows := ts.map (·.2)) (halt := halt) m k x y s
    have al3 := ahead_asked (rows := ts.map (·.2)) (halt := halt) m k x y s
    walk_at "st"
    walk_at "rd"
    refine ⟨f, d, dn, da, halt, ts, k, vx, vy, x, y, s, rfl, km, kt, R, ro, fn, fa, D, al, hx, hy, lx, ly, by omega, fun H3 D3 k3 => ?_⟩
    have R3 := RowsAt.keep R D k3 fn fa
    have hx3 := hx.more fun c xs e => D.tup k3 _ _ e
    have hy3 := hy.more fun c xs e => D.tup k3 _ _ e
    walk_at "rd"
    revert D3 kk len1 al3
    generalize aheadF (ts.map (·.2)) halt m k x y s = RA
    rcases RA with ⟨_ | _ | _, s1⟩ <;> intro kk len1 al3 D3 <;> dsimp only [resV] at kk D3 len1 al3 ⊢
    · refine ⟨_, rfl, .inr ⟨rfl, _, rfl, ?_⟩⟩
      rw [if_pos (by rfl)]
      walk_at "rd"
      rw [if_pos (by rfl)]
      walk_at "rd"
      exact kk H3 D3 k3
    · refine ⟨_, rfl, .inl ⟨_, rfl, _, rfl, ?_⟩⟩
      rw [if_neg (by decide)]
      walk_at "rd"
      refine ⟨f, d, dn, da, halt, ts, k, vy, vx, y, x, _, rfl, by omega, by omega, R3, ro, fn, fa, D3, by omega, hy3, hx3, ly, lx, by omega, fun H4 D4 k4 => ?_⟩
      walk_at "rd"
      revert D4 kk
      generalize aheadF (ts.map (·.2)) halt m k y x s1 = RB
      rcases RB with ⟨_ | b, s2⟩ <;> intro kk D4 <;> dsimp only [resV] at kk D4 ⊢
      · refine ite_yes rfl ?_
        walk_at "rd"
        exact kk H4 D4 (k3.trans k4)
      · refine ite_no (by simp) ?_
        walk_at "rd"
        exact kk H4 D4 (k3.trans k4)
    · refine ⟨_, rfl, .inl ⟨_, rfl, _, rfl, ?_⟩⟩
      rw [if_pos (by rfl)]
      walk_at "rd"
      rw [if_neg (by decide)]
      walk_at "rd"
      exact kk H3 D3 k3
end
end K04

namespace K04
open PySem L2 Rs Xc Xd Xg Xh Xi Xj Xk NdefX Xf Xq
/-! orders asked by keywords -/
abbrev kwG {α : Type} (us ws : List α) : List α := us ++ [1, 0].filterMap (ws[·]?)
section
variable {P : Program} {w : World} {K : PySem.W.Frag} {mg : Str → Option Value} {base : Heap} {A : Ad} {H H' H0 : Hp} {Q : VK} {E : XK} {nt : Addr} {halt : Int} {rows : List Rw} {os : List Addr} {s : S4}
theorem fn_up {CX : CXT} {j k : Nat} {f : Addr} {fd : FuncData} {ps : List Str} {sp : Sp} (o : FnOk P w K mg base CX j f fd ps sp) (h : j ≤ k) : FnOk P w K mg base CX k f fd ps sp := ⟨o.len, fun A o' s H c us vs Q E hr => o.run A o' s H c us vs Q E (hr.mono h)⟩
theorem kw_fn {CX : CXT} {j k : Nat} {f : Addr} {fd : FuncData} {ps ks : List Str} {sp : Sp} {x : V} {zs : List V} {g : List Value → List Value → List Value} {gV : List V → List V → List V} (o : FnOk P w K mg base CX j f fd ps sp) (hb : KBn K fd ps 1 ks g gV) (h : j ≤ k) (q : sp (gV [x] zs) H Q E) : CallsKw P w K mg base CX k f x ks H zs Q E := ⟨fd, ps, sp, g, gV, fn_up o h, hb, q⟩
theorem kb_ahead {x qual : Str} {st : Stmt} {f : Addr} {fd : FuncData} (F : Fun K x qual st f fd)
    (h : ∀ (kV doc pm : Value) (an : Option Addr) (cdv ct : Value) (us ws : List Value), us.length = 1 → ws.length = (["other", "one"] : List Str).length → bindArgs (PySem.W.fnOf x qual (defArgs st) (defBody st) (defScope st) .none kV doc pm an cdv ct) ⟨us, (["other", "one"] : List Str).zip ws⟩ = pure ((["self", "one", "other"] : List Str).zip (kwG us ws)) := by exact fun _ _ _ _ _ _ us ws h1 h2 => match us, h1, ws, h2 with | [_], _, [_, _], _ => rfl) :
    KBn K fd ["self", "one", "other"] 1 ["other", "one"] (fun us ws => us ++ [1, 0].filterMap (ws[·]?)) (fun us ws => us ++ [1, 0].filterMap (ws[·]?)) := kb_of F _ h
/-- what an order of orders tells when it is asked by keywords -/
theorem ask_kw (T : Txt K mg w A) (ro : RowsOk rows) (m k : Nat) (r : Rw) (o : Addr) (x y : List Int) (vx vy : V) (s : S4) (H : Hp) (Q : VK) (hk : k < m + 1) (hr : rows[k]? = some r) (ho : os[k]? = some o) (S : SysAt A H nt halt rows os s) (hx : TI H vx x) (hy : TI H vy y) (lx : x.length = 3) (ly : y.length = 3) (nl : s.notes.length + 2 * 3 ^ (m + 1) ≤ 100000)
    (kk : ∀ H', SysAt A H' nt halt rows os (aheadF rows halt (m + 1) k x y s).2 → KeepS nt H H' → FinS A halt (aheadF rows halt (m + 1) k x y s).1 H' Q E) : CallsKw P w K mg base (L2.CX P w) (6 + (m + 1)) (ahF A r) (.ref o) ["other", "one"] H [vy, vx] Q E := by
    have hp := ro.part k r hr
    have e3 : 3 ^ (m + 1) = 3 * 3 ^ m := by rw [Nat.pow_succ]; omega
    have p1 : 1 ≤ 3 ^ m := Nat.one_le_pow _ _ (by decide)
    have od := S.ord k r o hr ho
    have unf : aheadF rows halt (m + 1) k x y s = match r.w with
      | 0 => if (s.bump k).stop halt then (none, (s.bump k).add (.rule r.part x y)) else (some (decide (x.getD r.part 0 < y.getD r.part 0)), (s.bump k).add (.rule r.part x y))
      | 1 => (some (HT.lexLt x y), s.bump k)
      | 2 => if (keysF halt r.part x y (s.bump k)).1 then (none, (keysF halt r.part x y (s.bump k)).2) else (some (decide (x.getD r.part 0 < y.getD r.part 0)), (keysF halt r.part x y (s.bump k)).2)
      | 3 => if (keysF halt r.part x y (s.bump k)).1 then (none, (keysF halt r.part x y (s.bump k)).2) else aheadF rows halt m r.base (rot r.part x) (rot r.part y) (keysF halt r.part x y (s.bump k)).2
      | 4 => aheadF rows halt m r.base y x (s.bump k)
      | _ => thenF (aheadF rows halt m r.base x y) (aheadF rows halt m r.base y x) (aheadF rows halt m r.more x y) (s.bump k) := by
      rw [aheadF, hr] <;> rfl
    rw [unf] at kk
    have bl : (s.bump k).notes.length = s.notes.length := rfl
    have old : ∀ {C dx : Addr} {fs : List (Str × V)} {H1 : Hp}, H o = some (.ins C dx fs) → But o H H1 → (∀ c r, H c = some (.ext r) → H1 c = some (.ext r)) ∧ (∀ c xs, H c = some (.tup xs) → H1 c = some (.tup xs)) := fun h b => ⟨fun c r e => b _ _ e (ne_of e h (fun z => by cases z)), fun c xs e => b _ _ e (ne_of e h (fun z => by cases z))⟩
    cases od with
    | @rule dx f e ox hf =>
      rw [e] at kk
      simp only at kk
      unfold ahF
      rw [if_pos e]
      refine kw_fn (k := 6 + (m + 1)) (j := 6) (ok_ahead T) (kb_ahead T.c_Order_ahead.F) (by omega) ⟨o, dx, f, _, vx, vy, rfl, ox, fun H1 e1 k1 => ?_⟩
      obtain ⟨x1, x2⟩ := old ox k1
      have S1 := S.bump hr ho k1 (.rule e e1 (hf.ext x1))
      obtain ⟨ws, hn, hw⟩ := S1.nts
      have wl := hw.len
      refine calls_rule T (hf.ext x1) hn (by rw [wl, bl]; omega) (hx.more x2) (hy.more x2) (by omega) (by omega) fun t H2 ht et en b => ?_
      have tp : ∀ c xs, H1 c = some (.tup xs) → H2 c = some (.tup xs) := fun c xs e => b _ _ e (ne_of e hn (fun z => by cases z))
      have S2 := S1.note hn en b (.rule et ((hx.more x2).more tp) ((hy.more x2).more tp))
      have k2 : KeepS nt H H2 := (keep_ins ox k1).trans (keep_nt b)
      by_cases c : (s.bump k).stop halt = true
      · rw [if_pos (by rw [stop_iff wl]; exact c)]
        rw [if_pos c] at kk
        exact kk H2 S2 k2
      · rw [if_neg (by rw [stop_iff wl]; exact c)]
        rw [if_neg c] at kk
        exact ⟨.bool, .bl _, .inl ⟨_, rfl, kk H2 S2 k2⟩⟩
    | @plain dx e ox =>
      rw [e] at kk
      simp only at kk
      unfold ahF
      rw [if_neg (by omega), if_pos e]
      refine kw_fn (k := 6 + (m + 1)) (j := 6) (ok_pahead T) (kb_ahead T.c_PlainOrder_ahead.F) (by omega) ⟨o, dx, .non, _, vx, vy, rfl, ox, fun H1 e1 k1 => ?_⟩
      obtain ⟨x1, x2⟩ := old ox k1
      have S1 := S.bump hr ho k1 (.plain e e1)
      obtain ⟨a, rfl, ha⟩ := hx.more x2
      obtain ⟨b, rfl, hb⟩ := hy.more x2
      exact .inr (.inr ⟨a, b, x, y, rfl, rfl, SqT.of ha, SqT.of hb, kk H1 S1 (keep_ins ox k1)⟩)
    | @key mm dx kf yy dy e ox oy ny hf =>
      rw [e] at kk
      simp only at kk
      unfold ahF
      rw [if_neg (by omega), if_neg (by omega), if_neg (by omega), if_neg (by omega)]
      refine kw_fn (k := 6 + (m + 1)) (j := 7) (ok_kahead T (j := 6) (by omega)) (kb_ahead T.c_KeyOrder_ahead.F) (by omega) ⟨o, dx, yy, kf, .non, _, vx, vy, rfl, ox, fun H1 e1 k1 => ?_⟩
      obtain ⟨x1, x2⟩ := old ox k1
      have yo : yy ≠ o := fun z => ny (by rw [z]; exact List.mem_of_getElem? ho)
      have oy1 := k1 _ _ oy yo
      have S1 := S.bump hr ho k1 (.key e e1 oy1 ny (hf.ext x1))
      have q := keys_two (P := P) (base := base) (E := E) (R := fun v1 v2 H3 => CallsTo P w K mg base (L2.CX P w) 6 A.f_PlainOrder_ahead H3 [.ref yy, v1, v2] Q E) T S1 (hf.ext x1) (hx.more x2) (hy.more x2) lx ly hp (by rw [bl]; omega) e1 oy1 (fun H2 S2 k2 c => by
        rw [if_pos c] at kk
        exact kk H2 S2 ((keep_ins ox k1).trans k2)) (fun v1 v2 H2 S2 k2 oy2 c _ w2 => by
        rw [if_neg (by rw [c]; exact Bool.false_ne_true)] at kk
        obtain ⟨rfl, rfl⟩ := w2 rfl
        refine calls_fn T.c_PlainOrder_ahead.F (ok_pahead T) T.c_PlainOrder_ahead.b ⟨yy, dy, .non, mm, _, _, rfl, oy2, fun H3 e3 k3 => .inl ⟨_, _, rfl, rfl, ?_⟩⟩
        exact kk H3 (S2.plain oy2 ny e3 k3) (((keep_ins ox k1).trans k2).trans (keep_ins oy2 k3)))
      refine ⟨q.1, calls_mono q.2 fun v1 H2 ⟨h1, h2, h3, h4⟩ => ⟨h1, h2, _, _, _, _, h3, T.cl_PlainOrder, T.h_PlainOrder_ahead, rfl, h4⟩⟩
    | @keyed dx kf ob e ox hob hf =>
      rw [e] at kk
      simp only at kk
      unfold ahF
      rw [if_neg (by omega), if_neg (by omega), if_neg (by omega), if_neg (by omega)]
      obtain ⟨hb1, hb2⟩ := ro.base k r hr (by omega)
      refine kw_fn (k := 6 + (m + 1)) (j := 6 + m + 1) (ok_kahead T (j := 6 + m) (by omega)) (kb_ahead T.c_KeyOrder_ahead.F) (by omega) ⟨o, dx, ob, kf, .non, _, vx, vy, rfl, ox, fun H1 e1 k1 => ?_⟩
      obtain ⟨x1, x2⟩ := old ox k1
      have S1 := S.bump hr ho k1 (.keyed e e1 hob (hf.ext x1))
      have lk : k < rows.length := (List.getElem?_eq_some_iff.mp hr).1
      obtain ⟨rb, ob', hrb, hob', odb⟩ := S1.at_ (i := r.base) (by omega)
      rw [hob] at hob'; cases hob'
      obtain ⟨C, dxb, rv, rest, hxb, O, hm, l, _, _⟩ := ord_facts T odb
      have q := keys_two (P := P) (base := base) (E := E) (R := fun v1 v2 H3 => CallsTo P w K mg base (L2.CX P w) (6 + m) (ahF A rb) H3 [.ref ob, v1, v2] Q E) T S1 (hf.ext x1) (hx.more x2) (hy.more x2) lx ly hp (by rw [bl]; omega) e1 hxb (fun H2 S2 k2 c => by
        rw [if_pos c] at kk
        exact kk H2 S2 ((keep_ins ox k1).trans k2)) (fun v1 v2 H2 S2 k2 oy2 c w1 _ => by
        rw [if_neg (by rw [c]; exact Bool.false_ne_true)] at kk
        obtain ⟨t1, t2⟩ := w1 rfl
        have kl := @keys_len halt r.part x y (s.bump k)
        exact ask_sys T ro m r.base rb ob _ _ v1 v2 _ H2 Q (by omega) hrb hob S2 t1 t2 (by rw [rot_len]; exact lx) (by rw [rot_len]; exact ly) (by rw [bl] at kl; omega) fun H3 S3 k3 => kk H3 S3 (((keep_ins ox k1).trans k2).trans k3))
      refine ⟨q.1, calls_mono q.2 fun v1 H2 ⟨h1, h2, h3, h4⟩ => ⟨h1, h2, _, _, _, _, h3, O.cl, hm, l, h4⟩⟩
    | @down dx ob e ox hob =>
      rw [e] at kk
      simp only at kk
      unfold ahF
      rw [if_neg (by omega), if_neg (by omega), if_pos e]
      obtain ⟨hb1, hb2⟩ := ro.base k r hr (by omega)
      refine kw_fn (k := 6 + (m + 1)) (j := 6 + m + 1) (ok_dahead T (j := 6 + m) (by omega)) (kb_ahead T.c_DownOrder_ahead.F) (by omega) ⟨o, dx, ob, .non, _, vx, vy, rfl, ox, fun H1 e1 k1 => ?_⟩
      obtain ⟨x1, x2⟩ := old ox k1
      have S1 := S.bump hr ho k1 (.down e e1 hob)
      have lk : k < rows.length := (List.getElem?_eq_some_iff.mp hr).1
      obtain ⟨rb, ob', hrb, hob', odb⟩ := S1.at_ (i := r.base) (by omega)
      rw [hob] at hob'; cases hob'
      refine ah_of T odb (ask_sys T ro m r.base rb ob _ _ _ _ _ H1 Q (by omega) hrb hob S1 (hy.more x2) (hx.more x2) ly lx (by rw [bl]; omega) fun H3 S3 k3 => kk H3 S3 ((keep_ins ox k1).trans k3))
    | @thn dx ob ob2 e ox hob hob2 =>
      rw [e] at kk
      simp only at kk
      unfold ahF
      rw [if_neg (by omega), if_neg (by omega), if_neg (by omega), if_pos e]
      obtain ⟨hb1, hb2⟩ := ro.base k r hr (by omega)
      refine kw_fn (k := 6 + (m + 1)) (j := 6 + m + 1) (ok_tahead T (j := 6 + m) (by omega)) (kb_ahead T.c_ThenOrder_ahead.F) (by omega) ⟨o, dx, ob, ob2, .non, _, vx, vy, rfl, ox, fun H1 e1 k1 => ?_⟩
      obtain ⟨x1, x2⟩ := old ox k1
      have S1 := S.bump hr ho k1 (.thn e e1 hob hob2)
      have lk : k < rows.length := (List.getElem?_eq_some_iff.mp hr).1
      obtain ⟨rb, ob', hrb, hob', odb⟩ := S1.at_ (i := r.base) (by omega)
      rw [hob] at hob'; cases hob'
      have kA : KeepS nt H H1 := keep_ins ox k1
      have again : ∀ {H2 : Hp} {s2 : S4}, SysAt A H2 nt halt rows os s2 → ∃ (dx2 : Addr) (n2 : Int), H2 o = some (.ins A.C_ThenOrder dx2 (flds .non n2 (tR ob ob2))) := fun S2 => by
        have od2 := S2.ord k r o hr ho
        cases od2 with
        | rule e2 _ _ => omega
        | plain e2 _ => omega
        | key e2 _ _ _ _ => omega
        | keyed e2 _ _ _ => omega
        | down e2 _ _ => omega
        | thn e2 hx2 h3 h4 =>
          rw [hob] at h3; cases h3
          rw [hob2] at h4; cases h4
          exact ⟨_, _, hx2⟩
      have bl2 : (s.bump k).notes.length = s.notes.length := rfl
      have len1 := ahead_len (rows := rows) (halt := halt) m r.base x y (s.bump k)
      refine ah_of T odb (ask_sys T ro m r.base rb ob _ _ _ _ _ H1 _ (by omega) hrb hob S1 (hx.more x2) (hy.more x2) lx ly (by rw [bl]; omega) fun H2 S2 k2 => ?_)
      unfold thenF at kk
      revert S2 kk len1
      rcases aheadF rows halt m r.base x y (s.bump k) with ⟨_ | _ | _, s1⟩ <;> intro kk len1 S2 <;> dsimp only at kk len1 S2 ⊢
      · exact kk H2 S2 (kA.trans k2)
      · have tp2 : ∀ c xs, H1 c = some (.tup xs) → H2 c = some (.tup xs) := k2.tup (S1.nts.imp fun _ h => h.1)
        have hx2 := (hx.more x2).more tp2
        have hy2 := (hy.more x2).more tp2
        obtain ⟨rb', ob', hrb', hob', odb2⟩ := S2.at_ (i := r.base) (by omega)
        rw [hob] at hob'; cases hob'
        rw [hrb] at hrb'; cases hrb'
        refine ⟨false, rfl, ?_⟩
        rw [if_neg Bool.false_ne_true]
        have len2 := ahead_len (rows := rows) (halt := halt) m r.base y x s1
        refine ⟨again S2, ah_of T odb2 (ask_sys T ro m r.base rb ob _ _ _ _ _ H2 _ (by omega) hrb hob S2 hy2 hx2 ly lx (by omega) fun H3 S3 k3 => ?_)⟩
        revert S3 kk len2
        rcases aheadF rows halt m r.base y x s1 with ⟨_ | _ | _, s2⟩ <;> intro kk len2 S3 <;> dsimp only at kk len2 S3 ⊢
        · exact kk H3 S3 ((kA.trans k2).trans k3)
        · have tp3 : ∀ c xs, H2 c = some (.tup xs) → H3 c = some (.tup xs) := k3.tup (S2.nts.imp fun _ h => h.1)
          obtain ⟨rm, om, hrm, hom, odm⟩ := S3.at_ (i := r.more) (by omega)
          rw [hob2] at hom; cases hom
          refine ⟨false, rfl, ?_⟩
          rw [if_neg Bool.false_ne_true]
          exact ⟨again S3, ah_of T odm (ask_sys T ro m r.more rm ob2 _ _ _ _ _ H3 _ (by omega) hrm hob2 S3 (hx2.more tp3) (hy2.more tp3) lx ly (by omega) fun H4 S4 k4 => kk H4 S4 (((kA.trans k2).trans k3).trans k4))⟩
        · refine ⟨true, rfl, ?_⟩
          rw [if_pos rfl]
          exact kk H3 S3 ((kA.trans k2).trans k3)
      · refine ⟨true, rfl, ?_⟩
        rw [if_pos rfl]
        exact kk H2 S2 (kA.trans k2)
end
end K04

namespace K04
open PySem L2 Rs Xc Xd Xg Xh Xi Xj Xk NdefX Xf Xq
/-! an order asked by the law -/
def askF (rows : List Rw) (halt : Int) (al : Bool) (k : Nat) (x y : List Int) (s : S4) : Option Bool × S4 := if al then alkF rows halt 5 k x y s else aheadF rows halt 5 k x y s
def sp_called (A : Ad) : Sp := fun vs H Q E => ∃ (nt o : Addr) (halt : Int) (rows : List Rw) (os : List Addr) (s : S4) (k : Nat) (r : Rw) (al : Bool) (x y : List Int) (vx vy : V) (way : Int), vs = [.ref o, .bl al, vx, vy, .int way] ∧ RowsOk rows ∧ k < 5 ∧ rows[k]? = some r ∧ os[k]? = some o ∧ SysAt A H nt halt rows os s ∧ TI H vx x ∧ TI H vy y ∧ x.length = 3 ∧ y.length = 3 ∧ s.notes.length + 2 * (2 * 3 ^ 5) ≤ 100000 ∧
  ∀ H', SysAt A H' nt halt rows os (askF rows halt al k x y s).2 → KeepS nt H H' → FinS A halt (askF rows halt al k x y s).1 H' Q E
section
variable {P : Program} {w : World} {K : PySem.W.Frag} {mg : Str → Option Value} {base : Heap} {A : Ad} {H H' H0 : Hp} {Q : VK} {E : XK} {nt : Addr} {halt : Int} {rows : List Rw} {os : List Addr} {s : S4}
local macro_rules | `(tactic| walk_at "rd1") => `(tactic| first
  | with_reducible refine Xc.rd_bi ?_
  | with_reducible refine Xc.rd_put1 ?_
  | with_reducible refine Xc.rd_tmk ?_
  | with_reducible refine Xc.rd_xv ?_
  | with_reducible refine Xh.rd_callF ?_
  | with_reducible refine Xj.rd_clsF ?_
  | with_reducible refine Xj.rd_methD ?_
  | with_reducible refine Xq.rd_methDK ?_)
theorem alike_sp (T : Txt K mg w A) (ro : RowsOk rows) (k : Nat) (r : Rw) (o : Addr) (x y : List Int) (vx vy : V) (hk : k < 5) (hr : rows[k]? = some r) (ho : os[k]? = some o) (S : SysAt A H nt halt rows os s) (hx : TI H vx x) (hy : TI H vy y) (lx : x.length = 3) (ly : y.length = 3) (nl : s.notes.length + 2 * (2 * 3 ^ 5) ≤ 100000)
    (kk : ∀ H', SysAt A H' nt halt rows os (alkF rows halt 5 k x y s).2 → KeepS nt H H' → FinS A halt (alkF rows halt 5 k x y s).1 H' Q E) : sp_alike 11 P w K mg base [.ref o, vx, vy] H Q E := by
  refine ⟨o, vx, vy, rfl, ah_of (j := 6 + 5) T (S.ord k r o hr ho) (ask_sys T ro 5 k r o x y vx vy s H _ hk hr ho S hx hy lx ly (by omega) fun H2 S2 k2 => ?_)⟩
  have len1 := ahead_len (rows := rows) (halt := halt) 5 k x y s
  unfold alkF alikeF at kk
  revert S2 kk len1
  generalize aheadF rows halt 5 k x y s = RA
  rcases RA with ⟨_ | _ | _, s1⟩ <;> intro kk S2 len1 <;> dsimp only at kk len1 S2 ⊢
  · exact kk H2 S2 k2
  · refine ⟨false, rfl, ?_⟩
    rw [if_neg Bool.false_ne_true]
    have tp2 := k2.tup (S.nts.imp fun _ h => h.1)
    refine ah_of (j := 6 + 5) T (S2.ord k r o hr ho) (ask_sys T ro 5 k r o y x vy vx s1 H2 _ hk hr ho S2 (hy.more tp2) (hx.more tp2) ly lx (by omega) fun H3 S3 k3 => ?_)
    revert S3 kk
    generalize aheadF rows halt 5 k y x s1 = RB
    rcases RB with ⟨_ | b, s2⟩ <;> intro kk S3 <;> dsimp only at kk S3 ⊢
    · exact kk H3 S3 (k2.trans k3)
    · exact ⟨b, rfl, kk H3 S3 (k2.trans k3)⟩
  · refine ⟨true, rfl, ?_⟩
    rw [if_pos rfl]
    exact kk H2 S2 k2
theorem kw_up {CX : CXT} {j k : Nat} {f : Addr} {x : V} {ks : List Str} {zs : List V} (c : CallsKw P w K mg base CX j f x ks H zs Q E) (h : j ≤ k) : CallsKw P w K mg base CX k f x ks H zs Q E := by
  obtain ⟨fd, ps, sp, g, gV, o, hb, q⟩ := c
  exact ⟨fd, ps, sp, g, gV, fn_up o h, hb, q⟩
theorem ok_called (T : Txt K mg w A) : FnOk P w K mg base (L2.CX P w) 15 A.f__law_called A.d__law_called ["_law_house", "_law_is_alike", "_law_item", "_law_mate", "_law_way"] (sp_called A) := by
  refine T.c__law_called.F.okX sc_l_called (fun vs H Q E h => ?_) (fun cdv Ar outer st H vs Q E hr h => ?_)
  · obtain ⟨_, _, _, _, _, _, _, _, _, _, _, _, _, _, rfl, _⟩ := h; rfl
  · obtain ⟨nt, o, halt, rows, os, s, k, r, al, x, y, vx, vy, way, rfl, ro, hk, hr1, ho, S, hx, hy, lx, ly, nl, kk⟩ := h
    obtain ⟨C, dx, rv, rest, hxo, O, hm, l1, l2, l3⟩ := ord_facts T (S.ord k r o hr1 ho)
    refine ⟨_, (pss_cons (ps_if (pt_cmpR op_eq (pv 4) pe_int (nomark _))
        (pss_one (ps_ret (pe_ifExp (pt_val (pv 1)) (Xq.pe_methDK (CX := L2.CX P w) (k := 14) (pv 0) (pk_cons (pv 3) (pk_cons (pv 2) pk_nil)) hr (by first | decide | omega) (passes_call (takes_of rfl rfl rfl rfl) fun _ _ _ _ z => z)) (Xq.pe_methDK (CX := L2.CX P w) (k := 14) (pv 0) (pk_cons (pv 3) (pk_cons (pv 2) pk_nil)) hr (by first | decide | omega) (passes_call (takes_of rfl rfl rfl rfl) fun _ _ _ _ z => z)))))
        pss_nil)
      (pss_one (ps_ret (pe_ifExp (pt_val (pv 1)) (Xj.pe_methD (CX := L2.CX P w) (k := 14) (pv 0) (pa_cons (pv 2) (pa_cons (pv 3) pa_nil)) hr (by first | decide | omega) (passes_call (takes_of rfl rfl rfl rfl) fun _ _ _ _ z => z)) (Xj.pe_methD (CX := L2.CX P w) (k := 14) (pv 0) (pa_cons (pv 2) (pa_cons (pv 3) pa_nil)) hr (by first | decide | omega) (passes_call (takes_of rfl rfl rfl rfl) fun _ _ _ _ z => z)))))), ?_⟩
    unfold askF at kk
    walk_at "st"
    walk_at "rd"
    refine rd_dec ?_ ?_ <;> intro hw
    · walk_at "rd"
      cases al with
      | true =>
        rw [if_pos rfl] at kk
        refine ite_yes rfl ?_
        walk_at "rd"
        refine ⟨o, C, dx, _, _, rfl, hxo, O.cl, O.ha, l2, ?_⟩
        walk_at "rd"
        exact ⟨rfl, kw_fn (j := 12) (ok_alike T (j := 11) (by decide)) (kb_ahead T.c_Order_alike.F) (by decide) (alike_sp T ro k r o x y vx vy hk hr1 ho S hx hy lx ly nl kk)⟩
      | false =>
        rw [if_neg Bool.false_ne_true] at kk
        refine ite_no Bool.false_ne_true ?_
        walk_at "rd"
        refine ⟨o, C, dx, _, _, rfl, hxo, O.cl, hm, l1, ?_⟩
        walk_at "rd"
        exact ⟨rfl, kw_up (ask_kw T ro 4 k r o x y vx vy s H Q hk hr1 ho S hx hy lx ly (by omega) kk) (by decide)⟩
    · walk_at "rd"
      cases al with
      | true =>
        rw [if_pos rfl] at kk
        refine ite_yes rfl ?_
        walk_at "rd"
        refine ⟨o, C, dx, _, _, rfl, hxo, O.cl, O.ha, l2, ?_⟩
        walk_at "rd"
        exact calls_up (j := 12) (calls_fn T.c_Order_alike.F (ok_alike T (j := 11) (by decide)) T.c_Order_alike.b (alike_sp T ro k r o x y vx vy hk hr1 ho S hx hy lx ly nl kk)) (by decide)
      | false =>
        rw [if_neg Bool.false_ne_true] at kk
        refine ite_no Bool.false_ne_true ?_
        walk_at "rd"
        refine ⟨o, C, dx, _, _, rfl, hxo, O.cl, hm, l1, ?_⟩
        walk_at "rd"
        exact calls_up (j := 11) (ask_sys T ro 5 k r o x y vx vy s H Q hk hr1 ho S hx hy lx ly (by omega) kk) (by decide)
end
end K04

namespace K04
open PySem L2 Rs Xc Xd Xg Xh Xi Xj Xk NdefX Xf Xq
/-! asked, what is raised is kept -/
def tldV (halt : Int) : Option Bool → V
  | none => .int halt
  | some b => .bl b
def sp_asked (A : Ad) : Sp := fun vs H Q _ => ∃ (nt o : Addr) (halt : Int) (rows : List Rw) (os : List Addr) (s : S4) (k : Nat) (r : Rw) (al : Bool) (x y : List Int) (vx vy : V) (way : Int), vs = [.ref o, .bl al, vx, vy, .int way] ∧ RowsOk rows ∧ k < 5 ∧ rows[k]? = some r ∧ os[k]? = some o ∧ SysAt A H nt halt rows os s ∧ TI H vx x ∧ TI H vy y ∧ x.length = 3 ∧ y.length = 3 ∧ s.notes.length + 2 * (2 * 3 ^ 5) ≤ 100000 ∧
  ∀ H', SysAt A H' nt halt rows os (askF rows halt al k x y s).2 → KeepS nt H H' → Q (tldV halt (askF rows halt al k x y s).1) H'
section
variable {P : Program} {w : World} {K : PySem.W.Frag} {mg : Str → Option Value} {base : Heap} {A : Ad} {H H' H0 : Hp} {Q : VK} {E : XK} {nt : Addr} {halt : Int} {rows : List Rw} {os : List Addr} {s : S4}
theorem one_stopped (T : Txt K mg w A) : PySem.W.exmOne K (.ref A.C_Stopped) (.ref A.C_Stopped) = some true := by
  obtain ⟨b1, d1, e1, e2, e3⟩ := PySem.W.exmAny_cons T.x_any_Stopped
  have : d1 = false := (Option.some.inj e2).symm
  subst this
  rw [Bool.or_false] at e3
  rw [← e3] at e1
  exact e1
theorem ok_asked (T : Txt K mg w A) : FnOk P w K mg base CX0 16 A.f__law_asked A.d__law_asked ["_law_house", "_law_is_alike", "_law_item", "_law_mate", "_law_way"] (sp_asked A) := by
  have G__law_called : FnOk P w K mg base (L2.CX P w) 15 A.f__law_called A.d__law_called ["_law_house", "_law_is_alike", "_law_item", "_law_mate", "_law_way"] (sp_called A) := ok_called T
  refine T.c__law_asked.F.ok sc_l_asked (fun vs H Q E h => ?_) (fun cdv Ar outer st H vs Q E hr h => ?_)
  · obtain ⟨_, _, _, _, _, _, _, _, _, _, _, _, _, _, rfl, _⟩ := h; rfl
  · obtain ⟨nt, o, halt, rows, os, s, k, r, al, x, y, vx, vy, way, rfl, ro, hk, hr1, ho, S, hx, hy, lx, ly, nl, kk⟩ := h
    refine ⟨_, pss_cons (ps_set (i := 5) sc_l_asked.nd rfl (Or.inl rfl) pe_non)
      (pss_cons (ps_try_as (i := 6) (c := .ref A.C_Stopped)
        (tb := fun W D σ H => ∃ Ech : XK, (∀ cls d σ' H', Ech cls d H' → σ'.length = 7 → W cls d σ' H') ∧ σ = [some (.ref o), some (.bl al), some vx, some vy, some (.int way), some .non, none] ∧ sp_called A [.ref o, .bl al, vx, vy, .int way] H (fun v H' => D.nx (σ.set 5 (some v)) H') Ech)
        rfl rfl sc_l_asked.nd rfl rfl ⟨rfl, by decide, .inl T.m_Stopped⟩ LamX.takes0
        (fun W pn xe tk _ => by
          refine ⟨fun pins s1 σ1 H1 D I h => ?_⟩
          obtain ⟨Ech, hW, h1, h3⟩ := h
          subst h1
          refine PSs.run (pss_one (X := (cxOf CX0 P w K mg base ["_law_house", "_law_is_alike", "_law_item", "_law_mate", "_law_way", "_law_found", "error"] "_law_asked" (defScope s_l_asked) A.f__law_asked cdv Ar outer st H E).nox.tr pn xe) (ps_set (i := 5) sc_l_asked.nd rfl (Or.inl rfl) (pe_call (x := "_law_called") (E := Ech) G__law_called (hr.mono (by first | decide | omega)) rfl T.c__law_called.m T.c__law_called.F.kp T.c__law_called.b .nil (passes_call (Xc.takes_len tk) (fun cls d σ' H' z l => hW cls d σ' H' z l)) (pa_cons (pv 0) (pa_cons (pv 1) (pa_cons (pv 2) (pa_cons (pv 3) (pa_cons (pv 4) pa_nil)))))))) pins s1 _ H1 D I ?_
          walk_at "rd"
          exact h3)
        (fun a oe cls d pn hz hf => pss_one (ps_set (i := 5) sc_l_asked.nd rfl (Or.inl rfl) (pe_xf (C := A.C_Stopped) ⟨T.k_Stopped.ga, T.k_Stopped.gg, T.k_Stopped.bx, T.k_Stopped.hd⟩ T.na_Stopped_at hz hf (pv 6)))))
      (pss_one (ps_ret (pv 5)))), ?_⟩
    walk_at "st"
    walk_at "rd"
    refine ⟨fun cls d H' => cls = .ref A.C_Stopped ∧ ∃ dd, d = some dd ∧ H' dd = some (.xd [("at", .int halt)]) ∧ Q (.int halt) H', ?_, rfl, nt, o, halt, rows, os, s, k, r, al, x, y, vx, vy, way, rfl, ro, hk, hr1, ho, S, hx, hy, lx, ly, nl, fun H1 S1 k1 => ?_⟩
    · rintro cls d σ' H' ⟨rfl, dd, rfl, hd, q⟩ hl
      obtain ⟨x0, x1, x2, x3, x4, x5, x6, rfl⟩ : ∃ x0 x1 x2 x3 x4 x5 x6, σ' = [x0, x1, x2, x3, x4, x5, x6] := by
        match σ', hl with
        | [x0, x1, x2, x3, x4, x5, x6], _ => exact ⟨_, _, _, _, _, _, _, rfl⟩
      refine ⟨true, one_stopped T, fun _ a ha => ?_, fun z => Bool.noConfusion z⟩
      dsimp only [List.set]
      walk_at "rd"
      unfold tXf
      walk_at "rd"
      refine ⟨rfl, rfl, dd, _, _, rfl, hd, rfl, ?_⟩
      walk_at "rd"
      exact q
    · dsimp only [List.set]
      revert kk S1
      generalize (askF rows halt al k x y s) = RA
      rcases RA with ⟨_ | b, s1⟩ <;> intro kk S1 <;> dsimp only [FinS, tldV] at kk S1 ⊢
      · intro d hd
        refine ⟨rfl, d, rfl, upd_same, ?_⟩
        have sm : Same H1 (upd H1 d (.xd [("at", .int halt)])) := fun b o e => by rw [upd_ne (ne_of_none e hd)]; exact e
        exact kk _ (S1.same sm) (k1.trans (keep_same sm))
      · walk_at "rd"
        exact kk _ S1 k1
end
end K04

namespace K04
open PySem L2 Rs Xc Xd Xg Xh Xi Xj Xk NdefX Xf Xq
/-! three down orders by hand -/
abbrev handQ : Str := (("_law_by_hand_right" : Str) ++ ".<locals>.") ++ "<lambda>"
def asgV : Stmt → Expr
  | .Assign (value := v) .. => v
  | _ => .Constant .none 0 ⟨0, 0, 0, 0⟩
def argE : Expr → Expr
  | .Call _ (e :: _) _ _ => e
  | e => e
def lamP : Expr → Arguments
  | .Lambda p _ _ _ => p
  | _ => ⟨[], [], none, [], [], none, []⟩
def lamB : Expr → Expr
  | .Lambda _ b _ _ => b
  | e => e
def lamS : Expr → Scope
  | .Lambda _ _ s _ => s
  | _ => defScope s_l_mixed
abbrev handE : Expr := argE (asgV ((defBody s_l_by_hand_right).getD 0 (.Pass ⟨0, 0, 0, 0⟩)))
abbrev handF (c' : Addr) : LF := ⟨handQ, lamP handE, lamB handE, lamS handE, [], c'⟩
theorem hand_scope : NdefX.NScope ["_law_item", "_law_mate"] ["_law_item", "_law_mate"] [] (lamS handE) := NdefX.nscope_by (by decide +kernel)
structure HandAt (A : Ad) (B : Hp) (H : Hp) (f b0 b1 b2 : Addr) (n0 n1 n2 : Int) : Prop where
  fn : ∃ c', H f = some (LamO f (handF c')) ∧ H c' = some (LamX.CodeO c' handQ)
  h0 : ∃ d0, H b0 = some (.ins A.C_Order d0 (flds (.ref f) n0 []))
  h1 : ∃ d1, H b1 = some (.ins A.C_DownOrder d1 (flds .non n1 (dR b0)))
  h2 : ∃ d2, H b2 = some (.ins A.C_DownOrder d2 (flds .non n2 (dR b1)))
  e01 : b0 ≠ b1
  e02 : b0 ≠ b2
  e12 : b1 ≠ b2
  tb : LamX.Tabs TT H
  ex : LamX.ExtN B H
  o0 : ∀ C dx fs, B b0 ≠ some (.ins C dx fs)
  o1 : ∀ C dx fs, B b1 ≠ some (.ins C dx fs)
  o2 : ∀ C dx fs, B b2 ≠ some (.ins C dx fs)
theorem ext_ins {B H H' : Hp} {x C dx : Addr} {fs : List (Str × V)} (t : LamX.ExtN B H) (hx : H x = some (.ins C dx fs)) (n : ∀ C dx fs, B x ≠ some (.ins C dx fs)) (b : But x H H') : LamX.ExtN B H' := fun c o e nt => b _ _ (t _ _ e nt) fun z => by
  subst z
  have := t _ _ e nt
  rw [hx] at this
  cases this
  exact n _ _ _ e
theorem tabs_ins {H H' : Hp} {x C dx : Addr} {fs : List (Str × V)} (t : LamX.Tabs TT H) (hx : H x = some (.ins C dx fs)) (b : But x H H') : LamX.Tabs TT H' :=
  tabs_pers ⟨fun c r e => b _ _ e (ne_of e hx (fun z => by cases z)), fun c r e => b _ _ e (ne_of e hx (fun z => by cases z))⟩ (fun c ps e => b _ _ e (ne_of e hx (fun z => by cases z))) t
def sp_hand : Sp := fun vs H Q _ => vs = [] ∧ LamX.Tabs TT H ∧ ∀ H', LamX.ExtN H H' → LamX.Tabs TT H' → Q (.bl true) H'
section
variable {P : Program} {w : World} {K : PySem.W.Frag} {mg : Str → Option Value} {base : Heap} {A : Ad} {H H' H0 : Hp} {Q : VK} {E : XK}
local macro_rules | `(tactic| walk_at "rd1") => `(tactic| first
  | with_reducible refine Xc.rd_bi ?_
  | with_reducible refine Xc.rd_put1 ?_
  | with_reducible refine Xc.rd_tmk ?_
  | with_reducible refine Xc.rd_xv ?_
  | with_reducible refine Xh.rd_callF ?_
  | with_reducible refine Xj.rd_clsF ?_
  | with_reducible refine Xj.rd_methD ?_)
variable {B : Hp} {f b0 b1 b2 : Addr} {n0 n1 n2 i j : Int}
theorem HandAt.same (h : HandAt A B H f b0 b1 b2 n0 n1 n2) (k : Same H H') : HandAt A B H' f b0 b1 b2 n0 n1 n2 := by
  obtain ⟨⟨c, f1, f2⟩, ⟨d0, h0⟩, ⟨d1, h1⟩, ⟨d2, h2⟩, e01, e02, e12, tb, ex, o0, o1, o2⟩ := h
  exact ⟨⟨c, k _ _ f1, k _ _ f2⟩, ⟨d0, k _ _ h0⟩, ⟨d1, k _ _ h1⟩, ⟨d2, k _ _ h2⟩, e01, e02, e12, tb.ext k, fun b o e n => k _ _ (ex _ _ e n), o0, o1, o2⟩
theorem hand_rule {c' : Addr} (hf : H f = some (LamO f (handF c'))) (hc : H c' = some (LamX.CodeO c' handQ)) (hQ : Q (.bl (decide (i < j))) H) : CallsTo P w K mg base (L2.CX P w) 5 f H [.int i, .int j] Q E := by
  refine calls_up (j := 1) (calls_lam (F := handF c') hand_scope rfl (fun pm ctv us hl => match us, hl with | [_, _], _ => rfl) rfl hf hc (fun A outer s hr => (pe_cmpR op_lt (pv 0) (pv 1) (nomark _))) ?_) (by decide)
  show tOp _ _ _ [some (.int i), some (.int j)] H Q
  walk_at "rd"
  exact hQ
theorem hand0 (T : Txt K mg w A) (h : HandAt A B H f b0 b1 b2 n0 n1 n2) (k : ∀ H', HandAt A B H' f b0 b1 b2 (n0 + 1) n1 n2 → Q (.bl (decide (i < j))) H') : CallsTo P w K mg base (L2.CX P w) 6 A.f_Order_ahead H [.ref b0, .int i, .int j] Q E := by
  obtain ⟨⟨c, f1, f2⟩, ⟨d0, h0⟩, ⟨d1, h1⟩, ⟨d2, h2⟩, e01, e02, e12, tb, ex, o0, o1, o2⟩ := h
  refine calls_fn T.c_Order_ahead.F (ok_ahead T) T.c_Order_ahead.b ⟨b0, d0, f, n0, .int i, .int j, rfl, h0, fun H1 e1 k1 => ?_⟩
  have f1' := k1 _ _ f1 (ne_of f1 h0 (fun z => by cases z))
  have f2' := k1 _ _ f2 (ne_of f2 h0 (fun z => by cases z))
  exact ⟨isFn_lam f1', hand_rule f1' f2' ⟨.bool, .bl _, .inl ⟨_, rfl, k H1 ⟨⟨c, f1', f2'⟩, ⟨d0, e1⟩, ⟨d1, k1 _ _ h1 e01.symm⟩, ⟨d2, k1 _ _ h2 e02.symm⟩, e01, e02, e12, tabs_ins tb h0 k1, ext_ins ex h0 o0 k1, o0, o1, o2⟩⟩⟩⟩
theorem hand1 (T : Txt K mg w A) (h : HandAt A B H f b0 b1 b2 n0 n1 n2) (k : ∀ H', HandAt A B H' f b0 b1 b2 (n0 + 1) (n1 + 1) n2 → Q (.bl (decide (j < i))) H') : CallsTo P w K mg base (L2.CX P w) 7 A.f_DownOrder_ahead H [.ref b1, .int i, .int j] Q E := by
  obtain ⟨⟨c, f1, f2⟩, ⟨d0, h0⟩, ⟨d1, h1⟩, ⟨d2, h2⟩, e01, e02, e12, tb, ex, o0, o1, o2⟩ := h
  refine calls_fn T.c_DownOrder_ahead.F (ok_dahead T (j := 6) (by decide)) T.c_DownOrder_ahead.b ⟨b1, d1, b0, .non, n1, .int i, .int j, rfl, h1, fun H1 e1 k1 => ?_⟩
  have q : HandAt A B H1 f b0 b1 b2 n0 (n1 + 1) n2 := ⟨⟨c, k1 _ _ f1 (ne_of f1 h1 (fun z => by cases z)), k1 _ _ f2 (ne_of f2 h1 (fun z => by cases z))⟩, ⟨d0, k1 _ _ h0 e01⟩, ⟨d1, e1⟩, ⟨d2, k1 _ _ h2 e12.symm⟩, e01, e02, e12, tabs_ins tb h1 k1, ext_ins ex h1 o1 k1, o0, o1, o2⟩
  exact ⟨b0, _, _, _, _, rfl, k1 _ _ h0 e01, T.cl_Order, T.h_Order_ahead, rfl, hand0 T q k⟩
theorem hand2 (T : Txt K mg w A) (h : HandAt A B H f b0 b1 b2 n0 n1 n2) (k : ∀ H', HandAt A B H' f b0 b1 b2 (n0 + 1) (n1 + 1) (n2 + 1) → Q (.bl (decide (i < j))) H') : CallsTo P w K mg base (L2.CX P w) 8 A.f_DownOrder_ahead H [.ref b2, .int i, .int j] Q E := by
  obtain ⟨⟨c, f1, f2⟩, ⟨d0, h0⟩, ⟨d1, h1⟩, ⟨d2, h2⟩, e01, e02, e12, tb, ex, o0, o1, o2⟩ := h
  refine calls_fn T.c_DownOrder_ahead.F (ok_dahead T (j := 7) (by decide)) T.c_DownOrder_ahead.b ⟨b2, d2, b1, .non, n2, .int i, .int j, rfl, h2, fun H1 e1 k1 => ?_⟩
  have q : HandAt A B H1 f b0 b1 b2 n0 n1 (n2 + 1) := ⟨⟨c, k1 _ _ f1 (ne_of f1 h2 (fun z => by cases z)), k1 _ _ f2 (ne_of f2 h2 (fun z => by cases z))⟩, ⟨d0, k1 _ _ h0 e02⟩, ⟨d1, k1 _ _ h1 e12⟩, ⟨d2, e1⟩, e01, e02, e12, tabs_ins tb h2 k1, ext_ins ex h2 o2 k1, o0, o1, o2⟩
  exact ⟨b1, _, _, _, _, rfl, k1 _ _ h1 e12, T.cl_DownOrder, T.h_DownOrder_ahead, rfl, hand1 T q k⟩
theorem hand_alike (T : Txt K mg w A) (h : HandAt A B H f b0 b1 b2 n0 n1 n2) (lt : j < i) (k : ∀ H', HandAt A B H' f b0 b1 b2 (n0 + 1 + 1) (n1 + 1 + 1) (n2 + 1 + 1) → Q (.bl false) H') : CallsTo P w K mg base (L2.CX P w) 9 A.f_Order_alike H [.ref b2, .int i, .int j] Q E := by
  obtain ⟨d2, h2⟩ := h.h2
  refine calls_fn T.c_Order_alike.F (ok_alike T (j := 8) (by decide)) T.c_Order_alike.b ⟨b2, .int i, .int j, rfl, b2, _, _, _, _, rfl, h2, T.cl_DownOrder, T.h_DownOrder_ahead, rfl, hand2 T h fun H1 q1 => ⟨_, rfl, ?_⟩⟩
  rw [if_neg (by rw [decide_eq_true_eq]; omega)]
  obtain ⟨d2', h2'⟩ := q1.h2
  exact ⟨b2, _, _, _, _, rfl, h2', T.cl_DownOrder, T.h_DownOrder_ahead, rfl, hand2 T q1 fun H2 q2 => ⟨_, rfl, by rw [decide_eq_true lt]; exact k H2 q2⟩⟩
theorem func_ok {x qual : Str} {st : Stmt} {f c : Addr} {fd : FuncData} {N ps : List Str} {k : Nat} {sp : Sp} (F : Xc.FunC K x qual st f fd c) (S : FnScope N ps (defScope st)) (len : ∀ vs H Q E, sp vs H Q E → vs.length = ps.length)
    (hbody : ∀ (A : Around) (outer : List Env) (s : Shared) (H : Hp) (vs : List V) (Q : VK) (E : XK), Room k (A.deeper (PyProof.Rows.envOfC qual (defScope st) s.heap.objs.size f (.ref c))) → sp vs H Q E →
      ∃ t, PSs (cxOf CX0 P w K mg base N qual (defScope st) f (.ref c) A outer s H E).nox (defBody st) t ∧ t { nx := fun _ H' => Q .non H', rt := Q } (L2.start N vs) H) : FnOk P w K mg base CX0 (k + 1) f fd ps sp := by
  obtain ⟨oc, od, kV, doc, pm, an, ct, osl, rfl, lk, hcd⟩ := F.ex
  refine fn_of lk hcd S len fun A outer s H vs Q E hr hsp => ?_
  obtain ⟨t, h, q⟩ := hbody A outer s H vs Q E hr hsp
  exact ⟨t, h.nox, q⟩
theorem ok_hand (T : Txt K mg w A) (TB : LamX.TabB base mg A.cc__law_by_hand_right 321) : FnOk P w K mg base CX0 16 A.f__law_by_hand_right A.d__law_by_hand_right [] sp_hand := by
  have G_Order___init__ : FnOk P w K mg base CX0 1 A.f_Order___init__ A.d_Order___init__ ["self", "rule"] (sp_oinit A.C_Order) := ok_oinit T (ord_o T)
  have G_DownOrder___init__ : FnOk P w K mg base CX0 2 A.f_DownOrder___init__ A.d_DownOrder___init__ ["self", "order"] (sp_dinit K A) := ok_dinit T
  have hmem : (321, handQ) ∈ TT := by simp [TT]
  have huni : ∀ p ∈ TT, p.1 = 321 → p.2 = handQ := tt_uni (321, handQ) (by simp [TT])
  refine func_ok T.cx__law_by_hand_right sc_l_by_hand_right (fun vs H Q E h => ?_) (fun Ar outer st H vs Q E hr h => ?_)
  · obtain ⟨rfl, _⟩ := h; rfl
  · obtain ⟨rfl, tb, kk⟩ := h
    refine ⟨_, (pss_cons (ps_set (i := 0) sc_l_by_hand_right.nd rfl (Or.inl rfl) (pe_make T.i_Order G_Order___init__ (hr.mono (by first | decide | omega)) rfl T.m_Order T.c_Order___init__.b .nil pass0 (pa_cons (Xh.pe_lamv TB rfl hmem huni rfl (NdefX.ndef_free (fr := []) (by first | rfl | kernel_rfl))) pa_nil)))
      (pss_cons (ps_set (i := 1) sc_l_by_hand_right.nd rfl (Or.inl rfl) (pe_make T.i_DownOrder G_DownOrder___init__ (hr.mono (by first | decide | omega)) rfl T.m_DownOrder T.c_DownOrder___init__.b .nil pass0 (pa_cons (pv 0) pa_nil)))
      (pss_cons (ps_set (i := 2) sc_l_by_hand_right.nd rfl (Or.inl rfl) (pe_make T.i_DownOrder G_DownOrder___init__ (hr.mono (by first | decide | omega)) rfl T.m_DownOrder T.c_DownOrder___init__.b .nil pass0 (pa_cons (pv 1) pa_nil)))
      (pss_cons (ps_if (pt_cmpR (op_neD hr.units) (pe_lst (pa_cons (Xj.pe_methD (CX := L2.CX P w) (k := 14) (pv 2) (pa_cons pe_int (pa_cons pe_int pa_nil)) hr (by first | decide | omega) passL) (pa_cons (Xj.pe_methD (CX := L2.CX P w) (k := 14) (pv 2) (pa_cons pe_int (pa_cons pe_int pa_nil)) hr (by first | decide | omega) passL) (pa_cons (Xj.pe_methD (CX := L2.CX P w) (k := 14) (pv 1) (pa_cons pe_int (pa_cons pe_int pa_nil)) hr (by first | decide | omega) passL) (pa_cons (Xj.pe_methD (CX := L2.CX P w) (k := 14) (pv 2) (pa_cons pe_int (pa_cons pe_int pa_nil)) hr (by first | decide | omega) passL) pa_nil))))) (pe_lst (pa_cons pe_bl (pa_cons pe_bl (pa_cons pe_bl (pa_cons pe_bl pa_nil))))) (nomark _))
        (pss_one (ps_ret pe_bl))
        pss_nil)
      (pss_one (ps_ret (pe_cmpR (op_eqD hr.units) (pe_lst (pa_cons (Xj.pe_methD0 (CX := CX0) (E := E0) (k := 14) (pv 0) hr (by first | decide | omega) pass0) (pa_cons (Xj.pe_methD0 (CX := CX0) (E := E0) (k := 14) (pv 1) hr (by first | decide | omega) pass0) (pa_cons (Xj.pe_methD0 (CX := CX0) (E := E0) (k := 14) (pv 2) hr (by first | decide | omega) pass0) pa_nil)))) (pe_lst (pa_cons pe_int (pa_cons pe_int (pa_cons pe_int pa_nil)))) (nomark _)))))))), ?_⟩
    walk_at "st"
    walk_at "rd"
    refine rd_mkP ?_
    walk_at "rd"
    refine ⟨tb, fun f c' H1 eN nn T1 f0 f1 c1 => ?_⟩
    walk_at "rd"
    refine mk_o fun b0 d0 H2 hb0 h0 s2 => ?_
    walk_at "rd"
    refine rd_mkP ?_
    walk_at "rd"
    refine mk_d h0 (ord_o T) fun b1 d1 H3 hb1 h1 s3 => ?_
    walk_at "rd"
    refine rd_mkP ?_
    walk_at "rd"
    refine mk_d h1 (ord_d T) fun b2 d2 H4 hb2 h2 s4 => ?_
    have nins : ∀ (x : Addr) {HX : Hp}, LamX.ExtN H HX → HX x = none → ∀ C dx fs, H x ≠ some (.ins C dx fs) := fun x _ e hx C dx fs z => by
      have := e _ _ z (fun _ q => by cases q)
      rw [hx] at this; cases this
    have q4 : HandAt A H H4 f b0 b1 b2 0 0 0 := ⟨⟨c', s4 _ _ (s3 _ _ (s2 _ _ f1)), s4 _ _ (s3 _ _ (s2 _ _ c1))⟩, ⟨d0, s4 _ _ (s3 _ _ h0)⟩, ⟨d1, s4 _ _ h1⟩, ⟨d2, h2⟩, (mk_ne hb1 h0).symm, (mk_ne hb2 (s3 _ _ h0)).symm, (mk_ne hb2 h1).symm, ((T1.ext s2).ext s3).ext s4, fun b o e n => s4 _ _ (s3 _ _ (s2 _ _ (eN _ _ e n))), nins b0 (fun b o e n => eN _ _ e n) hb0, nins b1 (fun b o e n => s2 _ _ (eN _ _ e n)) hb1, nins b2 (fun b o e n => s3 _ _ (s2 _ _ (eN _ _ e n))) hb2⟩
    walk_at "rd"
    refine ⟨b2, _, _, _, _, rfl, h2, T.cl_DownOrder, T.h_DownOrder_ahead, rfl, ?_⟩
    walk_at "rd"
    refine calls_up (j := 8) (hand2 T q4 fun H5 q5 => ?_) (by decide)
    walk_at "rd"
    obtain ⟨_, h2⟩ := q5.h2
    refine ⟨b2, _, _, _, _, rfl, h2, T.cl_DownOrder, T.h_DownOrder_ahead, rfl, ?_⟩
    walk_at "rd"
    refine calls_up (j := 8) (hand2 T q5 fun H6 q6 => ?_) (by decide)
    walk_at "rd"
    obtain ⟨_, h1⟩ := q6.h1
    refine ⟨b1, _, _, _, _, rfl, h1, T.cl_DownOrder, T.h_DownOrder_ahead, rfl, ?_⟩
    walk_at "rd"
    refine calls_up (j := 7) (hand1 T q6 fun H7 q7 => ?_) (by decide)
    walk_at "rd"
    obtain ⟨_, h2⟩ := q7.h2
    refine ⟨b2, _, _, _, _, rfl, h2, T.cl_DownOrder, (ord_d T).ha, rfl, ?_⟩
    walk_at "rd"
    refine calls_up (j := 9) (hand_alike T q7 (by decide) fun H8 q8 => ?_) (by decide)
    have S := Hs.start0 H8
    walk_at "rd"
    rename_i p HA hp SA p' HB hp' SB
    have q9 := q8.same SB.same
    refine ⟨.list [.bool true, .bool false, .bool false, .bool false], .list [.bool true, .bool false, .bool false, .bool false], .lst (SB.lst (List.mem_cons_of_mem _ List.mem_cons_self)) (.cons (.bl _) (.cons (.bl _) (.cons (.bl _) (.cons (.bl _) .nil)))), .lst (SB.lst List.mem_cons_self) (.cons (.bl _) (.cons (.bl _) (.cons (.bl _) (.cons (.bl _) .nil)))), by decide +kernel, by decide +kernel, false, ?_, ?_⟩
    · rw [show PyData.eqv (.list [.bool true, .bool false, .bool false, .bool false]) (.list [.bool true, .bool false, .bool false, .bool false]) = true from by decide +kernel]
      rfl
    rw [if_neg Bool.false_ne_true]
    clear S SA SB
    obtain ⟨_, h0⟩ := q9.h0
    obtain ⟨_, h1⟩ := q9.h1
    obtain ⟨_, h2⟩ := q9.h2
    walk_at "rd"
    refine ⟨b0, _, _, _, _, rfl, h0, T.cl_Order, (ord_o T).hm, rfl, ?_⟩
    walk_at "rd"
    refine calls_up (j := 1) (calls_fn T.c_Order_many_asked.F (ok_many T (ord_o T)) T.c_Order_many_asked.b ⟨b0, _, _, _, _, rfl, h0, ?_⟩) (by decide)
    walk_at "rd"
    refine ⟨b1, _, _, _, _, rfl, h1, T.cl_DownOrder, (ord_d T).hm, rfl, ?_⟩
    walk_at "rd"
    refine calls_up (j := 1) (calls_fn T.c_Order_many_asked.F (ok_many T (ord_d T)) T.c_Order_many_asked.b ⟨b1, _, _, _, _, rfl, h1, ?_⟩) (by decide)
    walk_at "rd"
    refine ⟨b2, _, _, _, _, rfl, h2, T.cl_DownOrder, (ord_d T).hm, rfl, ?_⟩
    walk_at "rd"
    refine calls_up (j := 1) (calls_fn T.c_Order_many_asked.F (ok_many T (ord_d T)) T.c_Order_many_asked.b ⟨b2, _, _, _, _, rfl, h2, ?_⟩) (by decide)
    have S := Hs.start0 HB
    walk_at "rd"
    rename_i p'' HC hp'' SC p3 HD hp3 SD
    refine rd_eqIs (ns := [5, 5, 4]) (ms := [5, 5, 4]) SD (List.mem_cons_of_mem _ List.mem_cons_self) List.mem_cons_self rfl rfl ?_
    exact kk _ (q9.same SD.same).ex (q9.same SD.same).tb
end
end K04

namespace K04
open PySem L2 Rs Xc Xd Xg Xh Xi Xj Xk NdefX Xf Xq
/-! ### how much is noted and asked -/
theorem ahead_inv {rows : List Rw} {halt : Int} {V : List Int → Prop} {J : S4 → Prop} (hrot : ∀ (p : Nat) (x : List Int), V x → V (rot p x)) (hb : ∀ (s : S4) (k : Nat), J s → J (s.bump k)) (hr : ∀ (s : S4) (k : Nat) (r : Rw) (x y : List Int), rows[k]? = some r → V x → V y → J s → J (s.add (.rule r.part x y))) (hk : ∀ (s : S4) (k : Nat) (r : Rw) (x : List Int), rows[k]? = some r → V x → J s → J (s.add (.key r.part x))) :
    ∀ (m k : Nat) (x y : List Int) (s : S4), V x → V y → J s → J (aheadF rows halt m k x y s).2
  | 0, k, x, y, s, _, _, h => h
  | m + 1, k, x, y, s, hx, hy, h => by
    have ih := ahead_inv hrot hb hr hk (rows := rows) (halt := halt) m
    have th : ∀ {a b c : S4 → Option Bool × S4}, (∀ s, J s → J (a s).2) → (∀ s, J s → J (b s).2) → (∀ s, J s → J (c s).2) → ∀ s, J s → J (thenF a b c s).2 := by
      intro a b c ha hb hc s h
      unfold thenF
      have h1 := ha s h
      revert h1
      generalize a s = RA
      rcases RA with ⟨_ | _ | _, s1⟩ <;> intro h1 <;> dsimp only at h1 ⊢
      · exact h1
      · have h2 := hb s1 h1
        revert h2
        generalize b s1 = RB
        rcases RB with ⟨_ | _ | _, s2⟩ <;> intro h2 <;> dsimp only at h2 ⊢
        · exact h2
        · exact hc s2 h2
        · exact h2
      · exact h1
    unfold aheadF
    split
    · exact h
    · rename_i r hrk
      have kf : J (keysF halt r.part x y (s.bump k)).2 := by
        unfold keysF
        split
        · exact hk _ _ _ _ hrk hx (hb _ _ h)
        · exact hk _ _ _ _ hrk hy (hk _ _ _ _ hrk hx (hb _ _ h))
      split
      · split <;> exact hr _ _ _ _ _ hrk hx hy (hb _ _ h)
      · exact hb _ _ h
      · split <;> exact kf
      · split
        · exact kf
        · exact ih _ _ _ _ (hrot _ _ hx) (hrot _ _ hy) kf
      · exact ih _ _ _ _ hy hx (hb _ _ h)
      · exact th (fun s h => ih _ _ _ _ hx hy h) (fun s h => ih _ _ _ _ hy hx h) (fun s h => ih _ _ _ _ hx hy h) _ (hb _ _ h)
theorem alk_inv {rows : List Rw} {halt : Int} {V : List Int → Prop} {J : S4 → Prop} (hrot : ∀ (p : Nat) (x : List Int), V x → V (rot p x)) (hb : ∀ (s : S4) (k : Nat), J s → J (s.bump k)) (hr : ∀ (s : S4) (k : Nat) (r : Rw) (x y : List Int), rows[k]? = some r → V x → V y → J s → J (s.add (.rule r.part x y))) (hk : ∀ (s : S4) (k : Nat) (r : Rw) (x : List Int), rows[k]? = some r → V x → J s → J (s.add (.key r.part x)))
    (m k : Nat) (x y : List Int) (s : S4) (hx : V x) (hy : V y) (h : J s) : J (alkF rows halt m k x y s).2 := by
  unfold alkF alikeF
  have h1 := ahead_inv (rows := rows) (halt := halt) hrot hb hr hk m k x y s hx hy h
  revert h1
  generalize aheadF rows halt m k x y s = RA
  rcases RA with ⟨_ | _ | _, s1⟩ <;> intro h1 <;> dsimp only at h1 ⊢
  · exact h1
  · have h2 := ahead_inv (rows := rows) (halt := halt) hrot hb hr hk m k y x s1 hy hx h1
    revert h2
    generalize aheadF rows halt m k y x s1 = RB
    rcases RB with ⟨_ | b, s2⟩ <;> intro h2 <;> exact h2
  · exact h1
/-- askings told so far are at most this -/
def Bnd (B : Int) (s : S4) : Prop := ∀ z ∈ s.asked, 0 ≤ z ∧ z ≤ B
def cm : Nat → Int
  | 0 => 0
  | m + 1 => 1 + 3 * cm m
theorem cm0 : ∀ m, 0 ≤ cm m
  | 0 => Int.le_refl _
  | m + 1 => by
    have := cm0 m
    unfold cm
    omega
theorem Bnd.up {B B' : Int} {s : S4} (h : Bnd B s) (l : B ≤ B') : Bnd B' s := fun z hz => ⟨(h z hz).1, by have := (h z hz).2; omega⟩
theorem Bnd.bump {B : Int} {s : S4} {k : Nat} (h : Bnd B s) (b0 : 0 ≤ B) : Bnd (B + 1) (s.bump k) := by
  intro z hz
  unfold S4.bump at hz
  rcases List.mem_or_eq_of_mem_set hz with hz | rfl
  · have := h z hz; omega
  · by_cases c : k < s.asked.length
    · have := h (s.asked.getD k 0) (by rw [List.getD_eq_getElem?_getD, List.getElem?_eq_getElem c]; exact List.getElem_mem c)
      omega
    · rw [List.getD_eq_getElem?_getD, List.getElem?_eq_none (by omega)]
      simp; omega
theorem ahead_bnd {rows : List Rw} {halt : Int} : ∀ (m k : Nat) (x y : List Int) (s : S4) (B : Int), 0 ≤ B → Bnd B s → Bnd (B + cm m) (aheadF rows halt m k x y s).2
  | 0, k, x, y, s, B, b0, h => h.up (by unfold cm; omega)
  | m + 1, k, x, y, s, B, b0, h => by
    have c0 := cm0 m
    have e : cm (m + 1) = 1 + 3 * cm m := rfl
    have hb := h.bump (k := k) b0
    have kf : ∀ p, Bnd (B + 1) (keysF halt p x y (s.bump k)).2 := fun p => by
      unfold keysF
      split <;> exact hb
    have th : ∀ {a b c : S4 → Option Bool × S4}, (∀ s B, 0 ≤ B → Bnd B s → Bnd (B + cm m) (a s).2) → (∀ s B, 0 ≤ B → Bnd B s → Bnd (B + cm m) (b s).2) → (∀ s B, 0 ≤ B → Bnd B s → Bnd (B + cm m) (c s).2) → ∀ s B, 0 ≤ B → Bnd B s → Bnd (B + 3 * cm m) (thenF a b c s).2 := by
      intro a b c ha hb hc s B b0 h
      unfold thenF
      have h1 := ha s B b0 h
      revert h1
      generalize a s = RA
      rcases RA with ⟨_ | _ | _, s1⟩ <;> intro h1 <;> dsimp only at h1 ⊢
      · exact h1.up (by omega)
      · have h2 := hb s1 _ (by omega) h1
        revert h2
        generalize b s1 = RB
        rcases RB with ⟨_ | _ | _, s2⟩ <;> intro h2 <;> dsimp only at h2 ⊢
        · exact h2.up (by omega)
        · exact (hc s2 _ (by omega) h2).up (by omega)
        · exact h2.up (by omega)
      · exact h1.up (by omega)
    unfold aheadF
    split
    · exact h.up (by omega)
    · rename_i r hrk
      split
      · split <;> exact hb.up (by omega)
      · exact hb.up (by omega)
      · split <;> exact (kf r.part).up (by omega)
      · split
        · exact (kf r.part).up (by omega)
        · exact (ahead_bnd m _ _ _ _ _ (by omega) (kf r.part)).up (by omega)
      · exact (ahead_bnd m _ _ _ _ _ (by omega) hb).up (by omega)
      · exact (th (fun s B b0 h => ahead_bnd m _ _ _ s B b0 h) (fun s B b0 h => ahead_bnd m _ _ _ s B b0 h) (fun s B b0 h => ahead_bnd m _ _ _ s B b0 h) _ _ (by omega) hb).up (by omega)
theorem ask_bnd {rows : List Rw} {halt : Int} {al : Bool} {k : Nat} {x y : List Int} {s : S4} {B : Int} (b0 : 0 ≤ B) (h : Bnd B s) : Bnd (B + 242) (askF rows halt al k x y s).2 := by
  have e : cm 5 = 121 := by decide
  unfold askF
  cases al with
  | false => rw [if_neg Bool.false_ne_true]; exact (ahead_bnd 5 k x y s B b0 h).up (by omega)
  | true =>
    rw [if_pos rfl]
    unfold alkF alikeF
    have h1 := ahead_bnd (rows := rows) (halt := halt) 5 k x y s B b0 h
    revert h1
    generalize aheadF rows halt 5 k x y s = RA
    rcases RA with ⟨_ | _ | _, s1⟩ <;> intro h1 <;> dsimp only at h1 ⊢
    · exact h1.up (by omega)
    · have h2 := ahead_bnd (rows := rows) (halt := halt) 5 k y x s1 _ (by omega) h1
      revert h2
      generalize aheadF rows halt 5 k y x s1 = RB
      rcases RB with ⟨_ | b, s2⟩ <;> intro h2 <;> exact h2.up (by omega)
    · exact h1.up (by omega)
theorem ask_len {rows : List Rw} {halt : Int} {al : Bool} {k : Nat} {x y : List Int} {s : S4} : (askF rows halt al k x y s).2.notes.length ≤ s.notes.length + 972 := by
  have e : (3 : Nat) ^ 5 = 243 := by decide
  unfold askF
  cases al with
  | false => rw [if_neg Bool.false_ne_true]; have := ahead_len (rows := rows) (halt := halt) 5 k x y s; omega
  | true =>
    rw [if_pos rfl]
    unfold alkF alikeF
    have h1 := ahead_len (rows := rows) (halt := halt) 5 k x y s
    revert h1
    generalize aheadF rows halt 5 k x y s = RA
    rcases RA with ⟨_ | _ | _, s1⟩ <;> intro h1 <;> dsimp only at h1 ⊢
    · omega
    · have h2 := ahead_len (rows := rows) (halt := halt) 5 k y x s1
      revert h2
      generalize aheadF rows halt 5 k y x s1 = RB
      rcases RB with ⟨_ | b, s2⟩ <;> intro h2 <;> dsimp only at h2 ⊢ <;> omega
    · omega
/-- small things -/
def Sm (x : List Int) : Prop := ∀ z ∈ x, z.natAbs < 10 ^ 12
def NtSm : Nt → Prop
  | .rule p x y => p < 3 ∧ Sm x ∧ Sm y
  | .key p x => p < 3 ∧ Sm x
def NtsSm (s : S4) : Prop := ∀ n ∈ s.notes, NtSm n
theorem Sm.rot {x : List Int} (h : Sm x) (p : Nat) : Sm (rot p x) := fun z hz => by
  rcases List.mem_append.mp hz with hz | hz
  · exact h z (List.mem_of_mem_drop hz)
  · exact h z (List.mem_of_mem_take hz)
theorem NtsSm.add {s : S4} {n : Nt} (h : NtsSm s) (hn : NtSm n) : NtsSm (s.add n) := fun q hq => by
  rcases List.mem_append.mp hq with hq | hq
  · exact h q hq
  · rw [List.mem_singleton.mp hq]; exact hn
theorem ask_sm {rows : List Rw} {halt : Int} {al : Bool} {k : Nat} {x y : List Int} {s : S4} (ro : RowsOk rows) (hx : Sm x) (hy : Sm y) (h : NtsSm s) : NtsSm (askF rows halt al k x y s).2 := by
  have h1 : ∀ (p : Nat) (x : List Int), Sm x → Sm (K04.rot p x) := fun p x h => h.rot p
  have h2 : ∀ (s : S4) (k : Nat), NtsSm s → NtsSm (s.bump k) := fun s k h => h
  have h3 : ∀ (s : S4) (k : Nat) (r : Rw) (x y : List Int), rows[k]? = some r → Sm x → Sm y → NtsSm s → NtsSm (s.add (.rule r.part x y)) := fun s k r x y hr hx hy h => h.add ⟨ro.part k r hr, hx, hy⟩
  have h4 : ∀ (s : S4) (k : Nat) (r : Rw) (x : List Int), rows[k]? = some r → Sm x → NtsSm s → NtsSm (s.add (.key r.part x)) := fun s k r x hr hx h => h.add ⟨ro.part k r hr, hx⟩
  unfold askF
  cases al with
  | false => rw [if_neg Bool.false_ne_true]; exact ahead_inv (V := Sm) (J := NtsSm) h1 h2 h3 h4 5 k x y s hx hy h
  | true => rw [if_pos rfl]; exact alk_inv (V := Sm) (J := NtsSm) h1 h2 h3 h4 5 k x y s hx hy h
/-! ### the notes as data -/
def Nt.dat : Nt → PyData
  | .rule p x y => .tuple [.str "rule", .int p, .tuple (x.map .int), .tuple (y.map .int)]
  | .key p x => .tuple [.str "key", .int p, .tuple (x.map .int)]
theorem TI.dp {K : PySem.W.Frag} {H : Hp} {v : V} {x : List Int} (h : TI H v x) : Dp K H v (.tuple (x.map .int)) := by
  obtain ⟨a, rfl, h⟩ := h
  exact .tup (SqT.of h) (dps_ints x)
theorem NtAt.dp {K : PySem.W.Frag} {H : Hp} {v : V} {n : Nt} (h : NtAt H v n) : Dp K H v n.dat := by
  cases h with
  | rule e hx hy => exact .tup (SqT.of e) (.cons (.str _) (.cons (.int _) (.cons hx.dp (.cons hy.dp .nil))))
  | key e hx => exact .tup (SqT.of e) (.cons (.str _) (.cons (.int _) (.cons hx.dp .nil)))
theorem NtsAt.dp {K : PySem.W.Frag} {H : Hp} {vs : List V} {ns : List Nt} (h : NtsAt H vs ns) : DpAll K H vs (ns.map Nt.dat) := by
  induction h with
  | nil => exact .nil
  | cons e _ ih => exact .cons e.dp ih
theorem depth_ints : ∀ x : List Int, PyData.depthAll (x.map .int) ≤ 1
  | [] => by simp [PyData.depthAll]
  | z :: x => by
    have := depth_ints x
    simp [PyData.depthAll, PyData.depth]
    omega
theorem tame_ints {x : List Int} (h : Sm x) : tame (.tuple (x.map .int)) = true := by
  simp only [tame]
  exact tames_ints x h
theorem dat_tame {n : Nt} (h : NtSm n) : tame n.dat = true := by
  cases n with
  | rule p x y =>
    obtain ⟨h1, h2, h3⟩ := h
    have e1 := tame_ints h2
    have e2 := tame_ints h3
    have e3 : tame (.str "rule") = true := by decide +kernel
    have e4 : tame (.int p) = true := by simp [tame]; omega
    show tames [_, _, _, _] = true
    simp [tames, e1, e2, e3, e4]
  | key p x =>
    obtain ⟨h1, h2⟩ := h
    have e1 := tame_ints h2
    have e3 : tame (.str "key") = true := by decide +kernel
    have e4 : tame (.int p) = true := by simp [tame]; omega
    show tames [_, _, _] = true
    simp [tames, e1, e3, e4]
theorem dats_tame : ∀ {ns : List Nt}, (∀ n ∈ ns, NtSm n) → tames (ns.map Nt.dat) = true
  | [], _ => by simp [tames]
  | n :: ns, h => by
    simp [tames, dat_tame (h n List.mem_cons_self), dats_tame fun q hq => h q (List.mem_cons_of_mem _ hq)]
theorem dat_depth (n : Nt) : n.dat.depth ≤ 5 := by
  cases n with
  | rule p x y =>
    have := depth_ints x
    have := depth_ints y
    simp [Nt.dat, PyData.depth, PyData.depthAll]
    omega
  | key p x =>
    have := depth_ints x
    simp [Nt.dat, PyData.depth, PyData.depthAll]
    omega
theorem dats_depth : ∀ ns : List Nt, PyData.depthAll (ns.map Nt.dat) ≤ 5
  | [] => by simp [PyData.depthAll]
  | n :: ns => by
    have := dat_depth n
    have := dats_depth ns
    simp [PyData.depthAll]
    omega
theorem rd_neN {K : PySem.W.Frag} {H : Hp} {Q : VK} {a b : Addr} {us vs : List V} {ns : List Nt} (ha : H a = some (.lst us)) (hu : NtsAt H us ns) (hb : H b = some (.lst vs)) (hv : NtsAt H vs ns) (sm : ∀ n ∈ ns, NtSm n) (h : Q (.bl false) H) : rNeD K (.ref a) (.ref b) H Q := by
  have tm : tame (.list (ns.map Nt.dat)) = true := by simp only [tame]; exact dats_tame sm
  have sh := shaped_of tm (by have := dats_depth ns; simp [PyData.depth]; omega)
  refine ⟨_, _, .lst (SqL.of ha) hu.dp, .lst (SqL.of hb) hv.dp, sh, sh, ?_⟩
  rw [PySem.SeqAt.eqv_refl _ (tame_show _ tm).2.1]
  exact h
end K04

namespace K04
open PySem L2 Rs Xc Xd Xg Xh Xi Xj Xk NdefX Xf Xq
/-! ### all that a turn leans on -/
structure Frm4 where
  p4 : Addr
  p3 : Addr
  f : Addr
  d : Addr
  dn : Addr
  da : Addr
  nt : Addr
  oh : Addr
  th : Addr
  halt : Int
  ts : List (Addr × Rw)
  os : List Addr
  xs : List (Addr × List Int)
def Frm4.lists (z : Frm4) : List Addr := [z.p4, z.p3, z.f, z.dn, z.da, z.nt, z.oh, z.th]
structure Frm4.Ok (z : Frm4) : Prop where
  ro : RowsOk (z.ts.map (·.2))
  t2 : 2 ≤ z.ts.length
  t5 : z.ts.length ≤ 5
  x4 : z.xs.length = 4
  xl : ∀ q ∈ z.xs, q.2.length = 3
  xm : ∀ q ∈ z.xs, Sm q.2
  nd : z.lists.Nodup
structure Sit (A : Ad) (z : Frm4) (H : Hp) (l k m : Int) (ns : List Int) (s s' : S4) : Prop where
  st : H z.p4 = some (stm z.p3 l k m)
  sl : H z.p3 = some (.lst (ns.map V.int))
  tb : LamX.Tabs TT H
  rw : RowsAt H z.f z.ts
  du : DueAt H z.d z.dn z.da z.halt s
  sy : SysAt A H z.nt z.halt (z.ts.map (·.2)) z.os s'
  oh : H z.oh = some (.lst (z.os.map V.ref))
  th : H z.th = some (.lst (z.xs.map fun q => .ref q.1))
  xt : ∀ q ∈ z.xs, H q.1 = some (.tup (q.2.map V.int))
section
variable {A : Ad} {z : Frm4} {H H' : Hp} {l k m : Int} {ns : List Int} {s s' : S4}
theorem tabs_mv (t : LamX.Tabs TT H) (k0 : ∀ b r, H b = some (.ext r) → H' b = some (.ext r)) (k2 : ∀ b ps, H b = some (.tbl ps) → H' b = some (.tbl ps)) : LamX.Tabs TT H' := fun q hq => by
  obtain ⟨ps, h1, h2, h3⟩ := t q hq
  refine ⟨ps, k2 _ _ h1, h2, fun pos cv hc => ?_⟩
  obtain ⟨c, e1, e2⟩ := h3 pos cv hc
  exact ⟨c, e1, k0 _ _ e2⟩
/-- the stream is drawn from -/
theorem Sit.stream (S : Sit A z H l k m ns s s') (ok : z.Ok) {l' k' m' : Int} {ns' : List Int} (h4 : H' z.p4 = some (stm z.p3 l' k' m')) (h3 : H' z.p3 = some (.lst (ns'.map V.int))) (b : ∀ c o, H c = some o → c ≠ z.p4 → c ≠ z.p3 → H' c = some o) : Sit A z H' l' k' m' ns' s s' := by
  have nl : ∀ {c : Addr} {o : HO}, H c = some o → (∀ xs, o ≠ .lst xs) → H' c = some o := fun {c o} e n => b _ _ e (fun q => by rw [q, S.st] at e; cases e; exact n _ rfl) (fun q => by rw [q, S.sl] at e; cases e; exact n _ rfl)
  have nd := ok.nd
  simp only [Frm4.lists, List.nodup_cons, List.mem_cons, List.not_mem_nil, or_false, not_or] at nd
  obtain ⟨⟨_, a1, a2, a3, a4, a5, a6⟩, ⟨b1, b2, b3, b4, b5, b6⟩, _⟩ := nd
  obtain ⟨ws, hn, hw⟩ := S.du.hn
  refine ⟨h4, h3, tabs_mv S.tb (fun c r e => nl e (fun _ q => by cases q)) (fun c r e => nl e (fun _ q => by cases q)), ⟨b _ _ S.rw.1 (Ne.symm a1) (Ne.symm b1), fun q hq => nl (S.rw.2 q hq) (fun _ q => by cases q)⟩, ⟨nl S.du.hd (fun _ q => by cases q), b _ _ S.du.ha (Ne.symm a3) (Ne.symm b3), ⟨ws, b _ _ hn (Ne.symm a2) (Ne.symm b2), hw.more fun c xs e => nl e (fun _ q => by cases q)⟩, S.du.ne⟩, S.sy.move (fun c o e h => ?_), b _ _ S.oh (Ne.symm a5) (Ne.symm b5), b _ _ S.th (Ne.symm a6) (Ne.symm b6), fun q hq => nl (S.xt q hq) (fun _ q => by cases q)⟩
  rcases h with rfl | ⟨_, rfl⟩ | ⟨_, rfl⟩ | ⟨_, _, _, rfl⟩
  · exact b _ _ e (Ne.symm a4) (Ne.symm b4)
  · exact nl e (fun _ q => by cases q)
  · exact nl e (fun _ q => by cases q)
  · exact nl e (fun _ q => by cases q)
/-- the law's own going through -/
theorem Sit.due (S : Sit A z H l k m ns s s') (ok : z.Ok) {s1 : S4} (D : DueAt H' z.d z.dn z.da z.halt s1) (b : KeepD z.dn z.da H H') : Sit A z H' l k m ns s1 s' := by
  obtain ⟨ws, hn, hw⟩ := S.du.hn
  have nl : ∀ {c : Addr} {o : HO}, H c = some o → (∀ xs, o ≠ .lst xs) → H' c = some o := fun {c o} e n => b _ _ e (fun q => by rw [q, hn] at e; cases e; exact n _ rfl) (fun q => by rw [q, S.du.ha] at e; cases e; exact n _ rfl)
  have nd := ok.nd
  simp only [Frm4.lists, List.nodup_cons, List.mem_cons, List.not_mem_nil, or_false, not_or] at nd
  obtain ⟨⟨_, a1, a2, a3, a4, a5, a6⟩, ⟨b1, b2, b3, b4, b5, b6⟩, ⟨c1, c2, c3, c4, c5⟩, ⟨d1, d2, d3, d4⟩, ⟨e1, e2, e3⟩, _⟩ := nd
  refine ⟨b _ _ S.st a2 a3, b _ _ S.sl b2 b3, tabs_mv S.tb (fun c r e => nl e (fun _ q => by cases q)) (fun c r e => nl e (fun _ q => by cases q)), ⟨b _ _ S.rw.1 c1 c2, fun q hq => nl (S.rw.2 q hq) (fun _ q => by cases q)⟩, D, S.sy.move (fun c o e h => ?_), b _ _ S.oh (Ne.symm d3) (Ne.symm e2), b _ _ S.th (Ne.symm d4) (Ne.symm e3), fun q hq => nl (S.xt q hq) (fun _ q => by cases q)⟩
  rcases h with rfl | ⟨_, rfl⟩ | ⟨_, rfl⟩ | ⟨_, _, _, rfl⟩
  · exact b _ _ e (Ne.symm d2) (Ne.symm e1)
  · exact nl e (fun _ q => by cases q)
  · exact nl e (fun _ q => by cases q)
  · exact nl e (fun _ q => by cases q)
/-- an order is asked -/
theorem Sit.sys (S : Sit A z H l k m ns s s') (ok : z.Ok) {s1 : S4} (Y : SysAt A H' z.nt z.halt (z.ts.map (·.2)) z.os s1) (b : KeepS z.nt H H') : Sit A z H' l k m ns s s1 := by
  obtain ⟨ws, hn, hw⟩ := S.sy.nts
  have nl : ∀ {c : Addr} {o : HO}, H c = some o → (∀ xs, o ≠ .lst xs) → (∀ C dx fs, o ≠ .ins C dx fs) → H' c = some o := fun {c o} e n i => b _ _ e (fun q => by rw [q, hn] at e; cases e; exact n _ rfl) i
  have ls : ∀ {c : Addr} {xs : List V}, H c = some (.lst xs) → c ≠ z.nt → H' c = some (.lst xs) := fun e n => b _ _ e n (fun _ _ _ q => by cases q)
  have nd := ok.nd
  simp only [Frm4.lists, List.nodup_cons, List.mem_cons, List.not_mem_nil, or_false, not_or] at nd
  obtain ⟨⟨_, a1, a2, a3, a4, a5, a6⟩, ⟨b1, b2, b3, b4, b5, b6⟩, ⟨c1, c2, c3, c4, c5⟩, ⟨d1, d2, d3, d4⟩, ⟨e1, e2, e3⟩, ⟨f1, f2⟩, _⟩ := nd
  obtain ⟨ws', hn', hw'⟩ := S.du.hn
  have tp : ∀ c xs, H c = some (.tup xs) → H' c = some (.tup xs) := fun c xs e => nl e (fun _ q => by cases q) (fun _ _ _ q => by cases q)
  exact ⟨ls S.st a4, ls S.sl b4, tabs_mv S.tb (fun c r e => nl e (fun _ q => by cases q) (fun _ _ _ q => by cases q)) (fun c r e => nl e (fun _ q => by cases q) (fun _ _ _ q => by cases q)), ⟨ls S.rw.1 c3, fun q hq => tp _ _ (S.rw.2 q hq)⟩, ⟨nl S.du.hd (fun _ q => by cases q) (fun _ _ _ q => by cases q), ls S.du.ha e1, ⟨ws', ls hn' d2, hw'.more tp⟩, S.du.ne⟩, Y, ls S.oh (Ne.symm f1), ls S.th (Ne.symm f2), fun q hq => tp _ _ (S.xt q hq)⟩
theorem Sit.same (S : Sit A z H l k m ns s s') (b : Same H H') : Sit A z H' l k m ns s s' := by
  obtain ⟨ws, hn, hw⟩ := S.du.hn
  exact ⟨b _ _ S.st, b _ _ S.sl, S.tb.ext b, ⟨b _ _ S.rw.1, fun q hq => b _ _ (S.rw.2 q hq)⟩, S.du.same b, S.sy.same b, b _ _ S.oh, b _ _ S.th, fun q hq => b _ _ (S.xt q hq)⟩
/-- a number is drawn -/
theorem Sit.take {Q : VK} {E : XK} {n : Int} (S : Sit A z H l k m ns s s') (ok : z.Ok) (h1 : 1 ≤ n) (h2 : n < 2 ^ 40) (h3 : 0 ≤ k) (h4 : k < 2 ^ 15)
    (h : ∀ (r l' m' : Int) (ns' : List Int) (H' : Hp), Sit A z H' l' (k + 1) m' ns' s s' → 0 ≤ r → r < n → Q (.int r) H') : SepN R_take [.ref z.p4, .int n] H Q E := by
  have ne : z.p4 ≠ z.p3 := by
    have nd := ok.nd
    simp only [Frm4.lists, List.nodup_cons, List.mem_cons, List.not_mem_nil, or_false, not_or] at nd
    exact nd.1.1
  have L := Hs.start H [z.p4, z.p3] [(z.p4, stm z.p3 l k m), (z.p3, .lst (ns.map V.int))] (by simpa using ne) (by
    intro q hq
    simp only [List.mem_cons, List.not_mem_nil, or_false] at hq
    rcases hq with rfl | rfl
    · exact S.st
    · exact S.sl) (by
    intro b hb
    simp only [List.mem_cons, List.not_mem_nil, or_false] at hb
    rcases hb with rfl | rfl
    · rw [S.st]; simp
    · rw [S.sl]; simp)
  refine use_take (b := z.p3) (l := l) (k := k) (m := m) (ns := ns) (F := []) L (fun _ => by rw [List.append_nil]; exact Nat.le_refl _) (.inr (by simp)) (.inr (by simp)) h1 h2 h3 h4 fun r l' m' ns' H' L' r0 r1 => ?_
  exact h r l' m' ns' H' (S.stream ok (L'.is (z.p4, stm z.p3 l' (k + 1) m') (by simp)) (L'.is (z.p3, .lst (ns'.map V.int)) (by simp)) fun c o e n1 n2 => L'.old _ _ e (by simp; exact ⟨n1, n2⟩)) r0 r1
end
end K04

namespace K04
open PySem L2 Rs Xc Xd Xg Xh Xi Xj Xk NdefX Xf Xq
def sp_law (K : PySem.W.Frag) : Sp := fun vs H Q _ => ∃ (a : Addr) (ns : List Int), vs = [.ref a] ∧ SqL K H a (ns.map V.int) ∧ ns.length ≤ 63 ∧ LamX.Tabs TT H ∧ ∀ H', Q (.bl true) H'
def rTupK (K : PySem.W.Frag) : List V → Hp → VK → Prop := fun xs H Q => ∃ p ys, xs = [.ref p] ∧ ((SqL K H p ys ∧ ∀ l, H l = none → Q (.ref l) (upd H l (.tup ys))) ∨ (SqT K H p ys ∧ Q (.ref p) H))
def xsL (xs : List (Addr × List Int)) : Led := xs.map fun q => (q.1, .tup (q.2.map V.int))
theorem xsL_snoc (xs : List (Addr × List Int)) (p : Addr) (x : List Int) : xsL (xs ++ [(p, x)]) = xsL xs ++ [(p, .tup (x.map V.int))] := by simp [xsL]
section
variable {P : Program} {w : World} {K : PySem.W.Frag} {mg : Str → Option Value} {base : Heap} {A : Ad} {H H0 : Hp} {MM : List Addr} {L L' F : Led} {Q : VK} {E : XK}
local macro_rules | `(tactic| walk_at "rd1") => `(tactic| first
  | with_reducible refine Xc.rd_bi ?_
  | with_reducible refine Xc.rd_put1 ?_
  | with_reducible refine Xc.rd_tmk ?_
  | with_reducible refine Xc.rd_xv ?_
  | with_reducible refine Xh.rd_callF ?_
  | with_reducible refine Xj.rd_clsF ?_
  | with_reducible refine Xj.rd_methD ?_)
theorem Sit.ti {z : Frm4} {l k m : Int} {ns : List Int} {s s' : S4} (S : Sit A z H l k m ns s s') {q : Addr × List Int} (h : q ∈ z.xs) : TI H (.ref q.1) q.2 := ⟨q.1, rfl, S.xt q h⟩
theorem Sit.wish {z : Frm4} {l k m : Int} {ns : List Int} {s : S4} (S : Sit A z H l k m ns s s) (ok : z.Ok) {al : Bool} {kn : Nat} {q1 q2 : Addr × List Int} {ta : TA} {σ : L2.St} {R : VK} (hk : kn < z.ts.length) (h1 : q1 ∈ z.xs) (h2 : q2 ∈ z.xs) (nl : s.notes.length ≤ 12000)
    (t : ∀ C : List V → Hp → Prop, C [.ref z.f, .ref z.d, .int kn, .ref q1.1, .ref q2.1] H → ta σ H C)
    (h : ∀ H', Sit A z H' l k m ns (askF (z.ts.map (·.2)) z.halt al kn q1.2 q2.2 s).2 s → R (resV (askF (z.ts.map (·.2)) z.halt al kn q1.2 q2.2 s).1) H') :
    if al = true then tCall (sp_alk 5) [] E0 ta σ H R else tCall (sp_ahd 5) [] E0 ta σ H R := by
  have e : (3 : Nat) ^ 5 = 243 := by decide
  have nd := ok.nd
  simp only [Frm4.lists, List.nodup_cons, List.mem_cons, List.not_mem_nil, or_false, not_or] at nd
  obtain ⟨_, _, ⟨c1, c2, _⟩, _⟩ := nd
  have a1 : s.asked.length = z.ts.length := by have := S.sy.al; rw [List.length_map] at this; exact this
  have t5 := ok.t5
  cases al with
  | true =>
    rw [if_pos rfl]
    exact t _ ⟨z.f, z.d, z.dn, z.da, z.halt, z.ts, kn, _, _, q1.2, q2.2, s, rfl, by omega, hk, S.rw, ok.ro, c1, c2, S.du, a1, S.ti h1, S.ti h2, ok.xl _ h1, ok.xl _ h2, by omega, fun H' D' k' => h H' (S.due ok D' k')⟩
  | false =>
    rw [if_neg Bool.false_ne_true]
    exact t _ ⟨z.f, z.d, z.dn, z.da, z.halt, z.ts, kn, _, _, q1.2, q2.2, s, rfl, by omega, hk, S.rw, ok.ro, c1, c2, S.du, a1, S.ti h1, S.ti h2, ok.xl _ h1, ok.xl _ h2, by omega, fun H' D' k' => h H' (S.due ok D' k')⟩
theorem Sit.house {z : Frm4} {l k m : Int} {ns : List Int} {s s' : S4} (S : Sit A z H l k m ns s s') {kn : Nat} (hk : kn < z.ts.length) : ∃ r o, (z.ts.map (·.2))[kn]? = some r ∧ z.os[kn]? = some o := by
  obtain ⟨r, o, h1, h2, _⟩ := S.sy.at_ (i := kn) (by rw [List.length_map]; exact hk)
  exact ⟨r, o, h1, h2⟩
theorem Sit.ask {z : Frm4} {l k m : Int} {ns : List Int} {s s1 : S4} (S : Sit A z H l k m ns s1 s) (ok : z.Ok) {al : Bool} {kn : Nat} {o : Addr} {q1 q2 : Addr × List Int} {way : Int} {R : VK} {r : Rw} (hr : (z.ts.map (·.2))[kn]? = some r) (ho : z.os[kn]? = some o) (hk : kn < z.ts.length) (h1 : q1 ∈ z.xs) (h2 : q2 ∈ z.xs) (nl : s.notes.length ≤ 12000)
    (h : ∀ H', Sit A z H' l k m ns s1 (askF (z.ts.map (·.2)) z.halt al kn q1.2 q2.2 s).2 → R (tldV z.halt (askF (z.ts.map (·.2)) z.halt al kn q1.2 q2.2 s).1) H') :
    sp_asked A [.ref o, .bl al, .ref q1.1, .ref q2.1, .int way] H R E0 := by
  have e : (3 : Nat) ^ 5 = 243 := by decide
  have t5 := ok.t5
  exact ⟨z.nt, o, z.halt, z.ts.map (·.2), z.os, s, kn, r, al, q1.2, q2.2, _, _, way, rfl, ok.ro, by omega, hr, ho, S.sy, S.ti h1, S.ti h2, ok.xl _ h1, ok.xl _ h2, by omega, fun H' Y k' => h H' (S.sys ok Y k')⟩
def tldD (halt : Int) : Option Bool → PyData
  | none => .int halt
  | some b => .bool b
theorem rd_reprO {halt : Int} {res : Option Bool} (h0 : halt.natAbs < 10 ^ 12) (h : Q (.str (tldD halt res).shown) H) : rRepr K [tldV halt res] H Q := by
  refine ⟨_, tldD halt res, rfl, ?_, ?_, ?_, h⟩
  · cases res with
    | none => exact .int _
    | some b => exact .bl _
  · cases res with
    | none => exact shw_of (by simp [tldD, tame]; omega) (by simp [tldD, cnt])
    | some b => exact shw_of (by simp [tldD, tame]) (by simp [tldD, cnt])
  · cases res with
    | none => simp [tldD, PyData.depth]
    | some b => simp [tldD, PyData.depth]
theorem ok_law0 (T : Txt K mg w A) (TBh : LamX.TabB base mg A.cc__law_by_hand_right 321) (TBk : LamX.TabB base mg A.cc__law_key 272) (TBr : LamX.TabB base mg A.cc__law_rule 265) : FnG P w K mg base 17 A.f_law A.d_law ["_law_script"] (sp_law K) := by
  have G__law_take : FnOk P w K mg base CX0 2 A.f__law_take A.d__law_take ["_law_stream", "_law_many"] (SepN R_take) := ok_take T
  have G__law_kinds_by : FnOk P w K mg base CX0 3 A.f__law_kinds_by A.d__law_kinds_by ["_law_stream", "_law_many"] (SepN R_kinds) := ok_kinds T
  have G__law_orders : FnOk P w K mg base CX0 6 A.f__law_orders A.d__law_orders ["_law_rows", "_law_notes", "_law_halt"] (sp_orders A) := ok_orders T TBr TBk
  have G__law_ahead : FnOk P w K mg base CX0 9 A.f__law_ahead A.d__law_ahead ["_law_rows", "_law_due", "_law_k", "_law_item", "_law_mate"] (sp_ahd 5) := ok_ahd T 5
  have G__law_alike : FnOk P w K mg base CX0 10 A.f__law_alike A.d__law_alike ["_law_rows", "_law_due", "_law_k", "_law_item", "_law_mate"] (sp_alk 5) := ok_alk T 5
  have G__law_asked : FnOk P w K mg base CX0 16 A.f__law_asked A.d__law_asked ["_law_house", "_law_is_alike", "_law_item", "_law_mate", "_law_way"] (sp_asked A) := ok_asked T
  have G__law_by_hand_right : FnOk P w K mg base CX0 16 A.f__law_by_hand_right A.d__law_by_hand_right [] sp_hand := ok_hand T TBh
  refine defG T.c_law.F sc_law (fun vs H Q E h => ?_) (fun cdv Ar outer s H vs Q E cl hr h => ?_)
  · obtain ⟨a, ns, rfl, _⟩ := h; rfl
  · obtain ⟨sa, ns, rfl, hs, hn, tb, k⟩ := h
    have hu := hu_of hr
    refine ⟨_, (pss_cons (ps_if (pt_not (pt_val (pe_call0 G__law_by_hand_right (hr.mono (by first | decide | omega)) rfl T.c__law_by_hand_right.m T.c__law_by_hand_right.F.kp T.c__law_by_hand_right.b .nil pass0)))
        (pss_one (ps_ret pe_bl))
        pss_nil)
      (pss_cons (ps_set (i := 1) sc_law.nd rfl (Or.inr rfl) (pe_lst (pa_cons (pe_slice sl_list (pe_op Xc.op_catL (pv 0) (pe_lst (pa_cons pe_int pa_nil))) po_none (po_some pe_int)) (pa_cons pe_int (pa_cons pe_int (pa_cons pe_int pa_nil))))))
      (pss_cons (ps_for PassesOwn.never rfl (pi_range1 rfl T.n_range (pa_cons (pe_op op_add pe_int (pe_callB (call_min2 rfl) (by rfl) T.n_min PyProof.Rows.boot_min (pa_cons pe_int (pa_cons (pe_callB call_len_seq (by rfl) T.n_len PySem.boot_len (pa_cons (pv 0) pa_nil)) pa_nil)))) pa_nil)) (pg_name (i := 2) sc_law.nd rfl (Or.inl rfl))
        (pss_cons (ps_set (i := 3) sc_law.nd rfl (Or.inl rfl) (pe_call G__law_take (hr.mono (by first | decide | omega)) rfl T.c__law_take.m T.c__law_take.F.kp T.c__law_take.b .nil pass0 (pa_cons (pv 1) (pa_cons pe_int pa_nil))))
        (pss_cons (ps_set (i := 4) sc_law.nd rfl (Or.inl rfl) (pe_call G__law_kinds_by (hr.mono (by first | decide | omega)) rfl T.c__law_kinds_by.m T.c__law_kinds_by.F.kp T.c__law_kinds_by.b .nil pass0 (pa_cons (pv 1) (pa_cons (pe_op op_add pe_int (pe_call G__law_take (hr.mono (by first | decide | omega)) rfl T.c__law_take.m T.c__law_take.F.kp T.c__law_take.b .nil pass0 (pa_cons (pv 1) (pa_cons pe_int pa_nil)))) pa_nil))))
        (pss_cons (ps_par (i := 5) (j := 6) rfl sc_law.nd rfl rfl (by decide) rfl rfl (pa_cons (pe_lst pa_nil) (pa_cons (pe_disp (pps_cons pe_str (pe_lst pa_nil) (pps_cons pe_str (pv 3) (pps_cons pe_str (pe_op op_rep (pe_lst (pa_cons pe_int pa_nil)) (pe_callB call_len_seq (by rfl) T.n_len PySem.boot_len (pa_cons (pv 4) pa_nil))) pps_nil))) (by rfl) (by rfl) (fun z => by cases z) (by decide)) pa_nil)) (by rfl))
        (pss_cons (ps_set (i := 7) sc_law.nd rfl (Or.inl rfl) (pe_call G__law_orders (hr.mono (by first | decide | omega)) rfl T.c__law_orders.m T.c__law_orders.F.kp T.c__law_orders.b .nil pass0 (pa_cons (pv 4) (pa_cons (pv 5) (pa_cons (pv 3) pa_nil)))))
        (pss_cons (ps_setLc (i := 9) (own := [("_law_k", 8)]) (g := gName 8) (tt := tYes) rfl sc_law.nd rfl rfl (by rfl) (pi_range1 rfl T.n_range (pa_cons pe_int pa_nil)) (blkOk_by (N := ["_law_script", "_law_stream", "_law_turn", "_law_halt", "_law_rows", "_law_notes", "_law_due", "_law_orders_here", "_law_k", "_law_things", "_law_step", "_law_is_alike", "_law_item", "_law_mate", "_law_wish", "_law_told", "_law_part", "_law_house"]) (sc := defScope s_law) (by decide +kernel)) (fun _ _ _ _ _ => (pg_name (i := 8) sc_law.nd rfl (Or.inl rfl))) (fun _ _ _ _ _ => pts_nil) (fun _ _ _ _ _ => (pe_callTy (show CallR _ (.type "tuple") (rTupK K) from call_tuple_of) (by rfl) T.n_tuple (by decide +kernel) (pa_cons (pe_lc (own := [("_law_part", 16)]) (g := gName 16) (tt := tYes) rfl sc_law.nd (pi_range1 rfl T.n_range (pa_cons pe_int pa_nil)) (blkOk_by (by kernel_rfl)) (fun _ _ _ _ _ => (pg_name (i := 16) sc_law.nd rfl (Or.inl rfl))) (fun _ _ _ _ _ => pts_nil) (fun _ _ _ _ _ => (pe_call G__law_take (hr.mono (by first | decide | omega)) rfl T.c__law_take.m T.c__law_take.F.kp T.c__law_take.b .nil pass0 (pa_cons (pv 1) (pa_cons pe_int pa_nil))))) pa_nil))))
        (pss_one (ps_for PassesOwn.never rfl (pi_range1 rfl T.n_range (pa_cons (pe_op op_add pe_int (pe_call G__law_take (hr.mono (by first | decide | omega)) rfl T.c__law_take.m T.c__law_take.F.kp T.c__law_take.b .nil pass0 (pa_cons (pv 1) (pa_cons pe_int pa_nil)))) pa_nil)) (pg_name (i := 10) sc_law.nd rfl (Or.inl rfl))
          (pss_cons (ps_par (i := 8) (j := 11) rfl sc_law.nd rfl rfl (by decide) rfl rfl (pa_cons (pe_op op_sub (pe_op op_sub (pe_callB call_len_seq (by rfl) T.n_len PySem.boot_len (pa_cons (pv 4) pa_nil)) pe_int) (pe_op op_fdivW (pe_call G__law_take (hr.mono (by first | decide | omega)) rfl T.c__law_take.m T.c__law_take.F.kp T.c__law_take.b .nil pass0 (pa_cons (pv 1) (pa_cons (pe_callB call_len_seq (by rfl) T.n_len PySem.boot_len (pa_cons (pv 4) pa_nil)) pa_nil))) pe_int)) (pa_cons (pe_cmpR op_eq (pe_call G__law_take (hr.mono (by first | decide | omega)) rfl T.c__law_take.m T.c__law_take.F.kp T.c__law_take.b .nil pass0 (pa_cons (pv 1) (pa_cons pe_int pa_nil))) pe_int (nomark _)) pa_nil)) (by rfl))
          (pss_cons (ps_par (i := 12) (j := 13) rfl sc_law.nd rfl rfl (by decide) rfl rfl (pa_cons (pe_ix ix_list (pv 9) (pe_call G__law_take (hr.mono (by first | decide | omega)) rfl T.c__law_take.m T.c__law_take.F.kp T.c__law_take.b .nil pass0 (pa_cons (pv 1) (pa_cons pe_int pa_nil))) (fun _ _ => rfl)) (pa_cons (pe_ix ix_list (pv 9) (pe_call G__law_take (hr.mono (by first | decide | omega)) rfl T.c__law_take.m T.c__law_take.F.kp T.c__law_take.b .nil pass0 (pa_cons (pv 1) (pa_cons pe_int pa_nil))) (fun _ _ => rfl)) pa_nil)) (by rfl))
          (pss_cons (ps_set (i := 14) sc_law.nd rfl (Or.inl rfl) (pe_ifExp (pt_val (pv 11)) (pe_call G__law_alike (hr.mono (by first | decide | omega)) rfl T.c__law_alike.m T.c__law_alike.F.kp T.c__law_alike.b .nil pass0 (pa_cons (pv 4) (pa_cons (pv 6) (pa_cons (pv 8) (pa_cons (pv 12) (pa_cons (pv 13) pa_nil)))))) (pe_call G__law_ahead (hr.mono (by first | decide | omega)) rfl T.c__law_ahead.m T.c__law_ahead.F.kp T.c__law_ahead.b .nil pass0 (pa_cons (pv 4) (pa_cons (pv 6) (pa_cons (pv 8) (pa_cons (pv 12) (pa_cons (pv 13) pa_nil))))))))
          (pss_cons (ps_set (i := 15) sc_law.nd rfl (Or.inl rfl) (pe_call G__law_asked (hr.mono (by first | decide | omega)) rfl T.c__law_asked.m T.c__law_asked.F.kp T.c__law_asked.b .nil pass0 (pa_cons (pe_ix ix_list (pv 7) (pv 8) (fun _ _ => rfl)) (pa_cons (pv 11) (pa_cons (pv 12) (pa_cons (pv 13) (pa_cons (pe_call G__law_take (hr.mono (by first | decide | omega)) rfl T.c__law_take.m T.c__law_take.F.kp T.c__law_take.b .nil pass0 (pa_cons (pv 1) (pa_cons pe_int pa_nil))) pa_nil)))))))
          (pss_cons (ps_if (PW.pt (pw_or (pt_cmpR op_ne (pe_callB (call_repr cl hr) (by rfl) T.n_repr PyProof.Rows.boot_repr (pa_cons (pv 15) pa_nil)) (pe_callB (call_repr cl hr) (by rfl) T.n_repr PyProof.Rows.boot_repr (pa_cons (pe_ifExp (pt_cmpR op_isN (pv 14) pe_non (nomark _)) (pv 3) (pv 14)) pa_nil)) (nomark _)) (pw_or1 (pt_cmpR (op_neD hr.units) (pv 5) (pe_dget hu (pv 6) pe_str (fun _ _ => rfl)) (nomark _)))))
            (pss_one (ps_ret pe_bl))
            pss_nil)
          (pss_one (ps_if (pt_cmpR op_ne (pe_callB (call_repr cl hr) (by rfl) T.n_repr PyProof.Rows.boot_repr (pa_cons (pe_lc (own := [("_law_house", 17)]) (g := gName 17) (tt := tYes) rfl sc_law.nd (pi_list (pv 7)) (blkOk_by (N := ["_law_script", "_law_stream", "_law_turn", "_law_halt", "_law_rows", "_law_notes", "_law_due", "_law_orders_here", "_law_k", "_law_things", "_law_step", "_law_is_alike", "_law_item", "_law_mate", "_law_wish", "_law_told", "_law_part", "_law_house"]) (sc := defScope s_law) (by decide +kernel)) (fun _ _ _ _ _ => (pg_name (i := 17) sc_law.nd rfl (Or.inl rfl))) (fun _ _ _ _ _ => pts_nil) (fun _ _ _ _ _ => (show PE _ _ (Xj.tMethD (cxOf CX0 P w K mg base ["_law_script", "_law_stream", "_law_turn", "_law_halt", "_law_rows", "_law_notes", "_law_due", "_law_orders_here", "_law_k", "_law_things", "_law_step", "_law_is_alike", "_law_item", "_law_mate", "_law_wish", "_law_told", "_law_part", "_law_house"] "law" (defScope s_law) A.f_law cdv Ar outer s H E) CX0 14 "many_asked" (tVar 17) tNil E0) from Xj.pe_methD0 (CX := CX0) (E := E0) (k := 14) (pv 17) hr (by first | decide | omega) pass0))) pa_nil)) (pe_callB (call_repr cl hr) (by rfl) T.n_repr PyProof.Rows.boot_repr (pa_cons (pe_dget hu (pv 6) pe_str (fun _ _ => rfl)) pa_nil)) (nomark _))
            (pss_one (ps_ret pe_bl))
            pss_nil)))))))))))))))
      (pss_one (ps_ret pe_bl))))), ?_⟩
    walk_at "st"
    walk_at "rd"
    refine ⟨rfl, tb, fun H1 e1 tb1 => ⟨_, rfl, ?_⟩⟩
    rw [if_neg (by decide)]
    have hs1 : SqL K H1 sa (ns.map V.int) := by
      rcases hs with (h | ⟨u, h⟩) | h
      · exact Or.inl (Or.inl (e1 _ _ h (fun _ z => by cases z)))
      · exact Or.inl (Or.inr ⟨u, e1 _ _ h (fun _ z => by cases z)⟩)
      · exact Or.inr h
    have S := Hs.start0 H1
    walk_at "rd"
    rename_i p1 H2 hp1 S1
    refine ⟨sa, p1, _, _, rfl, rfl, S1.sq hs1 (by simp), S1.lst (by walk_at "mem"), by rw [sizeLine_eq]; simp; omega, fun p2 hp2 => ?_⟩
    obtain ⟨hp20, S2⟩ := S1.newAt (o := .lst (ns.map V.int ++ [V.int 0])) hp2
    rw [show ns.map V.int ++ [V.int 0] = (ns ++ [0]).map V.int by simp] at S2 ⊢
    walk_at "rd"
    rename_i p3 H3 hp3 S3 p4 H4 hp4 S4
    clear S1 S2 S S3
    generalize cutI (ns ++ [0]) none (some 63) = ns3 at S4
    have tb4 := tb1.ext S4.same
    refine ⟨sa, _, rfl, Or.inl (S4.sq hs1 (by simp)), ?_⟩
    walk_at "rd"
    rw [List.length_map]
    have i1 := S4.is (p4, HO.lst [.ref p3, .int 0, .int 0, .int 7]) (by walk_at "mem")
    have i2 := S4.is (p3, HO.lst (ns3.map V.int)) (by walk_at "mem")
    have hne : p4 ≠ p3 := fun z => by
      have := S4.nd
      simp [z] at this
    dsimp only at i1 i2
    refine fw_range (fun i σ H' => ∃ (o2 o3 o4 o5 o6 o7 o8 o9 o10 o11 o12 o13 o14 o15 : Option V) (l kk m : Int) (ns' : List Int), σ = [some (.ref sa), some (.ref p4), o2, o3, o4, o5, o6, o7, o8, o9, o10, o11, o12, o13, o14, o15, none, none] ∧ H' p4 = some (stm p3 l kk m) ∧ H' p3 = some (.lst (ns'.map V.int)) ∧ LamX.Tabs TT H' ∧ 0 ≤ kk ∧ kk ≤ 200 * i)
      ⟨_, _, _, _, _, _, _, _, _, _, _, _, _, _, 0, 0, 7, ns3, rfl, i1, i2, tb4, by omega, by omega⟩ ?_ ?_
    · clear S4 tb4 i1 i2 tb hs
      rintro i σ H5 hi ⟨o2, o3, o4, o5, o6, o7, o8, o9, o10, o11, o12, o13, o14, o15, l, kk, m, ns', rfl, i1, i2, tb, hk0, hk1⟩
      have hi10 : i < 10 := by
        revert hi
        split <;> intro hi <;> omega
      clear hi
      have S := Hs.start H5 [p4, p3] [(p4, stm p3 l kk m), (p3, .lst (ns'.map V.int))] (by simpa using hne) (by
        intro q hq
        simp only [List.mem_cons, List.not_mem_nil, or_false] at hq
        rcases hq with rfl | rfl
        · exact i1
        · exact i2) (by
        intro b hb
        simp only [List.mem_cons, List.not_mem_nil, or_false] at hb
        rcases hb with rfl | rfl
        · rw [i1]; simp
        · rw [i2]; simp)
      walk_at "rd"
      refine use_take (b := p3) (l := l) (k := kk) (m := m) (ns := ns') (F := []) S (by walk_at "led") (.inr (by simp)) (.inr (by simp)) (by decide) (by decide) (by omega) (by omega) fun halt l1 m1 ns1 H6 S1 a1 b1 => ?_
      clear S
      walk_at "rd"
      refine use_take (b := p3) (l := l1) (k := kk + 1) (m := m1) (ns := ns1) (F := []) S1 (by walk_at "led") (.inr (by simp)) (.inr (by simp)) (by decide) (by decide) (by omega) (by omega) fun n0 l2 m2 ns2 H7 S2 a2 b2 => ?_
      clear S1
      obtain ⟨n, rfl⟩ : ∃ n : Nat, n0 = n := ⟨n0.toNat, by omega⟩
      walk_at "rd"
      refine sepn_use (F := []) S2 ⟨p4, p3, l2, kk + 1 + 1, m2, 2 + n, ns2, by simp, rfl, rfl, by omega, by omega, by omega, rfl⟩ (by walk_at "led") (fun c hc => ?_) ?_
      · simp only [List.mem_cons, List.not_mem_nil, or_false] at hc
        rcases hc with rfl | rfl
        · exact ⟨by simp, .inr (by simp)⟩
        · exact ⟨by simp, .inr (by simp)⟩
      rintro v H8 N L' ⟨f, ts, l3, k3, m3, ns3', rfl, rfl, rfl, c1, c2, ro, tl⟩ hN S3
      clear S2
      walk_at "rd"
      rename_i nt HA hnt SA d HB hd SB dn HC hdn SC z0 HD hz0 SD
      refine rd_repL SD (by walk_at "mem") (by omega) (by rw [List.length_map]; omega) (by rw [List.length_map, sizeLine_eq]; simp; omega) fun da HE hda SE => ?_
      rw [List.length_map, tl, Int.toNat_natCast, List.flatten_replicate_singleton] at SE
      clear SA SB SC SD S3
      walk_at "rd"
      rename_i HF SF
      clear SE
      rw [show mergeK [] (toK [(V.str "notes", V.ref dn), (V.str "halt", V.int halt), (V.str "asked", V.ref da)]) = dueK dn da halt from rfl] at SF
      have nM : ∀ {b : Addr} {o : HO}, H5 b = some o → (∀ xs, o ≠ .lst xs) → b ∉ [p4, p3] := fun {b o} e nl hm => by
        simp only [List.mem_cons, List.not_mem_nil, or_false] at hm
        rcases hm with rfl | rfl
        · rw [i1] at e; cases e; exact nl _ rfl
        · rw [i2] at e; cases e; exact nl _ rfl
      have tbF : LamX.Tabs TT HF := tabs_mv tb (fun b r e => SF.old _ _ e (nM e (fun _ z => by cases z))) (fun b r e => SF.old _ _ e (nM e (fun _ z => by cases z)))
      have ndF := (SF.re (L' := [(da, .lst (List.replicate (2 + n) (V.int 0))), (dn, .lst []), (nt, .lst []), (f, .lst (ts.map fun q => V.ref q.1)), (p4, stm p3 l3 k3 m3), (p3, .lst (ns3'.map V.int))]) (by walk_at "led")).nd
      simp only [List.map_cons, List.map_nil, List.nodup_cons, List.mem_cons, List.not_mem_nil, or_false, not_or, List.nodup_nil, and_true, not_false_eq_true] at ndF
      have F4 := SF.is (p4, stm p3 l3 k3 m3) (by simp)
      have F3 := SF.is (p3, .lst (ns3'.map V.int)) (by simp)
      have Ff := SF.is (f, .lst (ts.map fun q => V.ref q.1)) (by simp)
      have Fd := SF.is (d, .dK (dueK dn da halt)) (by simp)
      have Fn := SF.is (dn, .lst []) (by simp)
      have Fa := SF.is (da, .lst (List.replicate (2 + n) (V.int 0))) (by simp)
      have Ft := SF.is (nt, .lst []) (by simp)
      have Fr : ∀ q ∈ ts, HF q.1 = some (.tup (rwV q.2)) := fun q hq => by
        have hm : (q.1, HO.tup (rwV q.2)) ∈ rwsL ts := by
          unfold rwsL
          exact List.mem_map.mpr ⟨q, hq, rfl⟩
        exact SF.is (q.1, .tup (rwV q.2)) (by simp [hm])
      dsimp only at F4 F3 Ff Fd Fn Fa Ft
      clear SF
      refine ⟨f, nt, halt, ts, rfl, Ff, Fr, Ft, ro, by omega, tbF, fun oh HG os hoh I => ?_⟩
      obtain ⟨eG, tbG, Goh, Y⟩ := I
      rw [List.take_of_length_le (by rw [List.length_map]; omega), tl] at Y
      have up : ∀ {b : Addr} {o : HO}, HF b = some o → (∀ ps, o ≠ .tbl ps) → HG b = some o := fun e n => eG _ _ e n
      have G4 := up F4 (fun _ z => by cases z)
      have G3 := up F3 (fun _ z => by cases z)
      have S := Hs.start HG [p4, p3] [(p4, stm p3 l3 k3 m3), (p3, .lst (ns3'.map V.int))] (by simpa using hne) (by
        intro q hq
        simp only [List.mem_cons, List.not_mem_nil, or_false] at hq
        rcases hq with rfl | rfl
        · exact G4
        · exact G3) (by
        intro b hb
        simp only [List.mem_cons, List.not_mem_nil, or_false] at hb
        rcases hb with rfl | rfl
        · rw [G4]; simp
        · rw [G3]; simp)
      walk_at "rd"
      refine Xg.lcv_range S (fun i acc L' => ∃ (xs : List (Addr × List Int)) (l' m' k' : Int) (ns' : List Int), acc = xs.map (fun q => V.ref q.1) ∧ xs.length = i ∧ (∀ q ∈ xs, q.2.length = 3 ∧ Sm q.2) ∧ L' = xsL xs ++ [(p4, stm p3 l' k' m'), (p3, .lst (ns'.map V.int))] ∧ k3 ≤ k' ∧ k' ≤ k3 + 3 * i)
        ⟨[], _, _, _, _, rfl, rfl, fun q hq => (nomatch hq), rfl, by omega, by omega⟩ ?_ ?_
      · rintro D j acc L' H7 hj ⟨xs, l', m', k', ns', rfl, xl, xo, rfl, d1, d2⟩ hD S7
        clear S
        have hj4 : j < 4 := by omega
        walk_at "lc"
        refine Xg.lcv_range S7 (fun j2 acc2 L2 => ∃ (zs : List Int) (l2 m2 k2 : Int) (ns2 : List Int), acc2 = zs.map V.int ∧ zs.length = j2 ∧ Sm zs ∧ L2 = (D, .lst (xs.map fun q => V.ref q.1)) :: (xsL xs ++ [(p4, stm p3 l2 k2 m2), (p3, .lst (ns2.map V.int))]) ∧ k' ≤ k2 ∧ k2 ≤ k' + j2)
          ⟨[], _, _, _, _, rfl, rfl, fun z hz => (nomatch hz), rfl, by omega, by omega⟩ ?_ ?_
        · rintro D2 j2 acc2 L2 H8 hj2 ⟨zs, l2, m2, k2, ns2, rfl, zl, zo, rfl, g1, g2⟩ hD2 S8
          clear S7
          have hj23 : j2 < 3 := by omega
          walk_at "lc"
          refine use_take (b := p3) (l := l2) (k := k2) (m := m2) (ns := ns2) (F := (D2, .lst (zs.map V.int)) :: (D, .lst (xs.map fun q => V.ref q.1)) :: xsL xs) S8 (by walk_at "led") (.inr (by simp)) (.inr (by simp)) (by decide) (by decide) (by omega) (by omega) fun r l3 m3 ns3 H9 S9 r0 r1 => ?_
          clear S8
          refine Xg.rd_lvPut (acc := zs.map V.int) (L1 := (D, .lst (xs.map fun q => V.ref q.1)) :: (xsL xs ++ [(p4, stm p3 l3 (k2 + 1) m3), (p3, .lst (ns3.map V.int))])) S9 (by walk_at "led") hD2 (Rs.sz' (by simp; omega)) ⟨zs ++ [r], l3, m3, k2 + 1, ns3, by simp, by simp [zl], fun z hz => ?_, rfl, by omega, by omega⟩
          rcases List.mem_append.mp hz with hz | hz
          · exact zo z hz
          · rw [List.mem_singleton.mp hz]; omega
        · rintro D2 acc2 L2 H8 ⟨zs, l2, m2, k2, ns2, rfl, zl, zo, rfl, g1, g2⟩ hD2 S8
          clear S7
          walk_at "rd"
          refine ⟨D2, zs.map V.int, rfl, .inl ⟨S8.lst (by simp), fun t ht => ?_⟩⟩
          obtain ⟨ht0, S9⟩ := S8.newAt (o := .tup (zs.map V.int)) ht
          refine Xg.rd_lvPut (acc := xs.map fun q => V.ref q.1) (L1 := xsL (xs ++ [(t, zs)]) ++ [(p4, stm p3 l2 k2 m2), (p3, .lst (ns2.map V.int))]) S9 (by rw [xsL_snoc]; walk_at "led") hD (Rs.sz' (by simp; omega)) ⟨xs ++ [(t, zs)], l2, m2, k2, ns2, by simp, by simp [xl], fun q hq => ?_, rfl, by omega, by omega⟩
          rcases List.mem_append.mp hq with hq | hq
          · exact xo q hq
          · rw [List.mem_singleton.mp hq]; exact ⟨zl, zo⟩
      · rintro D acc L' H7 ⟨xs, l4, m4, k4, ns4, rfl, xl, xo, rfl, d1, d2⟩ hD S7
        clear S
        obtain ⟨⟨n1, n2, n3, n4, n5⟩, ⟨n6, n7, n8, n9⟩, ⟨n10, n11, n12⟩, ⟨n13, n14⟩, n15⟩ := ndF
        have nf : ∀ {b : Addr} {o : HO}, HF b = some o → ¬ b = oh := fun e z => by rw [z, hoh] at e; cases e
        have ng : ∀ {b : Addr} {o : HO}, HG b = some o → ¬ b = D := fun e z => by rw [z, hD] at e; cases e
        have Gf := up Ff (fun _ z => by cases z)
        have Gd := up Fd (fun _ z => by cases z)
        have Gn := up Fn (fun _ z => by cases z)
        have Ga := up Fa (fun _ z => by cases z)
        have Gt := up Ft (fun _ z => by cases z)
        have Gr : ∀ q ∈ ts, HG q.1 = some (.tup (rwV q.2)) := fun q hq => up (Fr q hq) (fun _ z => by cases z)
        have om : ∀ {b : Addr} {o : HO}, HG b = some o → ¬ b = p4 → ¬ b = p3 → H7 b = some o := fun e a b => S7.old _ _ e (by simp; exact ⟨a, b⟩)
        have onl : ∀ {b : Addr} {o : HO}, HG b = some o → (∀ xs, o ≠ .lst xs) → H7 b = some o := fun {b o} e n => om e (fun z => by rw [z, G4] at e; cases e; exact n _ rfl) (fun z => by rw [z, G3] at e; cases e; exact n _ rfl)
        have f4 := nf F4
        have f3 := nf F3
        have ff := nf Ff
        have fn := nf Fn
        have fa := nf Fa
        have ft := nf Ft
        have g4 := ng G4
        have g3 := ng G3
        have gf := ng Gf
        have gn := ng Gn
        have ga := ng Ga
        have gt := ng Gt
        have go := ng Goh
        obtain ⟨z, e4, e3, ef, ed, edn, eda, ent, eoh, eD, ehalt, ets, eos, exs, ok, ST⟩ : ∃ z : Frm4, z.p4 = p4 ∧ z.p3 = p3 ∧ z.f = f ∧ z.d = d ∧ z.dn = dn ∧ z.da = da ∧ z.nt = nt ∧ z.oh = oh ∧ z.th = D ∧ z.halt = halt ∧ z.ts = ts ∧ z.os = os ∧ z.xs = xs ∧ z.Ok ∧ Sit A z H7 l4 k4 m4 ns4 ⟨List.replicate z.ts.length 0, []⟩ ⟨List.replicate z.ts.length 0, []⟩ := by
          refine ⟨⟨p4, p3, f, d, dn, da, nt, oh, D, halt, ts, os, xs⟩, rfl, rfl, rfl, rfl, rfl, rfl, rfl, rfl, rfl, rfl, rfl, rfl, rfl, ⟨ro, by show 2 ≤ ts.length; omega, by show ts.length ≤ 5; omega, xl, fun q hq => (xo q hq).1, fun q hq => (xo q hq).2, ?_⟩, ⟨S7.is (p4, stm p3 l4 k4 m4) (by simp), S7.is (p3, .lst (ns4.map V.int)) (by simp), tabs_mv tbG (fun b r e => onl e (fun _ z => by cases z)) (fun b r e => onl e (fun _ z => by cases z)), ⟨om Gf n13 n14, fun q hq => onl (Gr q hq) (fun _ z => by cases z)⟩, ⟨onl Gd (fun _ z => by cases z), ?_, ⟨[], om Gn n8 n9, .nil⟩, Ne.symm n1⟩, ?_, om Goh (Ne.symm f4) (Ne.symm f3), S7.is (D, .lst (xs.map fun q => V.ref q.1)) (by simp), fun q hq => ?_⟩⟩
          · simp only [Frm4.lists, List.nodup_cons, List.mem_cons, List.not_mem_nil, or_false, not_or, List.nodup_nil, and_true, not_false_eq_true]
            repeat' apply And.intro
            all_goals first | assumption | exact fun z => absurd z.symm (by assumption)
          · have := om Ga n4 n5
            show H7 da = some (.lst ((List.replicate ts.length (0 : Int)).map V.int))
            rw [this, tl, List.map_replicate]
          · show SysAt A H7 nt halt (ts.map (·.2)) os ⟨List.replicate ts.length 0, []⟩
            rw [tl]
            refine Y.move fun b o e h => ?_
            rcases h with rfl | ⟨_, rfl⟩ | ⟨_, rfl⟩ | ⟨_, _, _, rfl⟩
            · exact om e n11 n12
            · exact onl e (fun _ z => by cases z)
            · exact onl e (fun _ z => by cases z)
            · exact onl e (fun _ z => by cases z)
          · have hm : (q.1, HO.tup (q.2.map V.int)) ∈ xsL xs := by
              unfold xsL
              exact List.mem_map.mpr ⟨q, hq, rfl⟩
            exact S7.is (q.1, .tup (q.2.map V.int)) (by simp [hm])
        clear S7 nf ng Gf Gd Gn Ga Gt Gr om onl f4 f3 ff fn fa ft g4 g3 gf gn ga gt go F4 F3 Ff Fd Fn Fa Ft Fr G4 G3 Goh Y up tbG tbF eG hoh hD xo xl ro
        subst e4 e3 ef ed edn eda ent eoh eD ehalt ets eos exs
        walk_at "rd"
        refine ST.take ok (by decide) (by decide) (by omega) (by omega) fun r7 l5 m5 ns5 H8 S8 r0 r1 => ?_
        walk_at "rd"
        have rn : z.ts.length = 2 + n := tl
        have hh : z.halt.natAbs < 10 ^ 12 := by omega
        refine fw_range (fun j σ H' => ∃ (q8 q10 q11 q12 q13 q14 q15 : Option V) (l' k' m' : Int) (ns' : List Int) (s : S4), σ = [some (.ref sa), some (.ref z.p4), some (.int (0 + i)), some (.int z.halt), some (.ref z.f), some (.ref z.nt), some (.ref z.d), some (.ref z.oh), q8, some (.ref z.th), q10, q11, q12, q13, q14, q15, none, none] ∧ Sit A z H' l' k' m' ns' s s ∧ s.notes.length ≤ 972 * j ∧ Bnd (242 * j) s ∧ NtsSm s ∧ k4 + 1 ≤ k' ∧ k' ≤ k4 + 1 + 5 * j)
          ⟨_, _, _, _, _, _, _, _, _, _, _, _, rfl, S8, by simp, fun z hz => by rw [List.eq_of_mem_replicate hz]; decide, fun q hq => (nomatch hq), by omega, by omega⟩ ?_ ?_
        · clear S8 ST
          rintro j σ H9 hj ⟨q8, q10, q11, q12, q13, q14, q15, l6, k6, m6, ns6, s, rfl, S, b1, b2, b3, c3, c4⟩
          have hj12 : j < 12 := by omega
          clear hj
          have L := Hs.start1 S.rw.1 [] (.inl rfl)
          walk_at "rd"
          rw [List.length_map]
          refine S.take ok (by omega) (by omega) (by omega) (by omega) fun r1 l7 m7 ns7 HA SA x0 x1 => ?_
          clear S L
          walk_at "rd"
          refine SA.take ok (by omega) (by omega) (by omega) (by omega) fun r2 l8 m8 ns8 HB SB y0 y1 => ?_
          clear SA
          walk_at "rd"
          obtain ⟨kn, hkn, knl⟩ : ∃ kn : Nat, (z.ts.length : Int) - 1 - r1 / 2 = kn ∧ kn < z.ts.length := ⟨((z.ts.length : Int) - 1 - r1 / 2).toNat, by omega, by omega⟩
          rw [hkn]
          obtain ⟨al, hal⟩ : ∃ al, decide (r2 = 0) = al := ⟨_, rfl⟩
          rw [hal]
          refine SB.take ok (by omega) (by omega) (by omega) (by omega) fun r3 l9 m9 ns9 HC SC u0 u1 => ?_
          clear SB
          have L := Hs.start1 SC.th [] (.inl rfl)
          refine rd_ixAny L (by walk_at "mem") u0 (by rw [List.length_map, ok.x4]; omega) fun v hv _ => ?_
          obtain ⟨q1, hq1, rfl⟩ := List.mem_map.mp hv
          clear L
          walk_at "rd"
          refine SC.take ok (by omega) (by omega) (by omega) (by omega) fun r4 la ma nsa HD SD w0 w1 => ?_
          clear SC
          have L := Hs.start1 SD.th [] (.inl rfl)
          refine rd_ixAny L (by walk_at "mem") w0 (by rw [List.length_map, ok.x4]; omega) fun v hv2 _ => ?_
          obtain ⟨q2, hq2, rfl⟩ := List.mem_map.mp hv2
          clear L
          walk_at "rd"
          refine SD.wish ok knl hq1 hq2 (by omega) (fun C hC => by walk_at "rd"; exact hC) fun HE SE => ?_
          clear SD
          walk_at "rd"
          obtain ⟨rr, oo, hrr, hoo⟩ := SE.house knl
          have L := Hs.start1 SE.oh [] (.inl rfl)
          refine rd_ixL L (by walk_at "mem") (at_nat (by rw [List.getElem?_map, hoo]; rfl)) ?_
          clear L
          walk_at "rd"
          refine SE.take ok (by omega) (by omega) (by omega) (by omega) fun way lb mb nsb HF SF v0 v1 => ?_
          clear SE
          walk_at "rd"
          refine SF.ask ok hrr hoo knl hq1 hq2 (by omega) fun HG SG => ?_
          clear SF
          walk_at "rd"
          have B1 := ask_len (rows := z.ts.map (·.2)) (halt := z.halt) (al := al) (k := kn) (x := q1.2) (y := q2.2) (s := s)
          have B2 := ask_bnd (rows := z.ts.map (·.2)) (halt := z.halt) (al := al) (k := kn) (x := q1.2) (y := q2.2) (s := s) (B := 242 * j) (by omega) b2
          have B3 := ask_sm (rows := z.ts.map (·.2)) (halt := z.halt) (al := al) (k := kn) (x := q1.2) (y := q2.2) (s := s) ok.ro (ok.xm _ hq1) (ok.xm _ hq2) b3
          revert SG B1 B2 B3
          generalize askF (z.ts.map (·.2)) z.halt al kn q1.2 q2.2 s = RA
          obtain ⟨res, s1⟩ := RA
          intro SG B1 B2 B3
          dsimp only at SG B1 B2 B3
          refine rd_reprO hh ?_
          walk_at "rd"
          -- the same text
          have second : ∀ {σ : L2.St} {C : VK}, σ[3]? = some (some (.int z.halt)) → σ[14]? = some (some (resV res)) → C (tldV z.halt res) HG → (if decide (resV res = .non) = true then tVar 3 σ HG C else tVar 14 σ HG C) := fun {σ C} h1 h2 h => by
            cases res with
            | none => exact ite_yes rfl ⟨_, h1, h⟩
            | some b => exact ite_no (by simp [resV]) ⟨_, h2, h⟩
          refine second rfl rfl ?_
          walk_at "rd"
          refine rd_reprO hh ?_
          walk_at "rd"
          refine rd_decF (by simp) ?_
          have L := Hs.start1 SG.du.hd [] (.inl rfl)
          unfold dueK at L
          walk_at "rd"
          clear L
          obtain ⟨ws, hws, nws⟩ := SG.sy.nts
          obtain ⟨us, hus, nus⟩ := SG.du.hn
          refine rd_neN hws nws hus nus B3 ?_
          walk_at "rd"
          have al1 : s1.asked.length = z.ts.length := by have := SG.sy.al; rw [List.length_map] at this; exact this
          have ol1 : z.os.length = z.ts.length := by have := SG.sy.len; rw [List.length_map] at this; exact this
          have t5 := ok.t5
          have sm1 : ∀ n ∈ s1.asked, n.natAbs < 10 ^ 12 := fun n hn => by have := B2 n hn; omega
          refine ⟨z.oh, rfl, ⟨_, SqL.of SG.oh⟩, ?_⟩
          have L := Hs.start0 HG
          refine Xg.lcv_list (xs := z.os.map V.ref) L (fun i acc L' => acc = (s1.asked.take i).map V.int ∧ L' = []) ⟨rfl, rfl⟩ (fun i H' acc D L' _ S' => SqL.of (S'.same _ _ SG.oh)) ?_ ?_
          · rintro D i x acc L' H' hx ⟨rfl, rfl⟩ hD S'
            obtain ⟨o, ho, rfl⟩ : ∃ o, z.os[i]? = some o ∧ x = .ref o := by
              rw [List.getElem?_map] at hx
              cases c : z.os[i]? with
              | none => rw [c] at hx; cases hx
              | some q => rw [c] at hx; exact ⟨q, rfl, (Option.some.inj hx).symm⟩
            have il := (List.getElem?_eq_some_iff.mp ho).1
            obtain ⟨r, hr⟩ : ∃ r, (z.ts.map (·.2))[i]? = some r := ⟨_, List.getElem?_eq_getElem (by rw [List.length_map]; omega)⟩
            obtain ⟨C, dx, rv, rest, hxo, O, _, _, _, lm⟩ := ord_facts T (SG.sy.ord i r o hr ho)
            clear L
            walk_at "lc"
            refine ⟨o, C, dx, _, _, rfl, S'.same _ _ hxo, O.cl, O.hm, lm, ?_⟩
            walk_at "rd"
            refine calls_up (j := 1) (calls_fn T.c_Order_many_asked.F (ok_many T O) T.c_Order_many_asked.b ⟨o, _, _, _, _, rfl, S'.same _ _ hxo, ?_⟩) (by decide)
            refine Xg.rd_lvPut (acc := (s1.asked.take i).map V.int) (L1 := []) S' (by walk_at "led") hD (Rs.sz' (by simp; omega)) ⟨?_, rfl⟩
            have e : s1.asked[i]? = some (s1.asked.getD i 0) := by rw [List.getD_eq_getElem?_getD, List.getElem?_eq_getElem (by omega)]; rfl
            rw [List.take_add_one, e, List.map_append]
            rfl
          · rintro D acc L' H' ⟨rfl, rfl⟩ hD S'
            clear L
            have sm := S'.same
            walk_at "rd"
            refine rd_reprI (ns := s1.asked) S' List.mem_cons_self (by rw [List.length_map, ol1, ← al1, List.take_length]) sm1 (by omega) ?_
            have L := Hs.start1 (sm _ _ SG.du.hd) [] (.inl rfl)
            unfold dueK at L
            clear S'
            walk_at "rd"
            clear L
            have L := Hs.start1 (sm _ _ SG.du.ha) [] (.inl rfl)
            refine rd_reprI (ns := s1.asked) L List.mem_cons_self rfl sm1 (by omega) ?_
            walk_at "rd"
            refine rd_decF (by simp) ?_
            walk_at "rd"
            exact ⟨_, _, _, _, _, _, _, _, _, _, _, s1, rfl, SG.same sm, by omega, B2.up (by omega), B3, by omega, by omega⟩
        · rintro σ H9 ⟨q8, q10, q11, q12, q13, q14, q15, l6, k6, m6, ns6, s, rfl, S, b1, b2, b3, c3, c4⟩
          walk_at "rd"
          exact ⟨_, _, _, _, _, _, _, _, _, _, _, _, _, _, _, _, _, _, rfl, S.st, S.sl, S.tb, by omega, by omega⟩
    · rintro σ H' ⟨o2, o3, o4, o5, o6, o7, o8, o9, o10, o11, o12, o13, o14, o15, l, kk, m, ns', rfl, _⟩
      walk_at "rd"
      exact k _
end
end K04

namespace K04
open PySem PySem.Spec PyProof.Rows L2 Rs Xc Xd Xg Xh Xi Xj Xk NdefX Xf Xq
theorem ok_law {P : Program} {w : World} {K : PySem.W.Frag} {mg : Str → Option Value} {base : Heap} {A : Ad} (T : Txt K mg w A) (TB : ∀ p ∈ [(A.cc__law_by_hand_right, 321), (A.cc__law_key, 272), (A.cc__law_rule, 265)], LamX.TabB base mg p.1 p.2) : FnG P w K mg base 17 A.f_law A.d_law ["_law_script"] (sp_law K) :=
  ok_law0 T (TB (A.cc__law_by_hand_right, 321) (by simp)) (TB (A.cc__law_key, 272) (by simp)) (TB (A.cc__law_rule, 265) (by simp))
theorem end_law (K : PySem.W.Frag) (H : Hp) (a : Addr) (ns : List Int) (hn : ns.length ≤ 63) (_ : ∀ z ∈ ns, Builtin.Int.intBits z ≤ 1048576) (hT : ∀ p ∈ [321, 272, 265], H p = some (.tbl #[])) (h : SqL K H a (ns.map V.int)) : sp_law K [.ref a] H (fun v _ => v = .bl true) E0 :=
  ⟨a, ns, rfl, h, hn, fun p hp => by
    simp only [TT, List.mem_cons, List.not_mem_nil, or_false] at hp
    rcases hp with rfl | rfl | rfl <;> exact LamX.TabS.nil (hT _ (by simp)), fun _ => rfl⟩
end K04

namespace K04
end K04
open PySem PySem.W PyProof.Rows
set_option maxRecDepth 100000 in
set_option maxHeartbeats 0 in
theorem PySem.Challenge.cw_runsort_k04_whole_orders_of_orders_holds : PySem.Challenge.rw_runsort_k04_whole_orders_of_orders.Holds := by
  w_on; o_law; k_head; (case hw => w_witness2)
  k_fill
  refine Xc.walkGT (ts := [321, 272, 265]) (n := 63) (k := 17) (st := K04.s_law) (x := "_law_script") (sp := K04.sp_law) rfl (by decide) rfl ⟨rfl, by decide, by decide⟩ (fun w h Y => PySem.W.km_in_of Y) (fun w h Y => PySem.W.km_tabs_of Y) rfl (fun _ _ _ _ _ _ _ => rfl) ?F K04.end_law
  case F =>
    intro w mg h KX G
    obtain ⟨A, T⟩ : ∃ A, K04.Txt _ mg w A := by
      refine' K04.all_mk (w := w) KX G ?a_BadAnswer ?ini_BadAnswer ?ovr_BadAnswer ?dic_BadAnswer ?sav_BadAnswer ?bex_BadAnswer ?tyc_BadAnswer ?kpc_BadAnswer ?xcl_BadAnswer ?xga_BadAnswer ?xgg_BadAnswer ?xha_BadAnswer ?xhn_BadAnswer ?xht_BadAnswer ?xhm_BadAnswer ?tk_BadAnswer_answer ?na_BadAnswer_answer ?a_BadAnswer___init__ ?y_BadAnswer___init__ ?l_BadAnswer___init__ ?e_BadAnswer___init__ ?k_BadAnswer___init__ ?v_BadAnswer ?a_BadKind ?ini_BadKind ?ovr_BadKind ?dic_BadKind ?sav_BadKind ?bex_BadKind ?tyc_BadKind ?kpc_BadKind ?xcl_BadKind ?xga_BadKind ?xgg_BadKind ?xha_BadKind ?xhn_BadKind ?xht_BadKind ?xhm_BadKind ?tk_BadKind_wanted ?na_BadKind_wanted ?a_BadKind___init__ ?y_BadKind___init__ ?l_BadKind___init__ ?e_BadKind___init__ ?k_BadKind___init__ ?v_BadKind ?a_Stopped ?ini_Stopped ?ovr_Stopped ?dic_Stopped ?sav_Stopped ?bex_Stopped ?tyc_Stopped ?kpc_Stopped ?xcl_Stopped ?xga_Stopped ?xgg_Stopped ?xha_Stopped ?xhn_Stopped ?xht_Stopped ?xhm_Stopped ?tk_Stopped_at ?na_Stopped_at ?a_Stopped___init__ ?y_Stopped___init__ ?l_Stopped___init__ ?e_Stopped___init__ ?k_Stopped___init__ ?v_Stopped ?a_Order ?pg_Order ?hd_Order ?po_Order ?sa_Order ?mk_Order ?kc_Order ?na_Order_own_rule ?na_Order_times_asked ?a_Order___init__ ?i_Order___init__ ?l_Order___init__ ?e_Order___init__ ?k_Order___init__ ?a_Order_counted ?i_Order_counted ?l_Order_counted ?e_Order_counted ?k_Order_counted ?a_Order_ahead ?i_Order_ahead ?l_Order_ahead ?e_Order_ahead ?k_Order_ahead ?a_Order_alike ?i_Order_alike ?l_Order_alike ?e_Order_alike ?k_Order_alike ?a_Order_many_asked ?i_Order_many_asked ?l_Order_many_asked ?e_Order_many_asked ?k_Order_many_asked ?rd_Order ?rg_Order ?vi_Order ?a_PlainOrder ?pg_PlainOrder ?hd_PlainOrder ?po_PlainOrder ?sa_PlainOrder ?mk_PlainOrder ?kc_PlainOrder ?na_PlainOrder_own_rule ?na_PlainOrder_times_asked ?a_PlainOrder___init__ ?i_PlainOrder___init__ ?l_PlainOrder___init__ ?e_PlainOrder___init__ ?k_PlainOrder___init__ ?a_PlainOrder_ahead ?i_PlainOrder_ahead ?l_PlainOrder_ahead ?e_PlainOrder_ahead ?k_PlainOrder_ahead ?a_PlainOrder_counted ?a_PlainOrder_alike ?a_PlainOrder_many_asked ?a_KeyOrder ?pg_KeyOrder ?hd_KeyOrder ?po_KeyOrder ?sa_KeyOrder ?mk_KeyOrder ?kc_KeyOrder ?na_KeyOrder_own_rule ?na_KeyOrder_times_asked ?na_KeyOrder_inner ?na_KeyOrder_own_key ?a_KeyOrder___init__ ?i_KeyOrder___init__ ?l_KeyOrder___init__ ?e_KeyOrder___init__ ?k_KeyOrder___init__ ?dl_KeyOrder ?do_KeyOrder ?dr_KeyOrder ?a_KeyOrder_ahead ?i_KeyOrder_ahead ?l_KeyOrder_ahead ?e_KeyOrder_ahead ?k_KeyOrder_ahead ?a_KeyOrder_counted ?a_KeyOrder_alike ?a_KeyOrder_many_asked ?a_DownOrder ?pg_DownOrder ?hd_DownOrder ?po_DownOrder ?sa_DownOrder ?mk_DownOrder ?kc_DownOrder ?na_DownOrder_own_rule ?na_DownOrder_times_asked ?na_DownOrder_inner ?a_DownOrder___init__ ?i_DownOrder___init__ ?l_DownOrder___init__ ?e_DownOrder___init__ ?k_DownOrder___init__ ?a_DownOrder_ahead ?i_DownOrder_ahead ?l_DownOrder_ahead ?e_DownOrder_ahead ?k_DownOrder_ahead ?a_DownOrder_counted ?a_DownOrder_alike ?a_DownOrder_many_asked ?a_ThenOrder ?pg_ThenOrder ?hd_ThenOrder ?po_ThenOrder ?sa_ThenOrder ?mk_ThenOrder ?kc_ThenOrder ?na_ThenOrder_own_rule ?na_ThenOrder_times_asked ?na_ThenOrder_inner ?na_ThenOrder_second_one ?a_ThenOrder___init__ ?i_ThenOrder___init__ ?l_ThenOrder___init__ ?e_ThenOrder___init__ ?k_ThenOrder___init__ ?a_ThenOrder_ahead ?i_ThenOrder_ahead ?l_ThenOrder_ahead ?e_ThenOrder_ahead ?k_ThenOrder_ahead ?a_ThenOrder_counted ?a_ThenOrder_alike ?a_ThenOrder_many_asked ?a_need_order ?l_need_order ?e_need_order ?k_need_order ?a__law_mixed ?l__law_mixed ?e__law_mixed ?k__law_mixed ?a__law_take ?l__law_take ?e__law_take ?k__law_take ?a__law_kinds_by ?l__law_kinds_by ?e__law_kinds_by ?k__law_kinds_by ?a__law_noted ?l__law_noted ?e__law_noted ?k__law_noted ?a__law_rule ?l__law_rule ?e__law_rule ?nt__law_rule ?ht__law_rule ?k__law_rule ?a__law_key ?l__law_key ?e__law_key ?nt__law_key ?ht__law_key ?k__law_key ?a__law_orders ?l__law_orders ?e__law_orders ?k__law_orders ?a__law_keyed ?l__law_keyed ?e__law_keyed ?k__law_keyed ?a__law_ahead ?l__law_ahead ?e__law_ahead ?k__law_ahead ?a__law_alike ?l__law_alike ?e__law_alike ?k__law_alike ?a__law_called ?l__law_called ?e__law_called ?k__law_called ?a__law_asked ?l__law_asked ?e__law_asked ?k__law_asked ?a__law_by_hand_right ?l__law_by_hand_right ?e__law_by_hand_right ?nt__law_by_hand_right ?ht__law_by_hand_right ?k__law_by_hand_right ?a_law ?l_law ?e_law ?k_law ?x_stat ?x_any_Stopped ?x_i_Order ?x_oha_Order ?x_ohm_Order ?x_i_PlainOrder ?x_oha_PlainOrder ?x_ohm_PlainOrder ?x_i_KeyOrder ?x_oha_KeyOrder ?x_ohm_KeyOrder ?x_i_DownOrder ?x_oha_DownOrder ?x_ohm_DownOrder ?x_i_ThenOrder ?x_oha_ThenOrder ?x_ohm_ThenOrder ?x_ohn ?x_oht ?z_len ?z_min ?z_range ?z_repr ?z_isinstance ?z_bool ?z_tuple ?z_TypeError ?z_RuntimeError ?z_Exception
      (case a_BadAnswer => k_is)
      (case ini_BadAnswer => first | k_is | kx_is | kts_exm | kit_is | kernel_rfl)
      (case ovr_BadAnswer => first | k_is | kx_is | kts_exm | kit_is | kernel_rfl)
      (case dic_BadAnswer => first | k_is | kx_is | kts_exm | kit_is | kernel_rfl)
      (case sav_BadAnswer => first | k_is | kx_is | kts_exm | kit_is | kernel_rfl)
      (case bex_BadAnswer => first | k_is | kx_is | kts_exm | kit_is | kernel_rfl)
      (case tyc_BadAnswer => first | k_is | kx_is | kts_exm | kit_is | kernel_rfl)
      (case kpc_BadAnswer => first | k_is | kx_is | kts_exm | kit_is | kernel_rfl)
      (case xcl_BadAnswer => first | k_is | kx_is | kts_exm | kit_is | kernel_rfl)
      (case xga_BadAnswer => first | k_is | kx_is | kts_exm | kit_is | kernel_rfl)
      (case xgg_BadAnswer => first | k_is | kx_is | kts_exm | kit_is | kernel_rfl)
      (case xha_BadAnswer => first | k_is | kx_is | kts_exm | kit_is | kernel_rfl)
      (case xhn_BadAnswer => first | k_is | kx_is | kts_exm | kit_is | kernel_rfl)
      (case xht_BadAnswer => first | k_is | kx_is | kts_exm | kit_is | kernel_rfl)
      (case xhm_BadAnswer => first | k_is | kx_is | kts_exm | kit_is | kernel_rfl)
      (case tk_BadAnswer_answer => first | k_is | kx_is | kts_exm | kit_is | kernel_rfl)
      (case na_BadAnswer_answer => first | k_is | kx_is | kts_exm | kit_is | kernel_rfl)
      (case a_BadAnswer___init__ => k_is)
      (case y_BadAnswer___init__ => k_is)
      (case l_BadAnswer___init__ => k_is)
      (case e_BadAnswer___init__ => k_is)
      (case k_BadAnswer___init__ => k_is)
      (case v_BadAnswer => first | k_is | kx_is | kts_exm | kit_is | kernel_rfl)
      (case a_BadKind => k_is)
      (case ini_BadKind => first | k_is | kx_is | kts_exm | kit_is | kernel_rfl)
      (case ovr_BadKind => first | k_is | kx_is | kts_exm | kit_is | kernel_rfl)
      (case dic_BadKind => first | k_is | kx_is | kts_exm | kit_is | kernel_rfl)
      (case sav_BadKind => first | k_is | kx_is | kts_exm | kit_is | kernel_rfl)
      (case bex_BadKind => first | k_is | kx_is | kts_exm | kit_is | kernel_rfl)
      (case tyc_BadKind => first | k_is | kx_is | kts_exm | kit_is | kernel_rfl)
      (case kpc_BadKind => first | k_is | kx_is | kts_exm | kit_is | kernel_rfl)
      (case xcl_BadKind => first | k_is | kx_is | kts_exm | kit_is | kernel_rfl)
      (case xga_BadKind => first | k_is | kx_is | kts_exm | kit_is | kernel_rfl)
      (case xgg_BadKind => first | k_is | kx_is | kts_exm | kit_is | kernel_rfl)
      (case xha_BadKind => first | k_is | kx_is | kts_exm | kit_is | kernel_rfl)
      (case xhn_BadKind => first | k_is | kx_is | kts_exm | kit_is | kernel_rfl)
      (case xht_BadKind => first | k_is | kx_is | kts_exm | kit_is | kernel_rfl)
      (case xhm_BadKind => first | k_is | kx_is | kts_exm | kit_is | kernel_rfl)
      (case tk_BadKind_wanted => first | k_is | kx_is | kts_exm | kit_is | kernel_rfl)
      (case na_BadKind_wanted => first | k_is | kx_is | kts_exm | kit_is | kernel_rfl)
      (case a_BadKind___init__ => k_is)
      (case y_BadKind___init__ => k_is)
      (case l_BadKind___init__ => k_is)
      (case e_BadKind___init__ => k_is)
      (case k_BadKind___init__ => k_is)
      (case v_BadKind => first | k_is | kx_is | kts_exm | kit_is | kernel_rfl)
      (case a_Stopped => k_is)
      (case ini_Stopped => first | k_is | kx_is | kts_exm | kit_is | kernel_rfl)
      (case ovr_Stopped => first | k_is | kx_is | kts_exm | kit_is | kernel_rfl)
      (case dic_Stopped => first | k_is | kx_is | kts_exm | kit_is | kernel_rfl)
      (case sav_Stopped => first | k_is | kx_is | kts_exm | kit_is | kernel_rfl)
      (case bex_Stopped => first | k_is | kx_is | kts_exm | kit_is | kernel_rfl)
      (case tyc_Stopped => first | k_is | kx_is | kts_exm | kit_is | kernel_rfl)
      (case kpc_Stopped => first | k_is | kx_is | kts_exm | kit_is | kernel_rfl)
      (case xcl_Stopped => first | k_is | kx_is | kts_exm | kit_is | kernel_rfl)
      (case xga_Stopped => first | k_is | kx_is | kts_exm | kit_is | kernel_rfl)
      (case xgg_Stopped => first | k_is | kx_is | kts_exm | kit_is | kernel_rfl)
      (case xha_Stopped => first | k_is | kx_is | kts_exm | kit_is | kernel_rfl)
      (case xhn_Stopped => first | k_is | kx_is | kts_exm | kit_is | kernel_rfl)
      (case xht_Stopped => first | k_is | kx_is | kts_exm | kit_is | kernel_rfl)
      (case xhm_Stopped => first | k_is | kx_is | kts_exm | kit_is | kernel_rfl)
      (case tk_Stopped_at => first | k_is | kx_is | kts_exm | kit_is | kernel_rfl)
      (case na_Stopped_at => first | k_is | kx_is | kts_exm | kit_is | kernel_rfl)
      (case a_Stopped___init__ => k_is)
      (case y_Stopped___init__ => k_is)
      (case l_Stopped___init__ => k_is)
      (case e_Stopped___init__ => k_is)
      (case k_Stopped___init__ => k_is)
      (case v_Stopped => first | k_is | kx_is | kts_exm | kit_is | kernel_rfl)
      (case a_Order => k_is)
      (case pg_Order => k_is)
      (case hd_Order => k_is)
      (case po_Order => k_is)
      (case sa_Order => k_is)
      (case mk_Order => k_is)
      (case kc_Order => k_is)
      (case na_Order_own_rule => k_is)
      (case na_Order_times_asked => k_is)
      (case a_Order___init__ => k_is)
      (case i_Order___init__ => k_is)
      (case l_Order___init__ => k_is)
      (case e_Order___init__ => k_is)
      (case k_Order___init__ => k_is)
      (case a_Order_counted => k_is)
      (case i_Order_counted => k_is)
      (case l_Order_counted => k_is)
      (case e_Order_counted => k_is)
      (case k_Order_counted => k_is)
      (case a_Order_ahead => k_is)
      (case i_Order_ahead => k_is)
      (case l_Order_ahead => k_is)
      (case e_Order_ahead => k_is)
      (case k_Order_ahead => k_is)
      (case a_Order_alike => k_is)
      (case i_Order_alike => k_is)
      (case l_Order_alike => k_is)
      (case e_Order_alike => k_is)
      (case k_Order_alike => k_is)
      (case a_Order_many_asked => k_is)
      (case i_Order_many_asked => k_is)
      (case l_Order_many_asked => k_is)
      (case e_Order_many_asked => k_is)
      (case k_Order_many_asked => k_is)
      (case rd_Order => first | k_is | kx_is | kts_exm | kit_is | kernel_rfl)
      (case rg_Order => first | k_is | kx_is | kts_exm | kit_is | kernel_rfl)
      (case vi_Order => first | k_is | kx_is | kts_exm | kit_is | kernel_rfl)
      (case a_PlainOrder => k_is)
      (case pg_PlainOrder => k_is)
      (case hd_PlainOrder => k_is)
      (case po_PlainOrder => k_is)
      (case sa_PlainOrder => k_is)
      (case mk_PlainOrder => k_is)
      (case kc_PlainOrder => k_is)
      (case na_PlainOrder_own_rule => k_is)
      (case na_PlainOrder_times_asked => k_is)
      (case a_PlainOrder___init__ => k_is)
      (case i_PlainOrder___init__ => k_is)
      (case l_PlainOrder___init__ => k_is)
      (case e_PlainOrder___init__ => k_is)
      (case k_PlainOrder___init__ => k_is)
      (case a_PlainOrder_ahead => k_is)
      (case i_PlainOrder_ahead => k_is)
      (case l_PlainOrder_ahead => k_is)
      (case e_PlainOrder_ahead => k_is)
      (case k_PlainOrder_ahead => k_is)
      (case a_PlainOrder_counted => k_is)
      (case a_PlainOrder_alike => k_is)
      (case a_PlainOrder_many_asked => k_is)
      (case a_KeyOrder => k_is)
      (case pg_KeyOrder => k_is)
      (case hd_KeyOrder => k_is)
      (case po_KeyOrder => k_is)
      (case sa_KeyOrder => k_is)
      (case mk_KeyOrder => k_is)
      (case kc_KeyOrder => k_is)
      (case na_KeyOrder_own_rule => k_is)
      (case na_KeyOrder_times_asked => k_is)
      (case na_KeyOrder_inner => k_is)
      (case na_KeyOrder_own_key => k_is)
      (case a_KeyOrder___init__ => k_is)
      (case i_KeyOrder___init__ => k_is)
      (case l_KeyOrder___init__ => k_is)
      (case e_KeyOrder___init__ => k_is)
      (case k_KeyOrder___init__ => k_is)
      (case dl_KeyOrder => k_is)
      (case do_KeyOrder => rfl)
      (case dr_KeyOrder => first | exact .cons ⟨_, rfl⟩ .nil | exact .cons rfl .nil)
      (case a_KeyOrder_ahead => k_is)
      (case i_KeyOrder_ahead => k_is)
      (case l_KeyOrder_ahead => k_is)
      (case e_KeyOrder_ahead => k_is)
      (case k_KeyOrder_ahead => k_is)
      (case a_KeyOrder_counted => k_is)
      (case a_KeyOrder_alike => k_is)
      (case a_KeyOrder_many_asked => k_is)
      (case a_DownOrder => k_is)
      (case pg_DownOrder => k_is)
      (case hd_DownOrder => k_is)
      (case po_DownOrder => k_is)
      (case sa_DownOrder => k_is)
      (case mk_DownOrder => k_is)
      (case kc_DownOrder => k_is)
      (case na_DownOrder_own_rule => k_is)
      (case na_DownOrder_times_asked => k_is)
      (case na_DownOrder_inner => k_is)
      (case a_DownOrder___init__ => k_is)
      (case i_DownOrder___init__ => k_is)
      (case l_DownOrder___init__ => k_is)
      (case e_DownOrder___init__ => k_is)
      (case k_DownOrder___init__ => k_is)
      (case a_DownOrder_ahead => k_is)
      (case i_DownOrder_ahead => k_is)
      (case l_DownOrder_ahead => k_is)
      (case e_DownOrder_ahead => k_is)
      (case k_DownOrder_ahead => k_is)
      (case a_DownOrder_counted => k_is)
      (case a_DownOrder_alike => k_is)
      (case a_DownOrder_many_asked => k_is)
      (case a_ThenOrder => k_is)
      (case pg_ThenOrder => k_is)
      (case hd_ThenOrder => k_is)
      (case po_ThenOrder => k_is)
      (case sa_ThenOrder => k_is)
      (case mk_ThenOrder => k_is)
      (case kc_ThenOrder => k_is)
      (case na_ThenOrder_own_rule => k_is)
      (case na_ThenOrder_times_asked => k_is)
      (case na_ThenOrder_inner => k_is)
      (case na_ThenOrder_second_one => k_is)
      (case a_ThenOrder___init__ => k_is)
      (case i_ThenOrder___init__ => k_is)
      (case l_ThenOrder___init__ => k_is)
      (case e_ThenOrder___init__ => k_is)
      (case k_ThenOrder___init__ => k_is)
      (case a_ThenOrder_ahead => k_is)
      (case i_ThenOrder_ahead => k_is)
      (case l_ThenOrder_ahead => k_is)
      (case e_ThenOrder_ahead => k_is)
      (case k_ThenOrder_ahead => k_is)
      (case a_ThenOrder_counted => k_is)
      (case a_ThenOrder_alike => k_is)
      (case a_ThenOrder_many_asked => k_is)
      (case a_need_order => k_is)
      (case l_need_order => k_is)
      (case e_need_order => k_is)
      (case k_need_order => k_is)
      (case a__law_mixed => k_is)
      (case l__law_mixed => k_is)
      (case e__law_mixed => k_is)
      (case k__law_mixed => k_is)
      (case a__law_take => k_is)
      (case l__law_take => k_is)
      (case e__law_take => k_is)
      (case k__law_take => k_is)
      (case a__law_kinds_by => k_is)
      (case l__law_kinds_by => k_is)
      (case e__law_kinds_by => k_is)
      (case k__law_kinds_by => k_is)
      (case a__law_noted => k_is)
      (case l__law_noted => k_is)
      (case e__law_noted => k_is)
      (case k__law_noted => k_is)
      (case a__law_rule => k_is)
      (case l__law_rule => k_is)
      (case e__law_rule => k_is)
      (case nt__law_rule => first | k_is | kernel_rfl)
      (case ht__law_rule => first | k_is | kernel_rfl)
      (case k__law_rule => k_is)
      (case a__law_key => k_is)
      (case l__law_key => k_is)
      (case e__law_key => k_is)
      (case nt__law_key => first | k_is | kernel_rfl)
      (case ht__law_key => first | k_is | kernel_rfl)
      (case k__law_key => k_is)
      (case a__law_orders => k_is)
      (case l__law_orders => k_is)
      (case e__law_orders => k_is)
      (case k__law_orders => k_is)
      (case a__law_keyed => k_is)
      (case l__law_keyed => k_is)
      (case e__law_keyed => k_is)
      (case k__law_keyed => k_is)
      (case a__law_ahead => k_is)
      (case l__law_ahead => k_is)
      (case e__law_ahead => k_is)
      (case k__law_ahead => k_is)
      (case a__law_alike => k_is)
      (case l__law_alike => k_is)
      (case e__law_alike => k_is)
      (case k__law_alike => k_is)
      (case a__law_called => k_is)
      (case l__law_called => k_is)
      (case e__law_called => k_is)
      (case k__law_called => k_is)
      (case a__law_asked => k_is)
      (case l__law_asked => k_is)
      (case e__law_asked => k_is)
      (case k__law_asked => k_is)
      (case a__law_by_hand_right => k_is)
      (case l__law_by_hand_right => k_is)
      (case e__law_by_hand_right => k_is)
      (case nt__law_by_hand_right => first | k_is | kernel_rfl)
      (case ht__law_by_hand_right => first | k_is | kernel_rfl)
      (case k__law_by_hand_right => k_is)
      (case a_law => k_is)
      (case l_law => k_is)
      (case e_law => k_is)
      (case k_law => k_is)
      (case x_stat => first | k_is | kx_is | kts_exm | kit_is | kernel_rfl)
      (case x_any_Stopped => first | k_is | kx_is | kts_exm | kit_is | kernel_rfl)
      (case x_i_Order => first | k_is | kx_is | kts_exm | kit_is | kernel_rfl)
      (case x_oha_Order => first | k_is | kx_is | kts_exm | kit_is | kernel_rfl)
      (case x_ohm_Order => first | k_is | kx_is | kts_exm | kit_is | kernel_rfl)
      (case x_i_PlainOrder => first | k_is | kx_is | kts_exm | kit_is | kernel_rfl)
      (case x_oha_PlainOrder => first | k_is | kx_is | kts_exm | kit_is | kernel_rfl)
      (case x_ohm_PlainOrder => first | k_is | kx_is | kts_exm | kit_is | kernel_rfl)
      (case x_i_KeyOrder => first | k_is | kx_is | kts_exm | kit_is | kernel_rfl)
      (case x_oha_KeyOrder => first | k_is | kx_is | kts_exm | kit_is | kernel_rfl)
      (case x_ohm_KeyOrder => first | k_is | kx_is | kts_exm | kit_is | kernel_rfl)
      (case x_i_DownOrder => first | k_is | kx_is | kts_exm | kit_is | kernel_rfl)
      (case x_oha_DownOrder => first | k_is | kx_is | kts_exm | kit_is | kernel_rfl)
      (case x_ohm_DownOrder => first | k_is | kx_is | kts_exm | kit_is | kernel_rfl)
      (case x_i_ThenOrder => first | k_is | kx_is | kts_exm | kit_is | kernel_rfl)
      (case x_oha_ThenOrder => first | k_is | kx_is | kts_exm | kit_is | kernel_rfl)
      (case x_ohm_ThenOrder => first | k_is | kx_is | kts_exm | kit_is | kernel_rfl)
      (case x_ohn => first | k_is | kx_is | kts_exm | kit_is | kernel_rfl)
      (case x_oht => first | k_is | kx_is | kts_exm | kit_is | kernel_rfl)
      (case z_len => k_is)
      (case z_min => k_is)
      (case z_range => k_is)
      (case z_repr => k_is)
      (case z_isinstance => k_is)
      (case z_bool => k_is)
      (case z_tuple => k_is)
      (case z_TypeError => k_is)
      (case z_RuntimeError => k_is)
      (case z_Exception => k_is)
    refine ⟨[(A.cc__law_by_hand_right, 321), (A.cc__law_key, 272), (A.cc__law_rule, 265)], rfl, ?_, ?_, _, _, T.c_law, fun base TB => K04.ok_law T TB⟩
    · intro p hp; simp only [List.mem_cons, List.not_mem_nil, or_false] at hp; rcases hp with rfl | rfl | rfl; exact T.nt__law_by_hand_right; exact T.nt__law_key; exact T.nt__law_rule
    · intro p hp; simp only [List.mem_cons, List.not_mem_nil, or_false] at hp; rcases hp with rfl | rfl | rfl; exact T.ht__law_by_hand_right; exact T.ht__law_key; exact T.ht__law_rule
