import PyProof.Rows.All
import Wide.All
import OpenK.AllK
import Wide.FinOn
import HandS.ForMost
import HandS.EndBits
import HandS.Defaults
import HandS.WideBits
import HandS.Style
import HandS.IsInst
import HandS.NoneIn
import HandS.More
import HandS.MakeKwOnly
import HandS.CallLocal
import HandS.SortKw
import HandS.TupMul
import HandS.TupAny
import KE.DataMinMax
import KE.KMinKey
import HandS.FStr
import HandS.SlotsOwn
import HandS.Codes
import HandS.Walk
import HandS.ExcInit
import KE.KExcInit
import HandS.ExcField
import HandS.ExcIs
import HandS.ExcOwn
import HandS.Lambda
import HandS.TryMany
import KE.KExcIs
import PyProof.Rows.RuleDivmod
import HandS.EndTab
import KE.KNestM
import HandS.WordsExc
import HandS.Conv
import HandS.SetFor
import PyProof.Rows.IntBool
import PyProof.StrReplace2
import HandS.DeepEq
import PyProof.Rows.SeqMore
import PyProof.Draws
import PyProof.EnumMake
import PyProof.TupleIter
import PyProof.ListStr
import HandS.ClsMeth
import HandS.ExcValue
import PyProof.StrBlock2
import PyProof.ReprNest
import KE.GoesEnumKw
import KE.GoesMore
import KE.GoesZip
import HandS.Nested
import PyProof.IsiBase
import PyProof.FactsAll.set
import PyProof.FactsAll.object
import KE.KExcLine
import KE.RegKTryMore
import PySem.Challenge.RW_runsort_k16_doors_of_runs_and_pieces
set_option Elab.async false
set_option maxRecDepth 100000
set_option maxHeartbeats 4000000
namespace Rs
open PySem PySem.Spec PyProof.Rows L2

/-! ### a promise that is kept while no text of a container is under way -/
def Clr (A : Around) : Prop := A.guards = some []
theorem Clr.deep {A : Around} (c : Clr A) (e : Env) : Clr (A.deeper e) := c

structure FnG (P : Program) (w : World) (K : PySem.W.Frag) (mg : Str → Option Value) (base : Heap) (k : Nat) (f : Addr) (fd : FuncData) (ps : List Str) (sp : Sp) : Prop where
  many : ∀ vs H Q E, sp vs H Q E → vs.length = ps.length
  go : ∀ (A : Around) (o : List Env) (s : Shared) (H : Hp) (us : List Value) (a : Args) (vs : List V) (Q : VK) (E : XK), Clr A → Room k A → Env0 P w K mg base A o s H →
    BindsTo s fd a (ps.zip us) → Vals vs us → sp vs H Q E → codeAny (model P w) A (.call (.ref f) a) (CR CX0 o P w H s Q E) s
theorem FnG.up {P : Program} {w : World} {K : PySem.W.Frag} {mg : Str → Option Value} {base : Heap} {j k : Nat} {f : Addr} {fd : FuncData} {ps : List Str} {sp : Sp}
    (F : FnG P w K mg base j f fd ps sp) (h : j ≤ k) : FnG P w K mg base k f fd ps sp :=
  ⟨F.many, fun A o s H us a vs Q E c r => F.go A o s H us a vs Q E c (r.mono h)⟩
theorem FnG.of {P : Program} {w : World} {K : PySem.W.Frag} {mg : Str → Option Value} {base : Heap} {k : Nat} {f : Addr} {fd : FuncData} {ps : List Str} {sp : Sp}
    (F : FnOk P w K mg base CX0 k f fd ps sp) : FnG P w K mg base k f fd ps sp :=
  ⟨F.len, fun A o s H us a vs Q E _ r e b v h => F.run A o s H a us vs Q E r e b v h⟩

section
variable {P : Program} {w : World} {K : PySem.W.Frag} {mg : Str → Option Value} {base : Heap}
/-- a def by its body, as FnG -/
theorem defG {x qual : Str} {st : Stmt} {f : Addr} {fd : FuncData} {N ps : List Str} {k : Nat} {sp : Sp} (F : Fun K x qual st f fd) (S : FnScope N ps (defScope st))
    (many : ∀ vs H Q E, sp vs H Q E → vs.length = ps.length)
    (body : ∀ (cdv : Value) (A : Around) (o : List Env) (s : Shared) (H : Hp) (vs : List V) (Q : VK) (E : XK), Clr A →
      Room k (A.deeper (envOfC qual (defScope st) s.heap.objs.size f cdv)) → sp vs H Q E →
      ∃ t, PSs (cxOf CX0 P w K mg base N qual (defScope st) f cdv A o s H E).nox (defBody st) t ∧ t { nx := fun _ H' => Q .non H', rt := Q } (start N vs) H) :
    FnG P w K mg base (k + 1) f fd ps sp := by
  obtain ⟨oc, od, kV, doc, pm, an, cdv, ct, osl, rfl, lk, hcd⟩ := F.ex
  refine ⟨many, ?_⟩
  intro A o s H us a vs Q E c r e0 hb rv hsp
  obtain ⟨t, ht, hq⟩ := body cdv A o s H vs Q E c (r.deeper _) hsp
  have inK : ∀ b ob, K.lookup b = some ob → s.heap.get? b = some ob := fun b ob e => (e0.bs b ob (e0.mod.kin b ob e)).1
  have noL : s.heap.NoLimit := e0.mod.nolimit.keeps fun b ob e => (e0.bs b ob e).1
  refine codeAny_call_function r.depth (inK _ _ lk) rfl S.co S.gen rfl (PySem.W.codeRec_of inK hcd) (hb _ _ _ _ ?_)
  refine wpAny_newFunctionEnv_cells S.kind ?_ ?_
  · rintro ⟨n, v⟩ hy
    rcases S.par n (List.of_mem_zip hy).1 with q | q
    · exact Or.inl q
    · exact Or.inr ⟨q, PySem.W.cellsFrom_some _ _ _ (Or.inl q)⟩
  · intro env he s1 x1
    subst he
    refine ⟨noL.keeps x1.toInCall.keep, codeAny_func ?_⟩
    have J := inv_start (CX := CX0) (mg := mg) (E := E) (qual := qual) S r.hd e0 (many _ _ _ _ hsp) rv x1
    refine wpAny_mono (ht.nox.run [] s1 _ H _ J hq) ?_ ?_
    · intro fl s2 h2
      cases fl with
      | next => obtain ⟨_, H2, J2, q2⟩ := h2; exact ⟨V.non, H2, J2.os, J2.bare, J2.base, J2.hok, rfl, q2⟩
      | ret u => obtain ⟨v, _, H2, J2, r2, q2⟩ := h2; exact ⟨v, H2, J2.os, J2.bare, J2.base, J2.hok, r2, q2⟩
      | brk => obtain ⟨_, _, _, q2⟩ := h2; exact q2.elim
      | cont => obtain ⟨_, _, _, q2⟩ := h2; exact q2.elim
    · intro e s2 h2; exact h2
end

section
variable {X : Cx} {k : Nat} {f : Addr} {fd : FuncData} {ps : List Str} {sp : Sp} {dvs : List V} {ds : List Value} {x : Str} {p pos : Pos} {e : Expr} {es : List Expr} {t : TA}
theorem goG {pins : List (Addr × Obj)} {σ : L2.St} {H : Hp} {s : Shared} {Q : VK} {us : List Value} {vs : List V} (F : FnG X.prog X.w X.K X.mg X.base k f fd ps sp) (c : Clr X.A) (hr : Room k X.A)
    (hb : Binds X.K fd ps ds) (hd : Vals dvs ds) (I : Inv X pins σ H s) (r : Vals vs us) (h : sp (vs ++ dvs) H Q E0) : wpAny (model X.prog X.w) X.A (call (.ref f) us) (EP X pins σ Q) X.xe s := by
  have r2 := r.append hd
  have hl : (us ++ ds).length = ps.length := r2.length.symm.trans (F.many _ _ _ _ h)
  apply wpAny_call
  refine codeAny_mono (F.go X.A X.stack s H (us ++ ds) ⟨us, []⟩ (vs ++ dvs) Q E0 c hr I.env0 (hb s us I.kIn hl) r2 h) ?_
  intro q s2 h2
  match q, h2 with
  | .error _, h2 => exact h2.elim
  | .ok (.ret _), h2 => exact I.after h2
  | .ok .next, h2 => exact h2.elim
  | .ok .brk, h2 => exact h2.elim
  | .ok .cont, h2 => exact h2.elim
/-- f(e, ..) of such a def -/
theorem pe_callG (F : FnG X.prog X.w X.K X.mg X.base k f fd ps sp) (c : Clr X.A) (hr : Room k X.A) (hg : Gl X x) (hm : X.mg x = some (.ref f)) (hk : PySem.W.keepIn X.K (.ref f) = true)
    (hb : Binds X.K fd ps ds) (hd : Vals dvs ds) (ha : PA X (e :: es) t) (hdb : (x == ("__debug__" : Str)) = false := by decide)
    (he : starEach (e :: es) X.env = (false, eval e X.env) :: starEach es X.env := by rfl) (hpl : (backTo pos (starEach es X.env)).any (·.1) = false := by rfl) :
    PE X (.Call (.Name x p) (e :: es) [] pos) (tCall sp dvs E0 t) := by
  constructor
  intro pins s σ H Q I h
  apply wpAny_Call_Name_kw
  refine ld_glob I hg hm ?_ hdb
  refine PySem.W.callWith_K (h₀ := X.base) I.ok.mod.kin hk ?_ he hpl
  refine thn (ha.run pos pins s σ H _ I h) ?_
  rintro us s1 ⟨vs, H1, I1, r, q⟩
  exact ⟨I1.kIn, goG F c hr hb hd I1 r q⟩
theorem pe_callG0 (F : FnG X.prog X.w X.K X.mg X.base k f fd ps sp) (c : Clr X.A) (hr : Room k X.A) (hg : Gl X x) (hm : X.mg x = some (.ref f)) (hk : PySem.W.keepIn X.K (.ref f) = true)
    (hb : Binds X.K fd ps ds) (hd : Vals dvs ds) (hdb : (x == ("__debug__" : Str)) = false := by decide) : PE X (.Call (.Name x p) [] [] pos) (tCall sp dvs E0 tNil) := by
  constructor
  intro pins s σ H Q I h
  apply wpAny_Call_Name_kw
  refine ld_glob I hg hm ?_ hdb
  exact PySem.W.callWith_K0 I.kIn hk (goG (us := []) F c hr hb hd I .nil h)
end

/-! ### repr of data -/
/-- data that can be shown -/
structure Shw (d : PyData) : Prop where
  ok : d.showable = true
  sz : d.shown.length ≤ sizeLine
def rRepr (K : PySem.W.Frag) : List V → Hp → VK → Prop := fun xs H Q => ∃ x d, xs = [x] ∧ Dp K H x d ∧ Shw d ∧ d.depth ≤ 50 ∧ Q (.str d.shown) H
mutual
theorem dp_noDict {K : PySem.W.Frag} {H : Hp} : ∀ (d : PyData) (v : V), Dp K H v d → d.hasDict = false
  | .none, _, _ => by simp only [PyData.hasDict]
  | .bool _, _, _ => by simp only [PyData.hasDict]
  | .int _, _, _ => by simp only [PyData.hasDict]
  | .str _, _, _ => by simp only [PyData.hasDict]
  | .list ds, _, h => by
    cases h with
    | lst _ ha => simp only [PyData.hasDict]; exact dps_noDict ds _ ha
  | .tuple ds, _, h => by
    cases h with
    | tup _ ha => simp only [PyData.hasDict]; exact dps_noDict ds _ ha
  | .dict _, _, h => by cases h
theorem dps_noDict {K : PySem.W.Frag} {H : Hp} : ∀ (ds : List PyData) (vs : List V), DpAll K H vs ds → PyData.hasDictAll ds = false
  | [], _, _ => by simp only [PyData.hasDictAll]
  | d :: ds, _, h => by
    cases h with
    | cons h1 h2 => simp only [PyData.hasDictAll, dp_noDict d _ h1, dps_noDict ds _ h2, Bool.or_self]
end
section
variable {X : Cx}
theorem call_repr {k : Nat} (c : Clr X.A) (hr : Room k X.A) : CallR X (.builtin "repr") (rRepr X.K) := by
  intro pins s σ H xs us Q I r h
  obtain ⟨x, d, rfl, hd, hs, hdp, q⟩ := h
  cases r with
  | cons r1 r2 =>
    cases r2
    rename_i u
    have nd := dp_noDict d x hd
    obtain ⟨as, rd⟩ := Dp.reads I d x u hd r1
    have fin : ∀ h' t tk, (∀ b o, s.heap.get? b = some o → h'.get? b = some o) → EP X pins σ Q (.str d.shown t) { s with heap := h', toks := tk } :=
      fun h' t tk kp => ⟨.str d.shown, H, I.kept kp, ⟨t, rfl⟩, q⟩
    have un := hr.units
    have room : X.A.units + (d.depth + 1) < cLine := by omega
    cases x with
    | ref a =>
      cases (show u = Value.ref a from r1)
      exact repr_of_reads' (s := s) rd hs.ok (PyData.noDict_hsm nd) c room (fun _ _ e => e) fin hs.sz
    | non =>
      cases (show u = Value.none from r1)
      cases hd
      have e : PyData.shown .none = ("None" : Str) := by simp only [PyData.shown]
      rw [e] at q
      exact PySem.P.repr_of_none ⟨.str _, H, I.tok _, ⟨_, rfl⟩, q⟩
    | bl b =>
      cases (show u = Value.bool b from r1)
      cases hd
      have e : PyData.shown (.bool b) = ((if b then "True" else "False" : String) : Str) := by cases b <;> simp only [PyData.shown] <;> rfl
      rw [e] at q
      cases b <;> exact PySem.P.repr_of_bool ⟨.str _, H, I.tok _, ⟨_, rfl⟩, q⟩
    | int i =>
      obtain ⟨t, rfl⟩ := (show ∃ t, u = Value.int i t from r1)
      cases hd
      have e : PyData.shown (.int i) = ((toString i : String) : Str) := by simp only [PyData.shown]
      have z : i.natAbs.log2 < 1920 := by simpa [PyData.showable] using hs.ok
      rw [e] at q
      exact PySem.P.repr_of_int z ⟨.str _, H, I.tok _, ⟨_, rfl⟩, q⟩
    | str x =>
      obtain ⟨t, rfl⟩ := (show ∃ t, u = Value.str x t from r1)
      cases hd
      have e : PyData.shown (.str x) = reprText x := by simp only [PyData.shown]
      have z := hs.sz
      rw [e] at q z
      exact PySem.P.repr_of_str ⟨.str _, H, I.tok _, ⟨_, rfl⟩, q⟩ z
    | byt _ => cases hd
    | flt _ => cases hd
    | ty _ => cases hd
end

/-! ### slices with a step -/
/-- the places that a slice takes -/
def slIx (n : Nat) (lo hi st : Option Int) : List Nat := sliceRange (sliceBounds lo hi st n).1 (sliceBounds lo hi st n).2.1 (sliceBounds lo hi st n).2.2
def pickV (xs : List V) (lo hi st : Option Int) : List V := (slIx xs.length lo hi st).filterMap (xs[·]?)
theorem vals_pick {xs : List V} {us : List Value} (r : Vals xs us) : ∀ ix : List Nat, Vals (ix.filterMap (xs[·]?)) (ix.filterMap (us[·]?))
  | [] => .nil
  | i :: ix => by
    have ih := vals_pick r ix
    cases e : xs[i]? with
    | none =>
      have e' := r.none_of e
      rw [List.filterMap_cons_none e, List.filterMap_cons_none e']
      exact ih
    | some x =>
      obtain ⟨u, e', ru⟩ := r.get e
      rw [List.filterMap_cons_some e, List.filterMap_cons_some e']
      exact .cons ru ih
def tSl3 (K : PySem.W.Frag) (te : TE) (tl th ts : TO) : TE := fun σ H Q => te σ H fun x H1 => tl σ H1 fun l H2 => th σ H2 fun u H3 => ts σ H3 fun st H4 => ∃ a xs, x = .ref a ∧ SqL K H4 a xs ∧ st ≠ some 0 ∧
  ∀ p, H4 p = none → Q (.ref p) (upd H4 p (.lst (pickV xs l u st)))
section
variable {X : Cx}
theorem pe_slice3 {e : Expr} {te : TE} {lo hi st : Option Expr} {tl th ts : TO} {p2 pos : Pos} (he : PE X e te) (hl : PO X lo tl) (hh : PO X hi th) (hs : PO X st ts)
    (hsub : ∀ ov iv, subscripted (.Slice lo hi st p2) false ov iv = operate [ov, iv] (getItem ov iv) := by intro _ _; with_unfolding_all rfl) : PE X (.Subscript e (.Slice lo hi st p2) pos) (tSl3 X.K te tl th ts) := by
  constructor
  intro pins s σ H Q I h
  refine PyProof.Rows.Subscript_ (thn (he.run pins s σ H _ I h) ?_)
  rintro v s1 ⟨x, H1, I1, r1, q1⟩
  refine wpAny_Slice (thn (hl.run pins s1 σ H1 _ I1 q1) ?_)
  rintro vl s2 ⟨l, H2, I2, pl, q2⟩
  refine thn (hh.run pins s2 σ H2 _ I2 q2) ?_
  rintro vu s3 ⟨u, H3, I3, pu, q3⟩
  refine thn (hs.run pins s3 σ H3 _ I3 q3) ?_
  rintro vs s4 ⟨c, H4, I4, ps, a, xs, ex, hx, h0, q4⟩
  subst ex
  cases r1
  have I5 : Inv X pins σ H4 { s4 with heap := s4.heap.push { cls := .type "slice", data := .fields #[vl, vu, vs] } } := I4.kept (t' := s4.toks) fun b ob q => Heap.get?_push_of_some _ q
  obtain ⟨its, rv, ht, hz⟩ := I5.list hx
  have hlen : its.length = xs.length := rv.length.symm
  show wpAny (model X.prog X.w) X.A (subscriptTail e (.Slice lo hi st p2) (.ref a) (.ref s4.heap.objs.size)) (EP X pins σ Q) X.xe _
  refine tail_any (ops := [.ref a, .ref s4.heap.objs.size]) ht.isList.typeIs PySem.slot_list_getitem.lookup ?_ (hsub _ _)
  refine wpAny_getItem_list_slice ht.isList (Heap.IsSliceOf.new _ vl vu vs) pl pu ps h0 ?_ (by rw [List.size_toArray, hlen]; exact hz)
  have hp : PySem.slicePick its.toArray l u c = ((slIx xs.length l u c).filterMap (its[·]?)).toArray := by
    unfold PySem.slicePick slIx
    rw [List.size_toArray, hlen]
    simp only [List.getElem?_toArray]
  have hn := PySem.slicePick_size_le its.toArray l u c
  rw [hp, List.size_toArray, List.size_toArray, hlen] at hn
  rw [hp]
  refine ⟨.ref _, _, I5.laid (t' := s4.toks) (o := .lst (pickV xs l u c)) (fun b ob q => Heap.get?_push_of_some _ q) (Nat.le_refl _) ?_, rfl, q4 _ (I5.hok.fresh (Nat.le_refl _))⟩
  refine ⟨?_, _, 0, vals_pick rv _, Heap.get?_push_size _ rfl⟩
  have e := (vals_pick rv (slIx xs.length l u c)).length
  show (List.filterMap (fun i => xs[i]?) (slIx xs.length l u c)).length ≤ sizeLine
  rw [e]
  exact Nat.le_trans hn hz
end

/-! ### a call by keywords alone -/
section
variable {X : Cx} {CX : CXT} {k : Nat} {f : Addr} {fd : FuncData} {ps ks : List Str} {sp : Sp} {E : XK} {x : Str} {p pos : Pos} {kws : List Keyword} {tk : TA} {g : List Value → List Value → List Value} {gV : List V → List V → List V}
theorem pe_callK0 (F : FnOk X.prog X.w X.K X.mg X.base CX k f fd ps sp) (hr : Room k X.A) (hg : Gl X x) (hm : X.mg x = some (.ref f)) (hk : PySem.W.keepIn X.K (.ref f) = true) (hb : KBn X.K fd ps 0 ks g gV) (hx : Passes CX X E)
    (hkw : PK X kws tk) (hall : (backToKw pos (keywordEach kws X.env)).all (·.1.isSome) = true := by rfl) (hks : (backToKw pos (keywordEach kws X.env)).filterMap (·.1) = ks := by rfl)
    (hdb : (x == ("__debug__" : Str)) = false := by decide) : PE X (.Call (.Name x p) [] kws pos) (tCallN 0 ks.length sp gV E tNil tk) := by
  constructor
  intro pins s σ H Q I h
  apply wpAny_Call_Name_kw
  refine ld_glob I hg hm ?_ hdb
  have np : ((backTo pos (starEach [] X.env)).any (·.1) || (backToKw pos (keywordEach kws X.env)).any (·.1.isNone)) = false := by
    have z : ∀ l : List (Option Str × Sem Value), l.all (·.1.isSome) = true → l.any (·.1.isNone) = false := by
      intro l hl
      induction l with
      | nil => rfl
      | cons q l ih =>
        simp only [List.all_cons, Bool.and_eq_true] at hl
        simp only [List.any_cons, ih hl.2, Bool.or_false]
        cases e : q.1 with
        | none => rw [e] at hl; exact absurd hl.1 (by decide)
        | some _ => rfl
    rw [z _ hall]; rfl
  refine PySem.W.callWith_KW0 (h₀ := X.base) I.ok.mod.kin hk hall ?_ np
  refine thn (hkw.run pos pins s σ H _ I h) ?_
  rintro ws s1 ⟨zs, H1, I1, rz, _, l2, q⟩
  refine ⟨I1.kIn, ?_⟩
  rw [hks]
  exact run_fnN (us := []) F hr hb hx I1 .nil rz rfl l2 q
end

/-! ### the law's own call -/
/-- the heap that knows of nothing but the script (at a, where it stands apart) -/
def scriptH (own : Bool) (a : Addr) (o : Obj) (ns : List Int) : Hp := fun b => if own = true ∧ b = a then some (.frz o (.lst (ns.map V.int))) else none
theorem scriptH_only (own : Bool) (a : Addr) (o : Obj) (ns : List Int) : Only (scriptH own a o ns) := fun b => by
  unfold scriptH
  split
  · exact Or.inr ⟨_, _, rfl⟩
  · exact Or.inl rfl
theorem scriptH_some {own : Bool} {a b : Addr} {o : Obj} {ns : List Int} {u : HO} (h : scriptH own a o ns b = some u) : own = true ∧ b = a ∧ u = .frz o (.lst (ns.map V.int)) := by
  unfold scriptH at h
  split at h
  · rename_i z; exact ⟨z.1, z.2, (Option.some.inj h).symm⟩
  · cases h
theorem lawG {P : Program} {w : World} {K : PySem.W.Frag} {mg mb : Str → Option Value} {k : Nat} {fa a : Addr} {fd : FuncData} {x : Str} {sp : Sp} {s : Shared} {vs : List Value} {ns : List Int}
    (KX : K.In s.heap) (hm : s.heap.Ns mainGlobals mg) (hb : s.heap.Ns builtinsNs mb) (hbb : ∀ x : Str, x ≠ "__name__" → mb x = bootBuiltins x) (hlim : s.heap.NoLimit) (hg : s.gens = #[])
    (ha : s.heap.get? a = some { cls := .type "list", data := .seq vs.toArray }) (hi : IntsAre vs ns) (hl : ns.length ≤ sizeLine) (hr : Room k callerA)
    (F : ∀ base : Heap, K.In base → base.Ns mainGlobals mg → FnG P w K mg base k fa fd [x] sp) (hbind : ∀ (s : Shared) (u : Value), BindsTo s fd ⟨[u], []⟩ [(x, u)])
    (hsp : ∀ H : Hp, Only H → SqL K H a (ns.map V.int) → sp [.ref a] H (fun v _ => v = .bl true) E0) :
    codeAny (model P w) callerA (.call (.ref fa) ⟨[.ref a], []⟩) (fun r s' => r = .ok (.ret (.bool true)) ∧ OldK s.heap s'.heap ∧ s'.os = s.os ∧ AllBare s'.gens) s := by
  have rv := vals_ints hi
  have lv := hi.length
  -- own: the script is no object of the written part
  have key : ∀ own : Bool, (own = true → K.lookup a = none) → (own = false → ∃ o, K.lookup a = some o) →
      codeAny (model P w) callerA (.call (.ref fa) ⟨[.ref a], []⟩) (fun r s' => r = .ok (.ret (.bool true)) ∧ OldK s.heap s'.heap ∧ s'.os = s.os ∧ AllBare s'.gens) s := by
    intro own h1 h2
    have hO := scriptH_only own a { cls := .type "list", data := .seq vs.toArray } ns
    have hS := fun {b : Addr} {u : HO} => scriptH_some (own := own) (a := a) (b := b) (o := { cls := .type "list", data := .seq vs.toArray }) (ns := ns) (u := u)
    generalize eH : scriptH own a { cls := .type "list", data := .seq vs.toArray } ns = H at hO hS
    have frs0 : ∀ {b : Addr} {o : Obj} {es : Array DictEntry} {n : Nat}, s.heap.get? b = some o → o.data = .dict es n → H b = none := by
      intro b o es n e d
      cases q : H b with
      | none => rfl
      | some u =>
        obtain ⟨_, rfl, _⟩ := hS q
        rw [ha] at e
        cases e
        have d' : Data.seq vs.toArray _ = Data.dict es n := d
        cases d'
    have ns0 : ∀ {b : Addr} {m : Str → Option Value}, s.heap.Ns b m → (hidT s.heap H).Ns b m := by
      rintro b m ⟨o, es, n, e, d, r⟩
      exact ⟨o, es, n, hidT_get e (frs0 e d), d, r⟩
    have K0 : K.In (hidT s.heap H) := by
      intro b o e
      refine hidT_get (KX b o e) ?_
      cases q : H b with
      | none => rfl
      | some u =>
        obtain ⟨z, rfl, _⟩ := hS q
        rw [h1 z] at e
        cases e
    have hok : HOk P w H s.heap := by
      intro b u q
      obtain ⟨_, rfl, rfl⟩ := hS q
      exact ⟨ha, by rw [List.length_map]; exact hl, vs, _, rv, ha⟩
    have M0 : Mod K mg (hidT s.heap H) := by
      refine ⟨K0, ns0 hm, ⟨mb, ns0 hb, hbb⟩, ?_⟩
      obtain ⟨mc, q1, q2⟩ := hlim
      exact ⟨mc, ns0 q1, q2⟩
    have env : Env0 P w K mg (hidT s.heap H) callerA [] s H := by
      refine ⟨rfl, M0, fun b o e => of_hidT e, Nat.le_of_eq (hidT_size _ _), trivial, ?_, hok, .of_eq hg⟩
      intro b hb'
      cases hb'
    have sq : SqL K H a (ns.map V.int) := by
      cases own with
      | true => exact Or.inl (Or.inr ⟨_, by rw [← eH]; exact if_pos ⟨rfl, rfl⟩⟩)
      | false =>
        obtain ⟨o, e⟩ := h2 rfl
        have e' := KX a o e
        rw [ha] at e'
        cases e'
        exact Or.inr ⟨_, vs.toArray, _, e, rfl, rfl, rfl, by rw [List.size_toArray, lv]; exact hl, by simpa using rv⟩
    refine codeAny_mono ((F _ K0 (ns0 hm)).go callerA [] s H [.ref a] ⟨[.ref a], []⟩ [.ref a] _ E0 rfl hr env (hbind s (.ref a)) (.cons rfl .nil) (hsp H hO sq)) ?_
    intro r s' h
    match r, h with
    | .error _, h => exact h.elim
    | .ok .next, h => exact h.elim
    | .ok .brk, h => exact h.elim
    | .ok .cont, h => exact h.elim
    | .ok (.ret u), h =>
      obtain ⟨v, H', os, bare, un, hok', r', q⟩ := h
      cases (show v = .bl true from q)
      cases (show u = Value.bool true from r')
      refine ⟨rfl, OldK.of_keep ?_, os, bare⟩
      intro b o e
      cases q : H b with
      | none => exact un.keep b o e q (fun z => nomatch z) (fun z => nomatch z)
      | some u =>
        obtain ⟨_, rfl, rfl⟩ := hS q
        rw [ha] at e
        cases e
        obtain ⟨e2, _⟩ := hok' b _ (un.frzs b _ _ q)
        exact e2
  cases hk : K.lookup a with
  | some o => exact key false (fun z => Bool.noConfusion z) (fun _ => ⟨o, hk⟩)
  | none => exact key true (fun _ => hk) (fun z => Bool.noConfusion z)
theorem walkG {l : PySem.W.OpenLaw} {n k : Nat} {q : Program} {loose : List Str} {XP : (Str → Option Value) → Heap → Prop} {YP : World → Heap → Prop} {d : DefRec} {K : Params → PySem.W.Frag} {sp : PySem.W.Frag → Sp} {x : Str}
    (hn : l.most = some n) (hn2 : n ≤ sizeLine) (hdf : d.params.defaults = []) (hr : Room k callerA) (hY : ∀ (w : World) (h : Heap), YP w h → (K w.params).In h)
    (F : ∀ (w : World) (mg : Str → Option Value) (fa : Addr) (h : Heap), (K w.params).In h → h.Ns mainGlobals mg → mg d.name = some (.ref fa) →
      ∃ fd : FuncData, (∀ (s : Shared) (u : Value), BindsTo s fd ⟨[u], []⟩ [(x, u)]) ∧
        ∀ base : Heap, (K w.params).In base → base.Ns mainGlobals mg → FnG l.prog w (K w.params) mg base k fa fd [x] (sp (K w.params)))
    (hsp : ∀ (K : PySem.W.Frag) (H : Hp) (a : Addr) (ns : List Int), ns.length ≤ n → (∀ z ∈ ns, Builtin.Int.intBits z ≤ 1048576) → SqL K H a (ns.map V.int) → sp K [.ref a] H (fun v _ => v = .bl true) E0) :
    PySem.W.WalkO q loose XP YP l.row.toRowW d [] (fun f vs => PySem.call f vs) := by
  apply Att.attach_callB hn hdf
  intro w s0 s1 mg mb fa o pm cd doc a vs ns G Y ho hd hcd hmg hobj hints hlen hbits hg
  have KX := hY w _ Y
  obtain ⟨fd, hb, hF⟩ := F w mg fa _ KX G.T.g hmg
  exact lawG KX G.T.g G.T.b G.T.builtins G.T.nolimit hg hobj hints (Nat.le_trans hlen hn2) hr hF hb fun H _ hS => hsp _ H a ns hlen hbits hS
end Rs

namespace Rs
open PySem PySem.Spec PyProof.Rows L2

/-! ### what is known of the heap -/
abbrev Led := List (Addr × HO)
/-- H0: the heap at the entry; M: the objects of it that may have changed; L: what stands now -/
structure Hs (H0 : Hp) (M : List Addr) (H : Hp) (L : Led) : Prop where
  nd : (L.map (·.1)).Nodup
  is : ∀ q ∈ L, H q.1 = some q.2
  old : ∀ b o, H0 b = some o → b ∉ M → H b = some o
  mu : ∀ b ∈ M, H b ≠ none
/-- one entry exchanged -/
inductive Chg (a : Addr) (o o' : HO) : Led → Led → Prop where
  | here {L : Led} : Chg a o o' ((a, o) :: L) ((a, o') :: L)
  | there {q : Addr × HO} {L L' : Led} : Chg a o o' L L' → Chg a o o' (q :: L) (q :: L')
theorem Chg.keys {a : Addr} {o o' : HO} {L L' : Led} (c : Chg a o o' L L') : L'.map (·.1) = L.map (·.1) := by
  induction c with
  | here => rfl
  | there _ ih => simp only [List.map_cons, ih]
theorem Chg.mem {a : Addr} {o o' : HO} {L L' : Led} (c : Chg a o o' L L') : (a, o) ∈ L := by
  induction c with
  | here => exact List.mem_cons_self
  | there _ ih => exact List.mem_cons_of_mem _ ih
theorem Chg.of {a : Addr} {o o' : HO} {L L' : Led} (c : Chg a o o' L L') (nd : (L.map (·.1)).Nodup) : ∀ q ∈ L', q = (a, o') ∨ (q ∈ L ∧ q.1 ≠ a) := by
  induction c with
  | @here L =>
    intro q hq
    rcases List.mem_cons.mp hq with e | hq
    · exact Or.inl e
    · refine Or.inr ⟨List.mem_cons_of_mem _ hq, ?_⟩
      intro e
      simp only [List.map_cons, List.nodup_cons] at nd
      exact nd.1 (e ▸ List.mem_map_of_mem hq)
  | @there p L L' c ih =>
    intro q hq
    simp only [List.map_cons, List.nodup_cons] at nd
    rcases List.mem_cons.mp hq with e | hq
    · subst e
      refine Or.inr ⟨List.mem_cons_self, ?_⟩
      intro e
      exact nd.1 (e ▸ List.mem_map_of_mem (f := (·.1)) c.mem)
    · rcases ih nd.2 q hq with e | ⟨h1, h2⟩
      · exact Or.inl e
      · exact Or.inr ⟨List.mem_cons_of_mem _ h1, h2⟩
section
variable {H0 H H' : Hp} {M : List Addr} {L L' : Led} {a : Addr} {o o' : HO}
theorem Hs.new (S : Hs H0 M H L) (hp : H a = none) (o : HO) : H0 a = none ∧ Hs H0 M (upd H a o) ((a, o) :: L) := by
  have n0 : H0 a = none := by
    cases e : H0 a with
    | none => rfl
    | some u =>
      by_cases hm : a ∈ M
      · exact absurd hp (S.mu a hm)
      · have := S.old a u e hm
        rw [hp] at this
        cases this
  have ne : ∀ q ∈ L, q.1 ≠ a := fun q hq e => by
    have := S.is q hq
    rw [e, hp] at this
    cases this
  refine ⟨n0, ?_, ?_, ?_, ?_⟩
  · simp only [List.map_cons, List.nodup_cons]
    refine ⟨fun hm => ?_, S.nd⟩
    obtain ⟨q, hq, e⟩ := List.mem_map.mp hm
    exact ne q hq e
  · intro q hq
    rcases List.mem_cons.mp hq with e | hq
    · subst e; exact upd_same
    · rw [upd_ne (ne q hq)]; exact S.is q hq
  · intro b u e hm
    have hb : b ≠ a := fun z => by rw [z, n0] at e; cases e
    rw [upd_ne hb]
    exact S.old b u e hm
  · intro b hb
    unfold upd
    split
    · simp
    · exact S.mu b hb
theorem Hs.put (S : Hs H0 M H L) (c : Chg a o o' L L') (hm : H0 a = none ∨ a ∈ M) : Hs H0 M (upd H a o') L' := by
  refine ⟨by rw [c.keys]; exact S.nd, ?_, ?_, ?_⟩
  · intro q hq
    rcases c.of S.nd q hq with e | ⟨h1, h2⟩
    · subst e; exact upd_same
    · rw [upd_ne h2]; exact S.is q h1
  · intro b u e hb
    have ne : b ≠ a := fun z => by
      subst z
      rcases hm with z | z
      · rw [z] at e; cases e
      · exact hb z
    rw [upd_ne ne]
    exact S.old b u e hb
  · intro b hb
    unfold upd
    split
    · simp
    · exact S.mu b hb
/-- behind a call that changed at most the objects of C (each fresh or in M), and left L' -/
theorem Hs.call (S : Hs H0 M H L) {C : List Addr} (k : ∀ b u, H b = some u → b ∉ C → H' b = some u) (hC : ∀ b ∈ C, (H0 b = none ∨ b ∈ M) ∧ H' b ≠ none) (nd : (L'.map (·.1)).Nodup)
    (is : ∀ q ∈ L', H' q.1 = some q.2) : Hs H0 M H' L' := by
  refine ⟨nd, is, ?_, ?_⟩
  · intro b u e hb
    refine k b u (S.old b u e hb) fun hc => ?_
    rcases (hC b hc).1 with z | z
    · rw [z] at e; cases e
    · exact hb z
  · intro b hb
    by_cases hc : b ∈ C
    · exact (hC b hc).2
    · intro z
      cases e : H b with
      | none => exact S.mu b hb e
      | some u =>
        rw [k b u e hc] at z
        cases z
/-- nothing was changed -/
theorem Hs.more (S : Hs H0 M H L) (k : Same H H') : Hs H0 M H' L :=
  S.call (C := []) (fun b u e _ => k b u e) (fun b hb => nomatch hb) S.nd fun q hq => k _ _ (S.is q hq)
/-- nothing was changed, one object is new -/
theorem Hs.more1 (S : Hs H0 M H L) (k : Same H H') (hp : H a = none) (h' : H' a = some o) : H0 a = none ∧ Hs H0 M H' ((a, o) :: L) := by
  obtain ⟨n0, S'⟩ := S.new hp o
  refine ⟨n0, (S.more k).call (C := []) (fun b u e _ => e) (fun b hb => nomatch hb) S'.nd ?_⟩
  intro q hq
  rcases List.mem_cons.mp hq with e | hq
  · subst e; exact h'
  · exact k _ _ (S.is q hq)
/-- one object was changed, to o' -/
theorem Hs.one (S : Hs H0 M H L) (c : Chg a o o' L L') (hm : H0 a = none ∨ a ∈ M) (k : ∀ b u, H b = some u → b ≠ a → H' b = some u) (h' : H' a = some o') : Hs H0 M H' L' := by
  have S' := S.put c hm
  refine S.call (C := [a]) (fun b u e hb => k b u e fun z => hb (by simp [z])) ?_ S'.nd ?_
  · intro b hb
    have e : b = a := by simpa using hb
    subst e
    exact ⟨hm, by rw [h']; simp⟩
  · intro q hq
    rcases c.of S.nd q hq with e | ⟨h1, h2⟩
    · subst e; exact h'
    · exact k _ _ (S.is q h1) h2
/-- one object was changed, one is new -/
theorem Hs.one1 {p : Addr} {u : HO} (S : Hs H0 M H L) (c : Chg a o o' L L') (hm : H0 a = none ∨ a ∈ M) (k : ∀ b u, H b = some u → b ≠ a → H' b = some u) (h' : H' a = some o') (hp : H p = none) (hp' : H' p = some u) : H0 p = none ∧ Hs H0 M H' ((p, u) :: L') := by
  have S' := S.one c hm k h'
  have S2 := S.new hp u
  refine ⟨S2.1, ?_, ?_, S'.old, S'.mu⟩
  · simp only [List.map_cons, List.nodup_cons]
    refine ⟨fun hq => ?_, S'.nd⟩
    rw [c.keys] at hq
    obtain ⟨q, hq, e⟩ := List.mem_map.mp hq
    have := S.is q hq
    rw [e, hp] at this
    cases this
  · intro q hq
    rcases List.mem_cons.mp hq with e | hq
    · subst e; exact hp'
    · exact S'.is q hq
theorem Hs.sub (S : Hs H0 M H L) (h : L'.Sublist L) : Hs H0 M H L' := ⟨S.nd.sublist (h.map _), fun q hq => S.is q (h.subset hq), S.old, S.mu⟩
theorem Hs.start (H : Hp) (M : List Addr) (L : Led) (nd : (L.map (·.1)).Nodup) (is : ∀ q ∈ L, H q.1 = some q.2) (hM : ∀ b ∈ M, H b ≠ none) : Hs H M H L := ⟨nd, is, fun b u e _ => e, hM⟩
theorem Hs.start0 (H : Hp) : Hs H [] H [] := ⟨List.nodup_nil, fun q hq => (nomatch hq), fun b u e _ => e, fun b hb => nomatch hb⟩
theorem Hs.start1 {H : Hp} {a : Addr} {o : HO} (h : H a = some o) (M : List Addr) (hM : M = [] ∨ M = [a]) : Hs H M H [(a, o)] := by
  refine ⟨by simp, fun q hq => ?_, fun b u e _ => e, fun b hb => ?_⟩
  · have e : q = (a, o) := by simpa using hq
    subst e; exact h
  · rcases hM with rfl | rfl
    · cases hb
    · have e : b = a := by simpa using hb
      subst e; rw [h]; simp
theorem Hs.get (S : Hs H0 M H L) (m : (a, o) ∈ L) : H a = some o := S.is _ m
theorem Hs.old1 {d b : Addr} {u : HO} (S : Hs H0 [d] H L) (e : H0 b = some u) (hb : b ≠ d) : H b = some u := S.old b u e (by simpa using hb)
theorem Hs.same (S : Hs H0 [] H L) : Same H0 H := fun b o e => S.old b o e (fun z => nomatch z)
theorem Hs.lst {K : PySem.W.Frag} {xs : List V} (S : Hs H0 M H L) (m : (a, HO.lst xs) ∈ L) : SqL K H a xs := SqL.of (S.is _ m)
theorem Hs.tup {K : PySem.W.Frag} {xs : List V} (S : Hs H0 M H L) (m : (a, HO.tup xs) ∈ L) : SqT K H a xs := SqT.of (S.is _ m)
/-- the script, or what else stands in the written part, at a list -/
theorem Hs.sq {K : PySem.W.Frag} {xs : List V} (S : Hs H0 M H L) (h : SqL K H0 a xs) (hm : a ∉ M) : SqL K H a xs := by
  rcases h with (h | ⟨u, h⟩) | h
  · exact Or.inl (Or.inl (S.old _ _ h hm))
  · exact Or.inl (Or.inr ⟨u, S.old _ _ h hm⟩)
  · exact Or.inr h
end

/-! ### readings, step by step -/
/-- the slots at the entry -/
def stV : List Str → List V → L2.St
  | [], _ => []
  | _ :: N, vs => vs.head? :: stV N vs.tail
theorem start_eq : ∀ (N : List Str) (vs : List V), vs.length ≤ N.length → L2.start N vs = stV N vs
  | [], [], _ => by simp [L2.start, stV]
  | [], v :: vs, h => by simp at h
  | n :: N, [], _ => by
    have ih := start_eq N [] (Nat.zero_le _)
    simp only [stV, List.tail_nil, ← ih]
    simp [L2.start, List.replicate_succ]
  | n :: N, v :: vs, h => by
    have ih := start_eq N vs (by simpa using h)
    simp only [stV, List.tail_cons, ← ih]
    simp [L2.start]
section
variable {σ : L2.St} {H H0 : Hp} {M : List Addr} {L L' : Led} {Q : VK} {v x y : V} {nx : L2.St → Hp → Prop} {rt : VK} {bk ct : L2.St → Hp → Prop} {t u : TS} {te ta tb tc : TE} {g : TG} {tt tu : TT} {r r' : R2} {A B : Prop}
theorem rd_start {t : TS} {D : Ends} {N : List Str} {vs : List V} (h : t D (stV N vs) H) (hl : vs.length ≤ N.length := by exact Nat.le_of_ble_eq_true rfl) : t D (L2.start N vs) H := by rw [start_eq N vs hl]; exact h
theorem rd_seq (h : t ⟨fun σ H => u ⟨nx, rt, bk, ct⟩ σ H, rt, bk, ct⟩ σ H) : tSeq t u ⟨nx, rt, bk, ct⟩ σ H := h
theorem rd_asg (h : te σ H fun x H1 => g x σ H1 nx) : tAsg te g ⟨nx, rt, bk, ct⟩ σ H := h
theorem rd_name {i : Nat} {σ' : L2.St} {N : L2.St → Hp → Prop} (e : σ.set i (some v) = σ') (h : N σ' H) : gName i v σ H N := by subst e; exact h
theorem rd_ret (h : te σ H rt) : tRet te ⟨nx, rt, bk, ct⟩ σ H := h
theorem rd_retN (h : rt .non H) : tRetN ⟨nx, rt, bk, ct⟩ σ H := h
theorem rd_drop (h : te σ H fun _ H1 => nx σ H1) : tDrop te ⟨nx, rt, bk, ct⟩ σ H := h
theorem rd_next (h : nx σ H) : tNext ⟨nx, rt, bk, ct⟩ σ H := h
theorem rd_ifS (h : tt σ H fun b H1 => if b = true then t ⟨nx, rt, bk, ct⟩ σ H1 else u ⟨nx, rt, bk, ct⟩ σ H1) : tIfS tt t u ⟨nx, rt, bk, ct⟩ σ H := h
theorem rd_par {i j : Nat} {ta : TA} (h : ta σ H fun vs H1 => ∃ v w, vs = [v, w] ∧ nx ((σ.set i (some v)).set j (some w)) H1) : tPar i j ta ⟨nx, rt, bk, ct⟩ σ H := h
theorem rd_par3 {i j l : Nat} {ta : TA} (h : ta σ H fun vs H1 => ∃ u v w, vs = [u, v, w] ∧ nx (((σ.set i (some u)).set j (some v)).set l (some w)) H1) : tPar3 i j l ta ⟨nx, rt, bk, ct⟩ σ H := h
theorem rd_two {R : V → V → Prop} (h : R x y) : ∃ v w, [x, y] = [v, w] ∧ R v w := ⟨_, _, rfl, h⟩
theorem rd_three {z : V} {R : V → V → V → Prop} (h : R x y z) : ∃ u v w, [x, y, z] = [u, v, w] ∧ R u v w := ⟨_, _, _, rfl, h⟩
theorem rd_var {i : Nat} (e : σ[i]? = some (some v)) (h : Q v H) : tVar i σ H Q := ⟨v, e, h⟩
theorem rd_c (h : Q v H) : tC v σ H Q := h
theorem rd_op (h : ta σ H fun x H1 => tb σ H1 fun y H2 => r x y H2 Q) : tOp r ta tb σ H Q := h
theorem rd_un {r : V → Hp → VK → Prop} (h : ta σ H fun x H1 => r x H1 Q) : tUn r ta σ H Q := h
theorem rd_I0 {f : Int → Int → V} {i j : Int} (h : Q (f i j) H) : rI0 f (.int i) (.int j) H Q := ⟨i, j, rfl, rfl, h⟩
theorem rd_I {C : Int → Int → Prop} {f : Int → Int → V} {i j : Int} (hc : C i j) (h : Q (f i j) H) : rI C f (.int i) (.int j) H Q := ⟨i, j, rfl, rfl, hc, h⟩
theorem rd_U {f : Int → V} {i : Int} (h : Q (f i) H) : rU f (.int i) H Q := ⟨i, rfl, h⟩
theorem rd_eqI {i j : Int} (h : Q (.bl (decide (i = j))) H) : rEq (.int i) (.int j) H Q := by
  refine ⟨rfl, ?_⟩
  have e : decide (V.int i = V.int j) = decide (i = j) := by simp
  rw [e]; exact h
theorem rd_neI {i j : Int} (h : Q (.bl (decide (¬ i = j))) H) : rNe (.int i) (.int j) H Q := by
  refine ⟨rfl, ?_⟩
  have e : (!decide (V.int i = V.int j)) = decide (¬ i = j) := by simp
  rw [e]; exact h
theorem rd_eqS {i j : Str} (h : Q (.bl (decide (i = j))) H) : rEq (.str i) (.str j) H Q := by
  refine ⟨rfl, ?_⟩
  have e : decide (V.str i = V.str j) = decide (i = j) := by simp
  rw [e]; exact h
theorem rd_neS {i j : Str} (h : Q (.bl (decide (¬ i = j))) H) : rNe (.str i) (.str j) H Q := by
  refine ⟨rfl, ?_⟩
  have e : (!decide (V.str i = V.str j)) = decide (¬ i = j) := by simp
  rw [e]; exact h
theorem rd_eqB {i j : Bool} (h : Q (.bl (decide (i = j))) H) : rEq (.bl i) (.bl j) H Q := by
  refine ⟨rfl, ?_⟩
  have e : decide (V.bl i = V.bl j) = decide (i = j) := by simp
  rw [e]; exact h
theorem rd_test {Q : Bool → Hp → Prop} (h : te σ H fun x H' => ∃ k, x = .bl k ∧ Q k H') : tTest te σ H Q := h
theorem rd_tB {Q : Bool → Hp → Prop} (h : te σ H fun x H' => ∃ k, x = .bl k ∧ Q k H') : tB te σ H Q := h
theorem rd_bl {b : Bool} {R : Bool → Prop} (h : R b) : ∃ k, V.bl b = .bl k ∧ R k := ⟨b, rfl, h⟩
theorem rd_and {Q : Bool → Hp → Prop} (h : tt σ H fun c H1 => if c = true then tu σ H1 Q else Q false H1) : tAnd tt tu σ H Q := h
theorem rd_or {Q : Bool → Hp → Prop} (h : tt σ H fun c H1 => if c = true then Q true H1 else tu σ H1 Q) : tOr tt tu σ H Q := h
theorem rd_not {Q : Bool → Hp → Prop} (h : tt σ H fun c H1 => Q (!c) H1) : tNot tt σ H Q := h
theorem rd_andV (h : ta σ H fun x H1 => ∃ c, x = .bl c ∧ if c = true then tb σ H1 Q else Q (.bl false) H1) : tAndV ta tb σ H Q := h
theorem rd_orV (h : ta σ H fun x H1 => ∃ c, x = .bl c ∧ if c = true then Q (.bl true) H1 else tb σ H1 Q) : tOrV ta tb σ H Q := h
theorem rd_notV (h : ta σ H fun x H1 => ∃ c, x = .bl c ∧ Q (.bl (!c)) H1) : tNotV ta σ H Q := h
theorem rd_if (h : tt σ H fun c H1 => if c = true then ta σ H1 Q else tb σ H1 Q) : tIf tt ta tb σ H Q := h
theorem rd_cons {tr : TA} {Q : List V → Hp → Prop} (h : te σ H fun x H1 => tr σ H1 fun xs H2 => Q (x :: xs) H2) : tCons te tr σ H Q := h
theorem rd_nil {Q : List V → Hp → Prop} (h : Q [] H) : tNil σ H Q := h
/-- what is wanted of a new object -/
def nw (Q : VK) (H : Hp) (o : HO) : Prop := ∀ p, H p = none → Q (.ref p) (upd H p o)
def nwL (Q : VK) (H : Hp) (xs : List V) : Prop := xs.length ≤ sizeLine ∧ nw Q H (.lst xs)
def nwT (Q : VK) (H : Hp) (xs : List V) : Prop := xs.length ≤ sizeLine ∧ nw Q H (.tup xs)
theorem rd_tup {ta : TA} (h : ta σ H fun xs H1 => nwT Q H1 xs) : tTup ta σ H Q := h
theorem rd_lst {ta : TA} (h : ta σ H fun xs H1 => nwL Q H1 xs) : tLst ta σ H Q := h
theorem rd_cb {r : List V → Hp → VK → Prop} {ta : TA} (h : ta σ H fun vs H1 => r vs H1 Q) : tCB r ta σ H Q := h
theorem rd_call {sp : Sp} {dvs : List V} {E : XK} {ta : TA} (h : ta σ H fun vs H1 => sp (vs ++ dvs) H1 Q E) : tCall sp dvs E ta σ H Q := h
theorem rd_call0 {sp : Sp} {E : XK} {ta : TA} (h : ta σ H fun vs H1 => sp vs H1 Q E) : tCall sp [] E ta σ H Q := by
  have e : (fun (vs : List V) H1 => sp (vs ++ []) H1 Q E) = fun vs H1 => sp vs H1 Q E := by funext vs H1; rw [List.append_nil]
  show ta σ H (fun vs H1 => sp (vs ++ []) H1 Q E)
  rw [e]; exact h
theorem rd_callN {n m : Nat} {sp : Sp} {gV : List V → List V → List V} {E : XK} {ta tk : TA} (h : ta σ H fun vs H1 => tk σ H1 fun zs H2 => vs.length = n ∧ zs.length = m ∧ sp (gV vs zs) H2 Q E) : tCallN n m sp gV E ta tk σ H Q := h
theorem rd_chain (h : ta σ H fun x H1 => tb σ H1 fun y H2 => r x y H2 fun z H3 => ∃ k, z = .bl k ∧ (if k = true then tc σ H3 fun w H4 => r' y w H4 Q else Q (.bl false) H3)) : tChain r r' ta tb tc σ H Q := h
theorem rd_bits (h : te σ H fun x H1 => ∃ i, x = .int i ∧ Q (.int (Builtin.Int.intBits i : Nat)) H1) : tBits te σ H Q := h
theorem rd_int1 {i : Int} {R : Int → Prop} (h : R i) : ∃ j, V.int i = .int j ∧ R j := ⟨i, rfl, h⟩
theorem rd_int2 {i j : Int} {R : Int → Int → Prop} (h : R i j) : ∃ i' j', [V.int i, V.int j] = [.int i', .int j'] ∧ R i' j' := ⟨i, j, rfl, h⟩
theorem rd_dget {td ty : TE} (h : td σ H fun x H1 => ty σ H1 fun y H2 => ∃ a v, x = .ref a ∧ DGet H2 a y (some v) ∧ Q v H2) : tDGet td ty σ H Q := h
theorem rd_dput {td ty tv : TE} (h : tv σ H fun v H1 => td σ H1 fun x H2 => ty σ H2 fun y H3 => ∃ a H4, x = .ref a ∧ DPut H3 a y v H4 ∧ nx σ H4) : sDPut td ty tv ⟨nx, rt, bk, ct⟩ σ H := h
theorem rd_slice3 {K : PySem.W.Frag} {tl th ts : TO} (h : te σ H fun x H1 => tl σ H1 fun l H2 => th σ H2 fun u H3 => ts σ H3 fun st H4 => ∃ a xs, x = .ref a ∧ SqL K H4 a xs ∧ st ≠ some 0 ∧ nw Q H4 (.lst (pickV xs l u st))) : tSl3 K te tl th ts σ H Q := h
theorem rd_sl {r : V → Option Int → Option Int → Hp → VK → Prop} {tl th : TO} (h : te σ H fun x H1 => tl σ H1 fun l H2 => th σ H2 fun u H3 => r x l u H3 Q) : tSl r te tl th σ H Q := h
theorem rd_noPart {Q : Option Int → Hp → Prop} (h : Q none H) : tNoPart σ H Q := h
theorem rd_part {Q : Option Int → Hp → Prop} (h : te σ H fun x H1 => ∃ i, x = .int i ∧ Q (some i) H1) : tPart te σ H Q := h
theorem sz {n : Nat} (h : n ≤ 1000000) : n ≤ sizeLine := Nat.le_trans h (by decide)
theorem sz' {n : Nat} (h : n ≤ 1000000) : n < sizeLine := Nat.lt_of_le_of_lt h (by decide)
theorem rd_mod {i j : Int} (hj : 0 < j) (h : ∀ r, r = i % j → 0 ≤ r → r < j → Q (.int r) H) : rI (fun _ j => 0 < j) (fun i j => .int (i % j)) (.int i) (.int j) H Q :=
  ⟨i, j, rfl, rfl, hj, h _ rfl (Int.emod_nonneg _ (by omega)) (Int.emod_lt_of_pos _ hj)⟩
theorem rd_div {i j : Int} (hj : 0 < j) (hb : j < 2 ^ 64) (h : Q (.int (i / j)) H) : rI CDivW (fun i j => .int (i / j)) (.int i) (.int j) H Q :=
  ⟨i, j, rfl, rfl, wide_div (b := 64) hj (by omega) (by decide) (by decide), h⟩
theorem rd_mulL {i j : Int} (h0 : -(2 ^ 64) < i) (h1 : i < 2 ^ 64) (h : Q (.int (i * j)) H) : rI CMul (fun i j => .int (i * j)) (.int i) (.int j) H Q := ⟨i, j, rfl, rfl, .inl ⟨h0, h1⟩, h⟩
theorem rd_mulR {i j : Int} (h0 : -(2 ^ 64) < j) (h1 : j < 2 ^ 64) (h : Q (.int (i * j)) H) : rI CMul (fun i j => .int (i * j)) (.int i) (.int j) H Q := ⟨i, j, rfl, rfl, .inr ⟨h0, h1⟩, h⟩
theorem rd_pow {f : Int → Int → V} {i j : Int} (h0 : 0 ≤ j) (h1 : j ≤ 1000000) (h2 : i.natAbs < 2 ^ 64) (h : Q (f i j) H) : rI CPow f (.int i) (.int j) H Q := ⟨i, j, rfl, rfl, ⟨h0, h1, h2⟩, h⟩
/-! tests -/
theorem rd_dec {p : Prop} [Decidable p] (h1 : p → A) (h2 : ¬ p → B) : if decide p = true then A else B := by
  by_cases h : p
  · rw [if_pos (decide_eq_true h)]; exact h1 h
  · rw [if_neg (by simp [h])]; exact h2 h
theorem rd_decT {p : Prop} [Decidable p] (h : p) (h1 : A) : if decide p = true then A else B := by rw [if_pos (decide_eq_true h)]; exact h1
theorem rd_decF {p : Prop} [Decidable p] (h : ¬ p) (h1 : B) : if decide p = true then A else B := by rw [if_neg (by simp [h])]; exact h1
theorem rd_ite {b : Bool} (h1 : b = true → A) (h2 : b = false → B) : if b = true then A else B := by
  cases b with
  | true => rw [if_pos rfl]; exact h1 rfl
  | false => rw [if_neg Bool.false_ne_true]; exact h2 rfl
theorem rd_iteT (h : A) : if true = true then A else B := by rw [if_pos rfl]; exact h
theorem rd_iteF (h : B) : if false = true then A else B := by rw [if_neg Bool.false_ne_true]; exact h
theorem rd_ndec {p : Prop} [Decidable p] (h1 : ¬ p → A) (h2 : p → B) : if (!decide p) = true then A else B := by
  by_cases h : p
  · rw [if_neg (by simp [h])]; exact h2 h
  · rw [if_pos (by simp [h])]; exact h1 h
theorem rd_ndecT {p : Prop} [Decidable p] (h : p) (h2 : B) : if (!decide p) = true then A else B := by rw [if_neg (by simp [h])]; exact h2
theorem rd_ndecF {p : Prop} [Decidable p] (h : ¬ p) (h1 : A) : if (!decide p) = true then A else B := by rw [if_pos (by simp [h])]; exact h1
theorem rd_nT (h : B) : if (!true) = true then A else B := by rw [if_neg (by decide)]; exact h
theorem rd_nF (h : A) : if (!false) = true then A else B := by rw [if_pos (by decide)]; exact h
/-! with the ledger -/
theorem rd_newL {xs : List V} (S : Hs H0 M H L) (hz : xs.length ≤ sizeLine) (h : ∀ p H', H0 p = none → Hs H0 M H' ((p, .lst xs) :: L) → Q (.ref p) H') : nwL Q H xs :=
  ⟨hz, fun p hp => h p _ (S.new hp (.lst xs)).1 (S.new hp (.lst xs)).2⟩
theorem rd_newT {xs : List V} (S : Hs H0 M H L) (hz : xs.length ≤ sizeLine) (h : ∀ p H', H0 p = none → Hs H0 M H' ((p, .tup xs) :: L) → Q (.ref p) H') : nwT Q H xs :=
  ⟨hz, fun p hp => h p _ (S.new hp (.tup xs)).1 (S.new hp (.tup xs)).2⟩
theorem rd_newO {o : HO} (S : Hs H0 M H L) (h : ∀ p H', H0 p = none → Hs H0 M H' ((p, o) :: L) → Q (.ref p) H') : nw Q H o :=
  fun p hp => h p _ (S.new hp o).1 (S.new hp o).2
theorem rd_ixL {K : PySem.W.Frag} {a : Addr} {xs : List V} {i : Int} (S : Hs H0 M H L) (m : (a, HO.lst xs) ∈ L) (e : atI xs i = some v) (h : Q v H) : rIxL K (.ref a) (.int i) H Q := ⟨a, xs, i, v, rfl, rfl, S.lst m, e, h⟩
theorem atI_any {α : Type} {xs : List α} {i : Int} (h0 : 0 ≤ i) (h1 : i < xs.length) : ∃ v, v ∈ xs ∧ xs[i.toNat]? = some v ∧ atI xs i = some v := by
  have hl : i.toNat < xs.length := by omega
  have e : xs[i.toNat]? = some xs[i.toNat] := by simp [hl]
  refine ⟨xs[i.toNat], List.getElem_mem hl, e, ?_⟩
  have z : ((i.toNat : Nat) : Int) = i := by omega
  have q := atI_nat e
  rw [z] at q
  exact q
theorem rd_ixAny {K : PySem.W.Frag} {a : Addr} {xs : List V} {i : Int} (S : Hs H0 M H L) (m : (a, HO.lst xs) ∈ L) (h0 : 0 ≤ i) (h1 : i < xs.length) (h : ∀ v, v ∈ xs → xs[i.toNat]? = some v → Q v H) : rIxL K (.ref a) (.int i) H Q := by
  obtain ⟨v, hv, e, he⟩ := atI_any h0 h1
  exact ⟨a, xs, i, v, rfl, rfl, S.lst m, he, h v hv e⟩
theorem rd_ixT {K : PySem.W.Frag} {a : Addr} {xs : List V} {i : Int} (S : Hs H0 M H L) (m : (a, HO.tup xs) ∈ L) (e : atI xs i = some v) (h : Q v H) : rIxT K (.ref a) (.int i) H Q := ⟨a, xs, i, v, rfl, rfl, S.tup m, e, h⟩
theorem rd_len {K : PySem.W.Frag} {a : Addr} {xs : List V} (S : Hs H0 M H L) {R : List V → Prop} (m : (a, HO.lst xs) ∈ L) (h : R xs) : ∃ p ys, [V.ref a] = [.ref p] ∧ (SqL K H p ys ∨ SqT K H p ys) ∧ R ys := ⟨a, xs, rfl, Or.inl (S.lst m), h⟩
theorem rd_lenT {K : PySem.W.Frag} {a : Addr} {xs : List V} (S : Hs H0 M H L) {R : List V → Prop} (m : (a, HO.tup xs) ∈ L) (h : R xs) : ∃ p ys, [V.ref a] = [.ref p] ∧ (SqL K H p ys ∨ SqT K H p ys) ∧ R ys := ⟨a, xs, rfl, Or.inr (S.tup m), h⟩
theorem rd_getS {a : Addr} {kvs : List (Key × V)} {k : Str} (S : Hs H0 M H L) (m : (a, HO.dK kvs) ∈ L) (e : valV kvs (.inr k) = some v) {R : V → Prop} (h : R v) : ∃ a' v', V.ref a = .ref a' ∧ DGet H a' (.str k) (some v') ∧ R v' :=
  ⟨a, v, rfl, by rw [← e]; exact DGet.k (k := Sum.inr k) (S.is _ m), h⟩
theorem rd_putS {a : Addr} {kvs kvs' : List (Key × V)} {k : Str} {R : Hp → Prop} (S : Hs H0 M H L) (c : Chg a (.dK kvs) (.dK kvs') L L') (hm : H0 a = none ∨ a ∈ M) (hl : kvs.length < sizeLine) (e : putK kvs (.inr k) v = kvs')
    (h : ∀ H', Hs H0 M H' L' → R H') : ∃ a' H4, V.ref a = .ref a' ∧ DPut H a' (.str k) v H4 ∧ R H4 := by
  subst e
  exact ⟨a, _, rfl, DPut.k (k := Sum.inr k) (S.is _ c.mem) hl, h _ (S.put c hm)⟩
theorem gt_ref {K : PySem.W.Frag} {a : Addr} {xs : List V} {n : Nat} {ts : TGs} {N : L2.St → Hp → Prop} (S : Hs H0 M H L) (m : (a, HO.tup xs) ∈ L) (hn : xs.length = n) (h : ts xs σ H N) : gTup K n ts (.ref a) σ H N := ⟨a, xs, rfl, S.tup m, hn, h⟩
theorem gt_cons {ts : TGs} {w : V} {vs : List V} {N : L2.St → Hp → Prop} (h : g w σ H fun σ' H' => ts vs σ' H' N) : gCons g ts (w :: vs) σ H N := ⟨w, vs, rfl, h⟩
theorem gt_nil {N : L2.St → Hp → Prop} (h : N σ H) : gNil [] σ H N := ⟨rfl, h⟩
end
/-! ### a def as it is called by its name -/
structure Cal (K : PySem.W.Frag) (mg : Str → Option Value) (x : Str) (st : Stmt) (ps : List Str) (f : Addr) (fd : FuncData) : Prop where
  F : Fun K x x st f fd
  b : Binds K fd ps []
  m : mg x = some (.ref f)
end Rs

namespace Rs
open PySem PySem.Spec PyProof.Rows L2

/-! ### kinds of values -/
inductive Kn where
  | int | bool | str | none | list | tup | dict
  deriving DecidableEq
def Kn.nm : Kn → String
  | .int => "int" | .bool => "bool" | .str => "str" | .none => "NoneType" | .list => "list" | .tup => "tuple" | .dict => "dict"
inductive Kin (K : PySem.W.Frag) (H : Hp) : V → Kn → Prop where
  | int (i : Int) : Kin K H (.int i) .int
  | bl (b : Bool) : Kin K H (.bl b) .bool
  | str (x : Str) : Kin K H (.str x) .str
  | non : Kin K H .non .none
  | ref {a : Addr} {k : Kn} (h : TyX K H (.ref a) (.type k.nm)) (n : k = .list ∨ k = .tup ∨ k = .dict) : Kin K H (.ref a) k
section
variable {K : PySem.W.Frag} {H H0 : Hp} {M : List Addr} {L : Led} {x : V} {k : Kn} {Q : VK} {a : Addr}
theorem Kin.ty (h : Kin K H x k) : TyX K H x (.type k.nm) := by
  cases h with
  | int i => exact .base (.int i)
  | bl b => exact .base (.bl b)
  | str x => exact .base (.str x)
  | non => exact .base .non
  | ref h n => exact h
theorem Kin.lst {xs : List V} (h : H a = some (.lst xs)) : Kin K H (.ref a) .list := .ref (.base (.lst h)) (.inl rfl)
theorem Kin.tup {xs : List V} (h : H a = some (.tup xs)) : Kin K H (.ref a) .tup := .ref (.base (.tup h)) (.inr (.inl rfl))
theorem Kin.dK {kvs : List (Key × V)} (h : H a = some (.dK kvs)) : Kin K H (.ref a) .dict := .ref (.base (.dK h)) (.inr (.inr rfl))
theorem kit_int (k : Kn) : kitB k.nm "int" = some (k == .int || k == .bool) := by cases k <;> decide +kernel
theorem kit_bool (k : Kn) : kitB k.nm "bool" = some (k == .bool) := by cases k <;> decide +kernel
theorem kit_list (k : Kn) : kitB k.nm "list" = some (k == .list) := by cases k <;> decide +kernel
theorem kit_tuple (k : Kn) : kitB k.nm "tuple" = some (k == .tup) := by cases k <;> decide +kernel
theorem kit_str (k : Kn) : kitB k.nm "str" = some (k == .str) := by cases k <;> decide +kernel
theorem rd_isi {T : String} {b : Bool} (h : Kin K H x k) (e : kitB k.nm T = some b) (q : Q (.bl b) H) : rIsi K [x, .ty T] H Q := ⟨x, .ty T, .type k.nm, .type T, b, rfl, .ty T, h.ty, kit_ty e, q⟩
end
/-- a def with keyword-only defaults, as it is called by its name -/
structure CalK (K : PySem.W.Frag) (mg : Str → Option Value) (x : Str) (st : Stmt) (f : Addr) (fd : FuncData) : Prop where
  F : Fun K x x st f fd
  m : mg x = some (.ref f)
/-- whether a thing is a whole number from l to m -/
def isWh (x : V) (l m : Int) : Bool := match x with
  | .int t => decide (l ≤ t) && decide (t ≤ m)
  | _ => false
theorem isWh_int (t l m : Int) : isWh (.int t) l m = (decide (l ≤ t) && decide (t ≤ m)) := rfl

/-! ### more readings -/
section
variable {X : Cx}
/-- a module's constant -/
theorem pe_gl {x : Str} {v : V} {pos : Pos} (hg : Gl X x) (h : ∃ u, X.mg x = some u ∧ RelV v u) (hd : (x == ("__debug__" : Str)) = false := by decide) : PE X (.Name x pos) (tC v) := by
  obtain ⟨u, h1, h2⟩ := h
  exact pe_glob hg h1 h2 hd
end
/-- the keys of written pairs -/
def toK : List (V × V) → List (Key × V)
  | [] => []
  | (.int i, v) :: r => (.inl i, v) :: toK r
  | (.str x, v) :: r => (.inr x, v) :: toK r
  | _ :: r => toK r
def dspEnd (Q : VK) (p : Addr) (ps : List (V × V)) (H : Hp) : Prop := H p = some (.dK []) ∧ ∃ kvs : List (Key × V), ps = kvs.map (fun kv => (kV kv.1, kv.2)) ∧ kvs.length ≤ 15 ∧ Q (.ref p) (upd H p (.dK (mergeK [] kvs)))
def forW (J : It) (g : TG) (tb : TS) (D : Ends) (σ : L2.St) (H : Hp) : Prop := ∃ W : Nat → Nat → L2.St → Hp → Prop, (∃ m, W 0 m σ H) ∧ ∀ i m σ H, W i m σ H →
  (J.stop i H ∧ D.nx σ H) ∨ (J.go i H ∧ ∃ N : L2.St → Hp → Prop, (∀ σ' H', N σ' H' → ∃ m', m' < m ∧ W (i + 1) m' σ' H') ∧ ∀ x H', J.yld i H x H' → g x σ H' fun σ2 H2 => tb { D with nx := N, ct := N, bk := D.nx } σ2 H2)
def wl (W : Nat → L2.St → Hp → Prop) (m : Nat) (tw : TS) (nx : L2.St → Hp → Prop) (rt : VK) (σ : L2.St) (H : Hp) : Prop := ∃ N : L2.St → Hp → Prop, (∀ σ' H', N σ' H' → ∃ m', m' < m ∧ W m' σ' H') ∧ tw ⟨N, rt, nx, N⟩ σ H
def rng1 (R : It → Hp → Prop) (vs : List V) (H : Hp) : Prop := ∃ j : Int, vs = [.int j] ∧ -(2 ^ 62) ≤ j ∧ j < 2 ^ 62 ∧ R (Itr 0 j.toNat) H
def rng2 (R : It → Hp → Prop) (vs : List V) (H : Hp) : Prop := ∃ i j : Int, vs = [.int i, .int j] ∧ (-(2 ^ 62) ≤ i ∧ i < 2 ^ 62 ∧ -(2 ^ 62) ≤ j ∧ j < 2 ^ 62) ∧ R (Itr i (j - i).toNat) H
def lstI (K : PySem.W.Frag) (R : It → Hp → Prop) (x : V) (H : Hp) : Prop := ∃ a, x = .ref a ∧ (∃ xs, SqL K H a xs) ∧ R (Itl K a) H
def tupI (K : PySem.W.Frag) (R : It → Hp → Prop) (x : V) (H : Hp) : Prop := ∃ a, x = .ref a ∧ (∃ xs, SqT K H a xs) ∧ R (Itt K a) H
section
variable {σ : L2.St} {H H0 : Hp} {M : List Addr} {L L' : Led} {Q : VK} {v x y : V} {nx : L2.St → Hp → Prop} {rt : VK} {bk ct : L2.St → Hp → Prop} {t u : TS} {te ta tb tc : TE} {g : TG} {tt tu : TT} {tw : TS} {wi : TI}
theorem rd_disp {trs : List (TE × TE)} (S : Hs H0 M H L) (h : ∀ p H', H0 p = none → Hs H0 M H' ((p, .dK []) :: L) → tPairs trs σ H' fun ps H2 => dspEnd Q p ps H2) : tDisp trs σ H Q :=
  fun p hp => h p _ (S.new hp (.dK [])).1 (S.new hp (.dK [])).2
theorem rd_dspEnd {p : Addr} {ps : List (V × V)} {kvs : List (Key × V)} (S : Hs H0 M H L) (c : Chg p (.dK []) (.dK kvs) L L') (hm : H0 p = none ∨ p ∈ M) (e : ps = (toK ps).map fun kv => (kV kv.1, kv.2)) (hl : (toK ps).length ≤ 15)
    (ek : mergeK [] (toK ps) = kvs) (h : ∀ H', Hs H0 M H' L' → Q (.ref p) H') : dspEnd Q p ps H := by
  subst ek
  exact ⟨S.is _ c.mem, toK ps, e, hl, h _ (S.put c hm)⟩
theorem rd_prs {r : List (TE × TE)} {R : List (V × V) → Hp → Prop} (h : ta σ H fun k H1 => tb σ H1 fun v H2 => tPairs r σ H2 fun ps H3 => R ((k, v) :: ps) H3) : tPairs ((ta, tb) :: r) σ H R := h
theorem rd_prs0 {R : List (V × V) → Hp → Prop} (h : R [] H) : tPairs [] σ H R := h
theorem rd_for (h : wi σ H fun J H1 => forW J g tw ⟨nx, rt, bk, ct⟩ σ H1) : tFor wi g tw ⟨nx, rt, bk, ct⟩ σ H := h
theorem rd_rng1 {ta : TA} {R : It → Hp → Prop} (h : ta σ H fun vs H1 => rng1 R vs H1) : iRng1 ta σ H R := h
theorem rd_rng2 {ta : TA} {R : It → Hp → Prop} (h : ta σ H fun vs H1 => rng2 R vs H1) : iRng2 ta σ H R := h
theorem rd_rng1v {R : It → Hp → Prop} {j : Int} (h1 : -(2 ^ 62) ≤ j) (h2 : j < 2 ^ 62) (h : R (Itr 0 j.toNat) H) : rng1 R [.int j] H := ⟨j, rfl, h1, h2, h⟩
theorem rd_rng2v {R : It → Hp → Prop} {i j : Int} (h1 : -(2 ^ 62) ≤ i) (h2 : i < 2 ^ 62) (h3 : -(2 ^ 62) ≤ j) (h4 : j < 2 ^ 62) (h : R (Itr i (j - i).toNat) H) : rng2 R [.int i, .int j] H := ⟨i, j, rfl, ⟨h1, h2, h3, h4⟩, h⟩
theorem rd_iList {K : PySem.W.Frag} {R : It → Hp → Prop} (h : te σ H fun x H1 => lstI K R x H1) : iList K te σ H R := h
theorem rd_iTup {K : PySem.W.Frag} {R : It → Hp → Prop} (h : te σ H fun x H1 => tupI K R x H1) : iTup K te σ H R := h
theorem rd_lstI {K : PySem.W.Frag} {R : It → Hp → Prop} {a : Addr} {xs : List V} (S : Hs H0 M H L) (m : (a, HO.lst xs) ∈ L) (h : R (Itl K a) H) : lstI K R (.ref a) H := ⟨a, rfl, ⟨xs, S.lst m⟩, h⟩
theorem rd_tupI {K : PySem.W.Frag} {R : It → Hp → Prop} {a : Addr} {xs : List V} (S : Hs H0 M H L) (m : (a, HO.tup xs) ∈ L) (h : R (Itt K a) H) : tupI K R (.ref a) H := ⟨a, rfl, ⟨xs, S.tup m⟩, h⟩
/-- over lo, lo + 1, .. -/
theorem fw_range {lo : Int} {n : Nat} (Pv : Nat → L2.St → Hp → Prop) (h0 : Pv 0 σ H) (hs : ∀ i σ H, i < n → Pv i σ H → g (.int (lo + i)) σ H fun σ2 H2 => tw ⟨Pv (i + 1), rt, nx, Pv (i + 1)⟩ σ2 H2) (hd : ∀ σ H, Pv n σ H → nx σ H) :
    forW (Itr lo n) g tw ⟨nx, rt, bk, ct⟩ σ H := for_range Pv h0 hs hd
/-- over a list that stays as it is -/
theorem fw_list {K : PySem.W.Frag} {a : Addr} {xs : List V} (Pv : Nat → L2.St → Hp → Prop) (h0 : Pv 0 σ H) (hl : ∀ i σ H, i ≤ xs.length → Pv i σ H → SqL K H a xs)
    (hs : ∀ i x σ H, xs[i]? = some x → Pv i σ H → g x σ H fun σ2 H2 => tw ⟨Pv (i + 1), rt, nx, Pv (i + 1)⟩ σ2 H2) (hd : ∀ σ H, Pv xs.length σ H → nx σ H) : forW (Itl K a) g tw ⟨nx, rt, bk, ct⟩ σ H := for_list Pv h0 hl hs hd
theorem fw_tup {K : PySem.W.Frag} {a : Addr} {xs : List V} (Pv : Nat → L2.St → Hp → Prop) (h0 : Pv 0 σ H) (hl : ∀ i σ H, i ≤ xs.length → Pv i σ H → SqT K H a xs)
    (hs : ∀ i x σ H, xs[i]? = some x → Pv i σ H → g x σ H fun σ2 H2 => tw ⟨Pv (i + 1), rt, nx, Pv (i + 1)⟩ σ2 H2) (hd : ∀ σ H, Pv xs.length σ H → nx σ H) : forW (Itt K a) g tw ⟨nx, rt, bk, ct⟩ σ H := for_tup Pv h0 hl hs hd
/-- while: W a word with a number that falls -/
theorem rd_while (W : Nat → L2.St → Hp → Prop) (m0 : Nat) (h0 : W m0 σ H) (hs : ∀ m σ H, W m σ H → tt σ H fun b H1 => if b = true then wl W m tw nx rt σ H1 else nx σ H1) : tWhile tt tw ⟨nx, rt, bk, ct⟩ σ H := ⟨W, ⟨m0, h0⟩, hs⟩
theorem rd_wl {W : Nat → L2.St → Hp → Prop} {m : Nat} (h : tw ⟨fun σ' H' => ∃ m', m' < m ∧ W m' σ' H', rt, nx, fun σ' H' => ∃ m', m' < m ∧ W m' σ' H'⟩ σ H) : wl W m tw nx rt σ H := ⟨_, fun _ _ h => h, h⟩
end
end Rs

namespace Rs
open PySem PySem.Spec PyProof.Rows L2

/-! ### plain data: how far it reaches -/
mutual
/-- whole numbers below 10 ^ 12, short texts of small signs, no dicts -/
def tame : PyData → Bool
  | .none | .bool _ => true
  | .int i => decide (i.natAbs < 10 ^ 12)
  | .str x => PyData.strOk x && decide (x.cps.size ≤ 40) && x.cps.toList.all fun c => decide (c < 16 ^ 8)
  | .list xs | .tuple xs => tames xs
  | .dict _ => false
def tames : List PyData → Bool
  | [] => true
  | x :: xs => tame x && tames xs
end
mutual
/-- how many there are in all -/
def cnt : PyData → Nat
  | .list xs | .tuple xs => 1 + cnts xs
  | _ => 1
def cnts : List PyData → Nat
  | [] => 0
  | x :: xs => cnt x + cnts xs
end
mutual
theorem tame_show : ∀ d : PyData, tame d = true → d.showable = true ∧ d.canLay0 = true ∧ d.intsShort 13 = true ∧ d.weight + 1 ≤ 46 * cnt d
  | .none, _ => by simp [PyData.showable, PyData.canLay0, PyData.intsShort, PyData.weight, cnt]
  | .bool _, _ => by simp [PyData.showable, PyData.canLay0, PyData.intsShort, PyData.weight, cnt]
  | .int i, h => by
    have h1 : i.natAbs < 10 ^ 12 := by simpa [tame] using h
    have h2 : i.natAbs.log2 < 40 := by
      by_cases z : i.natAbs = 0
      · rw [z]; decide
      · exact (Nat.log2_lt z).mpr (by omega)
    have h3 := PyData.shown_int_le h1
    refine ⟨by simp [PyData.showable]; omega, by simp [PyData.canLay0], by simp [PyData.intsShort]; omega, ?_⟩
    simp only [PyData.weight, cnt]
    split <;> omega
  | .str x, h => by
    simp only [tame, Bool.and_eq_true, decide_eq_true_eq] at h
    refine ⟨by simp [PyData.showable], by simpa [PyData.canLay0] using h.1.1, by simp [PyData.intsShort], ?_⟩
    simp only [PyData.weight, cnt]
    omega
  | .list xs, h => by
    obtain ⟨h1, h2, h3, h4⟩ := tames_show xs (by simpa [tame] using h)
    refine ⟨by simpa [PyData.showable] using h1, by simpa [PyData.canLay0] using h2, by simpa [PyData.intsShort] using h3, ?_⟩
    simp only [PyData.weight, cnt]
    omega
  | .tuple xs, h => by
    obtain ⟨h1, h2, h3, h4⟩ := tames_show xs (by simpa [tame] using h)
    refine ⟨by simpa [PyData.showable] using h1, by simpa [PyData.canLay0] using h2, by simpa [PyData.intsShort] using h3, ?_⟩
    simp only [PyData.weight, cnt]
    omega
  | .dict _, h => by simp [tame] at h
theorem tames_show : ∀ xs : List PyData, tames xs = true → PyData.showableAll xs = true ∧ PyData.canLayAll0 xs = true ∧ PyData.intsShortAll 13 xs = true ∧ PyData.weightAll xs ≤ 46 * cnts xs
  | [], _ => by simp [PyData.showableAll, PyData.canLayAll0, PyData.intsShortAll, PyData.weightAll, cnts]
  | x :: xs, h => by
    have h' : tame x = true ∧ tames xs = true := by simpa [tames] using h
    obtain ⟨a1, a2, a3, a4⟩ := tame_show x h'.1
    obtain ⟨b1, b2, b3, b4⟩ := tames_show xs h'.2
    simp only [PyData.showableAll, PyData.canLayAll0, PyData.intsShortAll, PyData.weightAll, cnts, a1, a2, a3, b1, b2, b3, Bool.and_self, true_and]
    omega
end
theorem shw_of {d : PyData} (h : tame d = true) (hc : cnt d ≤ 20000) : Shw d := by
  obtain ⟨h1, h2, h3, h4⟩ := tame_show d h
  exact ⟨h1, PyData.shown_fits (B := 13) (by decide) (by decide) (PyData.leavesShort_of_canLay0 13 d h2 h3) (by omega)⟩
theorem shaped_of {d : PyData} (h : tame d = true) (hd : d.depth ≤ 64) : SeqAt.shaped d = true := by
  obtain ⟨_, h2, _, _⟩ := tame_show d h
  unfold SeqAt.shaped
  rw [h2, Bool.true_and]
  exact decide_eq_true hd
/-! ### lists of whole numbers -/
def dI (ns : List Int) : PyData := .list (ns.map .int)
section
variable {K : PySem.W.Frag} {H H0 : Hp} {M : List Addr} {L L' : Led} {Q : VK} {a b : Addr}
theorem dps_ints : ∀ ns : List Int, DpAll K H (ns.map V.int) (ns.map .int)
  | [] => .nil
  | n :: ns => .cons (.int n) (dps_ints ns)
theorem dp_ints {ns : List Int} (h : SqL K H a (ns.map V.int)) : Dp K H (.ref a) (dI ns) := .lst h (dps_ints ns)
theorem depth_ints : ∀ ns : List Int, PyData.depthAll (ns.map .int) = 0
  | [] => by simp [PyData.depthAll]
  | n :: ns => by simp [PyData.depthAll, PyData.depth, depth_ints ns]
theorem depth_dI (ns : List Int) : (dI ns).depth = 1 := by simp [dI, PyData.depth, depth_ints]
theorem canLay_ints : ∀ ns : List Int, PyData.canLayAll0 (ns.map .int) = true
  | [] => by simp [PyData.canLayAll0]
  | n :: ns => by simp [PyData.canLayAll0, PyData.canLay0, canLay_ints ns]
theorem shaped_dI (ns : List Int) : SeqAt.shaped (dI ns) = true := by
  unfold SeqAt.shaped
  rw [depth_dI]
  simp [dI, PyData.canLay0, canLay_ints]
theorem eqv_ints : ∀ ns ms : List Int, PyData.eqvAll (ns.map .int) (ms.map .int) = decide (ns = ms)
  | [], [] => by simp [PyData.eqvAll]
  | [], m :: ms => by simp [PyData.eqvAll]
  | n :: ns, [] => by simp [PyData.eqvAll]
  | n :: ns, m :: ms => by
    simp only [List.map_cons, PyData.eqvAll, PyData.eqv, eqv_ints ns ms, List.cons.injEq, Bool.decide_and]
    rfl
theorem eqv_dI (ns ms : List Int) : PyData.eqv (dI ns) (dI ms) = decide (ns = ms) := by
  simp only [dI, PyData.eqv, eqv_ints]
theorem tames_ints : ∀ ns : List Int, (∀ n ∈ ns, n.natAbs < 10 ^ 12) → tames (ns.map .int) = true
  | [], _ => by simp [tames]
  | n :: ns, h => by
    simp only [List.map_cons, tames, tame, Bool.and_eq_true, decide_eq_true_eq]
    exact ⟨h n List.mem_cons_self, tames_ints ns fun m hm => h m (List.mem_cons_of_mem _ hm)⟩
theorem cnts_ints : ∀ ns : List Int, cnts (ns.map .int) = ns.length
  | [] => by simp [cnts]
  | n :: ns => by simp only [List.map_cons, cnts, cnt, cnts_ints ns, List.length_cons]; omega
theorem shw_dI {ns : List Int} (h : ∀ n ∈ ns, n.natAbs < 10 ^ 12) (hl : ns.length ≤ 10000) : Shw (dI ns) :=
  shw_of (by simp [dI, tame, tames_ints ns h]) (by simp only [dI, cnt, cnts_ints]; omega)
/-- == and != of two lists of whole numbers -/
theorem rd_eqIs {xs ys : List V} {ns ms : List Int} (S : Hs H0 M H L) (m1 : (a, HO.lst xs) ∈ L) (m2 : (b, HO.lst ys) ∈ L) (e1 : xs = ns.map V.int) (e2 : ys = ms.map V.int) (h : Q (.bl (decide (ns = ms))) H) : rEqD K (.ref a) (.ref b) H Q := by
  subst e1 e2
  exact ⟨_, _, dp_ints (S.lst m1), dp_ints (S.lst m2), shaped_dI ns, shaped_dI ms, by rw [eqv_dI]; exact h⟩
theorem rd_neIs {xs ys : List V} {ns ms : List Int} (S : Hs H0 M H L) (m1 : (a, HO.lst xs) ∈ L) (m2 : (b, HO.lst ys) ∈ L) (e1 : xs = ns.map V.int) (e2 : ys = ms.map V.int) (h : Q (.bl (decide (¬ ns = ms))) H) : rNeD K (.ref a) (.ref b) H Q := by
  subst e1 e2
  refine ⟨_, _, dp_ints (S.lst m1), dp_ints (S.lst m2), shaped_dI ns, shaped_dI ms, ?_⟩
  rw [eqv_dI]
  have e : (!decide (ns = ms)) = decide (¬ ns = ms) := by simp
  rw [e]; exact h
theorem rd_reprI {xs : List V} {ns : List Int} (S : Hs H0 M H L) (m : (a, HO.lst xs) ∈ L) (e : xs = ns.map V.int) (hb : ∀ n ∈ ns, n.natAbs < 10 ^ 12) (hl : ns.length ≤ 10000) (h : Q (.str (dI ns).shown) H) : rRepr K [.ref a] H Q := by
  subst e
  exact ⟨.ref a, dI ns, rfl, dp_ints (S.lst m), shw_dI hb hl, by rw [depth_dI]; decide, h⟩
theorem pick_ints (ns : List Int) (lo hi st : Option Int) : ∃ ks : List Int, pickV (ns.map V.int) lo hi st = ks.map V.int ∧ (∀ k ∈ ks, k ∈ ns) := by
  have e : ∀ ix : List Nat, ix.filterMap ((ns.map V.int)[·]?) = (ix.filterMap (ns[·]?)).map V.int := fun ix => by
    induction ix with
    | nil => rfl
    | cons i ix ih =>
      cases h : ns[i]? with
      | none => rw [List.filterMap_cons_none (by rw [List.getElem?_map, h]; rfl), List.filterMap_cons_none h, ih]
      | some z => rw [List.filterMap_cons_some (by rw [List.getElem?_map, h]; rfl), List.filterMap_cons_some h, ih]; rfl
  refine ⟨(slIx (ns.map V.int).length lo hi st).filterMap (ns[·]?), e _, fun k hk => ?_⟩
  obtain ⟨i, _, hi⟩ := List.mem_filterMap.mp hk
  exact List.mem_of_getElem? hi
end
/-- how keywords are put in the parameters' order -/
theorem kb_of {K : PySem.W.Frag} {x qual : Str} {st : Stmt} {f : Addr} {fd : FuncData} {ps ks : List Str} {n : Nat} (F : Fun K x qual st f fd) (ix : List Nat)
    (h : ∀ (kV doc pm : Value) (an : Option Addr) (cdv ct : Value) (us ws : List Value), us.length = n → ws.length = ks.length →
      bindArgs (PySem.W.fnOf x qual (defArgs st) (defBody st) (defScope st) .none kV doc pm an cdv ct) ⟨us, ks.zip ws⟩ = pure (ps.zip (us ++ ix.filterMap (ws[·]?)))) :
    KBn K fd ps n ks (fun us ws => us ++ ix.filterMap (ws[·]?)) (fun us ws => us ++ ix.filterMap (ws[·]?)) := by
  obtain ⟨oc, od, kV, doc, pm, an, cdv, ct, osl, rfl, lk, hcd⟩ := F.ex
  exact ⟨fun s us ws _ h1 h2 => .of_eq (h kV doc pm an cdv ct us ws h1 h2), fun r1 r2 => r1.append (vals_pick r2 ix)⟩
end Rs

namespace Rs
open PySem PySem.Spec PyProof.Rows L2
section
variable {K : PySem.W.Frag} {mg : Str → Option Value} {h : Heap}
theorem ex_calK {x : Str} {st : Stmt} {f : Addr} {oc : Value} {od an : Option Addr} {osl : Array (Option Value)} {kV doc pm cdv ct : Value} (X : K.In h) (G : h.Ns mainGlobals mg) (a : PySem.W.nsIn K mainGlobals x = some (some (.ref f)))
    (l : K.lookup f = some ⟨oc, od, .func (PySem.W.fnOf x x (defArgs st) (defBody st) (defScope st) .none kV doc pm an cdv ct), osl⟩) (c : PySem.W.codeIn K cdv x = true) (k : PySem.W.keepIn K (.ref f) = true) : ∃ f fd, CalK K mg x st f fd :=
  ⟨_, _, fun_mk l c k, PySem.W.mg_of X G a⟩
theorem ex_cal {x : Str} {st : Stmt} {ps : List Str} {f : Addr} {oc : Value} {od an : Option Addr} {osl : Array (Option Value)} {kV doc pm cdv ct : Value} (X : K.In h) (G : h.Ns mainGlobals mg) (a : PySem.W.nsIn K mainGlobals x = some (some (.ref f)))
    (l : K.lookup f = some ⟨oc, od, .func (PySem.W.fnOf x x (defArgs st) (defBody st) (defScope st) .none kV doc pm an cdv ct), osl⟩) (c : PySem.W.codeIn K cdv x = true) (k : PySem.W.keepIn K (.ref f) = true)
    (b : ∀ (kV doc pm : Value) (an : Option Addr) (cdv ct : Value) (us : List Value), us.length = ps.length → bindArgs (PySem.W.fnOf x x (defArgs st) (defBody st) (defScope st) .none kV doc pm an cdv ct) ⟨us, []⟩ = pure (ps.zip us)) : ∃ f fd, Cal K mg x st ps f fd :=
  ⟨_, _, fun_mk l c k, (fun_mk l c k).binds b, PySem.W.mg_of X G a⟩
theorem ex_gl {x : Str} {v : V} {u : Value} (X : K.In h) (G : h.Ns mainGlobals mg) (a : PySem.W.nsIn K mainGlobals x = some (some u)) (r : RelV v u) : ∃ u, mg x = some u ∧ RelV v u := ⟨u, PySem.W.mg_of X G a, r⟩
end
/-- the end, the law's def by its facts -/
theorem walkE {l : PySem.W.OpenLaw} {n k : Nat} {q : Program} {loose : List Str} {XP : (Str → Option Value) → Heap → Prop} {YP : World → Heap → Prop} {d : DefRec} {K : Params → PySem.W.Frag} {sp : PySem.W.Frag → Sp} {st : Stmt} {x : Str}
    (hn : l.most = some n) (hn2 : n ≤ sizeLine) (hdf : d.params.defaults = []) (hr : Room k callerA) (hY : ∀ (w : World) (h : Heap), YP w h → (K w.params).In h) (hx : d.name = "law")
    (hb : ∀ (kV doc pm : Value) (an : Option Addr) (cdv ct u : Value), bindArgs (PySem.W.fnOf "law" "law" (defArgs st) (defBody st) (defScope st) .none kV doc pm an cdv ct) ⟨[u], []⟩ = pure [(x, u)])
    (F : ∀ (w : World) (mg : Str → Option Value) (h : Heap), (K w.params).In h → h.Ns mainGlobals mg →
      ∃ (fa : Addr) (fd : FuncData), Cal (K w.params) mg "law" st [x] fa fd ∧ ∀ base : Heap, FnG l.prog w (K w.params) mg base k fa fd [x] (sp (K w.params)))
    (hsp : ∀ (K : PySem.W.Frag) (H : Hp) (a : Addr) (ns : List Int), ns.length ≤ n → (∀ z ∈ ns, Builtin.Int.intBits z ≤ 1048576) → SqL K H a (ns.map V.int) → sp K [.ref a] H (fun v _ => v = .bl true) E0) :
    PySem.W.WalkO q loose XP YP l.row.toRowW d [] (fun f vs => PySem.call f vs) := by
  refine walkG (x := x) hn hn2 hdf hr hY (fun w mg fa h KX G hmg => ?_) hsp
  obtain ⟨f, fd, C, ok⟩ := F w mg h KX G
  rw [hx] at hmg
  have e := C.m.symm.trans hmg
  cases e
  obtain ⟨oc, od, kV, doc, pm, an, cdv, ct, osl, rfl, lk, hcd⟩ := C.F.ex
  exact ⟨_, fun s u => .of_eq (hb kV doc pm an cdv ct u), fun base _ _ => ok base⟩
end Rs

namespace Rs
open PySem PySem.Spec PyProof.Rows L2

/-- xs[i:j] = another list -/
def gSlc (to : TE) (tl th : L2.St → Hp → (Option Int → Hp → Prop) → Prop) : TG := fun v σ H Q => to σ H fun o H1 => tl σ H1 fun l H2 => th σ H2 fun u H3 => ∃ (a b : Addr) (xs ys : List V) (i j : Int), o = .ref a ∧ v = .ref b ∧ l = some i ∧ u = some j ∧
  H3 a = some (.lst xs) ∧ H3 b = some (.lst ys) ∧ a ≠ b ∧ 0 ≤ i ∧ i ≤ j ∧ j ≤ xs.length ∧ xs.length + ys.length ≤ sizeLine ∧ Q σ (upd H3 a (.lst (xs.take i.toNat ++ ys ++ xs.drop j.toNat)))
theorem pg_slc {X : Cx} {o : Expr} {lo hi : Option Expr} {p2 pos : Pos} {to : TE} {tl th : L2.St → Hp → (Option Int → Hp → Prop) → Prop} (ho : PE X o to) (hl : PO X lo tl) (hh : PO X hi th)
    (ha : ∀ v, assign (.Subscript o (.Slice lo hi none p2) pos) X.env v = (do
      let ov ← holding [v] (eval o X.env)
      let iv ← holding [v, ov] (eval (.Slice lo hi none p2) X.env)
      standAt pos
      holding [v, ov, iv] (setItem ov iv v)
      release [iv, v, ov] []) := by intro _; rfl) : PG X (.Subscript o (.Slice lo hi none p2) pos) (gSlc to tl th) := by
  refine ⟨fun pins s σ H v u Q I r h => ?_⟩
  rw [ha]
  refine wpAny_bind (wpAny_holding (thn (ho.run pins s σ H _ I h) fun ov s1 ⟨x, H1, I1, r1, q1⟩ => ?_))
  refine wpAny_bind (wpAny_holding ?_)
  refine wpAny_Slice (thn (hl.run pins s1 σ H1 _ I1 q1) fun vl s2 ⟨l, H2, I2, pl, q2⟩ => thn (hh.run pins s2 σ H2 _ I2 q2) fun vu s3 ⟨w, H3, I3, pu, q3⟩ => ?_)
  rw [evalPart_none]
  refine wpAny_pure ?_
  have I4 : Inv X pins σ H3 { s3 with heap := s3.heap.push { cls := .type "slice", data := .fields #[vl, vu, .none] } } := I3.kept (t' := s3.toks) fun b ob q => Heap.get?_push_of_some _ q
  obtain ⟨a, b, xs, ys, i, j, rfl, rfl, rfl, rfl, hA, hB, hne, h0, h1, h2, h3, q⟩ := q3
  cases r1
  cases r
  cases pl
  cases pu
  refine wpAny_bind (wpAny_standAt (wpAny_bind (wpAny_holding ?_)))
  refine set_slice I4 hA hB hne (Heap.IsSliceOf.new ..) ⟨_, rfl⟩ ⟨_, rfl⟩ h0 h1 h2 h3 fun s5 I5 => ?_
  exact wpAny_release ⟨σ, _, I5, q⟩

/-! ### classes -/
/-- a method as it stands behind the top -/
structure CalM (K : PySem.W.Frag) (x qual : Str) (st : Stmt) (ps : List Str) (f : Addr) (fd : FuncData) : Prop where
  F : Fun K x qual st f fd
  b : Binds K fd ps []
section
variable {K : PySem.W.Frag} {mg : Str → Option Value} {h : Heap}
theorem ex_calM {C : Addr} {x qual : Str} {st : Stmt} {ps : List Str} {f : Addr} {oc : Value} {od an : Option Addr} {osl : Array (Option Value)} {kV doc pm cdv ct : Value} (a : PySem.W.findIn K (.ref C) x = some (some (.ref f))) (i : PySem.W.isFn K (.ref f) = true)
    (l : K.lookup f = some ⟨oc, od, .func (PySem.W.fnOf x qual (defArgs st) (defBody st) (defScope st) .none kV doc pm an cdv ct), osl⟩) (c : PySem.W.codeIn K cdv qual = true) (k : PySem.W.keepIn K (.ref f) = true)
    (b : ∀ (kV doc pm : Value) (an : Option Addr) (cdv ct : Value) (us : List Value), us.length = ps.length → bindArgs (PySem.W.fnOf x qual (defArgs st) (defBody st) (defScope st) .none kV doc pm an cdv ct) ⟨us, []⟩ = pure (ps.zip us)) :
    ∃ f fd, Meth K C x f ∧ CalM K x qual st ps f fd := ⟨_, _, ⟨a, i, k⟩, fun_mk l c k, (fun_mk l c k).binds b⟩
/-- an __init__ with keyword-only defaults -/
structure CalI (K : PySem.W.Frag) (C : Addr) (qual : Str) (st : Stmt) (kws : List (Str × V)) (f : Addr) (fd : FuncData) : Prop where
  M : Mk K C f
  F : FunD K "__init__" qual (defArgs st) (defBody st) (defScope st) [] kws f fd
theorem ex_calI {C D : Addr} {qual : Str} {st : Stmt} {kws : List (Str × V)} {f : Addr} {oc : Value} {od an : Option Addr} {osl : Array (Option Value)} {doc pm cdv ct : Value} (m : PySem.W.makesIn K C = true) (kc : PySem.W.keepIn K (.ref C) = true)
    (a : PySem.W.findIn K (.ref C) "__init__" = some (some (.ref f))) (i : PySem.W.isFn K (.ref f) = true)
    (l : K.lookup f = some ⟨oc, od, .func (PySem.W.fnOf "__init__" qual (defArgs st) (defBody st) (defScope st) .none (.ref D) doc pm an cdv ct), osl⟩) (c : PySem.W.codeIn K cdv qual = true) (k : PySem.W.keepIn K (.ref f) = true)
    (d : ∀ q ∈ kws, ∃ u, PySem.W.nsIn K D q.1 = some (some u) ∧ RelV q.2 u) : ∃ f fd, CalI K C qual st kws f fd :=
  ⟨_, _, ⟨m, a, i, kc⟩, ⟨⟨oc, od, .none, .ref D, doc, pm, an, cdv, ct, osl, rfl, l, c, Or.inl ⟨rfl, rfl⟩, Or.inr ⟨D, rfl, d⟩⟩, k⟩⟩
end
end Rs

namespace Rs
open PySem PySem.Spec PyProof.Rows L2

/-- the part of a list of whole numbers -/
def cutI (ns : List Int) (lo hi : Option Int) : List Int := (ns.drop (HT.sIx ns.length 0 lo)).take (HT.sIx ns.length ns.length hi - HT.sIx ns.length 0 lo)
theorem cutV_map (ns : List Int) (lo hi : Option Int) : cutV (ns.map V.int) lo hi = (cutI ns lo hi).map V.int := by
  unfold cutV cutI
  rw [List.map_take, List.map_drop, List.length_map]
theorem cutI_le (ns : List Int) (lo hi : Option Int) : (cutI ns lo hi).length ≤ ns.length := by
  unfold cutI
  rw [List.length_take, List.length_drop]
  omega
section
variable {σ : L2.St} {H H0 : Hp} {M : List Addr} {L L' : Led} {Q : VK} {v x y : V} {nx : L2.St → Hp → Prop} {rt : VK} {bk ct : L2.St → Hp → Prop} {t u : TS} {te ta tb tc : TE} {g : TG} {tt tu : TT} {tw : TS} {wi : TI} {K : PySem.W.Frag} {a p : Addr}
/-! attributes -/
theorem rd_fld {f : Str} (h : ta σ H fun x H1 => ∃ a C dx fs v, x = .ref a ∧ H1 a = some (.ins C dx fs) ∧ Cls K C ∧ NoAttr K C f ∧ fs.lookup f = some v ∧ Q v H1) : tFld K ta f σ H Q := h
theorem rd_fldV {f : Str} {C dx : Addr} {fs : List (Str × V)} {R : V → Prop} (S : Hs H0 M H L) (m : (a, HO.ins C dx fs) ∈ L) (c : Cls K C) (n : NoAttr K C f) (e : fs.lookup f = some v) (h : R v) :
    ∃ a' C dx fs v', V.ref a = .ref a' ∧ H a' = some (.ins C dx fs) ∧ Cls K C ∧ NoAttr K C f ∧ fs.lookup f = some v' ∧ R v' := ⟨a, C, dx, fs, v, rfl, S.is _ m, c, n, e, h⟩
theorem rd_sfld {f : Str} {tv : TE} (h : tv σ H fun y H1 => ta σ H1 fun x H2 => ∃ a C dx fs, x = .ref a ∧ H2 a = some (.ins C dx fs) ∧ Cls K C ∧ NoAttr K C f ∧ fs.length < 1000 ∧ nx σ (upd H2 a (.ins C dx (putF f y fs)))) : sFld K ta tv f ⟨nx, rt, bk, ct⟩ σ H := h
theorem rd_sfldV {f : Str} {C dx : Addr} {fs fs' : List (Str × V)} {R : Hp → Prop} (S : Hs H0 M H L) (ch : Chg a (.ins C dx fs) (.ins C dx fs') L L') (hm : H0 a = none ∨ a ∈ M) (c : Cls K C) (n : NoAttr K C f) (hl : fs.length < 1000) (e : putF f y fs = fs') (h : ∀ H', Hs H0 M H' L' → R H') :
    ∃ a' C dx fs, V.ref a = .ref a' ∧ H a' = some (.ins C dx fs) ∧ Cls K C ∧ NoAttr K C f ∧ fs.length < 1000 ∧ R (upd H a' (.ins C dx (putF f y fs))) := by
  subst e
  exact ⟨a, C, dx, fs, rfl, S.is _ ch.mem, c, n, hl, h _ (S.put ch hm)⟩
theorem rd_meth {C : Addr} {m : Str} {sp : Sp} {E : XK} {t : TA} (h : ta σ H fun x H1 => ∃ a dx fs, x = .ref a ∧ H1 a = some (.ins C dx fs) ∧ fs.lookup m = none ∧ t σ H1 fun vs H2 => sp (x :: vs) H2 Q E) : tMeth C m sp [] E ta t σ H Q := by
  have e : ∀ x, (fun (vs : List V) H2 => sp (x :: (vs ++ [])) H2 Q E) = fun vs H2 => sp (x :: vs) H2 Q E := fun x => by funext vs H2; rw [List.append_nil]
  show ta σ H fun x H1 => ∃ a dx fs, x = .ref a ∧ H1 a = some (.ins C dx fs) ∧ fs.lookup m = none ∧ t σ H1 fun vs H2 => sp (x :: (vs ++ [])) H2 Q E
  simp only [List.append_nil]
  exact h
theorem rd_methV {C dx : Addr} {m : Str} {fs : List (Str × V)} {R : Prop} (S : Hs H0 M H L) (hm : (a, HO.ins C dx fs) ∈ L) (e : fs.lookup m = none) (h : R) : ∃ a' dx fs, V.ref a = .ref a' ∧ H a' = some (.ins C dx fs) ∧ fs.lookup m = none ∧ R :=
  ⟨a, dx, fs, rfl, S.is _ hm, e, h⟩
theorem rd_mkK {C : Addr} {n m : Nat} {sp : Sp} {gV : List V → List V → List V} {E : XK} {t tk : TA} (h : t σ H fun vs H1 => tk σ H1 fun zs H2 => vs.length = n ∧ zs.length = m ∧ ∀ x dx, H2 x = none → H2 dx = none → dx ≠ x →
    sp (gV (.ref x :: vs) zs) (upd (upd H2 dx (.own x)) x (.ins C dx [])) (fun v H3 => v = .non ∧ Q (.ref x) H3) E) : tMakeK C n m sp gV E t tk σ H Q := h
theorem rd_mkV {C : Addr} {R : Addr → Hp → Prop} (S : Hs H0 M H L) (h : ∀ x dx H', H0 x = none → Hs H0 M H' ((x, .ins C dx []) :: L) → R x H') : ∀ x dx, H x = none → H dx = none → dx ≠ x → R x (upd (upd H dx (.own x)) x (.ins C dx [])) := by
  intro x dx hx hd ne
  obtain ⟨_, S1⟩ := S.new hd (.own x)
  have hx' : upd H dx (HO.own x) x = none := by rw [upd_ne (Ne.symm ne)]; exact hx
  obtain ⟨n0, S2⟩ := S1.new hx' (.ins C dx [])
  exact h x dx _ n0 (S2.sub (List.Sublist.cons_cons _ (List.Sublist.cons _ (List.Sublist.refl _))))
theorem rd_callL {i : Nat} {f : Addr} {sp : Sp} {E : XK} {t : TA} (e : σ[i]? = some (some (.ref f))) (h : t σ H fun vs H1 => sp vs H1 Q E) : tCallL i f sp [] E t σ H Q := by
  refine ⟨e, ?_⟩
  simp only [List.append_nil]
  exact h
/-! methods of lists -/
theorem rd_bm {T : String} {r : V → List V → Hp → VK → Prop} {t : TA} (h : ta σ H fun x H1 => tyV K T x H1 ∧ t σ H1 fun xs H2 => r x xs H2 Q) : tBM K T r ta t σ H Q := h
theorem rd_bm0 {T : String} {r : V → List V → Hp → VK → Prop} (h : ta σ H fun x H1 => tyV K T x H1 ∧ r x [] H1 Q) : tBM0 K T r ta σ H Q := h
theorem rd_tyL {xs : List V} {R : Prop} (S : Hs H0 M H L) (m : (a, HO.lst xs) ∈ L) (h : R) : tyV K "list" (.ref a) H ∧ R := ⟨Or.inl ⟨rfl, xs, S.lst m⟩, h⟩
theorem rd_app {xs : List V} (S : Hs H0 M H L) (c : Chg a (.lst xs) (.lst (xs ++ [y])) L L') (hm : H0 a = none ∨ a ∈ M) (hl : xs.length < sizeLine) (h : ∀ H', Hs H0 M H' L' → Q .non H') : rAppend (.ref a) [y] H Q :=
  ⟨a, xs, y, rfl, rfl, S.is _ c.mem, hl, h _ (S.put c hm)⟩
/-! calls over lists -/
theorem rd_sumI {xs : List V} {ns : List Int} (S : Hs H0 M H L) (m : (a, HO.lst xs) ∈ L) (e : xs = ns.map V.int) (h : Q (.int ns.sum) H) : rSum K [.ref a] H Q := ⟨a, ns, rfl, by subst e; exact S.lst m, h⟩
theorem rd_slL {xs : List V} {ns : List Int} {lo hi : Option Int} (S : Hs H0 M H L) (m : (a, HO.lst xs) ∈ L) (e : xs = ns.map V.int) (h : ∀ p H', H0 p = none → Hs H0 M H' ((p, .lst ((cutI ns lo hi).map V.int)) :: L) → Q (.ref p) H') : rSlL K (.ref a) lo hi H Q := by
  subst e
  refine ⟨a, _, rfl, S.lst m, ?_⟩
  rw [cutV_map]
  exact rd_newO S h
theorem rd_catL {xs ys : List V} {b : Addr} (S : Hs H0 M H L) (m : (a, HO.lst xs) ∈ L) (m2 : (b, HO.lst ys) ∈ L) (hz : xs.length + ys.length ≤ sizeLine) (h : ∀ p H', H0 p = none → Hs H0 M H' ((p, .lst (xs ++ ys)) :: L) → Q (.ref p) H') : rCat (.ref a) (.ref b) H Q :=
  ⟨a, b, xs, ys, rfl, rfl, S.is _ m, S.is _ m2, hz, rd_newO S h⟩
theorem rd_repL {xs : List V} {k : Int} (S : Hs H0 M H L) (m : (a, HO.lst xs) ∈ L) (h1 : 0 ≤ k) (h2 : k < 2 ^ 63) (hz : xs.length * k.toNat ≤ sizeLine) (h : ∀ p H', H0 p = none → Hs H0 M H' ((p, .lst (List.replicate k.toNat xs).flatten) :: L) → Q (.ref p) H') : rRep (.ref a) (.int k) H Q :=
  ⟨a, k, xs, rfl, rfl, S.is _ m, by omega, h2, hz, rd_newO S h⟩
def revR (K : PySem.W.Frag) (Q : VK) (x : V) (H1 : Hp) : Prop := ∃ a xs, x = .ref a ∧ SqL K H1 a xs ∧ ∀ p, H1 p = none → Q (.ref p) (upd H1 p (.lst xs.reverse))
theorem rd_revL (h : te σ H fun x H1 => revR K Q x H1) : tRevL K te σ H Q := h
theorem rd_revV {xs : List V} (S : Hs H0 M H L) (m : (a, HO.lst xs) ∈ L) (h : ∀ p H', H0 p = none → Hs H0 M H' ((p, .lst xs.reverse) :: L) → Q (.ref p) H') : revR K Q (.ref a) H := ⟨a, xs, rfl, S.lst m, rd_newO S h⟩
theorem rd_isN (h : Q (.bl (decide (x = .non))) H) : (fun x y H Q => y = V.non ∧ Q (.bl (decide (x = .non))) H : R2) x .non H Q := ⟨rfl, h⟩
theorem rd_notN (h : Q (.bl (!decide (x = .non))) H) : (fun x y H Q => y = V.non ∧ Q (.bl (!decide (x = .non))) H : R2) x .non H Q := ⟨rfl, h⟩
/-! targets -/
theorem gt_unl {xs : List V} {n : Nat} {ts : TGs} {N : L2.St → Hp → Prop} (S : Hs H0 M H L) (m : (a, HO.lst xs) ∈ L) (hn : xs.length = n) (h : ts xs σ H N) : gUnl K n ts (.ref a) σ H N := ⟨a, xs, rfl, S.lst m, hn, h⟩
theorem gt_sub {to ti : TE} {ts : TSet} {N : L2.St → Hp → Prop} (h : to σ H fun o H1 => ti σ H1 fun i H2 => ts o i v H2 fun H3 => N σ H3) : gSub to ti ts v σ H N := h
theorem gt_setL {xs : List V} {k : Int} {j : Nat} {N : Hp → Prop} (S : Hs H0 M H L) (c : Chg a (.lst xs) (.lst (xs.set j v)) L L') (hm : H0 a = none ∨ a ∈ M) (e : ixN xs.length k = some j) (h : ∀ H', Hs H0 M H' L' → N H') : rSetL (.ref a) (.int k) v H N :=
  ⟨a, xs, k, j, rfl, rfl, S.is _ c.mem, e, h _ (S.put c hm)⟩
theorem gt_slc {to : TE} {tl th : L2.St → Hp → (Option Int → Hp → Prop) → Prop} {N : L2.St → Hp → Prop} (h : to σ H fun o H1 => tl σ H1 fun l H2 => th σ H2 fun u H3 => ∃ (a b : Addr) (xs ys : List V) (i j : Int), o = .ref a ∧ v = .ref b ∧ l = some i ∧ u = some j ∧
    H3 a = some (.lst xs) ∧ H3 b = some (.lst ys) ∧ a ≠ b ∧ 0 ≤ i ∧ i ≤ j ∧ j ≤ xs.length ∧ xs.length + ys.length ≤ sizeLine ∧ N σ (upd H3 a (.lst (xs.take i.toNat ++ ys ++ xs.drop j.toNat)))) : gSlc to tl th v σ H N := h
theorem gt_slcV {b : Addr} {xs ys zs : List V} {i j : Int} {N : Hp → Prop} (S : Hs H0 M H L) (c : Chg a (.lst xs) (.lst zs) L L') (m : (b, HO.lst ys) ∈ L) (hne : a ≠ b) (hm : H0 a = none ∨ a ∈ M) (h0 : 0 ≤ i) (h1 : i ≤ j) (h2 : j ≤ xs.length) (hz : xs.length + ys.length ≤ sizeLine)
    (e : xs.take i.toNat ++ ys ++ xs.drop j.toNat = zs) (h : ∀ H', Hs H0 M H' L' → N H') : ∃ (a' b' : Addr) (xs ys : List V) (i' j' : Int), V.ref a = .ref a' ∧ V.ref b = .ref b' ∧ some i = some i' ∧ some j = some j' ∧
    H a' = some (.lst xs) ∧ H b' = some (.lst ys) ∧ a' ≠ b' ∧ 0 ≤ i' ∧ i' ≤ j' ∧ j' ≤ xs.length ∧ xs.length + ys.length ≤ sizeLine ∧ N (upd H a' (.lst (xs.take i'.toNat ++ ys ++ xs.drop j'.toNat))) := by
  subst e
  exact ⟨a, b, xs, ys, i, j, rfl, rfl, rfl, rfl, S.is _ c.mem, S.is _ m, hne, h0, h1, h2, hz, h _ (S.put c hm)⟩
/-! a comprehension over a range, all its steps without new objects left behind but the list itself -/
def lcW (J : It) (g : TG) (tt : TT) (te : TE) (vs : List Nat) (σ : L2.St) (H1 : Hp) (Q : VK) : Prop := ∀ D, H1 D = none → ∃ W : Nat → Nat → Hp → Prop, (∃ m, W 0 m (upd H1 D (.lst []))) ∧ ∀ i m H, W i m H →
  (J.stop i H ∧ Q (.ref D) H) ∨ (J.go i H ∧ ∃ Nx : Hp → Prop, (∀ H', Nx H' → ∃ m', m' < m ∧ W (i + 1) m' H') ∧ ∀ x H', J.yld i H x H' → g x (wipe σ vs) H' fun σ2 H2 => wipe σ2 vs = wipe σ vs ∧ tt σ2 H2 fun b H3 =>
    if b = true then te σ2 H3 fun y H4 => ∃ acc, H4 D = some (.lst acc) ∧ acc.length < sizeLine ∧ Nx (upd H4 D (.lst (acc ++ [y]))) else Nx H3)
theorem rd_lc {vs : List Nat} (h : wi σ H fun J H1 => lcW J g tt te vs σ H1 Q) : tLc wi g tt te vs σ H Q := h
def lcSkip (H0 : Hp) (M : List Addr) (L : Led) (R1 : List V → Prop) (D : Addr) (H : Hp) : Prop := H0 D = none ∧ ∃ acc, R1 acc ∧ Hs H0 M H ((D, .lst acc) :: L)
def lcPut (H0 : Hp) (M : List Addr) (L : Led) (R1 : List V → Prop) (D : Addr) (y : V) (H : Hp) : Prop := ∃ acc, H D = some (.lst acc) ∧ acc.length < sizeLine ∧ lcSkip H0 M L R1 D (upd H D (.lst (acc ++ [y])))
theorem rd_lcPut {D : Addr} {acc : List V} {L2 L3 : Led} {R1 : List V → Prop} (S : Hs H0 M H L2) (c : Chg D (.lst acc) (.lst (acc ++ [y])) L2 L3) (n : H0 D = none) (hl : acc.length < sizeLine) (sub : ((D, HO.lst (acc ++ [y])) :: L).Sublist L3) (r : R1 (acc ++ [y])) : lcPut H0 M L R1 D y H :=
  ⟨acc, S.is _ c.mem, hl, n, _, r, (S.put c (Or.inl n)).sub sub⟩
theorem rd_lcSkip {D : Addr} {acc : List V} {L2 : Led} {R1 : List V → Prop} (S : Hs H0 M H L2) (n : H0 D = none) (sub : ((D, HO.lst acc) :: L).Sublist L2) (r : R1 acc) : lcSkip H0 M L R1 D H := ⟨n, _, r, S.sub sub⟩
theorem lcw_range {lo : Int} {n : Nat} {vs : List Nat} (S : Hs H0 M H L) (R : Nat → List V → Prop) (r0 : R 0 [])
    (hs : ∀ D i acc H', i < n → R i acc → H0 D = none → Hs H0 M H' ((D, .lst acc) :: L) → g (.int (lo + i)) (wipe σ vs) H' fun σ2 H2 => wipe σ2 vs = wipe σ vs ∧ tt σ2 H2 fun b H3 => if b = true then te σ2 H3 fun y H4 => lcPut H0 M L (R (i + 1)) D y H4 else lcSkip H0 M L (R (i + 1)) D H3)
    (hd : ∀ D acc H', R n acc → H0 D = none → Hs H0 M H' ((D, .lst acc) :: L) → Q (.ref D) H') : lcW (Itr lo n) g tt te vs σ H Q := by
  intro D hD
  have S1 := S.new hD (.lst [])
  refine lc_range (fun i H' => lcSkip H0 M L (R i) D H') ⟨S1.1, [], r0, S1.2⟩ ?_ ?_
  · rintro i H' hi ⟨n0, acc, r, S'⟩
    exact hs D i acc H' hi r n0 S'
  · rintro H' ⟨n0, acc, r, S'⟩
    exact hd D acc H' r n0 S'
theorem lcw_list {a : Addr} {xs : List V} {vs : List Nat} (S : Hs H0 M H L) (R : Nat → List V → Prop) (r0 : R 0 []) (hl : ∀ H' acc D, Hs H0 M H' ((D, .lst acc) :: L) → SqL K H' a xs)
    (hs : ∀ D i x acc H', xs[i]? = some x → R i acc → H0 D = none → Hs H0 M H' ((D, .lst acc) :: L) → g x (wipe σ vs) H' fun σ2 H2 => wipe σ2 vs = wipe σ vs ∧ tt σ2 H2 fun b H3 => if b = true then te σ2 H3 fun y H4 => lcPut H0 M L (R (i + 1)) D y H4 else lcSkip H0 M L (R (i + 1)) D H3)
    (hd : ∀ D acc H', R xs.length acc → H0 D = none → Hs H0 M H' ((D, .lst acc) :: L) → Q (.ref D) H') : lcW (Itl K a) g tt te vs σ H Q := by
  intro D hD
  have S1 := S.new hD (.lst [])
  refine lc_list (xs := xs) (fun i H' => lcSkip H0 M L (R i) D H') ⟨S1.1, [], r0, S1.2⟩ (fun i H' _ ⟨_, acc, _, S'⟩ => hl H' acc D S') ?_ ?_
  · rintro i x H' hi ⟨n0, acc, r, S'⟩
    exact hs D i x acc H' hi r n0 S'
  · rintro H' ⟨n0, acc, r, S'⟩
    exact hd D acc H' r n0 S'
theorem lcw_tup {a : Addr} {xs : List V} {vs : List Nat} (S : Hs H0 M H L) (R : Nat → List V → Prop) (r0 : R 0 []) (hl : ∀ H' acc D, Hs H0 M H' ((D, .lst acc) :: L) → SqT K H' a xs)
    (hs : ∀ D i x acc H', xs[i]? = some x → R i acc → H0 D = none → Hs H0 M H' ((D, .lst acc) :: L) → g x (wipe σ vs) H' fun σ2 H2 => wipe σ2 vs = wipe σ vs ∧ tt σ2 H2 fun b H3 => if b = true then te σ2 H3 fun y H4 => lcPut H0 M L (R (i + 1)) D y H4 else lcSkip H0 M L (R (i + 1)) D H3)
    (hd : ∀ D acc H', R xs.length acc → H0 D = none → Hs H0 M H' ((D, .lst acc) :: L) → Q (.ref D) H') : lcW (Itt K a) g tt te vs σ H Q := by
  intro D hD
  have S1 := S.new hD (.lst [])
  refine lc_tup (xs := xs) (fun i H' => lcSkip H0 M L (R i) D H') ⟨S1.1, [], r0, S1.2⟩ (fun i H' _ ⟨_, acc, _, S'⟩ => hl H' acc D S') ?_ ?_
  · rintro i x H' hi ⟨n0, acc, r, S'⟩
    exact hs D i x acc H' hi r n0 S'
  · rintro H' ⟨n0, acc, r, S'⟩
    exact hd D acc H' r n0 S'
end
end Rs
namespace Rs
open PySem PySem.Spec PyProof.Rows L2
/-- an expression that the proof never comes to -/
def tNevE : TE := fun _ _ _ => False
theorem pe_nev {X : Cx} {e : Expr} : PE X e tNevE := ⟨fun _ _ _ _ _ _ h => h.elim⟩
end Rs
namespace Rs
open PySem PySem.Spec PyProof.Rows L2
theorem ex_u {K : PySem.W.Frag} {D : Addr} {x : Str} {v : V} {u : Value} (a : PySem.W.nsIn K D x = some (some u)) (r : RelV v u) : ∃ u, PySem.W.nsIn K D x = some (some u) ∧ RelV v u := ⟨u, a, r⟩
end Rs

namespace Rs
open PySem PySem.Spec PyProof.Rows L2
section
variable {H0 H H' : Hp} {M : List Addr} {L L' N : Led} {a p : Addr} {o o' : HO} {K : PySem.W.Frag}
theorem Hs.perm (S : Hs H0 M H L) (h : L'.Perm L) : Hs H0 M H L' := ⟨(h.map (·.1)).nodup_iff.mpr S.nd, fun q hq => S.is q (h.mem_iff.mp hq), S.old, S.mu⟩
/-- the objects of N are new, each another -/
structure NewL (H H' : Hp) (N : Led) : Prop where
  nd : (N.map (·.1)).Nodup
  nw : ∀ q ∈ N, H q.1 = none
  is : ∀ q ∈ N, H' q.1 = some q.2
/-- one object was changed, those of N are new -/
theorem Hs.oneN (S : Hs H0 M H L) (c : Chg a o o' L L') (hm : H0 a = none ∨ a ∈ M) (k : ∀ b u, H b = some u → b ≠ a → H' b = some u) (h' : H' a = some o') (n : NewL H H' N) : (∀ q ∈ N, H0 q.1 = none) ∧ Hs H0 M H' (N ++ L') := by
  have S' := S.one c hm k h'
  refine ⟨fun q hq => (S.new (n.nw q hq) q.2).1, ?_, ?_, S'.old, S'.mu⟩
  · rw [List.map_append, List.nodup_append]
    refine ⟨n.nd, S'.nd, ?_⟩
    intro x hx y hy e
    subst e
    obtain ⟨q, hq, rfl⟩ := List.mem_map.mp hx
    rw [c.keys] at hy
    obtain ⟨r, hr, e⟩ := List.mem_map.mp hy
    have := S.is r hr
    rw [e, n.nw q hq] at this
    cases this
  · intro q hq
    rcases List.mem_append.mp hq with h | h
    · exact n.is q h
    · exact S'.is q h
/-- nothing was changed, those of N are new -/
theorem Hs.moreN (S : Hs H0 M H L) (k : Same H H') (n : NewL H H' N) : (∀ q ∈ N, H0 q.1 = none) ∧ Hs H0 M H' (N ++ L) := by
  have S' := S.more k
  refine ⟨fun q hq => (S.new (n.nw q hq) q.2).1, ?_, ?_, S'.old, S'.mu⟩
  · rw [List.map_append, List.nodup_append]
    refine ⟨n.nd, S'.nd, ?_⟩
    intro x hx y hy e
    subst e
    obtain ⟨q, hq, rfl⟩ := List.mem_map.mp hx
    obtain ⟨r, hr, e⟩ := List.mem_map.mp hy
    have := S.is r hr
    rw [e, n.nw q hq] at this
    cases this
  · intro q hq
    rcases List.mem_append.mp hq with h | h
    · exact n.is q h
    · exact S'.is q h
/-- what a ledger tells of new ones -/
theorem Hs.news (S : Hs H0 M H L) (h : N.Sublist L) (n : ∀ q ∈ N, H0 q.1 = none) : NewL H0 H N := ⟨S.nd.sublist (h.map _), n, fun q hq => S.is q (h.subset hq)⟩
/-- plain data that a ledger holds: refs of tuples of whole numbers -/
def TupL (rs : List V) (T : Led) : Prop := (∀ r ∈ rs, ∃ q ∈ T, r = .ref q.1) ∧ ∀ q ∈ T, ∃ ns : List Int, q.2 = .tup (ns.map V.int)
theorem TupL.nil : TupL [] [] := ⟨fun r h => (nomatch h), fun q h => (nomatch h)⟩
theorem TupL.app {rs rs2 : List V} {T T2 : Led} (h : TupL rs T) (h2 : TupL rs2 T2) : TupL (rs ++ rs2) (T2 ++ T) := by
  refine ⟨fun r hr => ?_, fun q hq => ?_⟩
  · rcases List.mem_append.mp hr with z | z
    · obtain ⟨q, hq, e⟩ := h.1 r z; exact ⟨q, List.mem_append_right _ hq, e⟩
    · obtain ⟨q, hq, e⟩ := h2.1 r z; exact ⟨q, List.mem_append_left _ hq, e⟩
  · rcases List.mem_append.mp hq with z | z
    · exact h2.2 q z
    · exact h.2 q z
theorem TupL.snoc {rs : List V} {T : Led} (h : TupL rs T) (q : Addr) (ns : List Int) : TupL (rs ++ [.ref q]) ((q, .tup (ns.map V.int)) :: T) :=
  h.app (T2 := [(q, .tup (ns.map V.int))]) ⟨fun r hr => ⟨_, List.mem_cons_self, by simpa using hr⟩, fun z hz => ⟨ns, by simp at hz; rw [hz]⟩⟩
theorem dpT {rs : List V} {T : Led} (h : TupL rs T) (is : ∀ q ∈ T, H q.1 = some q.2) : ∃ nss : List (List Int), nss.length = rs.length ∧ DpAll K H rs (nss.map fun ns => .tuple (ns.map .int)) := by
  induction rs with
  | nil => exact ⟨[], rfl, .nil⟩
  | cons r rs ih =>
    obtain ⟨nss, e, d⟩ := ih ⟨fun x hx => h.1 x (List.mem_cons_of_mem _ hx), h.2⟩
    obtain ⟨q, hq, rfl⟩ := h.1 r List.mem_cons_self
    obtain ⟨ns, e2⟩ := h.2 q hq
    have hi := is q hq
    rw [e2] at hi
    exact ⟨ns :: nss, by simp [e], .cons (.tup (SqT.of hi) (dps_ints ns)) d⟩
theorem lay_T : ∀ nss : List (List Int), PyData.canLayAll0 (nss.map fun ns => .tuple (ns.map .int)) = true ∧ PyData.depthAll (nss.map fun ns => .tuple (ns.map .int)) ≤ 1
  | [] => by simp [PyData.canLayAll0, PyData.depthAll]
  | ns :: nss => by
    obtain ⟨a, b⟩ := lay_T nss
    simp only [List.map_cons, PyData.canLayAll0, PyData.canLay0, canLay_ints, a, Bool.and_self, PyData.depthAll, PyData.depth, depth_ints, true_and]
    omega
/-- a list of such tuples: data -/
theorem dpLT {rs : List V} {T : Led} (h : TupL rs T) (S : Hs H0 M H L) (m : (a, HO.lst rs) ∈ L) (sub : ∀ q ∈ T, q ∈ L) : ∃ nss : List (List Int), nss.length = rs.length ∧ Dp K H (.ref a) (.list (nss.map fun ns => .tuple (ns.map .int))) ∧ SeqAt.shaped (.list (nss.map fun ns => .tuple (ns.map .int))) = true := by
  obtain ⟨nss, e, d⟩ := dpT (K := K) (H := H) h fun q hq => S.is q (sub q hq)
  obtain ⟨y, z⟩ := lay_T nss
  refine ⟨nss, e, .lst (S.lst m) d, ?_⟩
  unfold SeqAt.shaped
  have e1 : PyData.canLay0 (.list (nss.map fun ns => .tuple (ns.map .int))) = true := by simp only [PyData.canLay0, y]
  rw [e1, Bool.true_and]
  refine decide_eq_true ?_
  simp only [PyData.depth]
  omega
theorem eqv_nil (xs : List PyData) : PyData.eqv (.list xs) (.list []) = decide (xs.length = 0) := by
  cases xs <;> simp [PyData.eqv, PyData.eqvAll]
/-- == [] and != [] of a list of such tuples -/
theorem rd_eqT0 {Q : VK} {rs : List V} {T : Led} {b : Addr} (h : TupL rs T) (S : Hs H0 M H L) (m : (a, HO.lst rs) ∈ L) (m2 : (b, HO.lst []) ∈ L) (sub : ∀ q ∈ T, q ∈ L) (k : Q (.bl (decide (rs.length = 0))) H) : rEqD K (.ref a) (.ref b) H Q := by
  obtain ⟨nss, e, d, sh⟩ := dpLT (K := K) h S m sub
  refine ⟨_, .list [], d, .lst (S.lst m2) .nil, sh, by decide, ?_⟩
  rw [eqv_nil, List.length_map, e]
  exact k
theorem rd_neT0 {Q : VK} {rs : List V} {T : Led} {b : Addr} (h : TupL rs T) (S : Hs H0 M H L) (m : (a, HO.lst rs) ∈ L) (m2 : (b, HO.lst []) ∈ L) (sub : ∀ q ∈ T, q ∈ L) (k : Q (.bl (!decide (rs.length = 0))) H) : rNeD K (.ref a) (.ref b) H Q := by
  obtain ⟨nss, e, d, sh⟩ := dpLT (K := K) h S m sub
  refine ⟨_, .list [], d, .lst (S.lst m2) .nil, sh, by decide, ?_⟩
  rw [eqv_nil, List.length_map, e]
  exact k
end
end Rs
namespace Rs
open PySem PySem.Spec PyProof.Rows L2
theorem rd_nn {R : Prop} (h : R) : V.non = V.non ∧ R := ⟨rfl, h⟩
end Rs
namespace Rs
open PySem PySem.Spec PyProof.Rows L2
section
variable {σ : L2.St} {H : Hp} {nx : L2.St → Hp → Prop} {rt : VK} {bk ct : L2.St → Hp → Prop} {te : TE}
theorem rd_aug {i : Nat} {v : V} {rd : V → V → Hp → VK → Prop} (e : σ[i]? = some (some v)) (h : te σ H fun y H1 => rd v y H1 fun z H2 => nx (σ.set i (some z)) H2) : tAug i te rd ⟨nx, rt, bk, ct⟩ σ H := ⟨v, e, h⟩
theorem rd_ipI {f : Int → Int → Int} {Q : VK} {i j : Int} (h : Q (.int (f i j)) H) : ipI f (.int i) (.int j) H Q := ⟨i, j, rfl, rfl, h⟩
end
end Rs
namespace Rs
open PySem PySem.Spec PyProof.Rows L2
theorem Hs.made {C x dx : Addr} {H0 H : Hp} {M : List Addr} {L : Led} (S : Hs H0 M H L) (hx : H x = none) (hd : H dx = none) (ne : dx ≠ x) : H0 x = none ∧ Hs H0 M (upd (upd H dx (.own x)) x (.ins C dx [])) ((x, .ins C dx []) :: L) := by
  obtain ⟨_, S1⟩ := S.new hd (.own x)
  have hx' : upd H dx (HO.own x) x = none := by rw [upd_ne (Ne.symm ne)]; exact hx
  obtain ⟨n0, S2⟩ := S1.new hx' (.ins C dx [])
  exact ⟨n0, S2.sub (List.Sublist.cons_cons _ (List.Sublist.cons _ (List.Sublist.refl _)))⟩
end Rs

namespace Rs
open PySem PySem.Spec PyProof.Rows L2

/-! ### sum and max over tuples, with a start, with a default -/
section
variable {prog : Program} {w : World} {A : Around} {s : Shared} {R : Result → Shared → Prop} {E : Value → Shared → Prop}
/-- a walk with one more in front, that is over -/
theorem walk_more {I : Addr} {fp wr : List Addr} {n : Nat} {P : Nat → Value → Prop} {St : Nat → Heap → Prop} (W : Walks prog w A I fp wr n P St) :
    Walks prog w A I fp wr (n + 1) (fun i v => 0 < i ∧ P (i - 1) v) (fun i h => 0 < i ∧ St (i - 1) h) where
  sub := W.sub
  frame := fun i h h' st k => ⟨st.1, W.frame _ h h' st.2 k⟩
  item := fun i s Q E hi st hq => by
    obtain ⟨j, rfl⟩ : ∃ j, i = j + 1 := ⟨i - 1, by have := st.1; omega⟩
    refine W.item j s Q E (by omega) st.2 fun v h' tk p st' k => hq v h' tk ⟨Nat.succ_pos _, p⟩ ⟨Nat.succ_pos _, st'⟩ k
  done := fun s Q E st hq => W.done s Q E st.2 hq
  self := fun i s Q E st hq => W.self _ s Q E st.2 hq
theorem sumK_args (a v : Value) : argsOk "sum" ⟨[a], [(Str.ofString "start", v)]⟩ := by unfold argsOk; kernel_rfl
theorem maxD_args (a v : Value) : argsOk "max" ⟨[a], [(Str.ofString "default", v)]⟩ := by unfold argsOk; kernel_rfl
def shiftV (k : Int) (val : Nat → Int) : Nat → Int
  | 0 => k
  | i + 1 => val i
theorem preSum_shift (k : Int) (val : Nat → Int) : ∀ n, preSum (shiftV k val) (n + 1) = k + preSum val n
  | 0 => by simp [preSum, shiftV]
  | n + 1 => by
    rw [preSum, preSum_shift k val n, preSum]
    simp [shiftV]
    omega
/-- sum(x, start=k) -/
theorem sum_from {x : Value} {k : Int} {tok : Tok} {Q : Value → Shared → Prop}
    (h : wpAny (model prog w) A.in1 (pyIter x) (fun it s₂ => ∃ I fp wr n P St val, it = .ref I ∧ Walks prog w A.in1 I fp wr n P St ∧ St 0 s₂.heap ∧ (∀ b ∈ fp, b < s₂.heap.objs.size) ∧ (∀ i v, P i v → ∃ t, v = .int (val i) t) ∧
      ∀ h' tk t', (∀ b o, b ∉ wr → s₂.heap.get? b = some o → h'.get? b = some o) → Q (.int (k + preSum val n) t') { s₂ with heap := h', toks := tk }) E s) :
    wpAny (model prog w) A (call (.builtin "sum") [x] [(Str.ofString "start", .int k tok)]) Q E s := by
  refine PyProof.Rows.kmk_tree F.kind_sum F.plain_sum F.entry_sum (sumK_args _ _) ?_
  unfold Builtin.«sum»
  simp only [List.length_cons, List.length_nil]
  rw [if_neg (by decide)]
  refine wpAny_bind (wpAny_of_eq (a := [some (.int k tok)]) rfl ?_)
  refine wpAny_bind (wpAny_mono h (fun it s₂ q => ?_) fun _ _ e => e)
  obtain ⟨I, fp, wr, n, P, St, val, rfl, W, st, hfp, hval, hQ⟩ := q
  have hv' : ∀ i v, (0 < i ∧ P (i - 1) v) → ∃ t, v = .int (shiftV k val i) t := fun i v z => by
    obtain ⟨j, rfl⟩ : ∃ j, i = j + 1 := ⟨i - 1, by omega⟩
    exact hval j v z.2
  have hS : s₂.heap.objs.size ∉ fp := fun m => Nat.lt_irrefl _ (hfp _ m)
  show wpAny _ A.in1 (if (_ : Bool) = true then _ else _) _ _ _
  split
  · refine wpAny_bind (wpAny_rule (wpAny_bind (wpAny_mkInt (wpAny_bind (wpAny_pure ?_)))))
    simp only [List.forIn_cons, List.forIn_nil]
    refine wpAny_bind (wpAny_bind (wpAny_bind (wpAny_isInstance (T := "int") (b := false) (typeIs_int _ _ _) PySem.sub_int_str ?_)))
    refine wpAny_pure (wpAny_bind (wpAny_bind (wpAny_isInstance (T := "int") (b := false) (typeIs_int _ _ _) PySem.sub_int_bytes ?_)))
    refine wpAny_pure (wpAny_bind (wpAny_bind (wpAny_isInstance (T := "int") (b := false) (typeIs_int _ _ _) PySem.sub_int_bytearray ?_)))
    refine wpAny_pure (wpAny_pure ?_)
    refine wpAny_bind (wpAny_newObj_type (wpAny_pure ⟨plainId_quiet F.plain_sum_loop _, codeAny_sum_loopG (walk_more W) (shiftV k val) hv' s₂.heap.objs.size hS n 1 _ _ 0 0 (Or.inl rfl) rfl (by omega)
      ⟨Nat.one_pos, W.frame _ _ _ st fun b _ o e => Heap.get?_push_of_some _ e⟩ (by rw [show preSum (shiftV k val) 1 = k by simp [preSum, shiftV]]; exact Heap.get?_push_size _ rfl) fun h' tk t' kp => ?_⟩))
    rw [preSum_shift]
    exact hQ h' tk t' fun b o hb e => kp b o hb (Nat.ne_of_lt (Heap.lt_size e)) (Heap.get?_push_of_some _ e)
  · refine wpAny_bind (wpAny_pure ?_)
    simp only [List.forIn_cons, List.forIn_nil]
    refine wpAny_bind (wpAny_bind (wpAny_bind (wpAny_isInstance (T := "int") (b := false) (typeIs_int _ _ _) PySem.sub_int_str ?_)))
    refine wpAny_pure (wpAny_bind (wpAny_bind (wpAny_isInstance (T := "int") (b := false) (typeIs_int _ _ _) PySem.sub_int_bytes ?_)))
    refine wpAny_pure (wpAny_bind (wpAny_bind (wpAny_isInstance (T := "int") (b := false) (typeIs_int _ _ _) PySem.sub_int_bytearray ?_)))
    refine wpAny_pure (wpAny_pure ?_)
    refine wpAny_bind (wpAny_newObj_type (wpAny_pure ⟨plainId_quiet F.plain_sum_loop _, codeAny_sum_loopG (walk_more W) (shiftV k val) hv' s₂.heap.objs.size hS n 1 _ _ 0 2 (Or.inr rfl) rfl (by omega)
      ⟨Nat.one_pos, W.frame _ _ _ st fun b _ o e => Heap.get?_push_of_some _ e⟩ (by rw [show preSum (shiftV k val) 1 = k by simp [preSum, shiftV]]; exact Heap.get?_push_size _ rfl) fun h' tk t' kp => ?_⟩))
    rw [preSum_shift]
    exact hQ h' tk t' fun b o hb e => kp b o hb (Nat.ne_of_lt (Heap.lt_size e)) (Heap.get?_push_of_some _ e)
/-- max(x, default=d): the loop -/
theorem max_loopD {I : Addr} {fp wr : List Addr} {n : Nat} {P : Nat → Value → Prop} {St : Nat → Heap → Prop} (W : Walks prog w A.in1 I fp wr n P St) (val : Nat → Int) (hval : ∀ i v, P i v → ∃ t, v = .int (val i) t) (T : Addr) (hT : T ∉ fp) (d : Value) :
    ∀ (k i : Nat) (s : Shared) (c : Nat) (best : Option (Int × Tok)), n - i = k → i ≤ n → St i s.heap →
      s.heap.get? T = some { cls := .type "list", dict := none, data := .seq (match best with | none => #[] | some b => #[.int b.1 b.2, .int b.1 b.2]) c, slots := #[] } →
      (∀ v h' tk, (best = none → i = n → v = d) → (best ≠ none ∨ i < n → ∃ m t, v = .int m t ∧ ((∃ b, best = some b ∧ m = b.1) ∨ ∃ j, i ≤ j ∧ j < n ∧ m = val j) ∧ (∀ b, best = some b → b.1 ≤ m) ∧ ∀ j, i ≤ j → j < n → val j ≤ m) →
        (∀ b o, b ∉ wr → b ≠ T → s.heap.get? b = some o → h'.get? b = some o) → R (.ok (.ret v)) { s with heap := h', toks := tk }) →
      codeAny (model prog w) A (.builtin "max.loop" ⟨[.ref I, .none, .ref T], [(Str.ofString "default", d)]⟩) R s := by
  have hTw : T ∉ wr := fun z => hT (W.sub _ z)
  have hname : (toString "max" ++ toString ".loop" : String) = "max.loop" := by decide
  intro k
  induction k with
  | zero =>
    intro i s c best hk hi hst hS hR
    have hin : i = n := by omega
    subst hin
    refine codeAny_builtin F.entry_max_loop ?_
    rw [Around.under_plainId F.plain_max_loop _]
    show wpAny _ A.in1 (seqItems? (.ref T) >>= _) _ _ s
    refine wpAny_bind (wpAny_seqItems hS rfl ?_)
    show wpAny _ A.in1 (tryCatch (pyNext (.ref I)) _ >>= _) _ _ s
    refine wpAny_bind (wpAny_tryCatch (W.done s _ _ hst fun h' tk kp => ?_))
    have hS' := kp T _ hTw hS
    cases best with
    | none =>
      show wpAny _ A.in1 (rule _ >>= _) _ _ _
      refine wpAny_bind (wpAny_rule (wpAny_pure ?_))
      exact hR d h' tk (fun _ _ => rfl) (fun z => by rcases z with z | z; exact absurd rfl z; omega) fun b o hb _ e => kp b o hb e
    | some b =>
      show wpAny _ A.in1 (updateSeq T (fun _ => #[]) >>= _) _ _ _
      refine wpAny_bind ?_
      refine wpAny_updateSeq hS' rfl (wpAny_bind (wpAny_letGo (wpAny_pure ?_)))
      refine hR (.int b.1 b.2) _ tk (fun z => nomatch z) (fun _ => ⟨b.1, b.2, rfl, Or.inl ⟨b, rfl, rfl⟩, fun b' e => by cases e; exact Int.le_refl _, fun j h1 h2 => by omega⟩) fun b o hb hbT e => (Heap.get?_update_other _ _ (Ne.symm hbT)).trans (kp b o hb e)
  | succ k ih =>
    intro i s c best hk hi hst hS hR
    have hlt : i < n := by omega
    refine codeAny_builtin F.entry_max_loop ?_
    rw [Around.under_plainId F.plain_max_loop _]
    show wpAny _ A.in1 (seqItems? (.ref T) >>= _) _ _ s
    refine wpAny_bind (wpAny_seqItems hS rfl ?_)
    show wpAny _ A.in1 (tryCatch (pyNext (.ref I)) _ >>= _) _ _ s
    refine wpAny_bind (wpAny_tryCatch (W.item i s _ _ hlt hst fun v h' tk hP hst' kp => ?_))
    have hS' := kp T _ hTw hS
    obtain ⟨t, rfl⟩ := hval i v hP
    have next : ∀ (b : Int × Tok) (h2 : Heap) (tk2 c2 : Nat), (b.1 = val i ∨ ∃ b0, best = some b0 ∧ b.1 = b0.1) → val i ≤ b.1 → (∀ b0, best = some b0 → b0.1 ≤ b.1) → St (i + 1) h2 →
        h2.get? T = some { cls := .type "list", dict := none, data := .seq #[.int b.1 b.2, .int b.1 b.2] c2, slots := #[] } → (∀ y o, y ∉ wr → y ≠ T → s.heap.get? y = some o → h2.get? y = some o) →
        codeAny (model prog w) A (.builtin "max.loop" ⟨[.ref I, .none, .ref T], [(Str.ofString "default", d)]⟩) R { s with heap := h2, toks := tk2 } := by
      intro b h2 tk2 c2 e1 e2 e3 st2 g2 kp2
      refine ih (i + 1) { s with heap := h2, toks := tk2 } c2 (some b) (by clear e1 e2 e3; omega) hlt st2 g2 fun v h3 tk3 _ z kp3 => ?_
      obtain ⟨m, t3, rfl, z1, z2, z3⟩ := z (Or.inl (by simp))
      have zb := z2 b rfl
      refine hR _ h3 tk3 (fun _ q => by omega) (fun _ => ⟨m, t3, rfl, ?_, fun b0 q => Int.le_trans (e3 b0 q) zb, fun j h1 h2 => ?_⟩) fun y o hy hyT e => kp3 y o hy hyT (kp2 y o hy hyT e)
      · rcases z1 with ⟨b', q1, rfl⟩ | ⟨j, q1, q2, rfl⟩
        · cases q1
          rcases e1 with e1 | ⟨b0, q2, e1⟩
          · exact Or.inr ⟨i, Nat.le_refl _, hlt, e1⟩
          · exact Or.inl ⟨b0, q2, e1⟩
        · exact Or.inr ⟨j, by omega, q2, rfl⟩
      · by_cases q : j = i
        · subst q; omega
        · exact z3 j (by omega) h2
    cases best with
    | none =>
      show wpAny _ A.in1 (updateSeq T (fun _ => #[.int (val i) t, .int (val i) t]) >>= _) _ _ _
      refine wpAny_bind ?_
      refine wpAny_updateSeq hS' rfl ?_
      rw [hname]
      refine wpAny_pure ⟨plainId_quiet F.plain_max_loop _, next (val i, t) _ _ _ (Or.inl rfl) (Int.le_refl _) (fun b0 q => nomatch q) (W.frame _ _ _ hst' fun b hb o e => ?_) (Heap.get?_update_self _ hS' rfl) fun b o hb hbT e => ?_⟩
      · exact (Heap.get?_update_other _ _ (fun z : T = b => hT (z ▸ hb))).trans e
      · exact (Heap.get?_update_other _ _ (Ne.symm hbT)).trans (kp b o hb e)
    | some b =>
      have cmp := CmpOf.ints_gt (prog := prog) (w := w) (A := A.in1) (P := fun (z : Nat) v => ∃ t, v = Value.int (if z = 0 then val i else b.1) t) (fun z => if z = 0 then val i else b.1) (fun _ _ z => z)
      show wpAny _ A.in1 (tryCatch (holding [Value.int (val i) t, Value.int (val i) t] (richCompare .Gt (.int (val i) t) (.int b.1 b.2) >>= _)) _ >>= _) _ _ _
      refine wpAny_bind (wpAny_tryCatch (wpAny_holding (wpAny_bind (cmp 0 1 _ _ _ _ _ ⟨t, rfl⟩ ⟨b.2, rfl⟩ ?_))))
      refine wpAny_bind (wpAny_holding (wpAny_truthy_bool ?_))
      refine wpAny_bind (wpAny_letGo (wpAny_pure ?_))
      simp only [if_true, Nat.one_ne_zero, if_false]
      by_cases q : val i > b.1
      · rw [decide_eq_true q]
        simp only [if_true]
        refine wpAny_bind ?_
        refine wpAny_updateSeq hS' rfl (wpAny_bind (wpAny_letGo ?_))
        rw [hname]
        refine wpAny_pure ⟨plainId_quiet F.plain_max_loop _, next (val i, t) _ _ _ (Or.inl rfl) (Int.le_refl _) (fun b0 z => by cases z; exact Int.le_of_lt q) (W.frame _ _ _ hst' fun y hb o e => ?_) (Heap.get?_update_self _ hS' rfl) fun y o hb hbT e => ?_⟩
        · exact (Heap.get?_update_other _ _ (fun z : T = y => hT (z ▸ hb))).trans e
        · exact (Heap.get?_update_other _ _ (Ne.symm hbT)).trans (kp y o hb e)
      · rw [decide_eq_false q]
        simp only [Bool.false_eq_true, if_false]
        refine wpAny_bind (wpAny_letGo ?_)
        rw [hname]
        exact wpAny_pure ⟨plainId_quiet F.plain_max_loop _, next b _ _ c (Or.inr ⟨b, rfl, rfl⟩) (by omega) (fun b0 z => by cases z; exact Int.le_refl _) hst' hS' fun y o hb _ e => kp y o hb e⟩
/-- max(x, default=d) -/
theorem max_dflt {x d : Value} {Q : Value → Shared → Prop}
    (h : wpAny (model prog w) A.in1 (pyIter x) (fun it s₂ => ∃ I fp wr n P St, ∃ val : Nat → Int, it = .ref I ∧ Walks prog w A.in1 I fp wr n P St ∧ St 0 s₂.heap ∧ (∀ b ∈ fp, b < s₂.heap.objs.size) ∧ (∀ i v, P i v → ∃ t, v = .int (val i) t) ∧
      ∀ v h' tk, (n = 0 → v = d) → (0 < n → ∃ m t, v = .int m t ∧ (∃ j, j < n ∧ m = val j) ∧ ∀ j, j < n → val j ≤ m) → (∀ b o, b ∉ wr → s₂.heap.get? b = some o → h'.get? b = some o) → Q v { s₂ with heap := h', toks := tk }) E s) :
    wpAny (model prog w) A (call (.builtin "max") [x] [(Str.ofString "default", d)]) Q E s := by
  have hname : (toString "max" ++ toString ".loop" : String) = "max.loop" := by decide
  refine PyProof.Rows.kmk_tree F.kind_max F.plain_max F.entry_max (maxD_args _ _) ?_
  show wpAny _ A.in1 (Builtin.Builtins.bindParams "max" ["key", "default"] 0 ⟨[], [(Str.ofString "default", d)]⟩ >>= _) _ _ s
  refine wpAny_bind (wpAny_of_eq (a := [none, some d]) rfl ?_)
  refine wpAny_bind (wpAny_pure ?_)
  refine wpAny_bind (wpAny_mono h (fun it s₂ q => ?_) fun _ _ e => e)
  obtain ⟨I, fp, wr, n, P, St, val, rfl, W, st, hfp, hval, hQ⟩ := q
  refine wpAny_bind (wpAny_newObj_type ?_)
  have hT : s₂.heap.objs.size ∉ fp := fun m => Nat.lt_irrefl _ (hfp _ m)
  rw [hname]
  refine wpAny_pure ⟨plainId_quiet F.plain_max_loop _, max_loopD W val hval s₂.heap.objs.size hT d n 0 _ 0 none (by omega) (Nat.zero_le _) (W.frame _ _ _ st fun b _ o e => Heap.get?_push_of_some _ e) (Heap.get?_push_size _ rfl) fun v h' tk z1 z2 kp => ?_⟩
  refine hQ v h' tk (fun z => z1 rfl z.symm) (fun z => ?_) fun b o hb e => kp b o hb (Nat.ne_of_lt (Heap.lt_size e)) (Heap.get?_push_of_some _ e)
  obtain ⟨m, t, e, y1, _, y3⟩ := z2 (Or.inr z)
  refine ⟨m, t, e, ?_, fun j hj => y3 j (Nat.zero_le _) hj⟩
  rcases y1 with ⟨b, q, _⟩ | ⟨j, _, q, r⟩
  · cases q
  · exact ⟨j, q, r⟩
end
end Rs
namespace Rs
open PySem PySem.Spec PyProof.Rows L2
theorem preSum_take (ns : List Int) : ∀ n, n ≤ ns.length → preSum (fun i => ns.getD i 0) n = (ns.take n).sum
  | 0, _ => by simp [preSum]
  | n + 1, h => by
    rw [preSum, preSum_take ns n (by omega), List.take_succ, List.getElem?_eq_getElem (by omega), List.sum_append]
    simp [List.getD_eq_getElem?_getD, List.getElem?_eq_getElem (show n < ns.length by omega)]
theorem preSum_all (ns : List Int) : preSum (fun i => ns.getD i 0) ns.length = ns.sum := by rw [preSum_take ns _ (Nat.le_refl _), List.take_length]
theorem vals_at {ns : List Int} {us : List Value} (r : Vals (ns.map V.int) us) (i : Nat) (v : Value) (h : us.toArray[i]? = some v) : ∃ t, v = .int (ns.getD i 0) t := by
  rw [List.getElem?_toArray] at h
  obtain ⟨hl, e⟩ := List.getElem?_eq_some_iff.mp h
  have hl2 : i < ns.length := by rw [← r.length, List.length_map] at hl; exact hl
  have e1 : (ns.map V.int)[i]? = some (.int (ns.getD i 0)) := by rw [List.getElem?_map, List.getD_eq_getElem?_getD, List.getElem?_eq_getElem hl2]; rfl
  obtain ⟨u, e2, ru⟩ := r.get e1
  rw [h] at e2
  cases e2
  exact ru
section
variable {prog : Program} {w : World} {A : Around} {s : Shared} {E : Value → Shared → Prop}
/-- iter(l) of a list, of a tuple: a walk over its items -/
theorem walk_list {l : Addr} {its : Array Value} {Q : Value → Shared → Prop} (hh : A.handled = none) (hl : s.heap.IsList l its)
    (h : ∀ s₂ : Shared, s₂ = { s with heap := s.heap.push { cls := .type "list_iterator", data := .fields #[.ref l, .int 0 0] } } → ∀ (St : Nat → Heap → Prop), Walks prog w A s.heap.objs.size [s.heap.objs.size, l] [s.heap.objs.size] its.size (fun i v => its[i]? = some v) St → St 0 s₂.heap →
      (∀ b ∈ [s.heap.objs.size, l], b < s₂.heap.objs.size) → Q (.ref s.heap.objs.size) s₂) : wpAny (model prog w) A (pyIter (.ref l)) Q E s := by
  have hlt : l < s.heap.objs.size := by obtain ⟨_, e, _⟩ := hl; exact Heap.lt_size e
  refine wpAny_pyIter_list hl (h _ rfl _ (Walks.list (A := A) hh _ l (Nat.ne_of_lt hlt) its) ⟨⟨_, Heap.get?_push_size _ rfl, rfl, rfl⟩, hl.push _⟩ ?_)
  intro b hb
  show b < (s.heap.push _).objs.size
  rw [Heap.size_push]
  simp only [List.mem_cons, List.not_mem_nil, or_false] at hb
  rcases hb with rfl | rfl
  · exact Nat.lt_succ_self _
  · exact Nat.lt_succ_of_lt hlt
theorem walk_tup {l : Addr} {its : Array Value} {Q : Value → Shared → Prop} (hh : A.handled = none) (hl : s.heap.IsTuple l its)
    (h : ∀ s₂ : Shared, s₂ = { s with heap := s.heap.push { cls := .type "tuple_iterator", data := .fields #[.ref l, .int 0 0] } } → ∀ (St : Nat → Heap → Prop), Walks prog w A s.heap.objs.size [s.heap.objs.size, l] [s.heap.objs.size] its.size (fun i v => its[i]? = some v) St → St 0 s₂.heap →
      (∀ b ∈ [s.heap.objs.size, l], b < s₂.heap.objs.size) → Q (.ref s.heap.objs.size) s₂) : wpAny (model prog w) A (pyIter (.ref l)) Q E s := by
  have hlt : l < s.heap.objs.size := by obtain ⟨_, e, _⟩ := hl; exact Heap.lt_size e
  refine wpAny_pyIter_tuple hl (h _ rfl _ (Walks.tuple (A := A) hh _ l (Nat.ne_of_lt hlt) its) ⟨⟨_, Heap.get?_push_size _ rfl, rfl, rfl⟩, hl.push _⟩ ?_)
  intro b hb
  show b < (s.heap.push _).objs.size
  rw [Heap.size_push]
  simp only [List.mem_cons, List.not_mem_nil, or_false] at hb
  rcases hb with rfl | rfl
  · exact Nat.lt_succ_self _
  · exact Nat.lt_succ_of_lt hlt
end
section
variable {X : Cx}
/-- what stood, stands -/
theorem it_old {s : Shared} {o : Obj} {h' : Heap} (k : ∀ b u, b ∉ [s.heap.objs.size] → (s.heap.push o).get? b = some u → h'.get? b = some u) : ∀ b u, s.heap.get? b = some u → h'.get? b = some u := fun b u e =>
  k b u (fun z => absurd (Heap.lt_size e) ((List.mem_singleton.mp z) ▸ Nat.lt_irrefl _)) (Heap.get?_push_of_some _ e)
def rSumT (K : PySem.W.Frag) : List V → Hp → VK → Prop := fun vs H Q => ∃ (a : Addr) (ns : List Int), vs = [V.ref a] ∧ SqT K H a (ns.map V.int) ∧ Q (.int ns.sum) H
theorem cr_sumT (hc : X.calm = true) : CallR X (.builtin "sum") (rSumT X.K) := by
  intro pins s σ H vs us Q I r h
  obtain ⟨a, ns, rfl, hs, q⟩ := h
  obtain ⟨its, rv, ht, hz⟩ := I.tuple hs
  rw [Vals.ref1 r]
  obtain ⟨o, e1, e2, n, e3⟩ := id ht
  refine call_sum_walkG (walk_tup (A := X.A.in1) (I.ok.hd hc) ⟨o, e1, e2, n, e3⟩ fun s₂ es St W st hfp => ?_)
  subst es
  refine ⟨_, _, _, _, _, _, fun i => ns.getD i 0, rfl, W, st, hfp, vals_at rv, fun h' tk t' hk => ⟨.int _, H, I.kept (it_old hk), ⟨_, rfl⟩, ?_⟩⟩
  rw [List.size_toArray, ← rv.length, List.length_map, preSum_all]
  exact q
def rSumK (K : PySem.W.Frag) : List V → List V → Hp → VK → Prop := fun vs zs H Q => ∃ (a : Addr) (ns : List Int) (k : Int), vs = [V.ref a] ∧ zs = [V.int k] ∧ SqL K H a (ns.map V.int) ∧ Q (.int (k + ns.sum)) H
theorem cr_sumK (hc : X.calm = true) : CallRK X (.builtin "sum") [Str.ofString "start"] (rSumK X.K) := by
  intro pins s σ H vs zs us ws Q I r rz h
  obtain ⟨a, ns, k, rfl, rfl, hs, q⟩ := h
  obtain ⟨its, rv, ht, hz⟩ := I.list hs
  rw [Vals.ref1 r]
  obtain ⟨u, rfl, t, rfl⟩ := vals1 rz
  refine sum_from (walk_list (A := X.A.in1) (I.ok.hd hc) ht.isList fun s₂ es St W st hfp => ?_)
  subst es
  refine ⟨_, _, _, _, _, _, fun i => ns.getD i 0, rfl, W, st, hfp, vals_at rv, fun h' tk t' hk => ⟨.int _, H, I.kept (it_old hk), ⟨_, rfl⟩, ?_⟩⟩
  rw [List.size_toArray, ← rv.length, List.length_map, preSum_all]
  exact q
def maxD (d : Int) : List Int → Int
  | [] => d
  | x :: xs => xs.foldl max x
theorem fold_max : ∀ (xs : List Int) (x : Int), (xs.foldl max x = x ∨ xs.foldl max x ∈ xs) ∧ x ≤ xs.foldl max x ∧ ∀ y ∈ xs, y ≤ xs.foldl max x
  | [], x => ⟨Or.inl rfl, Int.le_refl _, fun y h => (nomatch h)⟩
  | z :: xs, x => by
    obtain ⟨h1, h2, h3⟩ := fold_max xs (max x z)
    simp only [List.foldl_cons]
    have a1 : x ≤ max x z := by omega
    have a2 : z ≤ max x z := by omega
    refine ⟨?_, by omega, fun y hy => ?_⟩
    · rcases h1 with h1 | h1
      · rw [h1]
        by_cases c : x ≤ z
        · right; rw [show max x z = z by omega]; exact List.mem_cons_self
        · left; omega
      · exact Or.inr (List.mem_cons_of_mem _ h1)
    · rcases List.mem_cons.mp hy with rfl | hy
      · omega
      · exact h3 y hy
theorem maxD_is {d m : Int} {ns : List Int} (h0 : ns ≠ []) (h1 : m ∈ ns) (h2 : ∀ y ∈ ns, y ≤ m) : maxD d ns = m := by
  cases ns with
  | nil => exact absurd rfl h0
  | cons x xs =>
    obtain ⟨a, b, c⟩ := fold_max xs x
    show xs.foldl max x = m
    have z1 : xs.foldl max x ≤ m := by
      rcases a with a | a
      · rw [a]; exact h2 x List.mem_cons_self
      · exact h2 _ (List.mem_cons_of_mem _ a)
    have z2 : m ≤ xs.foldl max x := by
      rcases List.mem_cons.mp h1 with rfl | h
      · exact b
      · exact c m h
    omega
def rMaxDT (K : PySem.W.Frag) : List V → List V → Hp → VK → Prop := fun vs zs H Q => ∃ (a : Addr) (ns : List Int) (d : Int), vs = [V.ref a] ∧ zs = [V.int d] ∧ SqT K H a (ns.map V.int) ∧ Q (.int (maxD d ns)) H
theorem cr_maxDT (hc : X.calm = true) : CallRK X (.builtin "max") [Str.ofString "default"] (rMaxDT X.K) := by
  intro pins s σ H vs zs us ws Q I r rz h
  obtain ⟨a, ns, d, rfl, rfl, hs, q⟩ := h
  obtain ⟨its, rv, ht, hz⟩ := I.tuple hs
  rw [Vals.ref1 r]
  obtain ⟨u, rfl, t, rfl⟩ := vals1 rz
  obtain ⟨o, e1, e2, n, e3⟩ := id ht
  refine max_dflt (walk_tup (A := X.A.in1) (I.ok.hd hc) ⟨o, e1, e2, n, e3⟩ fun s₂ es St W st hfp => ?_)
  subst es
  have hl : its.toArray.size = ns.length := by rw [List.size_toArray, ← rv.length, List.length_map]
  refine ⟨_, _, _, _, _, _, fun i => ns.getD i 0, rfl, W, st, hfp, vals_at rv, fun v h' tk z1 z2 hk => ?_⟩
  rw [hl] at z1 z2
  by_cases h0 : ns = []
  · subst h0
    rw [z1 rfl]
    exact ⟨.int d, H, I.kept (it_old hk), ⟨t, rfl⟩, q⟩
  · have hp : 0 < ns.length := List.length_pos_iff.mpr h0
    obtain ⟨m, t2, rfl, ⟨j, hj, rfl⟩, hm⟩ := z2 hp
    refine ⟨.int _, H, I.kept (it_old hk), ⟨t2, rfl⟩, ?_⟩
    have em : maxD d ns = ns.getD j 0 := by
      refine maxD_is h0 ?_ fun y hy => ?_
      · rw [List.getD_eq_getElem?_getD, List.getElem?_eq_getElem hj]
        exact List.getElem_mem hj
      · obtain ⟨i, hi, rfl⟩ := List.mem_iff_getElem.mp hy
        have z : ns.getD i 0 ≤ ns.getD j 0 := hm i hi
        rw [List.getD_eq_getElem?_getD, List.getElem?_eq_getElem hi] at z
        exact z
    show Q (.int (ns.getD j 0)) H
    rw [← em]
    exact q
end
end Rs
namespace Rs
open PySem PySem.Spec PyProof.Rows L2
/-! ### a tuple's slice with a step -/
def ixT (n : Nat) (lo hi : Option Int) (st : Int) : List Nat := (List.range (Builtin.Slice.slicePlaces (Builtin.Slice.sliceAdjust lo hi st n).1 (Builtin.Slice.sliceAdjust lo hi st n).2 st)).map fun (k : Nat) => ((Builtin.Slice.sliceAdjust lo hi st n).1 + (k : Int) * st).toNat
def pickT (xs : List V) (lo hi : Option Int) (st : Int) : List V := (ixT xs.length lo hi st).filterMap (xs[·]?)
def pickI (ns : List Int) (lo hi : Option Int) (st : Int) : List Int := (ixT ns.length lo hi st).filterMap (ns[·]?)
theorem pickT_map (ns : List Int) (lo hi : Option Int) (st : Int) : pickT (ns.map V.int) lo hi st = (pickI ns lo hi st).map V.int := by
  unfold pickT pickI
  rw [List.length_map]
  generalize ixT ns.length lo hi st = ix
  induction ix with
  | nil => rfl
  | cons i ix ih =>
    cases h : ns[i]? with
    | none => rw [List.filterMap_cons_none (by rw [List.getElem?_map, h]; rfl), List.filterMap_cons_none h, ih]
    | some z => rw [List.filterMap_cons_some (by rw [List.getElem?_map, h]; rfl), List.filterMap_cons_some h, ih]; rfl
section
variable {prog : Program} {w : World} {A : Around} {s : Shared} {E : Value → Shared → Prop}
theorem part_ {v : Value} {o : Option Int} {Q : Option Int → Shared → Prop} (p : IsPart v o) (h : Q o s) : wpAny (model prog w) A (Builtin.Slice.slicePartIndex v) Q E s := HT.slicePart_ p h
theorem stepped {sl : Addr} {vl vu vs : Value} {lo hi : Option Int} {st : Int} {n : Nat} {Q : Int × Int × Nat → Shared → Prop} (hs : s.heap.IsSliceOf sl vl vu vs) (pl : IsPart vl lo) (pu : IsPart vu hi) (ps : IsPart vs (some st)) (h0 : st ≠ 0)
    (h : Q ((Builtin.Slice.sliceAdjust lo hi st n).1, st, Builtin.Slice.slicePlaces (Builtin.Slice.sliceAdjust lo hi st n).1 (Builtin.Slice.sliceAdjust lo hi st n).2 st) s) : wpAny (model prog w) A (Builtin.Slice.sliceApplied (.ref sl) (pure (n : Int))) Q E s := by
  obtain ⟨os, hos, hcs, hds⟩ := id hs
  unfold Builtin.Slice.sliceApplied Builtin.Slice.sliceFields
  refine wpAny_bind (wpAny_bind (wpAny_field hos hds (x := vl) rfl (wpAny_bind (wpAny_field hos hds (x := vu) rfl (wpAny_bind (wpAny_field hos hds (x := vs) rfl (wpAny_pure ?_)))))))
  refine wpAny_bind (part_ ps ?_)
  show wpAny _ _ (if (st == 0) = true then _ else _) _ _ s
  rw [if_neg (by simpa using h0)]
  exact wpAny_bind (part_ pl (wpAny_bind (part_ pu (wpAny_bind (wpAny_pure (wpAny_pure h))))))
theorem getItem_step {t sl : Addr} {items : Array Value} {vl vu vs : Value} {lo hi : Option Int} {st : Int} {Q : Value → Shared → Prop} (ht : IsTup s.heap t items) (hs : s.heap.IsSliceOf sl vl vu vs) (pl : IsPart vl lo) (pu : IsPart vu hi) (ps : IsPart vs (some st))
    (h0 : st ≠ 0) (h1 : st ≠ 1) (hz : ((ixT items.size lo hi st).filterMap (items[·]?)).length ≤ sizeLine)
    (h : Q (.ref s.heap.objs.size) { s with heap := s.heap.push { cls := .type "tuple", data := .seq ((ixT items.size lo hi st).filterMap (items[·]?)).toArray } }) : wpAny (model prog w) A (getItem (.ref t) (.ref sl)) Q E s := by
  obtain ⟨os, hos, hcs, hds⟩ := id hs
  have hT : s.TypeIs (.ref sl) "slice" := ⟨os, hos, hcs⟩
  have hk : sizeOk (.seq ((ixT items.size lo hi st).filterMap (items[·]?)).toArray) := by
    show ((ixT items.size lo hi st).filterMap (items[·]?)).toArray.size ≤ sizeLine
    rw [List.size_toArray]
    exact hz
  have ep : ((List.range (Builtin.Slice.slicePlaces (Builtin.Slice.sliceAdjust lo hi st items.size).1 (Builtin.Slice.sliceAdjust lo hi st items.size).2 st)).filterMap fun (k : Nat) => items[((Builtin.Slice.sliceAdjust lo hi st items.size).1 + (k : Int) * st).toNat]?) = (ixT items.size lo hi st).filterMap (items[·]?) := by
    unfold ixT
    rw [List.filterMap_map]
    rfl
  unfold getItem
  try with_reducible refine wpAny_holding ?_
  first | refine wpAny_bind (wpAny_pure ?_) | skip
  refine wpAny_bind (wpAny_sequenceKey ht.typeIs (by decide) ?_)
  refine wpAny_bind (wpAny_callSpecial?_slot (name := Str.ofString "__getitem__") ht.typeIs PyProof.Rows.slot_tuple_getitem (wpAny_call_entry PyProof.Rows.slot_tuple_getitem ht.typeIs entry_tuple_getitem ?_ (args_tuple_getitem _ _)))
  show wpAny _ _ (Builtin.Tuple.tupleItemsOf (.ref t) >>= _) _ _ s
  refine wpAny_bind (tupleItemsOf_ ht ?_)
  refine wpAny_bind (wpAny_typeOf hT ?_)
  rw [if_pos (by decide)]
  refine wpAny_bind (stepped hs pl pu ps h0 ?_)
  show wpAny _ _ (if (_ && st == 1 && _) = true then _ else _) _ _ s
  rw [if_neg (by
    have e : (st == 1) = false := by simpa using h1
    simp [e])]
  rw [ep]
  first
    | exact wpAny_bind (m := Builtin.Tuple.tupleExact _) (wpAny_newObj_type (wpAny_pure ⟨_, rfl, wpAny_pure h⟩) hk)
    | exact wpAny_bind (m := Builtin.Tuple.tupleExact _) (wpAny_newObj_type (wpAny_bind (wpAny_pure (wpAny_pure ⟨_, rfl, wpAny_pure h⟩))) hk)
    | exact wpAny_bind (wpAny_bind (m := Builtin.Tuple.tupleExact _) (wpAny_newObj_type (wpAny_pure (wpAny_pure ⟨_, rfl, wpAny_pure h⟩)) hk))
    | exact wpAny_bind (wpAny_bind (m := Builtin.Tuple.tupleExact _) (wpAny_newObj_type (wpAny_pure ⟨_, rfl, wpAny_pure h⟩) hk))
end
def tSlT3 (K : PySem.W.Frag) (te : TE) (tl th ts : TO) : TE := fun σ H Q => te σ H fun x H1 => tl σ H1 fun l H2 => th σ H2 fun u H3 => ts σ H3 fun st H4 => ∃ a xs k, x = .ref a ∧ SqT K H4 a xs ∧ st = some k ∧ k ≠ 0 ∧ k ≠ 1 ∧ (pickT xs l u k).length ≤ sizeLine ∧
  ∀ p, H4 p = none → Q (.ref p) (upd H4 p (.tup (pickT xs l u k)))
theorem pe_slT3 {X : Cx} {e : Expr} {te : TE} {lo hi st : Option Expr} {tl th ts : TO} {p2 pos : Pos} (he : PE X e te) (hl : PO X lo tl) (hh : PO X hi th) (hs : PO X st ts)
    (hsub : ∀ ov iv, subscripted (.Slice lo hi st p2) false ov iv = operate [ov, iv] (getItem ov iv) := by intro _ _; with_unfolding_all rfl) : PE X (.Subscript e (.Slice lo hi st p2) pos) (tSlT3 X.K te tl th ts) := by
  constructor
  intro pins s σ H Q I h
  refine PyProof.Rows.Subscript_ (thn (he.run pins s σ H _ I h) ?_)
  rintro v s1 ⟨x, H1, I1, r1, q1⟩
  refine wpAny_Slice (thn (hl.run pins s1 σ H1 _ I1 q1) ?_)
  rintro vl s2 ⟨l, H2, I2, pl, q2⟩
  refine thn (hh.run pins s2 σ H2 _ I2 q2) ?_
  rintro vu s3 ⟨u, H3, I3, pu, q3⟩
  refine thn (hs.run pins s3 σ H3 _ I3 q3) ?_
  rintro vs s4 ⟨c, H4, I4, ps, a, xs, k, ex, hx, ek, h0, h1, hz, q4⟩
  subst ex ek
  cases r1
  have I5 : Inv X pins σ H4 { s4 with heap := s4.heap.push { cls := .type "slice", data := .fields #[vl, vu, vs] } } := I4.kept (t' := s4.toks) fun b ob q => Heap.get?_push_of_some _ q
  obtain ⟨its, rv, ht, hz2⟩ := I5.tuple hx
  have hlen : its.length = xs.length := rv.length.symm
  have ei : ∀ ix : List Nat, ix.filterMap (its.toArray[·]?) = ix.filterMap (its[·]?) := fun ix => by simp only [List.getElem?_toArray]
  have vp := vals_pick rv (ixT xs.length l u k)
  show wpAny (model X.prog X.w) X.A (subscriptTail e (.Slice lo hi st p2) (.ref a) (.ref s4.heap.objs.size)) (EP X pins σ Q) X.xe _
  refine tail_any (ops := [.ref a, .ref s4.heap.objs.size]) ht.typeIs PyProof.Rows.slot_tuple_getitem.lookup ?_ (hsub _ _)
  refine getItem_step ht (Heap.IsSliceOf.new _ vl vu vs) pl pu ps h0 h1 ?_ ?_
  · rw [ei, List.size_toArray, hlen, ← vp.length]
    exact hz
  · rw [ei, show its.toArray.size = xs.length by rw [List.size_toArray, hlen]]
    refine ⟨.ref _, _, I5.laid (t' := s4.toks) (o := .tup (pickT xs l u k)) (fun b ob q => Heap.get?_push_of_some _ q) (Nat.le_refl _) ?_, rfl, q4 _ (I5.hok.fresh (Nat.le_refl _))⟩
    exact ⟨hz, _, vp, IsTup.new _ _⟩
end Rs

namespace Rs
open PySem PySem.Spec PyProof.Rows L2
/-- a def with keyword-only defaults -/
structure CalD (K : PySem.W.Frag) (mg : Str → Option Value) (x : Str) (st : Stmt) (kws : List (Str × V)) (f : Addr) (fd : FuncData) : Prop where
  F : FunD K x x (defArgs st) (defBody st) (defScope st) [] kws f fd
  m : mg x = some (.ref f)
def slR3 (K : PySem.W.Frag) (Q : VK) (x : V) (l u st : Option Int) (H : Hp) : Prop := ∃ a xs k, x = .ref a ∧ SqT K H a xs ∧ st = some k ∧ k ≠ 0 ∧ k ≠ 1 ∧ (pickT xs l u k).length ≤ sizeLine ∧ ∀ p, H p = none → Q (.ref p) (upd H p (.tup (pickT xs l u k)))
section
variable {σ : L2.St} {H H0 : Hp} {M : List Addr} {L L' : Led} {Q : VK} {v x y : V} {nx : L2.St → Hp → Prop} {rt : VK} {bk ct : L2.St → Hp → Prop} {t u : TS} {te ta tb tc : TE} {K : PySem.W.Frag} {a p : Addr}
theorem rd_sumT {xs : List V} {ns : List Int} (S : Hs H0 M H L) (m : (a, HO.tup xs) ∈ L) (e : xs = ns.map V.int) (h : Q (.int ns.sum) H) : rSumT K [.ref a] H Q := ⟨a, ns, rfl, by subst e; exact S.tup m, h⟩
theorem rd_cbk {r : List V → List V → Hp → VK → Prop} {t tk : TA} (h : t σ H fun vs H1 => tk σ H1 fun zs H2 => r vs zs H2 Q) : tCKw r t tk σ H Q := h
theorem rd_sumK {xs : List V} {ns : List Int} {k : Int} (S : Hs H0 M H L) (m : (a, HO.lst xs) ∈ L) (e : xs = ns.map V.int) (h : Q (.int (k + ns.sum)) H) : rSumK K [.ref a] [.int k] H Q := ⟨a, ns, k, rfl, rfl, by subst e; exact S.lst m, h⟩
theorem rd_maxDT {xs : List V} {ns : List Int} {k : Int} (S : Hs H0 M H L) (m : (a, HO.tup xs) ∈ L) (e : xs = ns.map V.int) (h : Q (.int (maxD k ns)) H) : rMaxDT K [.ref a] [.int k] H Q := ⟨a, ns, k, rfl, rfl, by subst e; exact S.tup m, h⟩
theorem rd_slT3 {tl th ts : TO} (h : te σ H fun x H1 => tl σ H1 fun l H2 => th σ H2 fun u H3 => ts σ H3 fun st H4 => slR3 K Q x l u st H4) : tSlT3 K te tl th ts σ H Q := h
theorem rd_slR3 {xs : List V} {ns : List Int} {l u : Option Int} {k : Int} (S : Hs H0 M H L) (m : (a, HO.tup xs) ∈ L) (e : xs = ns.map V.int) (h0 : k ≠ 0) (h1 : k ≠ 1) (hz : (pickI ns l u k).length ≤ sizeLine)
    (h : ∀ p H', H0 p = none → Hs H0 M H' ((p, .tup ((pickI ns l u k).map V.int)) :: L) → Q (.ref p) H') : slR3 K Q (.ref a) l u (some k) H := by
  subst e
  refine ⟨a, _, k, rfl, S.tup m, rfl, h0, h1, ?_, ?_⟩
  · rw [pickT_map, List.length_map]; exact hz
  · rw [pickT_map]; exact rd_newO S h
theorem rd_slTp {xs ys : List V} {lo hi : Option Int} (S : Hs H0 M H L) (m : (a, HO.tup xs) ∈ L) (w : ¬ (HT.sIx xs.length 0 lo = 0 ∧ HT.sIx xs.length xs.length hi = xs.length)) (e : cutV xs lo hi = ys) (h : ∀ p H', H0 p = none → Hs H0 M H' ((p, .tup ys) :: L) → Q (.ref p) H') : rSlT K (.ref a) lo hi H Q := by
  subst e
  exact ⟨a, xs, rfl, S.tup m, w, rd_newO S h⟩
theorem rd_repT {xs : List V} {k : Int} (S : Hs H0 M H L) (m : (a, HO.tup xs) ∈ L) (h0 : xs ≠ []) (h1 : 2 ≤ k) (h2 : k ≤ 1000) (h3 : xs.length ≤ 1000) (h : ∀ p H', H0 p = none → Hs H0 M H' ((p, .tup (List.replicate k.toNat xs).flatten) :: L) → Q (.ref p) H') : rRepT K (.ref a) (.int k) H Q :=
  ⟨a, k, xs, rfl, rfl, S.tup m, h0, h1, h2, h3, rd_newO S h⟩
theorem rd_catT {xs ys : List V} {b : Addr} (S : Hs H0 M H L) (m : (a, HO.tup xs) ∈ L) (m2 : (b, HO.tup ys) ∈ L) (h0 : xs ≠ []) (h1 : ys ≠ []) (hz : xs.length + ys.length ≤ sizeLine) (h : ∀ p H', H0 p = none → Hs H0 M H' ((p, .tup (xs ++ ys)) :: L) → Q (.ref p) H') : rCatT K (.ref a) (.ref b) H Q :=
  ⟨a, b, xs, ys, rfl, rfl, S.tup m, S.tup m2, h0, hz, fun z => absurd z h1, fun _ => rd_newO S h⟩
theorem rd_all {xs : List V} {bs : List Bool} (S : Hs H0 M H L) (m : (a, HO.lst xs) ∈ L) (e : xs = bs.map V.bl) (h : Q (.bl (bs.all id)) H) : rAll K [.ref a] H Q := ⟨a, bs, rfl, by subst e; exact S.lst m, h⟩
theorem rd_int1b {b : Bool} {R : Int → Prop} (h : R (if b then 1 else 0)) : (∃ i, [V.bl b] = [V.int i] ∧ R i) ∨ ∃ k, [V.bl b] = [.bl k] ∧ R (if k then 1 else 0) := Or.inr ⟨b, rfl, h⟩
end
theorem rd_yes {σ : L2.St} {H : Hp} {Q : Bool → Hp → Prop} (h : Q true H) : tYes σ H Q := h
theorem pick_le (ns : List Int) (lo : Option Int) (h : lo = none ∨ lo = some 1) : (pickI ns lo none 2).length ≤ ns.length := by
  unfold pickI
  refine Nat.le_trans (List.length_filterMap_le _ _) ?_
  unfold ixT
  rw [List.length_map, List.length_range]
  rcases h with rfl | rfl
  · simp [Builtin.Slice.sliceAdjust, Builtin.Slice.slicePlaces]
    split <;> omega
  · simp [Builtin.Slice.sliceAdjust, Builtin.Slice.slicePlaces]
    split <;> omega
theorem pick_mem {ns : List Int} {lo hi : Option Int} {k z : Int} (h : z ∈ pickI ns lo hi k) : z ∈ ns := by
  obtain ⟨i, _, hi⟩ := List.mem_filterMap.mp h
  exact List.mem_of_getElem? hi
end Rs

namespace Rs
open PySem PySem.Spec PyProof.Rows L2
section
variable {X : Cx} {CX : CXT} {k n : Nat} {f C : Addr} {fd : FuncData} {ps ks : List Str} {sp : Sp} {E : XK} {m : Str} {p pos apos : Pos} {o : Expr} {kws : List Keyword} {ta : TE} {tk : TA} {g : List Value → List Value → List Value} {gV : List V → List V → List V}
/-- o.m(k = v, ..) -/
def tMethK (C : Addr) (m : Str) (n : Nat) (sp : Sp) (gV : List V → List V → List V) (E : XK) (ta : TE) (tk : TA) : TE := fun σ H Q => ta σ H fun x H1 => ∃ a dx fs, x = .ref a ∧ H1 a = some (.ins C dx fs) ∧ fs.lookup m = none ∧ tk σ H1 fun zs H2 => zs.length = n ∧ sp (gV [x] zs) H2 Q E
theorem pe_methK {pl : Sem Bool} (he : PE X o ta) (c : Cls X.K C) (hm : Meth X.K C m f) (F : FnOk X.prog X.w X.K X.mg X.base CX k f fd ps sp) (hr : Room k X.A) (hb : KBn X.K fd ps 1 ks g gV) (hx : Passes CX X E) (hkw : PK X kws tk)
    (hall : (backToKw pos (keywordEach kws X.env)).all (·.1.isSome) = true := by rfl) (hks : (backToKw pos (keywordEach kws X.env)).filterMap (·.1) = ks := by rfl)
    (ht : eval (.Call (.Attribute o m apos) [] kws pos) X.env = (do
      let ov ← eval o X.env
      standAt apos.atName
      let (f, first) ← holding [ov] (getMethod ov m pl)
      callWith pos f first (backTo pos (starEach [] X.env)) (backToKw pos (keywordEach kws X.env))) := by rfl) :
    PE X (.Call (.Attribute o m apos) [] kws pos) (tMethK C m ks.length sp gV E ta tk) := by
  constructor
  intro pins s σ H Q I h
  refine PySem.W.methodCall_KW (pl := pl) (thn (he.run pins s σ H _ I h) ?_) ht
  rintro u s1 ⟨x, H1, I1, rx, a, dx, fs, ex, ea, l, q⟩
  subst ex
  obtain rfl : u = Value.ref a := rx
  refine getmeth_ok I1 ea c hm l ?_
  have np : ((backTo pos (starEach [] X.env)).any (·.1) || (backToKw pos (keywordEach kws X.env)).any (·.1.isNone)) = false := by
    have z : ∀ l : List (Option Str × Sem Value), l.all (·.1.isSome) = true → l.any (·.1.isNone) = false := by
      intro l hl
      induction l with
      | nil => rfl
      | cons q l ih =>
        simp only [List.all_cons, Bool.and_eq_true] at hl
        simp only [List.any_cons, ih hl.2, Bool.or_false]
        cases e : q.1 with
        | none => rw [e] at hl; exact absurd hl.1 (by decide)
        | some _ => rfl
    rw [z _ hall]; rfl
  refine PySem.W.callWith_KW0 (first := [.ref a]) (h₀ := X.base) I1.ok.mod.kin hm.kp hall ?_ np
  refine thn (hkw.run pos pins s1 σ H1 _ I1 q) ?_
  rintro ws s2 ⟨zs, H2, I2, rz, l2, q2⟩
  refine ⟨I2.kIn, ?_⟩
  rw [hks]
  exact run_fnN (us := [.ref a]) (vs := [.ref a]) F hr hb hx I2 (.cons rfl .nil) rz rfl l2 q2
/-- a def called by a builtin -/
theorem run_in {A : Around} {pins : List (Addr × Obj)} {σ : L2.St} {H : Hp} {s : Shared} {Q : VK} {a : Addr} (F : FnOk X.prog X.w X.K X.mg X.base CX k f fd ["self"] sp) (hr : Room k A) (e0 : Env0 X.prog X.w X.K X.mg X.base A X.stack s H) (hb : Binds X.K fd ["self"] []) (hx : Passes CX X E)
    (I : Inv X pins σ H s) (h : sp [.ref a] H Q E) : wpAny (model X.prog X.w) A (call (.ref f) [.ref a]) (EP X pins σ Q) X.xe s := by
  refine wpAny_call (codeAny_mono (F.run A X.stack s H ⟨[.ref a], []⟩ [.ref a] [.ref a] Q E hr e0 (hb s [.ref a] I.kIn rfl) (.cons rfl .nil) h) fun r s' hq => ?_)
  cases r with
  | error e => exact hx pins σ H s e s' I hq
  | ok fl =>
    cases fl with
    | ret u => exact I.after hq
    | next => exact False.elim hq
    | brk => exact False.elim hq
    | cont => exact False.elim hq
def rLenO (C : Addr) (sp : Sp) (E : XK) : List V → Hp → VK → Prop := fun xs H Q => ∃ a dx fs, xs = [V.ref a] ∧ H a = some (.ins C dx fs) ∧ sp [.ref a] H (fun z H' => ∃ n : Int, z = .int n ∧ 0 ≤ n ∧ n < 2 ^ 63 ∧ Q (.int n) H') E
theorem call_lenO (hs : PySem.W.findIn X.K (.ref C) "__len__" = some (some (.ref f))) (hf : PySem.W.isFn X.K (.ref f) = true) (F : FnOk X.prog X.w X.K X.mg X.base CX k f fd ["self"] sp) (hr : Room (k + 1) X.A) (hb : Binds X.K fd ["self"] []) (hx : Passes CX X E) : CallR X (.builtin "len") (rLenO C sp E) := by
  intro pins s σ H xs us Q I r h
  obtain ⟨a, dx, fs, rfl, ha, q⟩ := h
  rw [Vals.ref1 r]
  obtain ⟨mA, O, _, _, _, _⟩ := ins_get I.hok ha
  obtain ⟨od, J, _⟩ := O.look
  obtain ⟨m, fr⟩ := I.fr
  refine PySem.W.len_K fr I.ok.mod.kin J hs hf (wpAny_mono (run_in F hr.in1 I.env0.in1 hb hx I q) (fun w s' z => ?_) fun _ _ x => x)
  obtain ⟨z', H', I', rz, n, e, h0, h1, qz⟩ := z
  subst e
  obtain ⟨t, rfl⟩ := rz
  exact ⟨⟨h0, h1⟩, .int n, H', I'.tok _, ⟨_, rfl⟩, qz⟩
def rReprO (C : Addr) (sp : Sp) (E : XK) : List V → Hp → VK → Prop := fun xs H Q => ∃ a dx fs, xs = [V.ref a] ∧ H a = some (.ins C dx fs) ∧ sp [.ref a] H (fun z H' => ∃ x : Str, z = .str x ∧ Q (.str x) H') E
theorem call_reprO (hs : PySem.W.findIn X.K (.ref C) "__repr__" = some (some (.ref f))) (hf : PySem.W.isFn X.K (.ref f) = true) (F : FnOk X.prog X.w X.K X.mg X.base CX k f fd ["self"] sp) (hr : Room (k + 1) X.A) (hb : Binds X.K fd ["self"] []) (hx : Passes CX X E) : CallR X (.builtin "repr") (rReprO C sp E) := by
  intro pins s σ H xs us Q I r h
  obtain ⟨a, dx, fs, rfl, ha, q⟩ := h
  rw [Vals.ref1 r]
  obtain ⟨mA, O, _, _, _, _⟩ := ins_get I.hok ha
  obtain ⟨od, J, _⟩ := O.look
  obtain ⟨m, fr⟩ := I.fr
  have hu : X.A.in1.units < cLine := Nat.lt_of_le_of_lt (Nat.le_add_right _ _) hr.in1.units
  refine PySem.W.repr_K hu fr I.ok.mod.kin J hs hf (wpAny_mono (run_in F hr.in1 I.env0.in1 hb hx I q) (fun w s' z => ?_) fun _ _ x => x)
  obtain ⟨z', H', I', rz, x, e, qz⟩ := z
  subst e
  obtain ⟨t, rfl⟩ := rz
  exact ⟨.str x, H', I', ⟨_, rfl⟩, qz⟩
end
end Rs

namespace Rs
open PySem PySem.Spec PyProof.Rows L2
section
variable {H0 H H' : Hp} {M : List Addr} {L L1 L2 L' N : Led} {a p : Addr} {o o' u u' : HO} {K : PySem.W.Frag} {Q : VK}
/-- two objects were changed, those of N are new -/
theorem Hs.twoN (S : Hs H0 M H L) (c1 : Chg a o o' L L1) (c2 : Chg p u u' L1 L2) (ha : H0 a = none ∨ a ∈ M) (hp : H0 p = none ∨ p ∈ M) (ne : a ≠ p) (k : ∀ b w, H b = some w → b ≠ a → b ≠ p → H' b = some w) (e1 : H' a = some o') (e2 : H' p = some u') (n : NewL H H' N) :
    (∀ q ∈ N, H0 q.1 = none) ∧ Hs H0 M H' (N ++ L2) := by
  have S1 := S.put c1 ha
  have S2 := S1.put c2 hp
  have h1 : H a = some o := S.is _ c1.mem
  have h2 : H p ≠ none := by
    have := S1.is _ c2.mem
    rw [upd_ne (Ne.symm ne)] at this
    rw [this]; simp
  refine S2.moreN (fun b w e => ?_) ⟨n.nd, fun q hq => ?_, n.is⟩
  · by_cases hb : b = p
    · subst hb; rw [upd_same] at e; cases e; exact e2
    · rw [upd_ne hb] at e
      by_cases hb2 : b = a
      · subst hb2; rw [upd_same] at e; cases e; exact e1
      · rw [upd_ne hb2] at e
        exact k b w e hb2 hb
  · have z := n.nw q hq
    rw [upd_ne (fun y => h2 (by rw [← y]; exact z)), upd_ne (fun y => by rw [y, h1] at z; cases z)]
    exact z
theorem rd_popAt {xs xs' : List V} {i : Nat} {y : V} (S : Hs H0 M H L) (c : Chg a (.lst xs) (.lst xs') L L') (hm : H0 a = none ∨ a ∈ M) (hk : xs[i]? = some y) (hz : i < 2 ^ 40) (e : xs.eraseIdx i = xs') (h : ∀ H', Hs H0 M H' L' → Q y H') : rPopAt (.ref a) [.int i] H Q := by
  subst e
  have hl : i < xs.length := (List.getElem?_eq_some_iff.mp hk).1
  refine ⟨a, xs, i, i, y, rfl, rfl, S.is _ c.mem, by omega, by omega, ?_, hk, h _ (S.put c hm)⟩
  unfold seqIndex?
  simp
  omega
theorem rd_pop {xs xs' : List V} {y : V} (S : Hs H0 M H L) (c : Chg a (.lst xs) (.lst xs') L L') (hm : H0 a = none ∨ a ∈ M) (e : xs = xs' ++ [y]) (h : ∀ H', Hs H0 M H' L' → Q y H') : rPop (.ref a) [] H Q := by
  subst e
  refine ⟨a, _, y, rfl, rfl, S.is _ c.mem, by simp, ?_⟩
  have e2 : (xs' ++ [y]).dropLast = xs' := by simp
  rw [e2]
  exact h _ (S.put c hm)
theorem rd_clear {xs : List V} (S : Hs H0 M H L) (c : Chg a (.lst xs) (.lst []) L L') (hm : H0 a = none ∨ a ∈ M) (h : ∀ H', Hs H0 M H' L' → Q .non H') : rClear (.ref a) [] H Q := ⟨a, xs, rfl, rfl, S.is _ c.mem, h _ (S.put c hm)⟩
/-- a list of refs of tuples of whole numbers, just these -/
structure TL (rs : List V) (T : Led) (ts : List (List Int)) : Prop where
  rs : rs = T.map fun q => .ref q.1
  ts : T.map (·.2) = ts.map fun t => HO.tup (t.map V.int)
theorem TL.nil : TL [] [] [] := ⟨rfl, rfl⟩
theorem TL.snoc {rs : List V} {T : Led} {ts : List (List Int)} (h : TL rs T ts) (q : Addr) (t : List Int) : TL (rs ++ [V.ref q]) (T ++ [(q, .tup (t.map V.int))]) (ts ++ [t]) := ⟨by simp [h.rs], by simp [h.ts]⟩
theorem TL.len {rs : List V} {T : Led} {ts : List (List Int)} (h : TL rs T ts) : rs.length = ts.length := by
  have := congrArg List.length h.ts
  rw [h.rs]
  simpa using this
def dT (ts : List (List Int)) : PyData := .list (ts.map fun t => .tuple (t.map .int))
theorem dpTL : ∀ {T : Led} {ts : List (List Int)}, T.map (·.2) = (ts.map fun t => HO.tup (t.map V.int)) → (∀ q ∈ T, H q.1 = some q.2) → DpAll K H (T.map fun q => .ref q.1) (ts.map fun t => .tuple (t.map .int))
  | [], [], _, _ => .nil
  | [], t :: ts, h, _ => by simp at h
  | q :: T, [], h, _ => by simp at h
  | q :: T, t :: ts, h, is => by
    simp only [List.map_cons, List.cons.injEq] at h
    have hi := is q List.mem_cons_self
    rw [h.1] at hi
    exact .cons (.tup (SqT.of hi) (dps_ints t)) (dpTL h.2 fun z hz => is z (List.mem_cons_of_mem _ hz))
theorem dp_TL {rs : List V} {T : Led} {ts : List (List Int)} (h : TL rs T ts) (S : Hs H0 M H L) (m : (a, HO.lst rs) ∈ L) (sub : ∀ q ∈ T, q ∈ L) : Dp K H (.ref a) (dT ts) := by
  refine .lst (S.lst m) ?_
  rw [h.rs]
  exact dpTL h.ts fun q hq => S.is q (sub q hq)
theorem tame_T : ∀ {ts : List (List Int)}, (∀ t ∈ ts, ∀ n ∈ t, n.natAbs < 10 ^ 12) → tames (ts.map fun t => .tuple (t.map .int)) = true
  | [], _ => by simp [tames]
  | t :: ts, h => by
    have h1 := tames_ints t (h t List.mem_cons_self)
    have h2 := tame_T (ts := ts) fun z hz => h z (List.mem_cons_of_mem _ hz)
    simp only [List.map_cons, tames, tame, h1, h2, Bool.and_self]
theorem cnt_T : ∀ {ts : List (List Int)}, (∀ t ∈ ts, t.length ≤ 10) → cnts (ts.map fun t => .tuple (t.map .int)) ≤ 11 * ts.length
  | [], _ => by simp [cnts]
  | t :: ts, h => by
    have h1 := h t List.mem_cons_self
    have h2 := cnt_T (ts := ts) fun z hz => h z (List.mem_cons_of_mem _ hz)
    simp only [List.map_cons, cnts, cnt, cnts_ints, List.length_cons]
    omega
theorem shw_T {ts : List (List Int)} (h : ∀ t ∈ ts, t.length ≤ 10 ∧ ∀ n ∈ t, n.natAbs < 10 ^ 12) (hl : ts.length ≤ 1000) : Shw (dT ts) := by
  refine shw_of ?_ ?_
  · simp [dT, tame, tame_T fun t ht => (h t ht).2]
  · have := cnt_T fun t ht => (h t ht).1
    simp only [dT, cnt]
    omega
theorem depth_T (ts : List (List Int)) : (dT ts).depth ≤ 2 := by
  obtain ⟨_, b⟩ := lay_T ts
  simp only [dT, PyData.depth]
  omega
theorem rd_reprT {rs : List V} {T : Led} {ts : List (List Int)} (h : TL rs T ts) (S : Hs H0 M H L) (m : (a, HO.lst rs) ∈ L) (sub : ∀ q ∈ T, q ∈ L) (hb : ∀ t ∈ ts, t.length ≤ 10 ∧ ∀ n ∈ t, n.natAbs < 10 ^ 12) (hl : ts.length ≤ 1000) (k : Q (.str (dT ts).shown) H) : rRepr K [.ref a] H Q :=
  ⟨.ref a, dT ts, rfl, dp_TL h S m sub, shw_T hb hl, Nat.le_trans (depth_T ts) (by decide), k⟩
end
end Rs

namespace Rs
open PySem PySem.Spec PyProof.Rows L2
section
variable {H : Hp} {σ : L2.St} {ts : List TE} {te : TE} {acc : Str} {J : Str → Hp → Prop}
theorem len_app (x y : Str) : (x ++ y).length = x.length + y.length := by
  rw [TL.len_tl, TL.len_tl, TL.len_tl, TL.tl_append, List.length_append]
theorem len_num {n : Int} (h0 : 0 ≤ n) (h : n < 10 ^ 12) : (((toString n : String)) : Str).length ≤ 12 := by
  obtain ⟨k, rfl⟩ : ∃ k : Nat, n = k := ⟨n.toNat, by omega⟩
  have e := TL.tl_num k
  show (Str.ofString (toString (k : Int))).length ≤ 12
  rw [TL.len_tl, e]
  exact TL.numL_len (by decide) (by omega)
theorem rd_jsS {y : Str} (hz : acc.length ≤ 1000) (hy : y.length ≤ 1000) (h : tJs ts (acc ++ y) σ H J) : tJs (tC (.str y) :: ts) acc σ H J := ⟨y, rfl, by rw [len_app]; exact sz (by omega), h⟩
def kF (ts : List TE) (acc : Str) (σ : L2.St) (J : Str → Hp → Prop) : VK := fun x H1 => (∃ y : Str, x = .str y ∧ y.length ≤ sizeLine ∧ ∃ z : Str, V.str y = .str z ∧ (acc ++ z).length ≤ sizeLine ∧ tJs ts (acc ++ z) σ H1 J) ∨
  ∃ i : Int, x = .int i ∧ i.natAbs.log2 < 1920 ∧ ∃ z : Str, V.str (toString i) = .str z ∧ (acc ++ z).length ≤ sizeLine ∧ tJs ts (acc ++ z) σ H1 J
theorem rd_jsF (h : te σ H (kF ts acc σ J)) : tJs (tFmt te :: ts) acc σ H J := h
theorem rd_kFI {n : Int} (h0 : 0 ≤ n) (h1 : n < 10 ^ 12) (hz : acc.length ≤ 1000) (h : tJs ts (acc ++ toString n) σ H J) : kF ts acc σ J (.int n) H := by
  refine Or.inr ⟨n, rfl, ?_, toString n, rfl, ?_, h⟩
  · by_cases e : n.natAbs = 0
    · rw [e]; decide
    · exact (Nat.log2_lt e).2 (Nat.lt_of_lt_of_le (show n.natAbs < 2 ^ 40 by omega) (Nat.pow_le_pow_right (by omega) (by omega)))
  · have := len_num h0 h1
    rw [len_app]
    exact sz (by omega)
theorem rd_jsN (h : J acc H) : tJs [] acc σ H J := h
end
end Rs

namespace Rs
open PySem PySem.Spec PyProof.Rows L2
section
variable {X : Cx}
theorem ix_tupK {K : PySem.W.Frag} (h : X.K = K) : IxR X (rIxT K) := by subst h; exact ix_tup
end
end Rs

namespace Rs
open PySem PySem.Spec PyProof.Rows L2
/-! ### promises by ledgers -/
section
variable {H0 H H' : Hp} {M C : List Addr} {L L' LL F : Led}
/-- what is known behind a call: C the objects that may have changed, L what was known of, L' what is known now -/
theorem Hs.frame (S : Hs H0 M H (L ++ F)) (S' : Hs H C H' L') (hC : ∀ c ∈ C, c ∈ L.map (·.1) ∧ (H0 c = none ∨ c ∈ M)) (hk : ∀ q ∈ L', q.1 ∈ L.map (·.1) ∨ H q.1 = none) : Hs H0 M H' (L' ++ F) := by
  have nd := S.nd
  rw [List.map_append, List.nodup_append] at nd
  obtain ⟨_, nF, dis⟩ := nd
  refine ⟨?_, ?_, ?_, ?_⟩
  · rw [List.map_append, List.nodup_append]
    refine ⟨S'.nd, nF, ?_⟩
    intro x hx y hy e
    subst e
    obtain ⟨q, hq, rfl⟩ := List.mem_map.mp hx
    rcases hk q hq with h | h
    · exact dis _ h _ hy rfl
    · obtain ⟨r, hr, e⟩ := List.mem_map.mp hy
      have := S.is r (List.mem_append_right _ hr)
      rw [e, h] at this
      cases this
  · intro q hq
    rcases List.mem_append.mp hq with h | h
    · exact S'.is q h
    · refine S'.old _ _ (S.is q (List.mem_append_right _ h)) fun hc => ?_
      exact dis _ (hC _ hc).1 _ (List.mem_map_of_mem (f := (·.1)) h) rfl
  · intro b o e hb
    refine S'.old _ _ (S.old b o e hb) fun hc => ?_
    rcases (hC _ hc).2 with z | z
    · rw [z] at e; cases e
    · exact hb z
  · intro b hb
    by_cases hc : b ∈ C
    · exact S'.mu b hc
    · cases e : H b with
      | none => exact absurd e (S.mu b hb)
      | some u => rw [S'.old b u e hc]; simp
theorem Hs.none0 (S : Hs H0 M H L) {a : Addr} (h : H a = none) : H0 a = none := (S.new h (.lst [])).1
end
end Rs
namespace Rs
open PySem PySem.Spec PyProof.Rows L2
abbrev SepR := List V → List Addr → Led → (V → Led → Prop) → Prop
/-- R: the arguments, the objects that may change, what is known ahead, what is promised -/
def Sep (R : SepR) : Sp := fun vs H Q _ => ∃ C L post, R vs C L post ∧ (L.map (·.1)).Nodup ∧ (∀ q ∈ L, H q.1 = some q.2) ∧ (∀ c ∈ C, c ∈ L.map (·.1)) ∧
  ∀ v H' L', post v L' → Hs H C H' L' → (∀ q ∈ L', q.1 ∈ L.map (·.1) ∨ H q.1 = none) → Q v H'
theorem Sep.led {H : Hp} {C : List Addr} {L : Led} (nd : (L.map (·.1)).Nodup) (is : ∀ q ∈ L, H q.1 = some q.2) (hC : ∀ c ∈ C, c ∈ L.map (·.1)) : Hs H C H L := by
  refine Hs.start H C L nd is fun b hb => ?_
  obtain ⟨q, hq, e⟩ := List.mem_map.mp (hC b hb)
  rw [← e, is q hq]; simp
/-- one entry taken out -/
inductive Pick (q : Addr × HO) : Led → Led → Prop where
  | here {L : Led} : Pick q (q :: L) L
  | there {r : Addr × HO} {L L' : Led} : Pick q L L' → Pick q (r :: L) (r :: L')
  | app {N L L' : Led} : Pick q L L' → Pick q (N ++ L) (N ++ L')
theorem Pick.perm {q : Addr × HO} {L L' : Led} (h : Pick q L L') : L.Perm (q :: L') := by
  induction h with
  | here => exact .refl _
  | there _ ih => exact (List.Perm.cons _ ih).trans (.swap _ _ _)
  | app _ ih => exact (List.Perm.append_left _ ih).trans List.perm_middle
/-- several taken out -/
inductive Sel : Led → Led → Led → Prop where
  | nil {L : Led} : Sel [] L L
  | cons {q : Addr × HO} {K L L' F : Led} : Pick q L L' → Sel K L' F → Sel (q :: K) L F
theorem Sel.perm {K L F : Led} (h : Sel K L F) : L.Perm (K ++ F) := by
  induction h with
  | nil => exact .refl _
  | cons p _ ih => exact p.perm.trans (.cons _ ih)
section
variable {H0 H H' : Hp} {M C : List Addr} {L L' LL F : Led} {R : SepR} {vs : List V} {post : V → Led → Prop} {Q : VK} {E : XK}
theorem sep_use (S : Hs H0 M H LL) (r : R vs C L post) (pm : LL.Perm (L ++ F)) (hC : ∀ c ∈ C, c ∈ L.map (·.1) ∧ (H0 c = none ∨ c ∈ M))
    (h : ∀ v H' L', post v L' → (∀ q ∈ L', q.1 ∈ L.map (·.1) ∨ H0 q.1 = none) → Hs H0 M H' (L' ++ F) → Q v H') : Sep R vs H Q E := by
  have S1 := S.perm pm.symm
  refine ⟨C, L, post, r, ?_, fun q hq => S1.is q (List.mem_append_left _ hq), fun c hc => (hC c hc).1, fun v H' L' p S' hk => ?_⟩
  · have := S1.nd
    rw [List.map_append, List.nodup_append] at this
    exact this.1
  · refine h v H' L' p (fun q hq => ?_) (S1.frame S' hC hk)
    rcases hk q hq with z | z
    · exact Or.inl z
    · exact Or.inr (S.none0 z)
/-- what is said of own objects, told of those of a ledger -/
theorem own_of {K : Led} (h : ∀ q ∈ L', q.1 ∈ L.map (·.1) ∨ H0 q.1 = none) (hL : ∀ q ∈ L, H0 q.1 = none ∨ q.1 ∈ M) : ∀ q ∈ L', H0 q.1 = none ∨ q.1 ∈ M := fun q hq => by
  rcases h q hq with z | z
  · obtain ⟨r, hr, e⟩ := List.mem_map.mp z
    rw [← e]; exact hL r hr
  · exact Or.inl z
end
end Rs
namespace Rs
open PySem PySem.Spec PyProof.Rows L2
/-! ### ledgers put in another order, by counting -/
open Classical in
noncomputable def one (a b : Addr × HO) : Nat := if b = a then 1 else 0
noncomputable def cn (a : Addr × HO) : Led → Nat
  | [] => 0
  | b :: L => one a b + cn a L
theorem cn_nil (a : Addr × HO) : cn a [] = 0 := rfl
theorem cn_cons (a b : Addr × HO) (L : Led) : cn a (b :: L) = one a b + cn a L := rfl
theorem cn_app (a : Addr × HO) : ∀ L L' : Led, cn a (L ++ L') = cn a L + cn a L'
  | [], L' => by simp [cn]
  | b :: L, L' => by rw [List.cons_append, cn_cons, cn_cons, cn_app a L L']; omega
theorem one_self (a : Addr × HO) : one a a = 1 := by simp [one]
theorem one_ne {a b : Addr × HO} (h : b ≠ a) : one a b = 0 := by simp [one, h]
theorem cn_pos {a : Addr × HO} : ∀ {L : Led}, 0 < cn a L ↔ a ∈ L
  | [] => by simp [cn]
  | b :: L => by
    rw [cn_cons]
    by_cases h : b = a
    · subst h; rw [one_self]; simp; omega
    · rw [one_ne h]
      have := cn_pos (a := a) (L := L)
      simp [Ne.symm h, this]
theorem cn_le {L : Led} (h : (L.map (·.1)).Nodup) (a : Addr × HO) : cn a L ≤ 1 := by
  induction L with
  | nil => simp [cn]
  | cons b L ih =>
    rw [List.map_cons, List.nodup_cons] at h
    rw [cn_cons]
    by_cases e : b = a
    · subst e
      rw [one_self]
      have : cn b L = 0 := by
        by_cases z : 0 < cn b L
        · exact absurd (List.mem_map_of_mem (f := (·.1)) (cn_pos.mp z)) h.1
        · omega
      omega
    · rw [one_ne e]; have := ih h.2; omega
theorem nodup_re {L L' : Led} (h : (L.map (·.1)).Nodup) (c : ∀ a, cn a L' ≤ cn a L) : (L'.map (·.1)).Nodup := by
  have sub : ∀ q ∈ L', q ∈ L := fun q hq => cn_pos.mp (Nat.lt_of_lt_of_le (cn_pos.mpr hq) (c q))
  have c1 : ∀ a, cn a L' ≤ 1 := fun a => Nat.le_trans (c a) (cn_le h a)
  have inj : ∀ {L : Led}, (L.map (·.1)).Nodup → ∀ q ∈ L, ∀ r ∈ L, q.1 = r.1 → q = r := by
    intro L
    induction L with
    | nil => intro _ q hq; cases hq
    | cons b L ih =>
      intro h q hq r hr e
      rw [List.map_cons, List.nodup_cons] at h
      rcases List.mem_cons.mp hq with rfl | hq'
      · rcases List.mem_cons.mp hr with rfl | hr'
        · rfl
        · exact absurd (by rw [e]; exact List.mem_map_of_mem (f := (·.1)) hr') h.1
      · rcases List.mem_cons.mp hr with rfl | hr'
        · exact absurd (by rw [← e]; exact List.mem_map_of_mem (f := (·.1)) hq') h.1
        · exact ih h.2 q hq' r hr' e
  clear c
  induction L' with
  | nil => simp
  | cons b L' ih =>
    rw [List.map_cons, List.nodup_cons]
    refine ⟨fun hm => ?_, ih (fun q hq => sub q (List.mem_cons_of_mem _ hq)) fun a => ?_⟩
    · obtain ⟨r, hr, e⟩ := List.mem_map.mp hm
      have := inj h _ (sub r (List.mem_cons_of_mem _ hr)) _ (sub b List.mem_cons_self) e
      subst this
      have z := c1 r
      rw [cn_cons, one_self] at z
      have := cn_pos.mpr hr
      omega
    · have := c1 a; rw [cn_cons] at this; omega
theorem Hs.re {H0 H : Hp} {M : List Addr} {L L' : Led} (S : Hs H0 M H L) (c : ∀ a, cn a L' ≤ cn a L) : Hs H0 M H L' :=
  ⟨nodup_re S.nd c, fun q hq => S.is q (cn_pos.mp (Nat.lt_of_lt_of_le (cn_pos.mpr hq) (c q))), S.old, S.mu⟩
section
variable {H0 H H' : Hp} {M C : List Addr} {L L' LL F : Led} {R : SepR} {vs : List V} {post : V → Led → Prop} {Q : VK} {E : XK}
theorem sep_use' (S : Hs H0 M H LL) (r : R vs C L post) (pm : ∀ a, cn a (L ++ F) ≤ cn a LL) (hC : ∀ c ∈ C, c ∈ L.map (·.1) ∧ (H0 c = none ∨ c ∈ M))
    (h : ∀ v H' L', post v L' → (∀ q ∈ L', q.1 ∈ L.map (·.1) ∨ H0 q.1 = none) → Hs H0 M H' (L' ++ F) → Q v H') : Sep R vs H Q E :=
  sep_use (S.re pm) r (.refl _) hC h
end
end Rs
namespace Rs
open PySem PySem.Spec PyProof.Rows L2
theorem Chg.app {a : Addr} {o o' : HO} {L L' : Led} (h : Chg a o o' L L') : ∀ N : Led, Chg a o o' (N ++ L) (N ++ L')
  | [] => h
  | _ :: N => .there (h.app N)
theorem Chg.appR {a : Addr} {o o' : HO} {L L' N : Led} (h : Chg a o o' L L') : Chg a o o' (N ++ L) (N ++ L') := h.app N
theorem Chg.appL {a : Addr} {o o' : HO} {L L' N : Led} (h : Chg a o o' L L') : Chg a o o' (L ++ N) (L' ++ N) := by
  induction h with
  | here => exact .here
  | there _ ih => exact .there ih
end Rs

namespace Rs
open PySem PySem.Spec PyProof.Rows L2
section
variable {σ : L2.St} {H H0 : Hp} {M : List Addr} {L L' : Led} {Q : VK} {v x y : V} {nx : L2.St → Hp → Prop} {rt : VK} {bk ct : L2.St → Hp → Prop} {ta : TA} {g : TG} {tw : TS} {K : PySem.W.Frag}
def enI (K : PySem.W.Frag) (R : It → Hp → Prop) (vs : List V) (H : Hp) : Prop := ∃ a xs, vs = [V.ref a] ∧ SqL K H a xs ∧ R (Ite K a) H
theorem rd_enum {R : It → Hp → Prop} (h : ta σ H fun vs H1 => enI K R vs H1) : iEnum K ta σ H R := h
theorem rd_enI {R : It → Hp → Prop} {a : Addr} {xs : List V} (S : Hs H0 M H L) (m : (a, HO.lst xs) ∈ L) (h : R (Ite K a) H) : enI K R [.ref a] H := ⟨a, xs, rfl, S.lst m, h⟩
/-- over enumerate of a list that stays as it is -/
theorem fw_enum {a : Addr} {xs : List V} (Pv : Nat → L2.St → Hp → Prop) (h0 : Pv 0 σ H) (hl : ∀ i σ H, i ≤ xs.length → Pv i σ H → SqL K H a xs)
    (hs : ∀ i x σ H T, xs[i]? = some x → Pv i σ H → H T = none → g (.ref T) σ (upd H T (.tup [.int (i : Nat), x])) fun σ2 H2 => tw ⟨Pv (i + 1), rt, nx, Pv (i + 1)⟩ σ2 H2) (hd : ∀ σ H, Pv xs.length σ H → nx σ H) : forW (Ite K a) g tw ⟨nx, rt, bk, ct⟩ σ H := by
  refine for_it walk_enum Pv h0 hl ?_ hd
  rintro i x σ H H' hi hp ⟨T, y, z, rfl, hT, rfl, e1, e2⟩
  cases e1
  exact hs i z σ H T e2 hp hT
/-- an own new object, as the rules hand it -/
theorem Hs.newAt (S : Hs H0 M H L) {p : Addr} {o : HO} (hp : H p = none) : H0 p = none ∧ Hs H0 M (upd H p o) ((p, o) :: L) := S.new hp o
theorem rd_methK {C : Addr} {m : Str} {n : Nat} {sp : Sp} {gV : List V → List V → List V} {E : XK} {te : TE} {tk : TA} (h : te σ H fun x H1 => ∃ a dx fs, x = .ref a ∧ H1 a = some (.ins C dx fs) ∧ fs.lookup m = none ∧ tk σ H1 fun zs H2 => zs.length = n ∧ sp (gV [x] zs) H2 Q E) : tMethK C m n sp gV E te tk σ H Q := h
end
end Rs

namespace Rs
open PySem PySem.Spec PyProof.Rows L2
abbrev SepM := List V → List Addr → Led → (V → Led → Led → Prop) → Prop
/-- a promise by ledgers; the new objects told apart -/
def SepN (R : SepM) : Sp := fun vs H Q _ => ∃ C L post, R vs C L post ∧ (L.map (·.1)).Nodup ∧ (∀ q ∈ L, H q.1 = some q.2) ∧ (∀ c ∈ C, c ∈ L.map (·.1)) ∧
  ∀ v H' N L', post v N L' → Hs H C H' (N ++ L') → (∀ q ∈ L', q.1 ∈ L.map (·.1)) → (∀ q ∈ N, H q.1 = none) → Q v H'
section
variable {H0 H H' : Hp} {M C : List Addr} {L L' LL F : Led} {R : SepM} {vs : List V} {post : V → Led → Led → Prop} {Q : VK} {E : XK}
theorem sepn_use (S : Hs H0 M H LL) (r : R vs C L post) (pm : ∀ a, cn a (L ++ F) ≤ cn a LL) (hC : ∀ c ∈ C, c ∈ L.map (·.1) ∧ (H0 c = none ∨ c ∈ M))
    (h : ∀ v H' N L', post v N L' → (∀ q ∈ N, H0 q.1 = none) → Hs H0 M H' (N ++ (L' ++ F)) → Q v H') : SepN R vs H Q E := by
  have S1 := S.re pm
  refine ⟨C, L, post, r, ?_, fun q hq => S1.is q (List.mem_append_left _ hq), fun c hc => (hC c hc).1, fun v H' N L' p S' h1 h2 => ?_⟩
  · have := S1.nd
    rw [List.map_append, List.nodup_append] at this
    exact this.1
  · refine h v H' N L' p (fun q hq => S.none0 (h2 q hq)) ?_
    rw [← List.append_assoc]
    refine S1.frame S' hC fun q hq => ?_
    rcases List.mem_append.mp hq with z | z
    · exact Or.inr (h2 q z)
    · exact Or.inl (h1 q z)
end
end Rs

namespace Rs
open PySem PySem.Spec PyProof.Rows L2
section
variable {H H0 : Hp} {M : List Addr} {L L' : Led} {Q : VK} {a : Addr}
theorem rd_rev {xs : List V} (S : Hs H0 M H L) (c : Chg a (.lst xs) (.lst xs.reverse) L L') (hm : H0 a = none ∨ a ∈ M) (h : ∀ H', Hs H0 M H' L' → Q .non H') : rReverse (.ref a) [] H Q := ⟨a, xs, rfl, rfl, S.is _ c.mem, h _ (S.put c hm)⟩
end
end Rs
namespace Rs
open PySem PySem.Spec PyProof.Rows L2
theorem at_nat {ns : List Int} {i : Nat} (h : i < ns.length) : atI (ns.map V.int) (i : Int) = some (.int (ns.getD i 0)) := by
  have e : ixN (ns.map V.int).length (i : Int) = some i := by
    unfold ixN
    rw [if_pos (by omega)]
    simp [h]
  unfold atI
  rw [e]
  show (ns.map V.int)[i]? = _
  rw [List.getElem?_map, List.getD_eq_getElem?_getD, List.getElem?_eq_getElem h]
  rfl
end Rs

/-! Xe1: own exceptions over a built-in base whose __new__ may be another's (KeyError: LookupError's) -/
namespace Xc
open PySem
/-- what is told of the base B; NB is the one whose __new__ is taken -/
structure XB (B NB newId initId : String) (bm : List Value) : Prop where
  nf : ExcNewFacts NB newId
  quiet : newId.startsWith "lifetime." = false
  nsplit : splitId newId = some (NB, "__new__")
  nkind : builtinKind newId = some .builtinFn
  nrow : Manifest.signature? newId = some ⟨.any, NB, NB, .cls, [⟨"args", .varPos, false⟩, ⟨"kwargs", .varKw, false⟩]⟩
  canon : Manifest.canonical newId = Manifest.canonical "BaseException.__new__"
  hasN : bm.contains (.type NB) = true
  has : bm.contains (.type B) = true
  noA : bm.contains (.type "AttributeError") = false
  noN : bm.contains (.type "NameError") = false
  starN : (NB != "*") = true
  star : (B != "*") = true
  ini : Slot B "__init__" initId
  ientry : entryFor table initId = some Builtin.«BaseException.__init__»
  isplit : splitId initId = some (B, "__init__")
  ikind : builtinKind initId = some .slot
  irow : Manifest.signature? initId = some ⟨.positional, "*", B, .self, [⟨"args", .varPos, false⟩]⟩
theorem XB.of {B newId initId : String} {bm : List Value} (F : ExcBaseFacts B newId initId bm) : XB B B newId initId bm :=
  ⟨F.toExcNewFacts, F.quiet, F.newSplit, F.newKind, F.newRow, F.canon, F.hasB, F.hasB, F.noAttr, F.noName, F.noStar, F.noStar, F.init, F.initEntry, F.initSplit, F.initKind, F.initRow⟩
/-- a class over it, with its own ones between -/
def ClX (h : Heap) (C : Addr) (bmB : List Value) (newId : String) : Prop := ∃ nm N qn bs bm hdct sn sub ab col dd k0 k1 k2 k3 k5, h.get? C = some (excClassObj nm qn C N bs bm hdct sn sub ab col dd k0 k1 k2 k3 k5 newId) ∧ ∀ T : String, bm.contains (.type T) = bmB.contains (.type T)
section
variable {M : Model} {A : Around} {E : Value → Shared → Prop} {h : Heap} {g : Array GenState} {d : Drawn} {t : Nat} {os : OsState} {C : Addr} {bmB : List Value} {B NB newId initId : String}
theorem xb_checkN (F : XB B NB newId initId bmB) (hx : ClX h C bmB newId) {xs : List Value} {Q : Unit → Shared → Prop} (k : Q () ⟨h, g, d, t, os⟩) : wpAny M A (checkBuiltinCall newId ⟨.ref C :: xs, []⟩) Q E ⟨h, g, d, t, os⟩ := by
  obtain ⟨nm, N, qn, bs, bm, hdct, sn, sub, ab, col, dd, k0, k1, k2, k3, k5, hC, hT⟩ := hx
  have c1 : (Value.ref C :: bm).contains (.type NB) = true := by
    rw [List.contains_cons, hT NB, F.hasN]
    exact Bool.or_true _
  have c2 := F.starN
  simp only [checkBuiltinCall, F.nkind, F.nsplit, F.nrow]
  repeat (first
    | refine wpAny_loadPart_at hC ?_
    | (refine wpAny_isSubtype_exc hC ?_; rw [c1])
    | refine wpAny_staticBase_exc hC ?_
    | refine wpAny_madeBy_exc hC ?_
    | simp only [bne_self_eq_false, Bool.false_eq_true, if_false]
    | wp_step)
  exact k
theorem xb_checkI (F : XB B NB newId initId bmB) (hx : ClX h C bmB newId) {e : Addr} {oe : Obj} {xs : List Value} {Q : Unit → Shared → Prop} (he : h.get? e = some oe) (hc : oe.cls = .ref C) (k : Q () ⟨h, g, d, t, os⟩) :
    wpAny M A (checkBuiltinCall initId ⟨.ref e :: xs, []⟩) Q E ⟨h, g, d, t, os⟩ := by
  obtain ⟨nm, N, qn, bs, bm, hdct, sn, sub, ab, col, dd, k0, k1, k2, k3, k5, hC, hT⟩ := hx
  have c1 : (Value.ref C :: bm).contains (.type B) = true := by
    rw [List.contains_cons, hT B, F.has]
    exact Bool.or_true _
  have c2 := F.star
  simp only [checkBuiltinCall, F.ikind, F.isplit, F.irow]
  repeat (first
    | (with_reducible refine wpAny_loadPart_at he ?_; rw [hc])
    | with_reducible refine wpAny_loadPart_at hC ?_
    | (with_reducible refine wpAny_isSubtype_exc hC ?_; rw [c1])
    | wp_step)
  refine wpAny_onRaise ?_
  have z : ∀ (a b : String) (n : Nat), Bind.check ⟨.positional, "*", B, .self, [⟨"args", .varPos, false⟩]⟩ a b n (List.map (fun x => x.fst) ({ pos := Value.ref e :: xs } : Args).kw) = pure () := fun a b n => check_star_args _ _ _ _ _ _
  rw [z]
  exact wpAny_pure k
end
section
variable {prog : Program} {w : World} {A : Around} {E : Value → Shared → Prop} {R : Result → Shared → Prop} {h : Heap} {g : Array GenState} {d : Drawn} {t : Nat} {os : OsState} {C : Addr} {bmB : List Value} {B NB newId initId : String}
theorem xb_new (F : XB B NB newId initId bmB) (hx : ClX h C bmB newId) {xs : List Value} (hl : xs.length ≤ sizeLine)
    (k : R (.ok (.ret (.ref (h.objs.size + 1)))) ⟨(h.push (W.kdv_tup xs)).push (PySem.HandSPX.excO C h.objs.size), g, d, t, os⟩) :
    codeAny (model prog w) A (.builtin newId ⟨.ref C :: xs, []⟩) R ⟨h, g, d, t, os⟩ := by
  obtain ⟨nm, N, qn, bs, bm, hdct, sn, sub, ab, col, dd, k0, k1, k2, k3, k5, hC, hT⟩ := hx
  have e1 := F.nf.ends
  have c1 : (Value.ref C :: bm).contains (.type NB) = true := by
    rw [List.contains_cons, hT NB, F.hasN]
    exact Bool.or_true _
  have c2 : (Value.ref C :: bm).contains (.type "AttributeError") = false := by
    rw [List.contains_cons, hT _, F.noA]
    rfl
  have c3 : (Value.ref C :: bm).contains (.type "NameError") = false := by
    rw [List.contains_cons, hT _, F.noN]
    rfl
  have hrest := hl
  refine codeAny_builtinAt F.nf.entry ?_
  unfold Builtin.«BaseException.__new__»
  refine wpAt_bind ?_
  show wpAt _ _ _ (stack >>= _) _ _ _
  refine wpAt_bind (wpAt_stack fun p z => wpAt_of_wpAny ?_)
  wp_walk
  refine wpAt_of_wpAny ?_
  rw [F.nf.owner]
  repeat (first
    | with_reducible refine wpAny_madeHere_exc F.canon hC ?_
    | with_reducible refine wpAny_loadPart_at hC ?_
    | (with_reducible refine wpAny_isSubtype_exc hC ?_; first | rw [c1] | rw [c2] | rw [c3])
    | wp_step)
  show R _ _
  rw [Heap.size_push]
  exact k
theorem xb_tcall (F : XB B NB newId initId bmB) (hx : ClX h C bmB newId) {xs : List Value} {fI : Addr} {Q : Fin → Shared → Prop}
    (li : W.Looks (model prog w) h (typeLookup (.ref C) "__init__") (some (.ref fI))) (lb : ∀ z, W.Looks (model prog w) h (bindSpecial (.ref fI) z) (.ref fI, [z])) (hl : xs.length ≤ sizeLine)
    (k : codeAny (model prog w) A (.call (.ref fI) ⟨.ref (h.objs.size + 1) :: xs, []⟩)
      (fun r s' => match r with | .ok (.ret v) => v = .none ∧ Q (.done (.ret (.ref (h.objs.size + 1)))) s' | .ok _ => False | .error e => E e s')
      ⟨(h.push (W.kdv_tup xs)).push (PySem.HandSPX.excO C h.objs.size), g, d, t, os⟩) :
    wpAny (model prog w) A (Builtin.«type.__call__» ⟨.ref C :: xs, []⟩) Q E ⟨h, g, d, t, os⟩ := by
  have hx0 := hx
  obtain ⟨nm, N, qn, bs, bm, hdct, sn, sub, ab, col, dd, k0, k1, k2, k3, k5, hC, hT⟩ := hx
  repeat (first
    | with_reducible refine wpAny_loadPart_at hC ?_
    | with_reducible refine wpAny_madeBy_exc hC ?_
    | wp_step)
  refine codeAny_call_builtin_code (Code.quiet_builtin _ F.quiet) (xb_checkN F hx0 ?_)
  refine xb_new F hx0 hl ?_
  show wpAny _ _ _ _ _ _
  have kp : ∀ b o, h.get? b = some o → ((h.push (W.kdv_tup xs)).push (PySem.HandSPX.excO C h.objs.size)).get? b = some o := fun b o z => Heap.get?_push_of_some _ (Heap.get?_push_of_some _ z)
  have hC2 := kp _ _ hC
  have hg : ((h.push (W.kdv_tup xs)).push (PySem.HandSPX.excO C h.objs.size)).get? (h.objs.size + 1) = some (PySem.HandSPX.excO C h.objs.size) := by heap_get
  have c1 : (Value.ref C :: bm).contains (.ref C) = true := by simp
  have i1 := li.keeps kp
  have b1 := (lb (.ref (h.objs.size + 1))).keeps kp
  unfold isInstance
  repeat (first
    | with_reducible refine wpAny_loadPart_at hg ?_
    | (with_reducible refine wpAny_isSubtype_exc hC2 ?_; rw [c1])
    | wp_step)
  show wpAny _ _ (typeLookup (.ref C) _) _ _ _
  refine i1.at ?_
  refine wpAny_holding (wpAny_bind (b1.at ?_))
  refine wpAny_bind (wpAny_call (codeAny_mono k fun r s' z => ?_))
  cases r with
  | error e => exact z
  | ok fl =>
    cases fl with
    | ret v =>
      obtain ⟨rfl, z⟩ := z
      first
        | exact wpAny_pure (wpAny_pure z)
        | (wp_walk; exact z)
    | next => exact z.elim
    | brk => exact z.elim
    | cont => exact z.elim
theorem xb_call (F : XB B NB newId initId bmB) (hx : ClX h C bmB newId) {xs : List Value} {fI : Addr}
    (li : W.Looks (model prog w) h (typeLookup (.ref C) "__init__") (some (.ref fI))) (lb : ∀ z, W.Looks (model prog w) h (bindSpecial (.ref fI) z) (.ref fI, [z])) (hl : xs.length ≤ sizeLine)
    (k : codeAny (model prog w) (A.under (.builtin "type.__call__" ⟨.ref C :: xs, []⟩)) (.call (.ref fI) ⟨.ref (h.objs.size + 1) :: xs, []⟩) (W.InitBack (h.objs.size + 1) R)
      ⟨(h.push (W.kdv_tup xs)).push (PySem.HandSPX.excO C h.objs.size), g, d, t, os⟩) :
    codeAny (model prog w) A (.call (.ref C) ⟨xs, []⟩) R ⟨h, g, d, t, os⟩ := by
  have hx0 := hx
  obtain ⟨nm, N, qn, bs, bm, hdct, sn, sub, ab, col, dd, k0, k1, k2, k3, k5, hC, hT⟩ := hx
  have f1 := tc_lookup
  have f2 := tc_bind (.ref C)
  have ty : (⟨h, g, d, t, os⟩ : Shared).TypeIs (.ref C) "type" := ⟨_, hC, rfl⟩
  refine codeAny_of_tree ?_
  show wpAny _ _ (callAny (.ref C) _) _ _ _
  repeat (any_goals (first
    | assumption
    | with_reducible refine wpAny_loadPart_at hC ?_
    | wp_step))
  refine ⟨rfl, ?_⟩
  refine codeAny_call_builtin_at (Code.quiet_builtin _ (by decide +kernel)) entry_typeCall (wpAny_check_type_call_sub hC (xb_tcall F hx0 li lb hl ?_))
  refine codeAny_mono k fun r s' z => ?_
  cases r with
  | error e => exact z
  | ok fl => cases fl <;> exact z
/-- B.__init__(e, ..): the arguments are kept anew -/
theorem xb_init (F : XB B NB newId initId bmB) (hx : ClX h C bmB newId) {e t0 : Addr} {xs : List Value} (he : h.get? e = some (PySem.HandSPX.excO C t0)) (hl : xs.length ≤ sizeLine)
    (k : ∀ h' t1, (∀ b o, b ≠ e → h.get? b = some o → h'.get? b = some o) → h'.get? e = some (PySem.HandSPX.excO C t1) → R (.ok (.ret .none)) ⟨h', g, d, t, os⟩) :
    codeAny (model prog w) A (.call (.builtin initId) ⟨.ref e :: xs, []⟩) R ⟨h, g, d, t, os⟩ := by
  have hrest := hl
  refine codeAny_call_builtin F.ini.plain F.ientry (xb_checkI F hx he rfl ?_)
  wp_walk
  refine k _ h.objs.size (fun b o nb z => ?_) ?_
  · rw [Heap.get?_update_other _ _ (Ne.symm nb)]
    exact Heap.get?_push_of_some _ z
  · rw [Heap.get?_update_self _ (Heap.get?_push_of_some _ he) rfl]
    rfl
end
/-! KeyError -/
theorem xb_KeyError : XB "KeyError" "LookupError" "LookupError.__new__" "KeyError.__init__" [.type "KeyError", .type "LookupError", .type "Exception", .type "BaseException", .type "object"] where
  nf := PySem.F.excBase_LookupError.toExcNewFacts
  quiet := PySem.F.excBase_LookupError.quiet
  nsplit := PySem.F.excBase_LookupError.newSplit
  nkind := PySem.F.excBase_LookupError.newKind
  nrow := PySem.F.excBase_LookupError.newRow
  canon := PySem.F.excBase_LookupError.canon
  hasN := by decide +kernel
  has := by decide +kernel
  noA := by decide +kernel
  noN := by decide +kernel
  starN := by decide +kernel
  star := by decide +kernel
  ini := .of (owner := "KeyError") (n := "__init__") (by rw [typeLookup_type, builtinLookup_eq_fast]; kernel_rfl) (by decide +kernel) (by decide +kernel) (by decide +kernel) (by first | exact .inl (by decide +kernel) | exact .inr (by decide +kernel)) (by rw [isSubtype_type]; kernel_rfl)
  ientry := entryFor_alias (id' := "BaseException.__init__") (by rw [fastTable_eq_tree]; kernel_rfl) (by first | rfl | decide +kernel) (by decide +kernel) (by rw [fastTable_eq_tree]; kernel_rfl)
  isplit := by kernel_rfl
  ikind := by kernel_rfl
  irow := by kernel_rfl
theorem store_KeyError : StoreFacts "KeyError" [.type "KeyError", .type "LookupError", .type "Exception", .type "BaseException", .type "object"] "object.__setattr__" "object" :=
  ⟨by kernel_rfl,
    .of (owner := "object") (n := "__setattr__") (by rw [typeLookup_type, builtinLookup_eq_fast]; kernel_rfl) (by decide +kernel) (by decide +kernel) (by decide +kernel) (by first | exact .inl (by decide +kernel) | exact .inr (by decide +kernel)) (by rw [isSubtype_type]; kernel_rfl),
    PySem.F.store_Exception.entry, by decide +kernel, by decide +kernel, by decide +kernel, PySem.F.store_Exception.args, fun z => by kernel_rfl⟩
end Xc

/-! Xc1: own exceptions over any built-in base, with an own __init__ -/
namespace Xc
open PySem PySem.Spec PyProof.Rows L2
/-- C: an own class over the built-in B (others of one's own between) -/
structure Own (K : PySem.W.Frag) (C : Addr) (B newId initId : String) (bmB : List Value) : Prop where
  fb : ∃ NB, XB B NB newId initId bmB
  st : StoreFacts B bmB "object.__setattr__" "object"
  ini : PySem.W.excInitIn K C bmB newId = true
  ovr : PySem.W.excOver K C bmB = true
  dic : PySem.W.hasDictIn K C = true
  sav : PySem.W.findIn K (.ref C) "__setattr__" = some (some (.builtin "object.__setattr__"))
  bex : PySem.W.subIn K (.ref C) (.type "BaseException") = some true
  tyc : PySem.W.typeIn K (.ref C) = some (.type "type")
  kpc : PySem.W.keepIn K (.ref C) = true
section
variable {X : Cx} {pins : List (Addr × Obj)} {σ : L2.St} {H : Hp} {s : Shared} {a C dx : Addr} {f : Str} {y : V} {u : Value} {fs : List (Str × V)} {Q : Unit → Shared → Prop} {E : Value → Shared → Prop} {A : Around} {B newId initId : String} {bmB : List Value}
theorem put0 (T : Own X.K C B newId initId bmB) (I : Inv X pins σ H s) (e : H a = some (exo a C none)) (hno : PySem.W.takerIn X.K C f = some none) (ry : RelV y u)
    (k : ∀ d1 s1, H d1 = none → d1 ≠ a → Inv X pins σ (upd (upd H d1 (exd d1 [(f, y)])) a (exo a C (some d1))) s1 → Q () s1) : wpAny (model X.prog X.w) A (setAttr (.ref a) f u) Q E s := by
  obtain ⟨tA, hA⟩ := exo_at I.hok e
  obtain ⟨hp, gn, dr, tk0, osS⟩ := s
  have J : PySem.W.InstAt hp a { cls := .ref C, dict := none, data := .fields #[.ref tA, .none, .none, .none, .bool false, .none] } C none := ⟨hA, rfl, rfl, trivial⟩
  refine PySem.W.set_plain I.kIn J T.sav (PySem.W.osa_openX T.st I.kIn J T.ovr hno fun _ => ?_)
  obtain ⟨cd, hcd, hdc⟩ := PySem.W.any_some T.dic
  refine wpAny_bind (wpAny_pure (wpAny_bind (PySem.W.instanceDict_exc hA (PySem.W.looks_clsIn I.kIn hcd) hdc ?_)))
  have lt : a < hp.objs.size := Heap.lt_size hA
  show wpAny _ _ (Builtin.ObjectAttr.storeInDict hp.objs.size _ f u) _ _ _
  refine PySem.HandSPX.store_in_new ⟨_, #[], _, (Heap.get?_update_ne _ _ _ _ (Nat.ne_of_gt lt)).trans (Heap.get?_push_at rfl rfl), rfl, fun e he => absurd he (by simp), fun _ => rfl⟩ fun h2 tk2 hn sb => ?_
  have new : H hp.objs.size = none := I.hok.fresh (Nat.le_refl _)
  have neA : hp.objs.size ≠ a := Nat.ne_of_gt lt
  have oldK : ∀ b o, b ≠ a → hp.get? b = some o → h2.get? b = some o := fun b o hb q =>
    (sb.2 b (Nat.ne_of_lt (Heap.lt_size q))).trans ((Heap.get?_update_ne _ _ _ _ hb).trans (Heap.get?_push_of_some _ q))
  have atA : h2.get? a = some { cls := .ref C, dict := some hp.objs.size, data := .fields #[.ref tA, .none, .none, .none, .bool false, .none] } :=
    (sb.2 a (Ne.symm neA)).trans (Heap.get?_update_self _ (Heap.get?_push_of_some _ hA) rfl)
  have nn : ∀ {b : Addr}, H b = none → b ≠ a := fun {b} n z => by
    rw [z, e] at n; cases n
  have nD : ∀ {b : Addr} {o : Obj}, hp.get? b = some o → b ≠ hp.objs.size := fun {b o} q => Nat.ne_of_lt (Heap.lt_size q)
  refine k hp.objs.size ⟨h2, gn, dr, tk2, osS⟩ new neA (I.un (t' := tk2) ⟨fun b o q n _ _ => oldK b o (nn n) q, fun b o q n _ _ => ⟨o.slots, oldK b o (nn n) q⟩, fun b o q n _ => by
      rw [upd_ne (nn n), upd_ne (nD q)]; exact n, fun b o q _ => ?_, fun b xs q => by rw [upd_ne (at_ne e q exo_tup), upd_ne (ne_of_none q new)]; exact q,
      fun b o v q => by rw [upd_ne (at_ne e q exo_frz), upd_ne (ne_of_none q new)]; exact q, fun b ps q => ⟨#[], by rw [upd_ne (at_ne e q exo_tbl), upd_ne (ne_of_none q new), q]; simp⟩⟩ fun b o q => ?_)
  · by_cases hb : b = a
    · exact ⟨_, by rw [hb]; exact atA⟩
    · exact ⟨o, oldK b o hb q⟩
  · by_cases hb : b = a
    · subst hb; rw [upd_same] at q; cases q; exact exo_ok atA
    · rw [upd_ne hb] at q
      by_cases hd : b = hp.objs.size
      · subst hd; rw [upd_same] at q; cases q
        exact exd_ok hn (relO_put (fs := []) ry fun g => True.intro)
      · rw [upd_ne hd] at q
        refine (I.hok b o q).stay (fun c v hc z => oldK c v ?_ z) (fun c hc => by rw [upd_ne (at_ne e hc exo_own), upd_ne (ne_of_none hc new)]; exact hc)
          (fun c xs hc => by rw [upd_ne (at_ne e hc exo_tup), upd_ne (ne_of_none hc new)]; exact hc)
        rcases hc with hc | hc
        · rw [hc]; exact hb
        · exact at_ne e hc exo_own
theorem put1 (T : Own X.K C B newId initId bmB) (I : Inv X pins σ H s) (e : H a = some (exo a C (some dx))) (ed : H dx = some (exd dx fs)) (hl : fs.length ≤ 900) (hno : PySem.W.takerIn X.K C f = some none) (ry : RelV y u)
    (k : ∀ s1, Inv X pins σ (upd H dx (exd dx ((f, y) :: fs))) s1 → Q () s1) : wpAny (model X.prog X.w) A (setAttr (.ref a) f u) Q E s := by
  obtain ⟨tA, hA⟩ := exo_at I.hok e
  obtain ⟨mA, hns, rel⟩ := exd_at I.hok ed
  have wi := within_of rel
  obtain ⟨hp, gn, dr, tk0, osS⟩ := s
  obtain ⟨oD, _, _, hoD, _, _⟩ := hns.count wi
  have J : PySem.W.InstAt hp a { cls := .ref C, dict := some dx, data := .fields #[.ref tA, .none, .none, .none, .bool false, .none] } C (some oD) := ⟨hA, rfl, rfl, hoD⟩
  refine PySem.W.set_plain I.kIn J T.sav (PySem.W.osa_openX T.st I.kIn J T.ovr hno fun _ => ?_)
  obtain ⟨cd, hcd, hdc⟩ := PySem.W.any_some T.dic
  refine wpAny_bind (wpAny_pure (wpAny_bind (wpAny_bind (wpAny_loadPart hA (wpAny_bind ((PySem.W.looks_clsIn I.kIn hcd).at ?_))))))
  rw [hdc]
  refine wpAny_pure (a := some dx) ?_
  refine PySem.OEX.store_in_old hns wi (by rw [List.length_map]; omega) fun h2 tk2 hn sb => ?_
  obtain ⟨oN, _, _, eN, _⟩ := id hn
  exact k _ (I.write (t' := tk2) (x := dx) (e := dx) (o := exd dx ((f, y) :: fs)) (by rw [ed]; exact True.intro) (.inl rfl) (fun b o hb q => (sb.2 b hb).trans q) ⟨oN, eN⟩ (exd_ok hn (relO_put ry rel)))
/-- B.__init__(self, ..): the args are laid anew, nothing of them is told -/
theorem binit {us : List Value} {Q : Value → Shared → Prop} (T : Own X.K C B newId initId bmB) (I : Inv X pins σ H s) (e : H a = some (exo a C none)) (hl : us.length ≤ sizeLine) (k : ∀ s1, Inv X pins σ H s1 → Q .none s1) :
    wpAny (model X.prog X.w) A (call (.builtin initId) (.ref a :: us)) Q E s := by
  obtain ⟨tA, hA⟩ := exo_at I.hok e
  have hC := PySem.W.excInit_of I.kIn T.ini
  obtain ⟨NB, fb⟩ := T.fb
  obtain ⟨hp, gn, dr, tk0, osS⟩ := s
  refine wpAny_call (xb_init fb hC hA hl fun h2 t2 kp hx => ?_)
  have J := I.write (t' := tk0) (x := a) (e := a) (o := exo a C none) (by rw [e]; exact True.intro) (.inl rfl) kp ⟨_, hx⟩ (exo_ok hx)
  have same : upd H a (exo a C none) = H := by
    funext b
    by_cases hb : b = a
    · subst hb; rw [upd_same, e]
    · rw [upd_ne hb]
  exact k _ (same ▸ J)
end
/-! ### the rules -/
/-- B.__init__(self, ..) -/
def tBI (K : PySem.W.Frag) (B newId initId : String) (bmB : List Value) (ta : TA) : TE := fun σ H Q => ta σ H fun vs H1 => ∃ (a C : Addr) (ws : List V), vs = .ref a :: ws ∧ ws.length ≤ 1000 ∧ Own K C B newId initId bmB ∧ H1 a = some (exo a C none) ∧ Q .non H1
/-- self.f = e -/
def tPut (K : PySem.W.Frag) (B newId initId : String) (bmB : List Value) (f : Str) (to te : TE) : TS := fun D σ H => te σ H fun y H1 => to σ H1 fun x H2 => ∃ a C : Addr, x = .ref a ∧ Own K C B newId initId bmB ∧ PySem.W.takerIn K C f = some none ∧
  ((H2 a = some (exo a C none) ∧ ∀ dx, H2 dx = none → dx ≠ a → D.nx σ (upd (upd H2 dx (exd dx [(f, y)])) a (exo a C (some dx)))) ∨
    ∃ (dx : Addr) (fs : List (Str × V)), H2 a = some (exo a C (some dx)) ∧ H2 dx = some (exd dx fs) ∧ fs.length ≤ 900 ∧ D.nx σ (upd H2 dx (exd dx ((f, y) :: fs))))
section
variable {X : Cx} {o e : Expr} {es : List Expr} {to te : TE} {ta : TA} {f : Str} {p p' p1 p2 pos : Pos} {B newId initId : String} {bmB : List Value}
theorem pe_binit {n : Str} {pl : Sem Bool} {C : Addr} (_o : Own X.K C B newId initId bmB) (hg : Gl X n) (hm : X.mg n = none) (hv : bootBuiltins n = some (.type B)) (hty : typeOf (.type B) = pure (.type "type")) (hst : Manifest.isStub B = false) (hin : PySem.W.handedIn (.builtin initId) = true)
    (vV : PySem.W.findCls X.K (.type B) (.type "type") "__init__" = some (.val (.builtin initId))) (ha : PA X (e :: es) ta)
    (hc : eval (.Call (.Attribute (.Name n p1) "__init__" p2) (e :: es) [] pos) X.env = (do
      let ov ← eval (.Name n p1) X.env
      standAt p2.atName
      let (fn, fst) ← holding [ov] (getMethod ov "__init__" pl)
      callWith pos fn fst (backTo pos (starEach (e :: es) X.env)) (backToKw pos (keywordEach [] X.env))) := by rfl)
    (hn1 : n ≠ "__name__" := by decide) (hn2 : (n == ("__debug__" : Str)) = false := by decide) (he : starEach (e :: es) X.env = (false, eval e X.env) :: starEach es X.env := by rfl) (hp : (backTo pos (starEach es X.env)).any (·.1) = false := by rfl) :
    PE X (.Call (.Attribute (.Name n p1) "__init__" p2) (e :: es) [] pos) (tBI X.K B newId initId bmB ta) := by
  refine ⟨fun pins s σ H Q I k => PySem.W.methodCall_KW (ld_blt I hg hm hv ?_ hn1 hn2) hc⟩
  obtain ⟨m, fr⟩ := I.fr
  refine PySem.W.method_type fr I.ok.mod.kin hty hst vV hin ?_
  show wpAny _ _ (callWith pos (Value.builtin initId) [] (backTo pos (starEach (e :: es) X.env)) []) _ _ _
  refine PyProof.Rows.callWith_method1 (thn (ha.run pos pins _ σ H _ (I.tok _) k) fun us s1 ⟨vs, H1, I1, rv, a, C, ws, ev, hl, T, ea, q⟩ => ?_) he hp
  subst ev
  cases rv with
  | @cons _ u1 _ ur rA rW =>
    obtain rfl : u1 = Value.ref a := rA
    exact binit T I1 ea (by rw [← Paired.length rW, sizeLine_eq]; omega) fun s2 J => ⟨.non, H1, J, rfl, q⟩
theorem ps_put {C : Addr} (_o : Own X.K C B newId initId bmB) (ho : PE X o to) (he : PE X e te) (hs : swapsWith e (some (.Attribute o f p')) pos.line X.env = pure false := by rfl) : PS X (.Assign [.Attribute o f p'] e pos) (tPut X.K B newId initId bmB f to te) := by
  refine ⟨fun pins s σ H D I k => plainObj_wpAny_Assign_Attribute (thn (he.run pins s σ H _ I k) fun v s1 ⟨y, H1, I1, ry, k1⟩ => thn (ho.run pins s1 σ H1 _ I1 k1) fun u s2 ⟨x, H2, I2, rx, a, C, ex, T, hno, q⟩ => ?_) hs⟩
  subst ex
  obtain rfl : u = Value.ref a := rx
  rcases q with ⟨ea, q⟩ | ⟨dx, fs, ea, ed, hl, q⟩
  · exact put0 T I2 ea hno ry fun dx s3 n1 n2 J => ⟨σ, _, J, q dx n1 n2⟩
  · exact put1 T I2 ea ed hl hno ry fun s3 J => ⟨σ, _, J, q⟩
/-- C(e, ..) with C's own __init__ -/
theorem pmk_own {CX : CXT} {x : Str} {C fI : Addr} {k : Nat} {fd : FuncData} {ps : List Str} {sp : Sp} {ds : List Value} {dvs : List V} (T : Own X.K C B newId initId bmB) (iC : PySem.W.findIn X.K (.ref C) "__init__" = some (some (.ref fI))) (tI : PySem.W.typeIn X.K (.ref fI) = some (.type "function"))
    (F1 : FnOk X.prog X.w X.K X.mg X.base CX k fI fd ps sp) (hr : Room (k + 1) X.A) (hb : Binds X.K fd ps ds) (hd : Vals dvs ds) (hx : Passes CX X (fun _ _ _ => False)) (hg : Gl X x) (hm : X.mg x = some (.ref C)) (ha : PA X (e :: es) ta)
    (hdb : (x == ("__debug__" : Str)) = false := by decide) (he : starEach (e :: es) X.env = (false, eval e X.env) :: starEach es X.env := by rfl) (hp : (backTo pos (starEach es X.env)).any (·.1) = false := by rfl) :
    PMk X (.Call (.Name x p) (e :: es) [] pos) (tMkO C sp dvs ta) := by
  intro pins s σ H Q I hh
  refine wpAny_Call_Name_kw (ld_glob I hg hm ?_ hdb)
  refine PySem.W.callWith_K (h₀ := X.base) I.ok.mod.kin T.kpc (thn (ha.run pos pins s σ H _ I hh) fun us s1 ⟨vs, H1, I1, rv, hz, k1⟩ => ⟨I1.kIn, ?_⟩) he hp
  show wpAny _ _ (call (.ref C) us) _ _ _
  have hC := PySem.W.excInit_of I1.kIn T.ini
  obtain ⟨NB, fb⟩ := T.fb
  obtain ⟨hp1, gn, dr, tk, osS⟩ := s1
  have up1 : hp1.objs.size ≤ hp1.objs.size + 1 := Nat.le_succ _
  have new : H1 (hp1.objs.size + 1) = none := I1.hok.fresh up1
  have body := k1 (hp1.objs.size + 1) new
  have kept : ∀ b o, hp1.get? b = some o → ((hp1.push (PySem.W.kdv_tup us)).push (PySem.HandSPX.excO C hp1.objs.size)).get? b = some o := fun b o q => Heap.get?_push_of_some _ (Heap.get?_push_of_some _ q)
  have there : ((hp1.push (PySem.W.kdv_tup us)).push (PySem.HandSPX.excO C hp1.objs.size)).get? (hp1.objs.size + 1) = some (PySem.HandSPX.excO C hp1.objs.size) := by heap_get
  have I2 : Inv X pins σ (upd H1 (hp1.objs.size + 1) (exo (hp1.objs.size + 1) C none)) ⟨(hp1.push (PySem.W.kdv_tup us)).push (PySem.HandSPX.excO C hp1.objs.size), gn, dr, tk, osS⟩ :=
    I1.laid (t' := tk) (a := hp1.objs.size + 1) (o := exo (hp1.objs.size + 1) C none) (h' := (hp1.push (PySem.W.kdv_tup us)).push (PySem.HandSPX.excO C hp1.objs.size)) kept up1 (exo_ok there)
  have rels : Vals (V.ref (hp1.objs.size + 1) :: (vs ++ dvs)) (Value.ref (hp1.objs.size + 1) :: (us ++ ds)) := .cons rfl (rv.append hd)
  have len1 : (Value.ref (hp1.objs.size + 1) :: us ++ ds).length = ps.length := (F1.len _ _ _ _ body).symm.trans rels.length |>.symm
  have lus : us.length ≤ sizeLine := by rw [← Paired.length rv, sizeLine_eq]; omega
  refine wpAny_call (xb_call fb hC (PySem.W.looks_findIn I1.kIn iC) (fun self => PySem.W.bind_fn I1.kIn self tI) lus
    (codeAny_mono (F1.run _ X.stack _ _ ⟨Value.ref (hp1.objs.size + 1) :: us, []⟩ (Value.ref (hp1.objs.size + 1) :: (us ++ ds)) _ _ (fun _ _ _ => False) (hr.make C us []) (I2.env0.make C us []) (hb _ (Value.ref (hp1.objs.size + 1) :: us) I2.kIn len1) rels body) fun r s2 z => ?_))
  cases r with
  | error er => exact hx pins σ _ _ er s2 I2 z
  | ok fl =>
    cases fl with
    | ret u =>
      obtain ⟨v, H2, o2, b2, u2, hok2, rv2, ev, d, fs, ea, ed, hd1, q2⟩ := z
      subst ev
      obtain ⟨h2, g2, d2, t2, os2⟩ := s2
      exact ⟨rv2, mk_end (raises_own T.bex T.tyc) I1 up1 kept u2 hok2 o2 b2 ea ed hd1 q2⟩
    | next => exact False.elim z
    | brk => exact False.elim z
    | cont => exact False.elim z
end
end Xc

/-! Xc2: except (A, B, ..) as e: the exception is kept as a value -/
namespace Xc
open PySem PySem.Spec PySem.Calls PyProof.Rows L2 PySem.W
section
variable {M : Model} {A : Around} {E : Value → Shared → Prop} {s : Shared} {β : Type}
theorem loop_all {f : Value → β → Sem (ForInStep β)} {r : β} : ∀ {cs : List Value} {Q : β → Shared → Prop}, (∀ c ∈ cs, ∀ Q : ForInStep β → Shared → Prop, Q (.yield r) s → wpAny M A (f c r) Q E s) → Q r s → wpAny M A (forIn cs r f) Q E s
  | [], Q, _, k => by rw [List.forIn_nil]; exact wpAny_pure k
  | c :: cs, Q, h, k => by
    rw [List.forIn_cons]
    refine wpAny_bind (h c List.mem_cons_self _ ?_)
    exact loop_all (fun c hc => h c (List.mem_cons_of_mem _ hc)) k
theorem loop_any {f : Value → β → Sem (ForInStep β)} {r d : β} {K : Frag} {cls : Value} : ∀ {cs : List Value} {b : Bool} {Q : β → Shared → Prop}, exmAny K cls cs = some b →
    (∀ c b, exmOne K cls c = some b → ∀ Q : ForInStep β → Shared → Prop, Q (if b = true then .done d else .yield r) s → wpAny M A (f c r) Q E s) → Q (if b = true then d else r) s → wpAny M A (forIn cs r f) Q E s
  | [], b, Q, e, _, k => by
    obtain rfl : false = b := Option.some.inj e
    rw [List.forIn_nil]; exact wpAny_pure k
  | c :: cs, b, Q, e, h, k => by
    obtain ⟨b1, d1, e1, e2, rfl⟩ := exmAny_cons e
    rw [List.forIn_cons]
    refine wpAny_bind (h c b1 e1 _ ?_)
    cases b1 with
    | true => exact wpAny_pure k
    | false =>
      rw [Bool.false_or] at k
      exact loop_any e2 h k
end
section
variable {M : Model} {K : Frag}
theorem exm_of_any {cls : Value} : ∀ {cs : List Value} {b : Bool}, exmAny K cls cs = some b → ∀ c ∈ cs, ∃ b, exmOne K cls c = some b
  | [], _, _, c, hc => nomatch hc
  | x :: cs, b, e, c, hc => by
    obtain ⟨b1, d1, e1, e2, _⟩ := exmAny_cons e
    rcases List.mem_cons.mp hc with rfl | hc
    · exact ⟨_, e1⟩
    · exact exm_of_any e2 c hc
theorem exm_tupN {cs : List Value} {cls : Value} {tp e : Addr} {b : Bool} {h : Heap} (X : K.In h) (LT : Looks M h (typeOf (.ref e)) cls) (hp : h.get? tp = some { cls := .type "tuple", data := .seq cs.toArray }) (hx : exmAny K cls cs = some b) :
    Looks M h (excMatches (.ref e) (.ref tp)) b := by
  intro A Q E s k q
  obtain ⟨hh, g, d, tk, os⟩ := s
  have isT : Looks M h (isInstance (.ref tp) (.type "tuple")) true := ((Looks.ld hp).andThen .now).andThen (Looks.of_pure isSubtype_tuple_tuple)
  have hp2 := k _ _ hp
  have LT2 := LT.keeps k
  have X2 := X.keeps k
  unfold excMatches
  refine wpAny_bind ((isT.keeps k).at ?_)
  dsimp only
  rw [if_pos rfl]
  first
    | refine wpAny_bind (wpAny_seqItems hp2 rfl ?_)
    | refine wpAny_bind (wpAny_bind (wpAny_seqItems hp2 rfl (wpAny_pure ?_)))
  dsimp only [Option.getD_some, Option.getD]
  refine wpAny_bind (wpAny_pure ?_)
  refine wpAny_bind (loop_all (fun c hc Q' q' => ?_) ?_)
  · obtain ⟨b1, e1⟩ := exm_of_any hx c hc
    obtain ⟨l1, _⟩ := exm_cls (M := M) X2 e1
    refine wpAny_bind (l1.at ?_)
    simp only [Bool.not_true, Bool.false_eq_true, if_false]
    exact wpAny_pure q'
  · refine wpAny_bind (LT2.at ?_)
    refine wpAny_bind (loop_any (d := (some true, ())) hx (fun c b1 e1 Q' q' => ?_) ?_)
    · obtain ⟨_, l2⟩ := exm_cls (M := M) X2 e1
      refine wpAny_bind (l2.at ?_)
      cases b1 with
      | true =>
        rw [if_pos rfl] at q' ⊢
        exact wpAny_pure q'
      | false =>
        rw [if_neg Bool.false_ne_true] at q' ⊢
        exact wpAny_pure q'
    · cases b with
      | true => exact wpAny_pure q
      | false => exact wpAny_pure q
end
end Xc
namespace Xc
open PySem PySem.Spec PySem.Calls PyProof.Rows L2
/-- the names of a clause and their classes -/
inductive Nms (X : Cx) : List Expr → List Value → Prop
  | nil : Nms X [] []
  | cons {x : Str} {c : Value} {np : Pos} {es : List Expr} {cs : List Value} : Names X x c → Nms X es cs → Nms X (.Name x np :: es) (c :: cs)
theorem Nms.len {X : Cx} {es : List Expr} {cs : List Value} (h : Nms X es cs) : cs.length = es.length := by
  induction h with
  | nil => rfl
  | cons _ _ ih => simp [ih]
theorem nms_eval {X : Cx} {pins : List (Addr × Obj)} {σ : L2.St} {H : Hp} {s : Shared} {pos : Pos} {E : Value → Shared → Prop} (I : Inv X pins σ H s) {es : List Expr} {cs : List Value} (h : Nms X es cs) :
    ∀ {Q : List Value → Shared → Prop}, Q cs s → wpAny (model X.prog X.w) X.A (spliced (backTo pos (starEach es X.env))) Q E s := by
  induction h with
  | nil => intro Q k; exact wpAny_items_nil k
  | @cons x c np es cs hx _ ih =>
    intro Q k
    refine wpAny_items_cons ?_
    obtain ⟨hg, hdbg, hm | ⟨hm, hv, hnn⟩⟩ := hx
    · exact ld_glob I hg hm (ih k) hdbg
    · exact ld_blt I hg hm hv (ih k) hnn hdbg
/-- a caught exception, held -/
def Exv (a : Addr) (cls : Value) (d : Option Addr) : HO := .ext fun h => ∃ (oe : Obj) (vs : Array Value), h.get? a = some oe ∧ Zc cls d oe ∧ oe.data = .fields vs
theorem exv_ok {P : Program} {w : World} {H : Hp} {h : Heap} {a : Addr} {cls : Value} {d : Option Addr} {oe : Obj} {vs : Array Value} (e : h.get? a = some oe) (z : Zc cls d oe) (hd : oe.data = .fields vs) : ObjOk P w H h a (Exv a cls d) :=
  ⟨⟨oe, vs, e, z, hd⟩, ⟨oe, e⟩, fun _ _ ⟨o, v, q, r⟩ k => ⟨o, v, k o q, r⟩⟩
theorem exv_at {P : Program} {w : World} {H : Hp} {h : Heap} {a : Addr} {cls : Value} {d : Option Addr} (ok : HOk P w H h) (e : H a = some (Exv a cls d)) : ∃ oe vs, h.get? a = some oe ∧ Zc cls d oe ∧ oe.data = .fields vs := by
  have x : ObjOk P w H h a (.ext fun h => ∃ (oe : Obj) (vs : Array Value), h.get? a = some oe ∧ Zc cls d oe ∧ oe.data = .fields vs) := ok a _ e
  exact x.1
section
variable {X : Cx} {pins : List (Addr × Obj)} {σ : L2.St} {H : Hp} {s : Shared}
theorem track {a : Addr} {o : HO} (I : Inv X pins σ H s) (na : H a = none) (n0 : ∀ u, X.s_0.heap.get? a = some u → X.H_0 a = none → a ∈ X.ex) (nL : a ≠ X.env.locals) (nC : ∀ x c, X.env.cells.lookup x = some c → c ≠ a) (nP : ∀ p ∈ X.pn ++ pins, p.1 ≠ a)
    (ok : ObjOk X.prog X.w (upd H a o) s.heap a o) : Inv X pins σ (upd H a o) s := by
  have ne : ∀ {b : Addr} {u : HO}, H b = some u → b ≠ a := fun {b u} e z => by rw [z, na] at e; cases e
  refine ⟨I.ok, I.os, I.bare, ⟨I.base.keep, I.base.slot, fun b u e n hx => ?_, I.base.there, fun b xs e => ?_, fun b u v e => ?_, fun b ps e => ?_⟩, I.loc, I.cell, ?_, fun x c e => ?_, fun p hp => ?_, fun b u e => ?_, I.len⟩
  · by_cases hb : b = a
    · subst hb; exact absurd (n0 u e n) hx
    · rw [upd_ne hb]; exact I.base.free b u e n hx
  · have q := I.base.tups b xs e
    rw [upd_ne (ne q)]; exact q
  · have q := I.base.frzs b u v e
    rw [upd_ne (ne q)]; exact q
  · obtain ⟨more, q⟩ := I.base.tbls b ps e
    exact ⟨more, by rw [upd_ne (ne q)]; exact q⟩
  · rw [upd_ne (Ne.symm nL)]; exact I.free
  · rw [upd_ne (nC x c e)]; exact I.freeC x c e
  · obtain ⟨q1, q2, q3, q4, q5⟩ := I.pin p hp
    exact ⟨q1, by rw [upd_ne (nP p hp)]; exact q2, q3, q4, q5⟩
  · by_cases hb : b = a
    · subst hb; rw [upd_same] at e; cases e; exact ok
    · rw [upd_ne hb] at e
      exact (I.hok b u e).stay (fun c v _ q => q) (fun c q => by rw [upd_ne (ne q)]; exact q) fun c xs q => by rw [upd_ne (ne q)]; exact q
end
theorem fly_keeps {B h h' : Heap} {l : List Env} {a : Addr} {Z : Obj → Prop} (fl : HandSPX.FlyingZ B l a Z h) (k : ∀ b o, h.get? b = some o → h'.get? b = some o) : HandSPX.FlyingZ B l a Z h' := by
  obtain ⟨f1, f2, f3, oe, vs, T, oT, ts, he, hz, hd, h1, hn, ht, hT, hdT, h3⟩ := fl
  exact ⟨fun b o q => k b o (f1 b o q), f2, f3.of_keeps fun b o q _ => ⟨o, k b o q, rfl⟩, oe, vs, T, oT, ts, k _ _ he, hz, hd, h1, hn, ht, k _ _ hT, hdT, h3⟩
/-- what 'except (A, B, ..) as n' wishes; slot i is n's -/
def wKeep (K : PySem.W.Frag) (cs : List Value) (i : Nat) (ts : Addr → Value → Option Addr → TS) (Wout : WX) (D : Ends) : WX := fun cls d σ H =>
  ∃ b, PySem.W.exmAny K cls cs = some b ∧ (b = true → ∀ a, H a = none → ts a cls d { nx := fun σ' H' => D.nx (σ'.set i none) (upd H' a (Exv a cls d)), rt := fun v H' => D.rt v (upd H' a (Exv a cls d)), bk := fun σ' H' => D.bk (σ'.set i none) (upd H' a (Exv a cls d)), ct := fun σ' H' => D.ct (σ'.set i none) (upd H' a (Exv a cls d)) } (σ.set i (some (.ref a))) H) ∧
    (b = false → Wout cls d σ H)
section
variable {X : Cx} {n : Str} {cs : List Value} {i kt : Nat} {body suite : List Stmt} {b₀ : Stmt} {es : List Expr} {tpos pos pos' : Pos} {tb : WX → TS} {ts : Addr → Value → Option Addr → TS} {Wout : WX}
theorem ps_try_keep (hs : X.stack = X.env :: X.outer) (hf : X.env.frame = some X.env.locals) (hN : X.N.Nodup) (hi : X.N[i]? = some n) (hln : X.env.kindOf n = some .local) (hc : Nms X es cs) (hz : cs.length ≤ 100) (tk : Takes X Wout)
    (hb : ∀ (W : WX) (pn : List (Addr × Obj)) (xe : Value → Shared → Prop), Takes (X.tr pn xe) W → PassesOwn (model X.prog X.w) X.A X.env xe → PSs (X.tr pn xe) body (tb W))
    (hsu : ∀ (a : Addr) (oe : Obj) (cls : Value) (d : Option Addr) (pn : List (Addr × Obj)), Zc cls d oe → (∃ vs, oe.data = .fields vs) → PSs (X.suite a ((a, oe) :: pn)) (b₀ :: suite) (ts a cls d)) :
    PS X (.Try body [.ExceptHandler (some (.Tuple es kt tpos)) (some n) (b₀ :: suite) pos'] [] [] pos) (fun D σ H => tb (wKeep X.K cs i ts Wout D) D σ H) := by
  refine ⟨fun pins s σ H D I kk => ?_⟩
  have okX := I.ok
  have frm : X.A.frames = some (X.env :: X.outer) := by rw [okX.frames, hs]
  have lcl : Loc X.env.scope n := .inl hln
  refine wpAny_Try_except (wpAny_mono ((hb (wKeep X.K cs i ts Wout D) (X.pn ++ pins) (fun e s1 => wpAny (model X.prog X.w) X.A (noteFrame e X.env) (fun _ s2 => wpAny (model X.prog X.w) X.A (setFlight e none) (fun _ s3 =>
    wpAny (model X.prog X.w) X.A (handleBy e X.env [.ExceptHandler (some (.Tuple es kt tpos)) (some n) (b₀ :: suite) pos']) (SP X pins D) X.xe s3) X.xe s2) X.xe s1) (fun u s1 xx => ?_) PassesOwn.looking).run [] s σ H D (I.toTry _) kk) (fun fl s1 z => ?_) (fun _ _ z => z))
  · obtain ⟨a, B, sI, pins1, σ1, H1, cls, d, rfl, J0, nb, up, sky, na, osE, agE, b, hb1, yes, no⟩ := xx
    have J : Inv X pins σ1 H1 sI := J0.ofTry okX
    have sky1 : Sky B (X.env :: X.outer) a (Zc cls d) X.env.locals s1.heap := by rw [← hs]; exact sky
    show wpAny (model X.prog X.w) X.A (noteFrame (.ref a) X.env) _ _ _
    refine Sky.land Zc.steady frm hf sky1 fun h3 fl3 up3 => ?_
    have J3 : Inv X pins σ1 H1 { s1 with heap := h3 } := J.landed nb fl3.1 (up.trans up3) osE agE
    obtain ⟨oe3, vs3, he3, hz3, hd3⟩ := fl3.there
    have nfr : a ∉ frs (X.env :: X.outer) := fun hm => by
      obtain ⟨_, o1, q1, nf1⟩ := fl3.2.2.1.mem hm
      rw [he3] at q1; cases q1
      exact nf1 _ hd3
    have nL : a ≠ X.env.locals := fun z => nfr (List.mem_filterMap.mpr ⟨X.env, List.mem_cons_self, by rw [hf, z]⟩)
    have nF : a ∉ X.fs := fun hm => by
      obtain ⟨e1, he1, q1⟩ := List.mem_filterMap.mp hm
      exact nfr (List.mem_filterMap.mpr ⟨e1, List.mem_cons_of_mem _ he1, q1⟩)
    have nst : a ∉ frs X.stack := by rw [hs]; exact nfr
    have bn : B.get? a = none := fl3.2.1
    have n0 : ∀ u, X.s_0.heap.get? a = some u → X.H_0 a = none → a ∈ X.ex := fun u e1 e2 => Classical.byContradiction fun hx => by
      have q1 := nb a u (J.base.keep a u e1 e2 nF hx) nst
      rw [bn] at q1; cases q1
    have nP : ∀ p ∈ X.pn ++ pins, p.1 ≠ a := fun p hp z => by
      obtain ⟨q1, q2, q3, q4, q5⟩ := J.pin p hp
      have q6 : p.1 ∉ frs X.stack := by rw [z]; exact nst
      have q7 := nb p.1 p.2 q1 q6
      rw [z, bn] at q7; cases q7
    have S3 := J3.suite he3 hd3 na nL nF
    refine wpAny_handleBy_cons (codeAny_handlers_test ?_) (by intro q; cases q)
    refine wpAny_Tuple (nms_eval (X := X.suite a ((a, oe3) :: (X.pn ++ pins))) S3 (by
      have g : ∀ {es cs}, Nms X es cs → Nms (X.suite a ((a, oe3) :: (X.pn ++ pins))) es cs := fun h => by
        induction h with
        | nil => exact .nil
        | cons hx _ ih => exact .cons hx ih
      exact g hc) ⟨by rw [sizeLine_eq]; omega, ?_⟩)
    have kp : ∀ b o, h3.get? b = some o → (h3.push { cls := .type "tuple", data := .seq cs.toArray }).get? b = some o := fun _ _ q => Heap.get?_push_of_some _ q
    have LT : PySem.W.Looks (model X.prog X.w) (h3.push { cls := .type "tuple", data := .seq cs.toArray }) (typeOf (.ref a)) cls := fun A Q E s k q => wpAny_typeOf_ref (k _ _ (kp _ _ he3)) (by rw [hz3.1]; exact q)
    refine (exm_tupN (M := model X.prog X.w) (J3.kIn.keeps kp) LT (Heap.get?_push_size h3 rfl) hb1).here ?_
    have fl4 := fly_keeps fl3 kp
    have up4 : sI.heap.UpToSlots (h3.push { cls := .type "tuple", data := .seq cs.toArray }) := (up.trans up3).trans (Heap.UpToSlots.of_keeps kp)
    cases b with
    | true =>
      refine codeAny_handlers_suite_as (HandSPX.lands_againZ fl4 fun h5 fl5 up5 => ?_)
      have J5 : Inv X pins σ1 H1 { s1 with heap := h5 } := J.landed nb fl5.1 (up4.trans up5) osE agE
      obtain ⟨oe5, vs5, he5, hz5, hd5⟩ := fl5.there
      have S5 := J5.suite he5 hd5 na nL nF
      refine store_ok (X := X.suite a ((a, oe5) :: (X.pn ++ pins))) (v := .ref a) S5 hN hi lcl rfl (fun s6 S6 => ?_) (.inr hln)
      refine wpAny_mono ((hsu a oe5 cls d (X.pn ++ pins) hz5 ⟨_, hd5⟩).run [] s6 _ H1 _ S6 (yes rfl a na)) (fun fl s7 z => ?_) (fun _ _ z => False.elim z)
      have fin : ∀ {σ7 : L2.St} {H7 : Hp} {Q : Shared → Prop}, Inv (X.suite a ((a, oe5) :: (X.pn ++ pins))) [] σ7 H7 s7 → (∀ s8, Inv X pins (σ7.set i none) (upd H7 a (Exv a cls d)) s8 → Q s8) →
          wpAny (model X.prog X.w) X.A (do bindName X.env n .none; unbindBehindTheSuite X.env n pos') (fun _ s8 => Q s8) X.xe s7 := fun {σ7 H7 Q} S7 hq => by
        obtain ⟨p1, p2, p3, p4, p5⟩ := S7.pin (a, oe5) (List.mem_append_left _ List.mem_cons_self)
        have J7 := S7.unsuite okX
        refine gone_ok (track J7 p2 n0 nL (fun x c e z => ?_) nP (exv_ok p1 hz5 hd5)) hN hi hln hq
        obtain ⟨v, oc, q1, q2⟩ := J7.cell x c e
        rw [z, p1] at q1; cases q1
        rw [hd5] at q2; cases q2
      cases fl with
      | next =>
        obtain ⟨σ7, H7, S7, q7⟩ := z
        exact fin S7 fun s8 J8 => ⟨_, _, J8, q7⟩
      | brk =>
        obtain ⟨σ7, H7, S7, q7⟩ := z
        exact fin S7 fun s8 J8 => ⟨_, _, J8, q7⟩
      | cont =>
        obtain ⟨σ7, H7, S7, q7⟩ := z
        exact fin S7 fun s8 J8 => ⟨_, _, J8, q7⟩
      | ret u =>
        obtain ⟨v7, σ7, H7, S7, r7, q7⟩ := z
        exact fin S7 fun s8 J8 => ⟨_, _, _, J8, r7, q7⟩
    | false =>
      show wpAny _ X.A (handleBy (.ref a) X.env []) _ _ _
      refine wpAny_handleBy_nil ?_
      obtain ⟨k1, k2, k3, oe, vs, T, oT, ts1, he, hz, hd, h1, hr⟩ := id fl4
      unfold PySem.passOn
      refine wpAny_bind (wpAny_field he hd h1 ?_)
      rw [if_neg (show ¬ ((Value.ref T == Value.none) = true) from by simp)]
      have last : wpAny (model X.prog X.w) X.A (setFlight (.ref a) X.env.frame) (fun _ s5 => wpAny (model X.prog X.w) X.A (throw (.ref a) : Sem Flow) (SP X pins D) X.xe s5) X.xe { s1 with heap := h3.push { cls := .type "tuple", data := .seq cs.toArray } } := by
        rw [hf]
        refine HandSPX.setFlight_upZ fl4 fun h5 hh5 up5 => wpAny_throw (tk _ _ ⟨a, B, sI, pins, σ1, H1, cls, d, rfl, J, nb, up4.trans up5, .inr (.inr (by rw [hs]; exact hh5)), na, osE, agE, no rfl⟩)
      first
        | exact wpAny_bind (wpAny_pure (wpAny_bind last))
        | exact wpAny_bind last
  · cases fl with
    | next =>
      obtain ⟨σ1, H1, J1, q⟩ := z
      exact wpAny_execs_nil ⟨σ1, H1, J1.ofTry okX, q⟩
    | brk =>
      obtain ⟨σ1, H1, J1, q⟩ := z
      exact ⟨σ1, H1, J1.ofTry okX, q⟩
    | cont =>
      obtain ⟨σ1, H1, J1, q⟩ := z
      exact ⟨σ1, H1, J1.ofTry okX, q⟩
    | ret u =>
      obtain ⟨v, σ1, H1, J1, r, q⟩ := z
      exact ⟨v, σ1, H1, J1.ofTry okX, r, q⟩
end
end Xc

/-! Xc3: held exceptions looked at; divmod -/
namespace Xc
open PySem PySem.Spec PySem.Calls PyProof.Rows L2 Rs
/-- what a class says when its instances are looked at -/
structure Lk (K : PySem.W.Frag) (C : Addr) : Prop where
  cl : (PySem.W.clsIn K C).isSome = true
  ga : PySem.W.findIn K (.ref C) "__getattribute__" = some (some (.builtin "BaseException.__getattribute__"))
  gg : PySem.W.findIn K (.ref C) "__getattr__" = some none
  bx : PySem.W.subIn K (.ref C) (.type "BaseException") = some true
  hd : PySem.W.hasDictIn K C = true
  ha : PySem.W.findIn K (.ref C) "__class__" = some (some (.builtin "object.__class__"))
  hn : PySem.W.specialIn K (.builtin "object.__class__") "__get__" = some (some (.builtin "getset_descriptor.__get__"))
  ht : PySem.W.takesIn K (.builtin "object.__class__") = some true
  hm : PySem.W.mroIn K C (.type "object") = some true
/-- held at a: an exception of the class at C, its fields fs in the dict at dx -/
structure Held (H : Hp) (a C dx : Addr) (fs : List (Str × V)) : Prop where
  ex : H a = some (Exv a (.ref C) (some dx))
  dk : H dx = some (.xd fs)
section
variable {X : Cx} {pins : List (Addr × Obj)} {σ : L2.St} {H : Hp} {s : Shared} {a C dx : Addr} {fs : List (Str × V)}
theorem held_inst (I : Inv X pins σ H s) (h : Held H a C dx fs) : ∃ (oe od : Obj) (mA : Str → Option Value), PySem.W.InstAt s.heap a oe C (some od) ∧ (∀ f, RelO (fs.lookup f) (mA f)) ∧ ∀ n : Str, PySem.W.lookIn n od = some (mA n) := by
  obtain ⟨oe, vs, h1, h2, h3⟩ := exv_at I.hok h.ex
  have hx : ObjOk X.prog X.w H s.heap dx (.xd fs) := I.hok dx _ h.dk
  obtain ⟨mA, hns, hr⟩ := hx
  obtain ⟨od, ho, hl⟩ := lookIn_ns hns
  exact ⟨oe, od, mA, ⟨h1, h2.1, by unfold PySem.W.notCls; rw [h3] <;> rfl, by rw [h2.2]; exact ho⟩, hr, hl⟩
/-- isinstance(e, c) of a held one -/
def rIsX (K : PySem.W.Frag) : List V → Hp → VK → Prop := fun xs H Q => ∃ (a C dx : Addr) (fs : List (Str × V)) (c : V) (u : Value) (b : Bool), xs = [.ref a, c] ∧ ClsV c u ∧ Lk K C ∧ Held H a C dx fs ∧ PySem.W.kitOne K (.ref C) u = some b ∧ Q (.bl b) H
theorem call_isX : CallR X (.builtin "isinstance") (rIsX X.K) := by
  intro pins s σ H xs us Q I r h
  obtain ⟨a, C, dx, fs, c, u, b, rfl, k, l, hh, e, q⟩ := h
  obtain ⟨u1, u2, rfl, r1, r2⟩ := vals2 r
  have e2 := k.eq r2
  subst e2
  cases (show u1 = Value.ref a from r1)
  obtain ⟨oe, od, mA, J, _, _⟩ := held_inst I hh
  exact PySem.W.kia_one (PySem.W.kitx_exc l.cl l.ga l.gg l.bx l.ha l.hn l.ht l.hm) I.kIn J e (fun z => nomatch z) fun tk => ⟨.bl b, H, I.tok tk, rfl, q⟩
/-- e.f of a held one -/
def tXv (K : PySem.W.Frag) (f : Str) (te : TE) : TE := fun σ H Q => te σ H fun x H1 => ∃ (a C dx : Addr) (fs : List (Str × V)) (v : V), x = .ref a ∧ Lk K C ∧ PySem.W.findIn K (.ref C) f = some none ∧ Held H1 a C dx fs ∧ fs.lookup f = some v ∧ Q v H1
theorem pe_xv {e : Expr} {te : TE} {pos : Pos} {n : Str} (he : PE X e te) (hb : attributeBase e n X.env (eval e X.env) = eval e X.env := by rfl) : PE X (.Attribute e n pos) (tXv X.K n te) := by
  refine ⟨fun pins s σ H Q I h => attr_of hb (thn (he.run pins s σ H _ I h) fun u s1 hh => ?_)⟩
  obtain ⟨x, H1, I1, rx, a, C, dx, fs, v, ex, l, hno, hd, lk, q⟩ := hh
  subst ex
  obtain rfl : u = Value.ref a := rx
  obtain ⟨oe, od, mA, J, hr, hl⟩ := held_inst I1 hd
  obtain ⟨u2, hu, ru⟩ := RelO.some_of (v := v) (o := mA n) (by rw [← lk]; exact hr n)
  exact HandSPX.exc_get I1.kIn J l.ga l.gg l.bx (PySem.W.findObj_own l.hd hno rfl (by rw [hl, hu])) (handed_of ru) ⟨v, H1, I1.tok _, ru, q⟩
/-- divmod of whole numbers -/
def rDm : List V → Hp → VK → Prop := fun xs H Q => ∃ (a b : Int), xs = [.int a, .int b] ∧ 0 < b ∧ b < 2 ^ 30 ∧ -(2 ^ 30) < a ∧ a < 2 ^ 30 ∧ ∀ p, H p = none → Q (.ref p) (upd H p (.tup [.int (a / b), .int (a % b)]))
theorem call_dm : CallR X (.builtin "divmod") rDm := by
  intro pins s σ H xs us Q I r h
  obtain ⟨a, b, rfl, h1, h2, h3, h4, q⟩ := h
  obtain ⟨u1, u2, rfl, r1, r2⟩ := vals2 r
  obtain ⟨t1, rfl⟩ := (show ∃ t, u1 = Value.int a t from r1)
  obtain ⟨t2, rfl⟩ := (show ∃ t, u2 = Value.int b t from r2)
  have hf : H s.heap.objs.size = none := I.hok.fresh (Nat.le_refl _)
  refine PyProof.Rows.divmod_int (by omega) ?_ (Or.inl (PyProof.noPylong_small (by omega)))
  have e1 : a.fdiv b = a / b := Int.fdiv_eq_ediv_of_nonneg _ (by omega)
  have e2 : a.fmod b = a % b := Int.fmod_eq_emod_of_nonneg _ (by omega)
  rw [e1, e2]
  refine ⟨.ref s.heap.objs.size, upd H s.heap.objs.size (.tup [.int (a / b), .int (a % b)]), I.laid (t' := s.toks + 1 + 1) (fun b o e => Heap.get?_push_of_some _ e) (Nat.le_refl _) ?_, rfl, q _ hf⟩
  exact ⟨by rw [sizeLine_eq]; simp, _, .cons ⟨_, rfl⟩ (.cons ⟨_, rfl⟩ .nil), ⟨_, Heap.get?_push_size _ rfl, rfl, _, rfl⟩⟩
end
end Xc
namespace Xc
open PySem PySem.Spec PySem.Calls PyProof.Rows L2 Rs
theorem ip_or {X : Cx} : PIp X .BitOr (ipI fun i j => Builtin.bitOr i j) := by
  intro pins s σ H x y v u Q I r1 r2 h
  obtain ⟨i, j, rfl, rfl, q⟩ := h
  obtain ⟨t, rfl⟩ := r1
  obtain ⟨t2, rfl⟩ := r2
  exact ior_int ⟨.int (Builtin.bitOr i j), H, I.tok _, ⟨_, rfl⟩, q⟩
end Xc

/-! Xc4: the end with tables of code objects, for promises kept while no text is under way -/
namespace Xc
open PySem PySem.Spec PySem.Calls PyProof.Rows L2 Rs LamX
/-- what is known at the law's call: the script, the tables -/
def headH (own : Bool) (a : Addr) (o : Obj) (ns : List Int) (ts : List Addr) : Hp := fun b => if own = true ∧ b = a then some (.frz o (.lst (ns.map V.int))) else if b ∈ ts then some (.tbl #[]) else none
theorem headH_some {own : Bool} {a b : Addr} {o : Obj} {ns : List Int} {ts : List Addr} {u : HO} (h : headH own a o ns ts b = some u) : (own = true ∧ b = a ∧ u = .frz o (.lst (ns.map V.int))) ∨ (b ∈ ts ∧ u = .tbl #[]) := by
  unfold headH at h
  split at h
  · rename_i z; exact .inl ⟨z.1, z.2, (Option.some.inj h).symm⟩
  · split at h
    · rename_i z; exact .inr ⟨z, (Option.some.inj h).symm⟩
    · cases h
theorem lawGT {P : Program} {w : World} {K : PySem.W.Frag} {mg mb : Str → Option Value} {k : Nat} {fa a : Addr} {fd : FuncData} {x : Str} {sp : Sp} {s : Shared} {vs : List Value} {ns : List Int} {cs : List (Addr × Addr)}
    (KX : K.In s.heap) (hm : s.heap.Ns mainGlobals mg) (hb : s.heap.Ns builtinsNs mb) (hbb : ∀ x : Str, x ≠ "__name__" → mb x = bootBuiltins x) (hlim : s.heap.NoLimit) (hg : s.gens = #[])
    (hT : ∀ p ∈ cs, s.heap.get? p.2 = some (PySem.W.tabObj #[])) (nT : ∀ p ∈ cs, K.lookup p.2 = none) (C : ∀ p ∈ cs, PySem.W.CodeHd s.heap p.1 p.2)
    (hbm : ∃ (bm : Addr) (ob : Obj), mg "__builtins__" = some (.ref bm) ∧ bm ≠ builtinsNs ∧ s.heap.get? bm = some ob ∧ ob.cls = .type "module" ∧ ob.dict = some builtinsNs ∧ ob.data = .plain)
    (ha : s.heap.get? a = some { cls := .type "list", data := .seq vs.toArray }) (hi : IntsAre vs ns) (hl : ns.length ≤ sizeLine) (hr : Room k callerA)
    (F : ∀ base : Heap, K.In base → base.Ns mainGlobals mg → (∀ p ∈ cs, TabB base mg p.1 p.2) → FnG P w K mg base k fa fd [x] sp) (hbind : ∀ (s : Shared) (u : Value), BindsTo s fd ⟨[u], []⟩ [(x, u)])
    (hsp : ∀ H : Hp, (∀ p ∈ cs, H p.2 = some (.tbl #[])) → SqL K H a (ns.map V.int) → sp [.ref a] H (fun v _ => v = .bl true) E0) :
    codeAny (model P w) callerA (.call (.ref fa) ⟨[.ref a], []⟩) (fun r s' => r = .ok (.ret (.bool true)) ∧ OldK s.heap s'.heap ∧ s'.os = s.os ∧ AllBare s'.gens) s := by
  have rv := vals_ints hi
  have lv := hi.length
  have tabOf : ∀ b : Addr, b ∈ cs.map (·.2) → s.heap.get? b = some (PySem.W.tabObj #[]) := fun b hb => by
    obtain ⟨p, hp, rfl⟩ := List.mem_map.mp hb
    exact hT p hp
  have aNot : a ∉ cs.map (·.2) := fun z => by
    have q := tabOf a z
    rw [ha] at q
    have d : Data.seq vs.toArray _ = Data.fields #[] := congrArg Obj.data (Option.some.inj q)
    cases d
  have key : ∀ own : Bool, (own = true → K.lookup a = none) → (own = false → ∃ o, K.lookup a = some o) →
      codeAny (model P w) callerA (.call (.ref fa) ⟨[.ref a], []⟩) (fun r s' => r = .ok (.ret (.bool true)) ∧ OldK s.heap s'.heap ∧ s'.os = s.os ∧ AllBare s'.gens) s := by
    intro own h1 h2
    have hS := fun {b : Addr} {u : HO} => headH_some (own := own) (a := a) (b := b) (o := { cls := .type "list", data := .seq vs.toArray }) (ns := ns) (ts := cs.map (·.2)) (u := u)
    have hTb : ∀ p ∈ cs, headH own a { cls := .type "list", data := .seq vs.toArray } ns (cs.map (·.2)) p.2 = some (.tbl #[]) := fun p hp => by
      have mp : p.2 ∈ cs.map (·.2) := List.mem_map_of_mem (f := (·.2)) hp
      unfold headH
      rw [if_neg (fun z => aNot (by rw [← z.2]; exact mp)), if_pos mp]
    generalize eH : headH own a { cls := .type "list", data := .seq vs.toArray } ns (cs.map (·.2)) = H at hS hTb
    -- an object that is neither a row nor a table is not tracked
    have noH : ∀ {b : Addr} {o : Obj}, s.heap.get? b = some o → (∀ xs n, o.data ≠ .seq xs n) → o.data ≠ .fields #[] → H b = none := fun {b o} e d1 d2 => by
      cases q : H b with
      | none => rfl
      | some u =>
        rcases hS q with ⟨_, rfl, _⟩ | ⟨hb2, _⟩
        · rw [ha] at e; cases e; exact absurd rfl (d1 _ _)
        · rw [tabOf b hb2] at e; cases e; exact absurd rfl d2
    have noD : ∀ {b : Addr} {o : Obj} {es : Array DictEntry} {n : Nat}, s.heap.get? b = some o → o.data = .dict es n → H b = none := fun {b o es n} e d =>
      noH e (fun xs n z => by rw [d] at z; cases z) (fun z => by rw [d] at z; cases z)
    have ns0 : ∀ {b : Addr} {m : Str → Option Value}, s.heap.Ns b m → (hidT s.heap H).Ns b m := fun {b m} ⟨o, es, n, e, d, r⟩ => ⟨o, es, n, hidT_get e (noD e d), d, r⟩
    have K0 : K.In (hidT s.heap H) := fun b o e => by
      refine hidT_get (KX b o e) ?_
      cases q : H b with
      | none => rfl
      | some u =>
        rcases hS q with ⟨z, rfl, _⟩ | ⟨hb2, _⟩
        · rw [h1 z] at e; cases e
        · obtain ⟨p, hp, rfl⟩ := List.mem_map.mp hb2
          rw [nT p hp] at e; cases e
    have hok : HOk P w H s.heap := fun b u q => by
      rcases hS q with ⟨_, rfl, rfl⟩ | ⟨hb2, rfl⟩
      · exact ⟨ha, by rw [List.length_map]; exact hl, vs, _, rv, ha⟩
      · exact tabOf b hb2
    obtain ⟨mc, q1, q2⟩ := hlim
    have M0 : Mod K mg (hidT s.heap H) := ⟨K0, ns0 hm, ⟨mb, ns0 hb, hbb⟩, mc, ns0 q1, q2⟩
    have TB : ∀ p ∈ cs, TabB (hidT s.heap H) mg p.1 p.2 := fun p hp => by
      have hTp := hT p hp
      refine ⟨?_, ?_, fun z => ?_⟩
      · obtain ⟨o, us, file, tf, flags, tg, inF, text, tt, e1, r1, r2, r3, rest⟩ := C p hp
        refine ⟨o, us, file, tf, flags, tg, inF, text, tt, hidT_get e1 (noH e1 (fun xs n z => by rw [r2] at z; cases z) fun z => ?_), r1, r2, r3, rest⟩
        rw [r2] at z; cases z; simp at r3
      · obtain ⟨bm, ob, b1, b2, b3, b4, b5, b6⟩ := hbm
        refine ⟨bm, ob, b1, b2, fun q => ?_, fun q => ?_, hidT_get b3 (noH b3 (fun xs n z => by rw [b6] at z; cases z) fun z => by rw [b6] at z; cases z), b4, b5, b6⟩
        · obtain ⟨o, es, n, e, d, _⟩ := hm
          rw [q, e] at b3; cases b3
          rw [d] at b6; cases b6
        · rw [q, hTp] at b3; cases b3; cases b6
      · obtain ⟨o, es, n, e, d, _⟩ := hm
        rw [z, hTp] at e; cases e; cases d
    have env : Env0 P w K mg (hidT s.heap H) callerA [] s H := ⟨rfl, M0, fun b o e => of_hidT e, Nat.le_of_eq (hidT_size _ _), trivial, fun b hb3 => (nomatch (show b ∈ ([] : List Addr) from hb3)), hok, .of_eq hg⟩
    have sq : SqL K H a (ns.map V.int) := by
      cases own with
      | true => exact Or.inl (Or.inr ⟨_, by rw [← eH]; exact if_pos ⟨rfl, rfl⟩⟩)
      | false =>
        obtain ⟨o, e⟩ := h2 rfl
        have e' := KX a o e
        rw [ha] at e'; cases e'
        exact Or.inr ⟨_, vs.toArray, _, e, rfl, rfl, rfl, by rw [List.size_toArray, lv]; exact hl, by simpa using rv⟩
    refine codeAny_mono ((F _ K0 (ns0 hm) TB).go callerA [] s H [.ref a] ⟨[.ref a], []⟩ [.ref a] _ E0 rfl hr env (hbind s (.ref a)) (.cons rfl .nil) (hsp H hTb sq)) fun r s' z => ?_
    match r, z with
    | .error _, z => exact z.elim
    | .ok .next, z => exact z.elim
    | .ok .brk, z => exact z.elim
    | .ok .cont, z => exact z.elim
    | .ok (.ret u), z =>
      obtain ⟨v, H', os, bare, un, hok', r', q⟩ := z
      cases (show v = .bl true from q)
      cases (show u = Value.bool true from r')
      have same : ∀ b o, b ∉ cs.map (·.2) → s.heap.get? b = some o → s'.heap.get? b = some o := fun b o nb e => by
        cases q : H b with
        | none => exact un.keep b o e q (fun z => nomatch z) (fun z => nomatch z)
        | some u =>
          rcases hS q with ⟨_, rfl, rfl⟩ | ⟨hb2, _⟩
          · rw [ha] at e; cases e
            obtain ⟨e2, _⟩ := hok' b _ (un.frzs b _ _ q)
            exact e2
          · exact absurd hb2 nb
      have grown : ∀ b ∈ cs.map (·.2), isCodeTable s.heap b ∧ ∃ more : Array Value, s'.heap.get? b = some (PySem.W.tabObj more) := fun b hb2 => by
        obtain ⟨p, hp, rfl⟩ := List.mem_map.mp hb2
        obtain ⟨more, q⟩ := un.tbls p.2 #[] (hTb p hp)
        exact ⟨((C p hp).tab (hT p hp)).isCodeTable, _, hok' p.2 _ q⟩
      refine ⟨rfl, ⟨fun b o e => ?_, fun b o e => ?_⟩, os, bare⟩
      · by_cases hb2 : b ∈ cs.map (·.2)
        · obtain ⟨g1, more, g2⟩ := grown b hb2
          rw [tabOf b hb2] at e; cases e
          exact .inr (.inl ⟨g1, rfl, #[], more, rfl, by rw [Array.empty_append]; exact g2⟩)
        · exact .inl (same b o hb2 e)
      · by_cases hb2 : b ∈ cs.map (·.2)
        · obtain ⟨_, more, g2⟩ := grown b hb2
          exact ⟨_, g2⟩
        · exact ⟨o, same b o hb2 e⟩
  cases hk : K.lookup a with
  | some o => exact key false (fun z => Bool.noConfusion z) (fun _ => ⟨o, hk⟩)
  | none => exact key true (fun _ => hk) (fun z => Bool.noConfusion z)
/-- a def whose code object is known by its place -/
structure FunC (K : PySem.W.Frag) (x qual : Str) (st : Stmt) (f : Addr) (fd : FuncData) (c : Addr) : Prop where
  ex : ∃ (oc : Value) (od : Option Addr) (kV doc pm : Value) (an : Option Addr) (ct : Value) (osl : Array (Option Value)),
    fd = PySem.W.fnOf x qual (defArgs st) (defBody st) (defScope st) .none kV doc pm an (.ref c) ct ∧ K.lookup f = some ⟨oc, od, .func (PySem.W.fnOf x qual (defArgs st) (defBody st) (defScope st) .none kV doc pm an (.ref c) ct), osl⟩ ∧ PySem.W.codeIn K (.ref c) qual = true
section
variable {P : Program} {w : World} {K : PySem.W.Frag} {mg : Str → Option Value} {base : Heap}
/-- such a def by its body, as FnG -/
theorem defGC {x qual : Str} {st : Stmt} {f c : Addr} {fd : FuncData} {N ps : List Str} {k : Nat} {sp : Sp} (F : FunC K x qual st f fd c) (S : FnScope N ps (defScope st)) (many : ∀ vs H Q E, sp vs H Q E → vs.length = ps.length)
    (body : ∀ (A : Around) (o : List Env) (s : Shared) (H : Hp) (vs : List V) (Q : VK) (E : XK), Clr A → Room k (A.deeper (envOfC qual (defScope st) s.heap.objs.size f (.ref c))) → sp vs H Q E →
      ∃ t, PSs (cxOf CX0 P w K mg base N qual (defScope st) f (.ref c) A o s H E).nox (defBody st) t ∧ t { nx := fun _ H' => Q .non H', rt := Q } (start N vs) H) : FnG P w K mg base (k + 1) f fd ps sp := by
  obtain ⟨oc, od, kV, doc, pm, an, ct, osl, rfl, lk, hcd⟩ := F.ex
  refine ⟨many, ?_⟩
  intro A o s H us a vs Q E cl r e0 hb rv hsp
  obtain ⟨t, ht, hq⟩ := body A o s H vs Q E cl (r.deeper _) hsp
  have inK : ∀ b ob, K.lookup b = some ob → s.heap.get? b = some ob := fun b ob e => (e0.bs b ob (e0.mod.kin b ob e)).1
  refine codeAny_call_function r.depth (inK _ _ lk) rfl S.co S.gen rfl (PySem.W.codeRec_of inK hcd) (hb _ _ _ _ ?_)
  have noL : s.heap.NoLimit := e0.mod.nolimit.keeps fun b ob e => (e0.bs b ob e).1
  refine wpAny_newFunctionEnv_cells S.kind ?_ ?_
  · rintro ⟨n, v⟩ hy
    rcases S.par n (List.of_mem_zip hy).1 with q | q
    · exact Or.inl q
    · exact Or.inr ⟨q, PySem.W.cellsFrom_some _ _ _ (Or.inl q)⟩
  · intro env he s1 x1
    subst he
    refine ⟨noL.keeps x1.toInCall.keep, codeAny_func ?_⟩
    have J := inv_start (CX := CX0) (mg := mg) (E := E) (qual := qual) S r.hd e0 (many _ _ _ _ hsp) rv x1
    refine wpAny_mono (ht.nox.run [] s1 _ H _ J hq) ?_ ?_
    · intro fl s2 h2
      cases fl with
      | next => obtain ⟨_, H2, J2, q2⟩ := h2; exact ⟨V.non, H2, J2.os, J2.bare, J2.base, J2.hok, rfl, q2⟩
      | ret u => obtain ⟨v, _, H2, J2, r2, q2⟩ := h2; exact ⟨v, H2, J2.os, J2.bare, J2.base, J2.hok, r2, q2⟩
      | brk => obtain ⟨_, _, _, q2⟩ := h2; exact q2.elim
      | cont => obtain ⟨_, _, _, q2⟩ := h2; exact q2.elim
    · intro e s2 h2; exact h2
end
/-- the end, the law's def by its facts, its code's tables known -/
theorem walkGT {l : PySem.W.OpenLaw} {n k : Nat} {q : Program} {loose : List Str} {XP : (Str → Option Value) → Heap → Prop} {YP : World → Heap → Prop} {d : DefRec} {K : Params → PySem.W.Frag} {sp : PySem.W.Frag → Sp} {st : Stmt} {x : Str} {ts : List Addr}
    (hn : l.most = some n) (hn2 : n ≤ sizeLine) (hdf : d.params.defaults = []) (hr : Room k callerA) (hY : ∀ (w : World) (h : Heap), YP w h → (K w.params).In h) (hY2 : ∀ (w : World) (h : Heap), YP w h → ∀ p ∈ ts, h.get? p = some (PySem.W.tabObj #[])) (hx : d.name = "law")
    (hb : ∀ (kV doc pm : Value) (an : Option Addr) (cdv ct u : Value), bindArgs (PySem.W.fnOf "law" "law" (defArgs st) (defBody st) (defScope st) .none kV doc pm an cdv ct) ⟨[u], []⟩ = pure [(x, u)])
    (F : ∀ (w : World) (mg : Str → Option Value) (h : Heap), (K w.params).In h → h.Ns mainGlobals mg → ∃ cs : List (Addr × Addr), cs.map (·.2) = ts ∧ (∀ p ∈ cs, (K w.params).lookup p.2 = none) ∧ (∀ p ∈ cs, PySem.W.codeHdIn (K w.params) p.1 p.2 = true) ∧
      ∃ (fa : Addr) (fd : FuncData), Cal (K w.params) mg "law" st [x] fa fd ∧ ∀ base : Heap, (∀ p ∈ cs, TabB base mg p.1 p.2) → FnG l.prog w (K w.params) mg base k fa fd [x] (sp (K w.params)))
    (hsp : ∀ (K : PySem.W.Frag) (H : Hp) (a : Addr) (ns : List Int), ns.length ≤ n → (∀ z ∈ ns, Builtin.Int.intBits z ≤ 1048576) → (∀ p ∈ ts, H p = some (.tbl #[])) → SqL K H a (ns.map V.int) → sp K [.ref a] H (fun v _ => v = .bl true) E0) :
    PySem.W.WalkO q loose XP YP l.row.toRowW d [] (fun f vs => PySem.call f vs) := by
  apply Att.attach_callB hn hdf
  intro w s0 s1 mg mb fa o pm cd doc a vs ns G Y ho hd hcd hmg hobj hints hlen hbits hg
  have KX := hY w _ Y
  obtain ⟨cs, ec, nT, cT, f, fd, C, ok⟩ := F w mg _ KX G.T.g
  subst ec
  rw [hx] at hmg
  have e := C.m.symm.trans hmg
  cases e
  obtain ⟨oc, od, kV, doc2, pm2, an2, cdv, ct, osl, rfl, lk, hcd2⟩ := C.F.ex
  exact lawGT (cs := cs) KX G.T.g G.T.b G.T.builtins G.T.nolimit hg (fun p hp => hY2 w _ Y _ (List.mem_map_of_mem (f := (·.2)) hp)) nT (fun p hp => PySem.W.codeHd_of_K KX (cT p hp)) G.T.bmain hobj hints (Nat.le_trans hlen hn2) hr (fun base _ _ TB => ok base TB) (fun s u => .of_eq (hb kV doc2 pm2 an2 cdv ct u)) fun H hH hS => hsp _ H a ns hlen hbits (fun P hP => by obtain ⟨p, hp, rfl⟩ := List.mem_map.mp hP; exact hH p hp) hS
end Xc

/-! Xc5: readings for own exceptions -/
namespace Xc
open PySem PySem.Spec PySem.Calls PyProof.Rows L2 Rs
/-- __init__(self, x) that stores x as f -/
def spInit1 (C : Addr) (f : Str) : Sp := fun vs H Q _ => ∃ (a : Addr) (v : V), vs = [.ref a, v] ∧ H a = some (exo a C none) ∧ ∀ dx, H dx = none → dx ≠ a → Q .non (upd (upd H dx (exd dx [(f, v)])) a (exo a C (some dx)))
theorem del_eq {H : Hp} {a d : Addr} {o1 o2 o3 o4 : HO} (ha : H a = none) (ne : d ≠ a) : upd (del (upd (upd (upd H a o1) d o2) a o3) a) d o4 = upd H d o4 := by
  funext b
  by_cases hb : b = d
  · subst hb; rw [upd_same, upd_same]
  · rw [upd_ne hb, upd_ne hb]
    by_cases h2 : b = a
    · subst h2; rw [del_same, ha]
    · rw [del_ne h2, upd_ne h2, upd_ne hb, upd_ne h2]
section
variable {σ : L2.St} {H H0 : Hp} {M : List Addr} {L : Led} {Q : VK} {K : PySem.W.Frag} {C : Addr} {f : Str} {x : V} {XQ : XK}
theorem rd_mk1 (k : ∀ d, H d = none → XQ (.ref C) (some d) (upd H d (.xd [(f, x)]))) : [x].length ≤ 1000 ∧ ∀ a, H a = none → spInit1 C f (.ref a :: ([x] ++ [])) (upd H a (exo a C none))
    (fun v H2 => v = .non ∧ ∃ (d : Addr) (fs : List (Str × V)), H2 a = some (exo a C (some d)) ∧ H2 d = some (exd d fs) ∧ H d = none ∧ XQ (.ref C) (some d) (upd (del H2 a) d (.xd fs))) (fun _ _ _ => False) := by
  refine ⟨by simp, fun a ha => ⟨a, x, rfl, upd_same, fun dx n1 n2 => ⟨rfl, dx, [(f, x)], upd_same, ?_, ?_, ?_⟩⟩⟩
  · rw [upd_ne n2, upd_same]
  · rw [upd_ne n2] at n1; exact n1
  · rw [del_eq ha n2]
    rw [upd_ne n2] at n1
    exact k dx n1
theorem rd_tmk {sp : Sp} {dvs : List V} {ta : TA} (h : ta σ H fun vs H1 => vs.length ≤ 1000 ∧ ∀ a, H1 a = none → sp (.ref a :: (vs ++ dvs)) (upd H1 a (exo a C none))
    (fun v H2 => v = .non ∧ ∃ (d : Addr) (fs : List (Str × V)), H2 a = some (exo a C (some d)) ∧ H2 d = some (exd d fs) ∧ H1 d = none ∧ XQ (.ref C) (some d) (upd (del H2 a) d (.xd fs))) (fun _ _ _ => False)) : tMkO C sp dvs ta σ H XQ := h
theorem rd_dm {a b : Int} (S : Hs H0 M H L) (h1 : 0 < b) (h2 : b < 2 ^ 30) (h3 : -(2 ^ 30) < a) (h4 : a < 2 ^ 30) (h : ∀ p H', H0 p = none → Hs H0 M H' ((p, .tup [.int (a / b), .int (a % b)]) :: L) → Q (.ref p) H') : rDm [.int a, .int b] H Q := ⟨a, b, rfl, h1, h2, h3, h4, rd_newO S h⟩
theorem rd_isX {a dx : Addr} {fs : List (Str × V)} {c : V} {u : Value} {b : Bool} (S : Hs H0 M H L) (m1 : (a, Exv a (.ref C) (some dx)) ∈ L) (m2 : (dx, HO.xd fs) ∈ L) (l : Lk K C) (hc : ClsV c u) (e : PySem.W.kitOne K (.ref C) u = some b) (h : Q (.bl b) H) : rIsX K [.ref a, c] H Q :=
  ⟨a, C, dx, fs, c, u, b, rfl, hc, l, ⟨S.is _ m1, S.is _ m2⟩, e, h⟩
theorem rd_xv {te : TE} (h : te σ H fun x H1 => ∃ (a C dx : Addr) (fs : List (Str × V)) (v : V), x = .ref a ∧ Lk K C ∧ PySem.W.findIn K (.ref C) f = some none ∧ Held H1 a C dx fs ∧ fs.lookup f = some v ∧ Q v H1) : tXv K f te σ H Q := h
theorem rd_put1 {B newId initId : String} {bmB : List Value} {to te : TE} {D : Ends} (h : te σ H fun y H1 => to σ H1 fun x H2 => ∃ a C : Addr, x = .ref a ∧ Own K C B newId initId bmB ∧ PySem.W.takerIn K C f = some none ∧
  ((H2 a = some (exo a C none) ∧ ∀ dx, H2 dx = none → dx ≠ a → D.nx σ (upd (upd H2 dx (exd dx [(f, y)])) a (exo a C (some dx)))) ∨
    ∃ (dx : Addr) (fs : List (Str × V)), H2 a = some (exo a C (some dx)) ∧ H2 dx = some (exd dx fs) ∧ fs.length ≤ 900 ∧ D.nx σ (upd H2 dx (exd dx ((f, y) :: fs))))) : tPut K B newId initId bmB f to te D σ H := h
theorem rd_slVx {a : Addr} {xs : List V} {lo hi : Option Int} (S : Hs H0 M H L) (m : (a, HO.lst xs) ∈ L) (h : ∀ p H', H0 p = none → Hs H0 M H' ((p, .lst (cutV xs lo hi)) :: L) → Q (.ref p) H') : rSlL K (.ref a) lo hi H Q :=
  ⟨a, xs, rfl, S.lst m, rd_newO S h⟩
theorem rd_bi {B newId initId : String} {bmB : List Value} {ta : TA} (h : ta σ H fun vs H1 => ∃ (a C : Addr) (ws : List V), vs = .ref a :: ws ∧ ws.length ≤ 1000 ∧ Own K C B newId initId bmB ∧ H1 a = some (exo a C none) ∧ Q .non H1) : tBI K B newId initId bmB ta σ H Q := h
end
end Xc
namespace Xc
open PySem PySem.Spec PySem.Calls PyProof.Rows L2 Rs
theorem rd_xvV {H H0 : Hp} {M : List Addr} {L : Led} {K : PySem.W.Frag} {C : Addr} {f : Str} {a dx : Addr} {fs : List (Str × V)} {v : V} {R : V → Prop} (S : Hs H0 M H L) (m1 : (a, Exv a (.ref C) (some dx)) ∈ L) (m2 : (dx, HO.xd fs) ∈ L) (l : Lk K C) (n : PySem.W.findIn K (.ref C) f = some none) (e : fs.lookup f = some v) (h : R v) :
    ∃ (a' C dx : Addr) (fs : List (Str × V)) (v : V), V.ref a = .ref a' ∧ Lk K C ∧ PySem.W.findIn K (.ref C) f = some none ∧ Held H a' C dx fs ∧ fs.lookup f = some v ∧ R v := ⟨a, C, dx, fs, v, rfl, l, n, ⟨S.is _ m1, S.is _ m2⟩, e, h⟩
/-- the slots' number is known of what flies -/
theorem takes_len {X : Cx} {W : WX} (t : Takes X W) : Takes X (fun cls d σ H => σ.length = X.N.length → W cls d σ H) := fun u s' ⟨a, B, sI, pins, σ, H, cls, d, e, I, nb, up, sky, na, os, ag, w⟩ =>
  t u s' ⟨a, B, sI, pins, σ, H, cls, d, e, I, nb, up, sky, na, os, ag, w I.len⟩
end Xc

/-! Xc6: repr of (text, thing), the thing data or an empty dict -/
namespace Xc
open PySem PySem.Spec PySem.Calls PyProof.Rows L2 Rs
/-- data, or an empty dict -/
inductive Tq (K : PySem.W.Frag) (H : Hp) : V → PyData → Prop where
  | dp {v : V} {d : PyData} (h : Dp K H v d) : Tq K H v d
  | emp {a : Addr} (h : H a = some (.dK [])) : Tq K H (.ref a) (.dict [])
section
variable {X : Cx} {pins : List (Addr × Obj)} {σ : L2.St} {H : Hp} {s : Shared}
theorem Tq.reads (I : Inv X pins σ H s) {v : V} {d : PyData} {u : Value} (h : Tq X.K H v d) (r : RelV v u) : ∃ as, Reads s.heap u d as ∧ (d.hasDict = true → sysModules ∉ as) := by
  cases h with
  | dp h =>
    obtain ⟨as, q⟩ := Dp.reads I d v u h r
    exact ⟨as, q, PyData.noDict_hsm (dp_noDict d v h)⟩
  | @emp a h =>
    cases (show u = Value.ref a from r)
    obtain ⟨_, ns, vs, kv, o, es, ep, e1, e2, e3, _, e5, _⟩ := dk_of I.hok h
    cases kv
    have e6 := Pairs.length e5
    have e7 : es.toList = [] := List.eq_nil_of_length_eq_zero e6
    refine ⟨[a] ++ [], ?_, fun _ hm => ?_⟩
    · have z := Reads.dict (kvs := []) (as := []) (bs := []) e1 e2.1 e3 (by rw [e7]; exact .nil) (by rw [e7]; exact .nil)
      exact z
    · have : sysModules = a := by simpa using hm
      rw [this] at ns
      simp at ns
/-- repr((text, thing)) -/
def rReprP (K : PySem.W.Frag) : List V → Hp → VK → Prop := fun xs H Q => ∃ (p : Addr) (t : Str) (v : V) (d : PyData), xs = [.ref p] ∧ SqT K H p [.str t, v] ∧ Tq K H v d ∧ Shw (.tuple [.str t, d]) ∧ (PyData.tuple [.str t, d]).depth ≤ 50 ∧ Q (.str (PyData.tuple [.str t, d]).shown) H
theorem call_reprP {k : Nat} (c : Clr X.A) (hr : Room k X.A) : CallR X (.builtin "repr") (rReprP X.K) := by
  intro pins s σ H xs us Q I r h
  obtain ⟨p, t, v, d, rfl, hs, hq, sw, dp, q⟩ := h
  cases r with
  | cons r1 r2 =>
    cases r2
    rename_i u
    cases (show u = Value.ref p from r1)
    obtain ⟨its, rv, ⟨o, ho, hc, n, hd⟩, _⟩ := I.tuple hs
    obtain ⟨u1, u2, rfl, q1, q2⟩ := vals2 rv
    obtain ⟨tk, rfl⟩ := (show ∃ tk, u1 = Value.str t tk from q1)
    obtain ⟨as, rd, hm⟩ := hq.reads I q2
    have rd2 : Reads s.heap (.ref p) (.tuple [.str t, d]) ([] ++ (as ++ [])) := Reads.tuple ho hc hd (.cons (.str t tk) (.cons rd .nil))
    have un := hr.units
    refine repr_of_reads' (s := s) rd2 sw.ok (fun z => ?_) c (by omega) (fun _ _ e => e) (fun h' t2 tk2 kp => ⟨.str _, H, I.kept kp, ⟨t2, rfl⟩, q⟩) sw.sz
    simp only [PyData.hasDict, PyData.hasDictAll, Bool.false_or, Bool.or_false] at z
    simpa using hm z
end
theorem rd_reprP {K : PySem.W.Frag} {H H0 : Hp} {M : List Addr} {L : Led} {Q : VK} {p : Addr} {t : Str} {v : V} {d : PyData} (S : Hs H0 M H L) (m : (p, HO.tup [.str t, v]) ∈ L) (h : Tq K H v d) (sw : Shw (.tuple [.str t, d])) (dp : (PyData.tuple [.str t, d]).depth ≤ 50)
    (k : Q (.str (PyData.tuple [.str t, d]).shown) H) : rReprP K [.ref p] H Q := ⟨p, t, v, d, rfl, S.tup m, h, sw, dp, k⟩
end Xc
namespace Xc
open PySem PySem.Spec PySem.Calls PyProof.Rows L2 Rs
section
variable {σ : L2.St} {H H0 : Hp} {M : List Addr} {L : Led} {Q : VK}
theorem rd_lstRg {te : L2.St → Hp → (Int → Int → Hp → Prop) → Prop} (h : te σ H fun a b H1 => RgOk a b ∧ ∀ q, H1 q = none → Q (.ref q) (upd H1 q (.lst (rgV a b)))) : tLstRg te σ H Q := h
theorem rd_rg1 {ta : TE} {R : Int → Int → Hp → Prop} (h : ta σ H fun x H1 => ∃ n, x = .int n ∧ R 0 n H1) : tRg1 ta σ H R := h
theorem rd_rg1v {n : Int} {R : Int → Prop} (h : R n) : ∃ m, V.int n = .int m ∧ R m := ⟨n, rfl, h⟩
theorem rd_rgNew {a b : Int} (S : Hs H0 M H L) (h1 : 0 ≤ a) (h2 : b ≤ 16777216) (h3 : a ≤ 16777216) (h4 : 0 ≤ b) (h : ∀ p H', H0 p = none → Hs H0 M H' ((p, .lst (rgV a b)) :: L) → Q (.ref p) H') : RgOk a b ∧ ∀ q, H q = none → Q (.ref q) (upd H q (.lst (rgV a b))) :=
  ⟨RgOk.of_le h1 h2 h3 h4, rd_newO S h⟩
end
end Xc

/-! Xc7: great numbers shown, dicts of plain pairs shown, truths counted, truths as numbers, ledgers begun anew -/
namespace Xc
open PySem PySem.Spec PySem.Calls PyProof.Rows L2 Rs
def Stat (K : PySem.W.Frag) : Prop := PySem.W.nsIn K cStatics "sys.int_max_str_digits" = some none
section
variable {prog : Program} {w : World} {A : Around} {E : Value → Shared → Prop} {s : Shared} {K : PySem.W.Frag}
/-- a whole number of less than 4300 figures that is no matter of _pylong -/
structure Fig (i : Int) : Prop where
  a : i.natAbs < 10 ^ 4300
  b : i.natAbs.log2 < 29000
theorem over_run {M : Model} {i : Int} {Q : Option Nat → Shared → Prop} (X : K.In s.heap) (st : Stat K) (f : Fig i) (q : Q none s) : wpAny M A (Builtin.overDigitLimit? i) Q E s := by
  unfold Builtin.overDigitLimit?
  by_cases h0 : i.natAbs.log2 < 1920
  · rw [if_pos h0]; exact wpAny_pure q
  · rw [if_neg h0]
    refine wpAny_bind ?_
    unfold Builtin.intMaxStrDigits
    refine wpAny_bind ((PySem.W.looks_nsIn X st).here ?_)
    refine wpAny_pure ?_
    have hb := f.b
    have h1 : ¬ (i.natAbs.log2 / 30 + 1 > 1000) := by omega
    dsimp only
    rw [if_neg h1]
    by_cases h2 : ((4300 : Nat) == 0 || decide (i.natAbs.log2 < 3 * 4300)) = true
    · rw [if_pos (by simpa using h2)]; exact wpAny_pure q
    · rw [if_neg (by simpa using h2), if_neg (Nat.not_le.mpr f.a)]; exact wpAny_pure q
theorem gives_big (i : Int) (t : Tok) (st : Stat K) (f : Fig i) : GivesAt (fun s => K.In s.heap) (Builtin.«int.__repr__» ⟨[.int i t], []⟩) (.str (toString i)) := by
  intro prog w A R s X h
  unfold Builtin.«int.__repr__»
  show wpAny _ _ (do let r ← Builtin.overDigitLimit? i; _) _ _ _
  refine wpAny_bind (over_run X st f ?_)
  exact (Gives.of_eq rfl : Gives _ (.str (toString i))) prog w A R s h
theorem reprObj_big {i : Int} {t : Tok} {Q : Value → Shared → Prop} (X : K.In s.heap) (st : Stat K) (f : Fig i) (hu : A.units < cLine) (h : Q (.str (toString i) s.toks) { s with toks := s.toks + 1 }) : wpAny (model prog w) A (pyReprObj (.int i t)) Q E s :=
  wpAny_pyReprObj_slot hu (typeIs_int s i t) F.slot_int_repr.toG (call_givesAt F.slot_int_repr (typeIs_int s i t) F.entry_int_repr (F.args_int_repr_1 _) (gives_big i t st f) X ⟨int_text_fits10 f.a, _, _, rfl, h⟩)
theorem reprK_big {as : List Addr} {h₀ : Heap} {d : Nat} {i : Int} {t : Tok} (X : K.In h₀) (st : Stat K) (f : Fig i) : ReprK prog w as h₀ d (.int i t) (toString i) := fun base hb A g E s Q hg hcl hu hk hQ => by
  have hn' : base ≤ sizeLine := by omega
  rw [pyReprUnder_leaf (v := .int i t) hn' (fun _ e => nomatch e)]
  unfold pyRepr
  exact wpAny_bind (reprObj_big (X.keeps hk) st f (by omega) (wpAny_pure (hQ s.heap _ fun _ _ e => e)))
end
/-! ### what is shown -/
/-- plain: no place in the heap -/
def plD : V → Option PyData
  | .non => some .none
  | .bl b => some (.bool b)
  | .int i => some (.int i)
  | .str x => some (.str x)
  | _ => none
def keyD : Key → PyData
  | .inl i => .int i
  | .inr x => .str x
inductive PlKv : List (Key × V) → List (PyData × PyData) → Prop where
  | nil : PlKv [] []
  | cons {k : Key} {v : V} {d : PyData} {kv : List (Key × V)} {kds : List (PyData × PyData)} : plD v = some d → PlKv kv kds → PlKv ((k, v) :: kv) ((keyD k, d) :: kds)
theorem plD_reads {h : Heap} {v : V} {d : PyData} {u : Value} (e : plD v = some d) (r : RelV v u) : Reads h u d [] := by
  cases v with
  | non => cases e; cases (show u = Value.none from r); exact .none
  | bl b => cases e; cases (show u = Value.bool b from r); exact .bool b
  | int i => cases e; obtain ⟨t, rfl⟩ := (show ∃ t, u = Value.int i t from r); exact .int i t
  | str x => cases e; obtain ⟨t, rfl⟩ := (show ∃ t, u = Value.str x t from r); exact .str x t
  | _ => cases e
theorem plKv_reads {P : Program} {w : World} {h : Heap} : ∀ {kv : List (Key × V)} {kds : List (PyData × PyData)} {vs : List (Key × Value)} {es : List DictEntry}, PlKv kv kds → KV kv vs → Pairs (mixKind P w) es vs →
    ReadsAll h (es.map (·.key)) (kds.map (·.1)) [] ∧ ReadsAll h (es.map (·.val)) (kds.map (·.2)) []
  | _, _, _, _, .nil, .nil, .nil => ⟨.nil, .nil⟩
  | _, _, _, _, .cons (k := k) e p, .cons ⟨e1, r⟩ q, .cons hk hv rest => by
    obtain ⟨h1, h2⟩ := plKv_reads p q rest
    refine ⟨?_, ?_⟩
    · refine ReadsAll.cons (as := []) (bs := []) ?_ h1
      dsimp only at e1
      rw [← e1] at hk
      rcases keyIs_shape hk with ⟨i, t, e2, e3⟩ | ⟨x, t, e2, e3⟩
      · show Reads h _ (keyD k) []
        rw [e2]; dsimp only; rw [e3]; exact .int i t
      · show Reads h _ (keyD k) []
        rw [e2]; dsimp only; rw [e3]; exact .str x t
    · refine ReadsAll.cons (as := []) (bs := []) ?_ h2
      dsimp only
      rw [hv]
      exact plD_reads e r
/-- data without dicts, a dict of plain pairs, a great number -/
inductive Tz (K : PySem.W.Frag) (H : Hp) : V → PyData → Prop where
  | dp {v : V} {d : PyData} (h : Dp K H v d) (s : d.showable = true) : Tz K H v d
  | dk {a : Addr} {kv : List (Key × V)} {kds : List (PyData × PyData)} (h : H a = some (.dK kv)) (p : PlKv kv kds) (s : (PyData.dict kds).showable = true) : Tz K H (.ref a) (.dict kds)
  | big {i : Int} (f : Fig i) : Tz K H (.int i) (.int i)
section
variable {X : Cx} {pins : List (Addr × Obj)} {σ : L2.St} {H : Hp} {s : Shared}
theorem Tz.shows (I : Inv X pins σ H s) (st : Stat X.K) {v : V} {d : PyData} {u : Value} (h : Tz X.K H v d) (r : RelV v u) (hz : d.shown.length ≤ sizeLine) (hd : d.depth ≤ 50) :
    ∃ bs, ReadAtMost s.heap d.depth bs ∧ ReprK X.prog X.w bs s.heap 50 u d.shown := by
  cases h with
  | dp h sw =>
    obtain ⟨as, q⟩ := Dp.reads I d v u h r
    obtain ⟨bs, h1, h2⟩ := ReprK.of_reads (prog := X.prog) (w := X.w) q sw (PyData.noDict_hsm (dp_noDict d v h)) hz
    exact ⟨bs, h1, h2.level_le hd⟩
  | @dk a kv kds h p sw =>
    cases (show u = Value.ref a from r)
    obtain ⟨_, ns, vs, kv', o, es, ep, e1, e2, e3, _, e5, _⟩ := dk_of I.hok h
    obtain ⟨r1, r2⟩ := plKv_reads (h := s.heap) p kv' e5
    have q : Reads s.heap (.ref a) (.dict kds) ([a] ++ [] ++ []) := Reads.dict (as := []) (bs := []) e1 e2.1 e3 r1 r2
    obtain ⟨bs, h1, h2⟩ := ReprK.of_reads (prog := X.prog) (w := X.w) q sw (fun _ hm => by
      have z : sysModules = a := by simpa using hm
      rw [z] at ns
      simp at ns) hz
    exact ⟨bs, h1, h2.level_le hd⟩
  | @big i f =>
    obtain ⟨t, rfl⟩ := (show ∃ t, u = Value.int i t from r)
    exact ⟨[], fun _ h => (nomatch h), by simp only [PyData.shown]; exact reprK_big I.kIn st f⟩
/-- repr((text, thing)) -/
def rReprZ (K : PySem.W.Frag) : List V → Hp → VK → Prop := fun xs H Q => ∃ (p : Addr) (t : Str) (v : V) (d : PyData), xs = [.ref p] ∧ SqT K H p [.str t, v] ∧ Tz K H v d ∧ (PyData.tuple [.str t, d]).shown.length ≤ sizeLine ∧ d.depth ≤ 30 ∧ Q (.str (PyData.tuple [.str t, d]).shown) H
theorem call_reprZ {k : Nat} (st : Stat X.K) (c : Clr X.A) (hr : Room k X.A) : CallR X (.builtin "repr") (rReprZ X.K) := by
  intro pins s σ H xs us Q I r h
  obtain ⟨p, t, v, d, rfl, hs, hq, sw, dp, q⟩ := h
  cases r with
  | cons r1 r2 =>
    cases r2
    rename_i u
    cases (show u = Value.ref p from r1)
    obtain ⟨its, rv, ⟨o, ho, hc, n, hd⟩, _⟩ := I.tuple hs
    obtain ⟨u1, u2, rfl, q1, q2⟩ := vals2 rv
    obtain ⟨tk, rfl⟩ := (show ∃ tk, u1 = Value.str t tk from q1)
    have un := hr.units
    have sz := sw
    rw [show (PyData.tuple [.str t, d]).shown = tupleText [reprText t, d.shown] by simp [PyData.shown, PyData.shownAll]] at sz q
    have z1 := Nat.le_trans (tupleText_mem_le (ts := [reprText t, d.shown]) (t := reprText t) (by simp)) sz
    have z2 := Nat.le_trans (tupleText_mem_le (ts := [reprText t, d.shown]) (t := d.shown) (by simp)) sz
    obtain ⟨bs, hb, rk⟩ := hq.shows I st q2 z2 (by omega)
    have hall : ReprAllK X.prog X.w bs s.heap 50 [.str t tk, u2] [reprText t, d.shown] := .cons (ReprK.of_is (ReprIs.str t tk z1) _ _ _) (.cons rk .nil)
    have hna : p ∉ bs := fun hm => by
      obtain ⟨d', as', r', hd'⟩ := hb p hm
      cases r' with
      | list h1 h2 h3 h4 => rw [ho] at h1; cases h1; rw [hc] at h2; exact absurd (Value.type.inj h2) (by decide)
      | dict h1 h2 h3 h4 h5 => rw [ho] at h1; cases h1; rw [hc] at h2; exact absurd (Value.type.inj h2) (by decide)
      | @tuple a' o' vs' n' xs' as' h1 h2 h3 h4 =>
        rw [ho] at h1; cases h1
        rw [hd] at h3; cases h3
        cases h4 with
        | cons ra rb =>
          cases rb with
          | cons rc rd =>
            cases rd
            have e9 : ∃ dd aa, Reads s.heap u2 dd aa ∧ dd.depth < d.depth := ⟨_, _, rc, by
              simp only [PyData.depth, PyData.depthAll] at hd'
              omega⟩
            obtain ⟨dd, aa, e10, e11⟩ := e9
            cases hq with
            | dp h _ =>
              obtain ⟨as, q9⟩ := Dp.reads I d v u2 h q2
              have := (PyProof.Rows.reads_det (fun _ _ e _ => e) q9 e10).1
              rw [this] at e11; omega
            | dk h p _ =>
              cases (show u2 = Value.ref _ from q2)
              obtain ⟨_, ns, vs, kv', o, es, ep, e1, e2, e3, _, e5, _⟩ := dk_of I.hok h
              obtain ⟨r1, r2⟩ := plKv_reads (h := s.heap) p kv' e5
              have q9 := Reads.dict (as := []) (bs := []) e1 e2.1 e3 r1 r2
              have := (PyProof.Rows.reads_det (fun _ _ e _ => e) q9 e10).1
              rw [this] at e11; omega
            | big f => simp only [PyData.depth] at e11; omega
    refine call_repr_slot (by omega) ⟨o, ho, hc⟩ F.slot_tuple_repr ?_
    exact call_tuple_reprK ho hc hd hna hall c (fun b _ => Clear.nil b) (by show X.A.units + 1 + (50 + 1) < cLine; omega) (fun _ _ e => e) (fun h' t2 tk2 kp => ⟨_, _, rfl, ⟨.str _, H, I.kept kp, ⟨t2, rfl⟩, q⟩⟩) sz
end
theorem rd_reprZ {K : PySem.W.Frag} {H H0 : Hp} {M : List Addr} {L : Led} {Q : VK} {p : Addr} {t : Str} {v : V} {d : PyData} (S : Hs H0 M H L) (m : (p, HO.tup [.str t, v]) ∈ L) (h : Tz K H v d) (sw : (PyData.tuple [.str t, d]).shown.length ≤ sizeLine) (dp : d.depth ≤ 30)
    (k : Q (.str (PyData.tuple [.str t, d]).shown) H) : rReprZ K [.ref p] H Q := ⟨p, t, v, d, rfl, S.tup m, h, sw, dp, k⟩
end Xc
namespace Xc
open PySem PySem.Spec PySem.Calls PyProof.Rows L2 Rs
/-! ### truths counted, truths as numbers -/
def rCntB (K : PySem.W.Frag) : V → List V → Hp → VK → Prop := fun x xs H Q => ∃ (p : Addr) (bs : List Bool) (k : Bool), x = .ref p ∧ xs = [.bl k] ∧ SqL K H p (bs.map V.bl) ∧ Q (.int (PySem.Spec.countIn (.bool k) (bs.map PyData.bool))) H
def b01 (b : Bool) : Int := if b = true then 1 else 0
section
variable {X : Cx}
theorem bools_read {h : Heap} : ∀ {bs : List Bool} {vs : List Value}, Vals (bs.map V.bl) vs → ReadsAll h vs (bs.map PyData.bool) []
  | [], _, .nil => .nil
  | b :: bs, _, .cons r q => by
    rename_i u vs
    cases (show u = Value.bool b from r)
    exact ReadsAll.cons (as := []) (bs := []) (.bool b) (bools_read q)
theorem mt_bcount : MtR X "list.count" (rCntB X.K) := by
  intro pins s σ H x xs v us Q I rx rxs h
  obtain ⟨p, bs, k, rfl, rfl, hs, q⟩ := h
  cases rx
  obtain ⟨u, rfl, ru⟩ := rxs.one
  cases (show u = Value.bool k from ru)
  obtain ⟨its, rv, ⟨o, n, ho, hc, hdn, hd⟩, hlen⟩ := I.list hs
  exact count_list_bools (hp := s.heap) ⟨o, ho, hc, n, hd⟩ (bools_read rv) (by simp [Shape.has]) ⟨.int _, H, I.tok _, ⟨_, rfl⟩, q⟩
def rBI (f : Int → Int → Int) : R2 := fun x y H Q => ∃ (b : Bool) (i : Int), x = .bl b ∧ y = .int i ∧ Q (.int (f (b01 b) i)) H
def rIB (f : Int → Int → Int) : R2 := fun x y H Q => ∃ (i : Int) (b : Bool), x = .int i ∧ y = .bl b ∧ Q (.int (f i (b01 b))) H
theorem op_addBI : OpR X (binaryOp .Add) (rBI (· + ·)) := by
  intro pins s σ H x y v u Q I rx ry h
  obtain ⟨b, i, rfl, rfl, q⟩ := h
  cases (show v = Value.bool b from rx)
  obtain ⟨t, rfl⟩ := (show ∃ t, u = Value.int i t from ry)
  exact PySem.IntBool.add_bool_int ⟨.int _, H, I.tok _, ⟨_, rfl⟩, q⟩
theorem op_mulIB : OpR X (binaryOp .Mult) (rIB (· * ·)) := by
  intro pins s σ H x y v u Q I rx ry h
  obtain ⟨i, b, rfl, rfl, q⟩ := h
  obtain ⟨t, rfl⟩ := (show ∃ t, v = Value.int i t from rx)
  cases (show u = Value.bool b from ry)
  exact PySem.IntBool.mul_int_bool ⟨.int _, H, I.tok _, ⟨_, rfl⟩, q⟩
end
section
variable {H H0 : Hp} {M : List Addr} {L : Led} {Q : VK} {a : Addr} {K : PySem.W.Frag} {σ : L2.St}
theorem rd_cntB {xs : List V} {bs : List Bool} {k : Bool} (S : Hs H0 M H L) (m : (a, HO.lst xs) ∈ L) (e : xs = bs.map V.bl) (h : Q (.int (PySem.Spec.countIn (.bool k) (bs.map PyData.bool))) H) : rCntB K (.ref a) [.bl k] H Q := by
  subst e
  exact ⟨a, bs, k, rfl, rfl, S.lst m, h⟩
theorem rd_bi2 {f : Int → Int → Int} {b : Bool} {i : Int} (h : Q (.int (f (b01 b) i)) H) : rBI f (.bl b) (.int i) H Q := ⟨b, i, rfl, rfl, h⟩
theorem rd_ib2 {f : Int → Int → Int} {b : Bool} {i : Int} (h : Q (.int (f i (b01 b))) H) : rIB f (.int i) (.bl b) H Q := ⟨i, b, rfl, rfl, h⟩
theorem rd_divB {i j : Int} {b : Nat} (hj : 0 < j) (hb : j.natAbs < 2 ^ b) (h0 : 0 < b) (h9 : b ≤ 9000) (h : Q (.int (i / j)) H) : rI CDivW (fun i j => .int (i / j)) (.int i) (.int j) H Q :=
  ⟨i, j, rfl, rfl, wide_div (b := b) hj hb h0 h9, h⟩
theorem rd_mulB {i j : Int} {a b : Nat} (ha : i.natAbs < 2 ^ a) (hb : j.natAbs < 2 ^ b) (h0 : 0 < a) (h1 : 0 < b) (h9 : a + b ≤ 1000000) (h : Q (.int (i * j)) H) : rI CMulW (fun i j => .int (i * j)) (.int i) (.int j) H Q :=
  ⟨i, j, rfl, rfl, wide_mul ha hb h0 h1 h9, h⟩
theorem rd_isBl {a b : Bool} (h : Q (.bl (decide (a = b))) H) : rIsB (.bl a) (.bl b) H Q := ⟨a, b, rfl, rfl, h⟩
theorem rd_notBl {a b : Bool} (h : Q (.bl (!decide (a = b))) H) : rNotB (.bl a) (.bl b) H Q := ⟨a, b, rfl, rfl, h⟩
/-- a ledger begun anew behind what leaves all but tables -/
theorem Hs.anew {H' : Hp} (S : Hs H0 M H L) (k : ∀ b o, H b = some o → (∀ ps, o ≠ .tbl ps) → H' b = some o) (nt : ∀ q ∈ L, ∀ ps, q.2 ≠ .tbl ps) : Hs H' (L.map (·.1)) H' L :=
  Rs.Hs.start H' _ L S.nd (fun q hq => k _ _ (S.is q hq) (nt q hq)) fun b hb z => by
    obtain ⟨q, hq, rfl⟩ := List.mem_map.mp hb
    rw [k _ _ (S.is q hq) (nt q hq)] at z
    cases z
end
end Xc

/-! Xc8: ledgers over all but tables; comprehensions whose steps change tables -/
namespace Xc
open PySem PySem.Spec PySem.Calls PyProof.Rows L2 Rs
/-- the heap less its tables -/
def noT (H : Hp) : Hp := fun b => match H b with | some (.tbl _) => none | o => o
theorem noT_some {H : Hp} {b : Addr} {o : HO} (e : H b = some o) (n : ∀ ps, o ≠ .tbl ps) : noT H b = some o := by
  unfold noT
  rw [e]
  cases o <;> first | rfl | exact absurd rfl (n _)
theorem noT_of {H : Hp} {b : Addr} {o : HO} (e : noT H b = some o) : H b = some o ∧ ∀ ps, o ≠ .tbl ps := by
  unfold noT at e
  split at e
  · cases e
  · rename_i h
    exact ⟨e, fun ps z => h ps (by rw [e, z])⟩
theorem noT_none {H : Hp} {b : Addr} (e : H b = none) : noT H b = none := by
  unfold noT
  rw [e]
section
variable {H H0 H1 H2 : Hp} {M : List Addr} {L : Led} {Q : VK} {K : PySem.W.Frag} {σ : L2.St}
theorem Hs.noT0 (H : Hp) : Hs (noT H) [] H [] := ⟨List.nodup_nil, fun q hq => (nomatch hq), fun b u e _ => (noT_of e).1, fun b hb => nomatch hb⟩
theorem Hs.begin (L : Led) (nd : (L.map (·.1)).Nodup) (is : ∀ q ∈ L, H q.1 = some q.2) : Hs (noT H) (L.map (·.1)) H L :=
  ⟨nd, is, fun b u e _ => (noT_of e).1, fun b hb z => by
    obtain ⟨q, hq, rfl⟩ := List.mem_map.mp hb
    rw [is q hq] at z
    cases z⟩
theorem Hs.extN (S : Hs (noT H0) M H1 L) (e : LamX.ExtN H1 H2) (nt : ∀ q ∈ L, ∀ ps, q.2 ≠ .tbl ps) (m : ∀ b ∈ M, b ∈ L.map (·.1)) : Hs (noT H0) M H2 L :=
  ⟨S.nd, fun q hq => e _ _ (S.is q hq) (nt q hq), fun b u eb hm => e _ _ (S.old b u eb hm) (noT_of eb).2, fun b hb z => by
    obtain ⟨q, hq, rfl⟩ := List.mem_map.mp (m b hb)
    rw [e _ _ (S.is q hq) (nt q hq)] at z
    cases z⟩
theorem Hs.toN (S : Hs (noT H0) [] H1 L) : LamX.ExtN H0 H1 := fun b o e n => S.old b o (noT_some e n) (fun z => nomatch z)
/-- what holds of the heap whatever lists are made or written -/
structure Lsts (J : Hp → Prop) : Prop where
  nw : ∀ H D, J H → H D = none → J (upd H D (.lst []))
  up : ∀ H D xs ys, J H → H D = some (.lst xs) → J (upd H D (.lst ys))
theorem tabs_upd {TT : List (Addr × Str)} {H : Hp} {D : Addr} {xs ys : List V} (h : LamX.Tabs TT H) (e : H D = some (.lst xs)) : LamX.Tabs TT (upd H D (.lst ys)) := fun p hp => by
  obtain ⟨ps, h1, h2, h3⟩ := h p hp
  have ne : ∀ b o, H b = some o → (∀ xs, o ≠ .lst xs) → upd H D (.lst ys) b = some o := fun b o eb n => by
    rw [upd_ne (fun z => n xs (by rw [z, e] at eb; exact (Option.some.inj eb).symm))]
    exact eb
  refine ⟨ps, ne _ _ h1 (fun _ z => by cases z), h2, fun pos cv hc => ?_⟩
  obtain ⟨c, e1, e2⟩ := h3 pos cv hc
  exact ⟨c, e1, ne _ _ e2 (fun _ z => by unfold LamX.CodeO at z; cases z)⟩
theorem lsts_tabs (TT : List (Addr × Str)) : Lsts (LamX.Tabs TT) :=
  ⟨fun H D h e => h.ext fun b u eb => by rw [upd_ne (ne_of_none eb e)]; exact eb, fun H D xs ys h e => tabs_upd h e⟩
def lcSkipJ (J : Hp → Prop) (H0 : Hp) (M : List Addr) (L : Led) (R1 : List V → Prop) (D : Addr) (H : Hp) : Prop := J H ∧ lcSkip H0 M L R1 D H
def lcPutJ (J : Hp → Prop) (H0 : Hp) (M : List Addr) (L : Led) (R1 : List V → Prop) (D : Addr) (y : V) (H : Hp) : Prop := ∃ acc, H D = some (.lst acc) ∧ acc.length < sizeLine ∧ lcSkipJ J H0 M L R1 D (upd H D (.lst (acc ++ [y])))
theorem rd_lcPutJ {J : Hp → Prop} {D : Addr} {y : V} {acc : List V} {L2 L3 : Led} {R1 : List V → Prop} (l : Lsts J) (j : J H) (S : Hs H0 M H L2) (c : Chg D (.lst acc) (.lst (acc ++ [y])) L2 L3) (n : H0 D = none) (hl : acc.length < sizeLine) (sub : ((D, HO.lst (acc ++ [y])) :: L).Sublist L3) (r : R1 (acc ++ [y])) : lcPutJ J H0 M L R1 D y H :=
  ⟨acc, S.is _ c.mem, hl, l.up _ _ _ _ j (S.is _ c.mem), n, _, r, (S.put c (Or.inl n)).sub sub⟩
theorem lcwj_list {J : Hp → Prop} {g : TG} {tt : TT} {te : TE} {a : Addr} {xs : List V} {vs : List Nat} (l : Lsts J) (j : J H) (S : Hs H0 M H L) (R : Nat → List V → Prop) (r0 : R 0 []) (hl : ∀ H' acc D, Hs H0 M H' ((D, .lst acc) :: L) → SqL K H' a xs)
    (hs : ∀ D i x acc H', xs[i]? = some x → R i acc → H0 D = none → J H' → Hs H0 M H' ((D, .lst acc) :: L) → g x (wipe σ vs) H' fun σ2 H2 => wipe σ2 vs = wipe σ vs ∧ tt σ2 H2 fun b H3 => if b = true then te σ2 H3 fun y H4 => lcPutJ J H0 M L (R (i + 1)) D y H4 else lcSkipJ J H0 M L (R (i + 1)) D H3)
    (hd : ∀ D acc H', R xs.length acc → H0 D = none → J H' → Hs H0 M H' ((D, .lst acc) :: L) → Q (.ref D) H') : lcW (Itl K a) g tt te vs σ H Q := by
  intro D hD
  have S1 := S.new hD (.lst [])
  refine lc_list (xs := xs) (fun i H' => lcSkipJ J H0 M L (R i) D H') ⟨l.nw _ _ j hD, S1.1, [], r0, S1.2⟩ (fun i H' _ ⟨_, _, acc, _, S'⟩ => hl H' acc D S') ?_ ?_
  · rintro i x H' hi ⟨j', n0, acc, r, S'⟩
    exact hs D i x acc H' hi r n0 j' S'
  · rintro H' ⟨j', n0, acc, r, S'⟩
    exact hd D acc H' r n0 j' S'
theorem lcwj_tup {J : Hp → Prop} {g : TG} {tt : TT} {te : TE} {a : Addr} {xs : List V} {vs : List Nat} (l : Lsts J) (j : J H) (S : Hs H0 M H L) (R : Nat → List V → Prop) (r0 : R 0 []) (hl : ∀ H' acc D, Hs H0 M H' ((D, .lst acc) :: L) → SqT K H' a xs)
    (hs : ∀ D i x acc H', xs[i]? = some x → R i acc → H0 D = none → J H' → Hs H0 M H' ((D, .lst acc) :: L) → g x (wipe σ vs) H' fun σ2 H2 => wipe σ2 vs = wipe σ vs ∧ tt σ2 H2 fun b H3 => if b = true then te σ2 H3 fun y H4 => lcPutJ J H0 M L (R (i + 1)) D y H4 else lcSkipJ J H0 M L (R (i + 1)) D H3)
    (hd : ∀ D acc H', R xs.length acc → H0 D = none → J H' → Hs H0 M H' ((D, .lst acc) :: L) → Q (.ref D) H') : lcW (Itt K a) g tt te vs σ H Q := by
  intro D hD
  have S1 := S.new hD (.lst [])
  refine lc_tup (xs := xs) (fun i H' => lcSkipJ J H0 M L (R i) D H') ⟨l.nw _ _ j hD, S1.1, [], r0, S1.2⟩ (fun i H' _ ⟨_, _, acc, _, S'⟩ => hl H' acc D S') ?_ ?_
  · rintro i x H' hi ⟨j', n0, acc, r, S'⟩
    exact hs D i x acc H' hi r n0 j' S'
  · rintro H' ⟨j', n0, acc, r, S'⟩
    exact hd D acc H' r n0 j' S'
theorem Hs.toT (S : Hs H0 M H L) : Hs (noT H0) M H L := ⟨S.nd, S.is, fun b o e hm => S.old b o (noT_of e).1 hm, S.mu⟩
/-- the heap less its tables, with the tables and the code objects that stand at H3 -/
def rb (H0 H3 : Hp) : Hp := fun b => match H3 b with | some (.tbl ps) => some (.tbl ps) | some (.ext r) => some (.ext r) | _ => noT H0 b
def MLst (M : List Addr) (H : Hp) : Prop := ∀ b ∈ M, ∃ xs, H b = some (.lst xs)
theorem Hs.toR {H3 : Hp} (S : Hs (noT H0) M H3 L) : Hs (rb H0 H3) M H3 L := by
  refine ⟨S.nd, S.is, fun b o e hm => ?_, S.mu⟩
  unfold rb at e
  split at e
  · rename_i h; rw [h]; exact e
  · rename_i h; rw [h]; exact e
  · exact S.old b o e hm
theorem Hs.ofR {H3 H' : Hp} {L' : Led} (S : Hs (noT H0) M H3 L) (S' : Hs (rb H0 H3) M H' L') : Hs (noT H0) M H' L' := by
  refine ⟨S'.nd, S'.is, fun b o e hm => S'.old b o ?_ hm, S'.mu⟩
  have h3 := S.old b o e hm
  unfold rb
  rw [h3]
  split
  · rename_i h; exact h.symm
  · rename_i h; exact h.symm
  · exact e
theorem Hs.tabR {H3 H' : Hp} {L' : Led} {TT : List (Addr × Str)} (S' : Hs (rb H0 H3) M H' L') (m : MLst M H3) (t : LamX.Tabs TT H3) : LamX.Tabs TT H' := fun p hp => by
  obtain ⟨ps, h1, h2, h3⟩ := t p hp
  have nm : ∀ b o, H3 b = some o → (∀ xs, o ≠ .lst xs) → b ∉ M := fun b o e n hm => by
    obtain ⟨xs, z⟩ := m b hm
    rw [e] at z
    exact n xs (Option.some.inj z)
  refine ⟨ps, S'.old _ _ (by unfold rb; rw [h1]) (nm _ _ h1 (fun _ z => by cases z)), h2, fun pos cv hc => ?_⟩
  obtain ⟨c, e1, e2⟩ := h3 pos cv hc
  exact ⟨c, e1, S'.old _ _ (by unfold rb; rw [e2]; rfl) (nm _ _ e2 (fun _ z => by unfold LamX.CodeO at z; cases z))⟩
theorem rb_none {H3 : Hp} {a : Addr} {o : HO} (h : noT H0 a = none) (e : H3 a = some o) (n1 : ∀ ps, o ≠ .tbl ps) (n2 : ∀ r, o ≠ .ext r) : rb H0 H3 a = none := by
  unfold rb
  rw [e]
  split
  · rename_i z; exact absurd (Option.some.inj z) (n1 _)
  · rename_i z; exact absurd (Option.some.inj z) (n2 _)
  · exact h
end
end Xc
namespace Xc
open PySem PySem.Spec PySem.Calls PyProof.Rows L2 Rs
/-- a + b of lists, handed in ones too -/
def rCatL (K : PySem.W.Frag) : R2 := fun x y H Q => ∃ l b xs zs, x = .ref l ∧ y = .ref b ∧ SqL K H l xs ∧ SqL K H b zs ∧ xs.length + zs.length ≤ sizeLine ∧ ∀ p, H p = none → Q (.ref p) (upd H p (.lst (xs ++ zs)))
theorem op_catL {X : Cx} : OpR X (binaryOp .Add) (rCatL X.K) := by
  intro pins s σ H x y v u Q I rx ry h
  obtain ⟨l, b, xs, zs, rfl, rfl, hl, hb, hz, q⟩ := h
  cases (show v = Value.ref l from rx)
  cases (show u = Value.ref b from ry)
  obtain ⟨its, r1, ⟨⟨cls, dd, data, sl⟩, n, ho, hc, hdn, hd⟩, _⟩ := I.list hl
  obtain ⟨its2, r2, ⟨⟨cls2, dd2, data2, sl2⟩, n2, ho2, hc2, hdn2, hd2⟩, _⟩ := I.list hb
  simp only at hc hd hc2 hd2
  subst hc hd hc2 hd2
  have e : its.toArray ++ its2.toArray = (its ++ its2).toArray := by simp
  refine concat_meets ⟨_, ho, rfl⟩ ⟨_, ho2, rfl⟩ noFill_list_add seq_list_add PySem.F.slot_list_add PySem.F.entry_list_add (PySem.F.args_list_add_2 _ _) (list_addW l b its.toArray its2.toArray n n2 dd dd2 sl sl2 (by rw [List.size_toArray, List.size_toArray, ← r1.length, ← r2.length]; exact hz)) ⟨ho, ho2, ?_⟩
  rw [e]
  exact ⟨.ref _, _, I.lnew (t' := s.toks) (r1.append r2) (by rw [List.length_append]; omega), rfl, q _ I.fresh⟩
end Xc

/-! Xd1: enumerate of a tuple -/
namespace Xd
open PySem PySem.Spec PySem.Calls PyProof.Rows L2 Rs
section
variable {prog : Program} {w : World} {A : Around} {E : Value → Shared → Prop} {s : Shared}
theorem tnext {ti tp : Addr} {j : Nat} {vs : Array Value} {y : Value} {Q : Value → Shared → Prop} (hi : s.heap.IsTupleIter ti tp j) (ht : s.heap.IsTuple tp vs) (hy : vs[j]? = some y)
    (k : ∀ h', h'.IsTupleIter ti tp (j + 1) → Heap.SameBut ti s.heap h' → Q y { s with heap := h' }) : wpAny (model prog w) A (Builtin.SmallTypes.nextOf (.ref ti)) Q E s := by
  obtain ⟨oi, hoi, hci, hdi⟩ := id hi
  obtain ⟨ot, hot, _, nt, hdt⟩ := ht
  unfold Builtin.SmallTypes.nextOf
  refine wpAny_bind (wpAny_callSpecial?_slot (name := Str.ofString "__next__") hi.typeIs F.slot_tuple_iterator_next (wpAny_call_entry F.slot_tuple_iterator_next hi.typeIs F.entry_tuple_iterator_next ?_ (F.args_tuple_iterator_next_1 _)))
  show wpAny _ _ (field (.ref ti) 0 >>= _) _ _ s
  refine wpAny_bind (wpAny_field hoi hdi (x := .ref tp) rfl ?_)
  show wpAny _ _ (if (Value.ref tp == Value.none) = true then _ else _) _ _ s
  rw [if_neg (show ¬ ((Value.ref tp == Value.none) = true) from Bool.false_ne_true)]
  show wpAny _ _ (field (.ref ti) 1 >>= _) _ _ s
  refine wpAny_bind (wpAny_field hoi hdi (x := .int j 0) rfl ?_)
  show wpAny _ _ (seqItems? (.ref tp) >>= _) _ _ s
  refine wpAny_bind (wpAny_seqItems hot hdt ?_)
  simp only [Int.toNat_natCast, hy]
  refine wpAny_bind (wpAny_setField hoi hdi (by simp) (wpAny_pure ⟨y, rfl, wpAny_pure (k _ ?_ (Heap.SameBut.update ..))⟩))
  exact ⟨_, Heap.get?_update_self _ hoi (Obj.isFreed_of_fields (Obj.data_mapFields hdi _)), (Obj.cls_mapFields ..).trans hci, by rw [Obj.data_mapFields hdi]; simp [rawInt]⟩
theorem tlast {ti tp : Addr} {j : Nat} {vs : Array Value} {Q : Value → Shared → Prop} (hh : A.handled = none) (hi : s.heap.IsTupleIter ti tp j) (ht : s.heap.IsTuple tp vs) (hy : vs[j]? = none)
    (k : ∀ h' e, Heap.ExtBut ti s.heap h' → (∃ o, h'.get? e = some o ∧ o.cls = .type "StopIteration") → E (.ref e) { s with heap := h' }) : wpAny (model prog w) A (Builtin.SmallTypes.nextOf (.ref ti)) Q E s := by
  obtain ⟨oi, hoi, hci, hdi⟩ := id hi
  obtain ⟨ot, hot, _, nt, hdt⟩ := ht
  unfold Builtin.SmallTypes.nextOf
  refine wpAny_bind (wpAny_callSpecial?_slot (name := Str.ofString "__next__") hi.typeIs F.slot_tuple_iterator_next (wpAny_call_entry F.slot_tuple_iterator_next hi.typeIs F.entry_tuple_iterator_next ?_ (F.args_tuple_iterator_next_1 _)))
  show wpAny _ _ (field (.ref ti) 0 >>= _) _ _ s
  refine wpAny_bind (wpAny_field hoi hdi (x := .ref tp) rfl ?_)
  show wpAny _ _ (if (Value.ref tp == Value.none) = true then _ else _) _ _ s
  rw [if_neg (show ¬ ((Value.ref tp == Value.none) = true) from Bool.false_ne_true)]
  show wpAny _ _ (field (.ref ti) 1 >>= _) _ _ s
  refine wpAny_bind (wpAny_field hoi hdi (x := .int j 0) rfl ?_)
  show wpAny _ _ (seqItems? (.ref tp) >>= _) _ _ s
  refine wpAny_bind (wpAny_seqItems hot hdt ?_)
  simp only [Int.toNat_natCast, hy]
  refine wpAny_bind (wpAny_rule (wpAny_bind (wpAny_setField hoi hdi (by simp) ?_)))
  show wpAny _ _ ((newExc (.type "StopIteration") []) >>= _) _ _ _
  refine wpAny_bind ?_
  (simp only [newExc, newTuple]); refine wpAny_bind (wpAny_newObj_type ?_ (by size_fits))
  refine wpAny_bind (m := firstArgMember _ _) (wpAny_of_eq (a := .none) (by first | rfl | (simp only [firstArgMember]; rfl)) ?_)
  (refine wpAny_newObj_type ?_ (by size_fits)); simp only [raiseNew]
  refine wpAny_bind (wpAny_handled ?_)
  first
    | rw [show A.in1.handled = none from hh]
    | rw [hh]
  exact wpAny_bind (wpAny_pure (wpAny_throw (k _ _ (((Heap.SameBut.update ..).extBut.push _).push _) ⟨_, Heap.get?_push_size _ rfl, rfl⟩)))
end
theorem tdraws {prog : Program} {w : World} {A : Around} (hh : A.handled = none) (ti tp : Addr) (ne : tp ≠ ti) (vs : Array Value) :
    Draws prog w A ti [ti, tp] vs.size (fun j v => vs[j]? = some v) (fun j h => h.IsTupleIter ti tp j ∧ h.IsTuple tp vs) where
  live := fun _ _ ⟨⟨o, ho, _⟩, _⟩ => ⟨o, ho⟩
  frame := fun _ _ _ ⟨⟨o, ho, r⟩, ⟨o2, ho2, r2⟩⟩ k => ⟨⟨o, k ti (by simp) o ho, r⟩, ⟨o2, k tp (by simp) o2 ho2, r2⟩⟩
  item := fun j s Q E hj ⟨a, b⟩ k => tnext a b (y := vs[j]) (by simp [hj]) fun h' hi' hs' => k _ h' s.toks (by simp [hj]) ⟨hi', b.extBut hs'.extBut ne⟩ hs'
  done := fun s Q E ⟨a, b⟩ k => tlast hh a b (by simp) k
end Xd
namespace Xd
open PySem PySem.Spec PySem.Calls PyProof.Rows L2 Rs
abbrev tit (tp : Addr) : Obj := { cls := .type "tuple_iterator", data := .fields #[.ref tp, .int 0 0] }
abbrev eno (it : Addr) : Obj := { cls := .type "enumerate", data := .fields #[.none, .bool false, .ref it, rawInt 0, .none, .none] }
theorem meets_new_tup (tp : Addr) (ot : Obj) (vs : Array Value) (hc : ot.cls = .type "tuple") (n : Nat) (hd : ot.data = .seq vs n) :
    Meets (Builtin.«enumerate.__new__» ⟨[.type "enumerate", .ref tp], []⟩) (fun _ R s => s.heap.get? tp = some ot ∧ R (.ok (.ret (.ref (s.heap.push (tit tp)).objs.size))) { s with heap := (s.heap.push (tit tp)).push (eno s.heap.objs.size) }) :=
  .of_wp fun prog w A R s h => by
    obtain ⟨hp, g, d, tk, os⟩ := s
    obtain ⟨hl, h⟩ := h
    have hsub := sub_enumerate
    have hL : Heap.IsTuple (Shared.heap ⟨hp, g, d, tk, os⟩) tp vs := ⟨_, hl, hc, n, hd⟩
    obtain ⟨cl, dc, dt, sl⟩ := ot
    dsimp only at hc hd
    subst hc hd
    wp_walk using AutoSeq1.wpAny_loadPart' hl
    refine wpAny_stack_any fun st => wpAny_pure ?_
    split
    · rename_i c _ _ _ _ _
      cases (c == Value.type "enumerate") <;> (wp_walk using AutoSeq1.wpAny_loadPart' hl, wpAny_pyIter_tuple hL; exact ⟨_, rfl, h⟩)
    · (wp_walk using AutoSeq1.wpAny_loadPart' hl, wpAny_pyIter_tuple hL); exact ⟨_, rfl, h⟩
section
variable {prog : Program} {w : World} {A : Around} {E : Value → Shared → Prop} {s : Shared}
theorem call_enum_tup {tp : Addr} {vs : Array Value} {Q : Value → Shared → Prop} (hL : s.heap.IsTuple tp vs)
    (k : ∀ h', IsEnum h' (s.heap.objs.size + 1) s.heap.objs.size 0 .none → h'.IsTupleIter s.heap.objs.size tp 0 → (∀ b o, s.heap.get? b = some o → h'.get? b = some o) → Q (.ref (s.heap.objs.size + 1)) { s with heap := h' }) :
    wpAny (model prog w) A (call (.type "enumerate") [.ref tp]) Q E s := by
  obtain ⟨ot, ho, hc, n, hd⟩ := hL
  refine callType_new F.called_enumerate (by decide) (F.typeCall_enumerate_1 _) (F.newCall_enumerate_1 _) (fun obj => F.args_object_init_2 obj _) F.entry_enumerate_new (meets_new_tup tp ot vs hc n hd) ⟨ho, ?_⟩
  have hz : (s.heap.push (tit tp)).objs.size = s.heap.objs.size + 1 := Heap.size_push ..
  show _ ∧ _
  rw [hz]
  have he : IsEnum ((s.heap.push (tit tp)).push (eno s.heap.objs.size)) (s.heap.objs.size + 1) s.heap.objs.size 0 .none := by
    have z := Heap.get?_push_size (s.heap.push (tit tp)) (o := eno s.heap.objs.size) rfl
    rw [hz] at z
    exact z
  exact ⟨⟨_, he, rfl⟩, k _ he ⟨_, Heap.get?_push_of_some _ (Heap.get?_push_size _ rfl), rfl, rfl⟩ fun b o x => Heap.get?_push_of_some _ (Heap.get?_push_of_some _ x)⟩
end
end Xd
namespace Xd
open PySem PySem.Spec PySem.Calls PyProof.Rows L2 Rs
theorem ne_cls {h : Heap} {a b : Addr} {n m : String} {o p : Obj} (ha : h.get? a = some o) (hb : h.get? b = some p) (ca : o.cls = .type n) (cb : p.cls = .type m) (ne : n ≠ m) : a ≠ b := fun z => by
  rw [z, hb] at ha
  cases ha
  rw [ca] at cb
  exact ne (Value.type.inj cb)
theorem tend {prog : Program} {w : World} {A : Around} {E : Value → Shared → Prop} {s : Shared} {e ti tp : Addr} {j : Nat} {vs : Array Value} {i : Int} {old : Value} {Q : Option Value → Shared → Prop} (hh : A.handled = none) (he : IsEnum s.heap e ti i old)
    (hi : s.heap.IsTupleIter ti tp j) (ht : s.heap.IsTuple tp vs) (hy : vs[j]? = none) (k : ∀ h', Heap.ExtBut ti s.heap h' → Q none { s with heap := h' }) : wpAny (model prog w) A (pyNext (.ref e)) Q E s := by
  have ty : s.TypeIs (.ref e) "enumerate" := ⟨_, he, rfl⟩
  unfold pyNext
  refine wpAny_bind (wpAny_attempt (wpAny_callSpecial?_slot (name := Str.ofString "__next__") ty F.slot_enumerate_next (wpAny_call_entry F.slot_enumerate_next ty F.entry_enumerate_next ?_ (F.args_enumerate_next_1 _))))
  show wpAny _ _ (bind (field (.ref e) 2) _) _ _ _
  refine wpAny_bind (wpAny_field he rfl (x := .ref ti) rfl ?_)
  refine wpAny_bind (tlast hh hi ht hy fun h' x hx hs => ?_)
  obtain ⟨ox, hox, hcx⟩ := hs
  exact wpAny_bind (wpAny_isInstance (T := "StopIteration") (b := true) ⟨ox, hox, hcx⟩ isSubtype_stop (wpAny_pure (k _ hx)))
/-- the tuple at a as it stands at each turn, number and item in a new pair -/
def IteT (K : PySem.W.Frag) (a : Addr) : It :=
  ⟨fun i H => ∃ (xs : List V) (x : V), SqT K H a xs ∧ xs[i]? = some x, fun i H v H' => ∃ (T : Addr) (x : V), v = .ref T ∧ H T = none ∧ H' = upd H T (.tup [.int (i : Nat), x]) ∧ ∀ xs, SqT K H a xs → xs[i]? = some x, fun i H => ∃ xs : List V, SqT K H a xs ∧ xs.length ≤ i⟩
theorem turn_eT {P : Program} {w : World} {K : PySem.W.Frag} {elts : List Expr} {kk : Nat} {tpos : Pos} (a e ti : Addr) :
    Turn P w K (.Tuple elts kk tpos) (IteT K a) [e, ti] e (fun i h => (∃ old, IsEnum h e ti ((i : Nat) : Int) old) ∧ h.IsTupleIter ti a i ∧ e ≠ ti) where
  mem := List.mem_cons_self
  obj := fun i h ⟨⟨old, he⟩, ⟨o, ho, hc, hd⟩, _⟩ b hb => by
    rcases (show b = e ∨ b = ti by simpa using hb) with rfl | rfl
    · exact ⟨_, he, fun v z => nomatch z⟩
    · exact ⟨o, ho, fun v z => by rw [hd] at z; cases z⟩
  keep := fun i h h' ⟨⟨old, he⟩, ⟨o, ho, r⟩, ne⟩ k => ⟨⟨old, k e (by simp) _ he⟩, ⟨o, k ti (by simp) o ho, r⟩, ne⟩
  item := by
    intro X hP hw hK hc i pins s σ H E I hf ⟨⟨old, he⟩, hit, hne⟩ ⟨xs, x, hq, hx⟩
    subst hP hw hK
    obtain ⟨its, rv, tpl, hz⟩ := I.tuple hq
    obtain ⟨u, hu, ru⟩ := rv.get hx
    obtain ⟨oi, hoi, hci, hdi⟩ := id hit
    obtain ⟨ot, hot, hct, nt, hdt⟩ := id tpl
    have n1 : a ≠ ti := ne_cls hot hoi hct hci (by decide)
    have n2 : e ≠ a := ne_cls he hot rfl hct (by decide)
    have le : e < s.heap.objs.size := Heap.lt_size he
    have li : ti < s.heap.objs.size := Heap.lt_size hoi
    have D := tdraws (prog := X.prog) (w := X.w) (A := X.A.in1) (I.ok.hd hc) ti a n1 its.toArray
    refine wpAny_pyNext_enum_itemD D he ⟨hit, tpl⟩ ?_ hne (by simp [hne, n2]) fun u' h' tk hu' ho hst hT hsz hk => ?_
    · have := (List.getElem?_eq_some_iff.mp hu).1
      rw [List.size_toArray]
      exact this
    · obtain rfl : u' = u := by
        have z : its[i]? = some u' := by simpa using hu'
        rw [hu] at z
        exact (Option.some.inj z).symm
      refine ⟨_, rfl, wpAny_letOwnedTupleGo_enum (s := { s with heap := h', toks := tk + 1 }) ho fun h2 he2 sb => ?_⟩
      have hT2 : h2.get? s.heap.objs.size = some { cls := .type "tuple", data := .seq #[.int i tk, u'] } := (sb.2 _ (Nat.ne_of_gt le)).trans hT
      have nw : ObjOk X.prog X.w (upd H s.heap.objs.size (.tup [.int (i : Nat), x])) h2 s.heap.objs.size (.tup [.int (i : Nat), x]) := ⟨by rw [sizeLine_eq]; simp, [.int i tk, u'], .cons ⟨_, rfl⟩ (.cons ru .nil), ⟨_, hT2, rfl, _, rfl⟩⟩
      have I1 : Inv X pins σ (upd H s.heap.objs.size (.tup [.int (i : Nat), x])) { s with heap := h2, toks := tk + 1 } :=
        I.turnedNew (ch := [e, ti]) (fun b ob hb q => (sb.2 b (fun z => hb (by simp [z]))).trans (hk b ob (fun z => hb (by simp [z])) (fun z => hb (by simp [z])) q)) hf (Nat.le_refl _) nw
      obtain ⟨⟨o3, ho3, r3⟩, _⟩ := hst
      refine ⟨.ref s.heap.objs.size, _, I1, rfl, ⟨_, x, rfl, I.hok.fresh (Nat.le_refl _), rfl, fun ys hy => by rw [I.tuple_inj hy hq]; exact hx⟩, ⟨⟨u', ?_⟩, ⟨o3, (sb.2 ti (Ne.symm hne)).trans ho3, r3⟩, hne⟩, fun b hb => ?_⟩
      · rw [show ((i + 1 : Nat) : Int) = (i : Int) + 1 by omega]; exact he2
      · have hb2 : b < s.heap.objs.size := by
          rcases (show b = e ∨ b = ti by simpa using hb) with rfl | rfl
          · exact le
          · exact li
        rw [upd_ne (Nat.ne_of_lt hb2)]; exact (hf b hb).1
  done := by
    intro X hP hw hK hc i pins s σ H E I hf ⟨⟨old, he⟩, hit, hne⟩ ⟨xs, hq, hx⟩
    subst hP hw hK
    obtain ⟨its, rv, tpl, hz⟩ := I.tuple hq
    obtain ⟨oi, hoi, hci, hdi⟩ := id hit
    obtain ⟨ot, hot, hct, nt, hdt⟩ := id tpl
    obtain ⟨f0, f1, f2, f3, f4, f5⟩ := hf ti (by simp)
    have hl := rv.length
    exact tend (I.ok.hd hc) he hit tpl (by simp; omega) fun h' eb => ⟨rfl, I.turned (t' := s.toks) (fun b o hb q => eb b o hb q) f0 f1 f3 f4 f5⟩
  self := fun A i s Q E ⟨⟨_, he⟩, _⟩ h => wpAny_pyIter_enum he h
end Xd
namespace Xd
open PySem PySem.Spec PySem.Calls PyProof.Rows L2 Rs
def enT (K : PySem.W.Frag) (R : It → Hp → Prop) (vs : List V) (H : Hp) : Prop := ∃ (a : Addr) (xs : List V), vs = [.ref a] ∧ SqT K H a xs ∧ R (IteT K a) H
def iEnT (K : PySem.W.Frag) (ta : TA) : TI := fun σ H R => ta σ H fun vs H1 => enT K R vs H1
theorem pi_enT {X : Cx} {e : Expr} {ta : TA} {p pos tpos : Pos} {elts : List Expr} {kk : Nat} (hg : Gl X "enumerate") (hm : X.mg "enumerate" = none) (ha : PA X [e] ta) (hs : starEach [e] X.env = [(false, eval e X.env)] := by rfl) :
    PI X (.Tuple elts kk tpos) (.Call (.Name "enumerate" p) [e] [] pos) (iEnT X.K ta) := by
  refine ⟨fun pins s σ H R I h => Call_ (ld_blt I hg hm boot_enumerate (PyProof.Rows.callWith_type1 (thn (ha.run pos pins s σ H _ I h) fun us s1 ⟨vs, H1, I1, r1, a, xs, ev, hq, q⟩ => ?_) hs rfl))⟩
  subst ev
  cases r1 with
  | cons r rr =>
    cases rr
    cases r
    obtain ⟨its, rv, tpl, hz⟩ := I1.tuple hq
    refine call_enum_tup tpl fun h' he hit hk => wpAny_pyIter_enum he ?_
    have I2 : Inv X pins σ H1 { s1 with heap := h' } := I1.kept (t' := s1.toks) hk
    refine ⟨s1.heap.objs.size + 1, [s1.heap.objs.size + 1, s1.heap.objs.size], _, _, H1, rfl, I2, turn_eT a (s1.heap.objs.size + 1) s1.heap.objs.size, ⟨⟨.none, he⟩, hit, Nat.succ_ne_self _⟩, fun b hb => ?_, q⟩
    have hle : s1.heap.objs.size ≤ b := by
      rcases (show b = s1.heap.objs.size + 1 ∨ b = s1.heap.objs.size by simpa using hb) with rfl | rfl
      · exact Nat.le_succ _
      · exact Nat.le_refl _
    exact I1.fpOk hle (I1.hok.fresh hle)
section
variable {K : PySem.W.Frag} {H H0 : Hp} {M : List Addr} {L : Led} {σ : L2.St} {a : Addr}
theorem walk_eT {xs : List V} : Walk (IteT K a) xs.length (fun H => SqT K H a xs) (YPair (fun i => some (.int (i : Nat))) (fun i => xs[i]?)) :=
  ⟨fun i _ hi q => ⟨xs, xs[i], q, by simp [hi]⟩, fun _ q => ⟨xs, q, Nat.le_refl _⟩, fun i H v H' _ q ⟨T, x, h1, h2, h3, h4⟩ => ⟨T, .int (i : Nat), x, h1, h2, h3, rfl, h4 xs q⟩⟩
theorem rd_enT {R : It → Hp → Prop} {ta : TA} (h : ta σ H fun vs H1 => enT K R vs H1) : iEnT K ta σ H R := h
theorem rd_enTI {R : It → Hp → Prop} {xs : List V} (S : Hs H0 M H L) (m : (a, HO.tup xs) ∈ L) (h : R (IteT K a) H) : enT K R [.ref a] H := ⟨a, xs, rfl, S.tup m, h⟩
/-- over enumerate of a tuple -/
theorem fw_enT {xs : List V} {g : TG} {tw : TS} {nx bk ct : L2.St → Hp → Prop} {rt : VK} (Pv : Nat → L2.St → Hp → Prop) (h0 : Pv 0 σ H) (hl : ∀ i σ H, i ≤ xs.length → Pv i σ H → SqT K H a xs)
    (hs : ∀ i x σ H T, xs[i]? = some x → Pv i σ H → H T = none → g (.ref T) σ (upd H T (.tup [.int (i : Nat), x])) fun σ2 H2 => tw ⟨Pv (i + 1), rt, nx, Pv (i + 1)⟩ σ2 H2) (hd : ∀ σ H, Pv xs.length σ H → nx σ H) : forW (IteT K a) g tw ⟨nx, rt, bk, ct⟩ σ H := by
  refine for_it walk_eT Pv h0 hl ?_ hd
  rintro i x σ H H' hi hp ⟨T, y, z, rfl, hT, rfl, e1, e2⟩
  cases e1
  exact hs i z σ H T e2 hp hT
end
end Xd

/-! Xd2: lists made longer by lists; slices of any list -/
namespace Xd
open PySem PySem.Spec PySem.Calls PyProof.Rows L2 Rs
theorem ip_ext {X : Cx} : PIp X .Add rExt2 := fun pins s σ H x y v u Q I rx ry h => iop_ext pins s σ H x y v u Q I rx ry h
section
variable {K : PySem.W.Frag} {H H0 : Hp} {M : List Addr} {L L' : Led} {σ : L2.St} {a b : Addr} {Q : VK}
theorem rd_ext2 {xs zs ys : List V} (S : Hs H0 M H L) (c : Chg a (.lst xs) (.lst ys) L L') (mb : (b, HO.lst zs) ∈ L) (hm : H0 a = none ∨ a ∈ M) (hz : xs.length + zs.length ≤ sizeLine) (e : xs ++ zs = ys) (h : ∀ H', Hs H0 M H' L' → Q (.ref a) H') : rExt2 (.ref a) (.ref b) H Q := by
  subst e
  exact ⟨a, b, xs, zs, rfl, rfl, S.is _ c.mem, S.is _ mb, hz, h _ (S.put c hm)⟩
theorem rd_extM {xs zs ys : List V} (S : Hs H0 M H L) (c : Chg a (.lst xs) (.lst ys) L L') (mb : (b, HO.lst zs) ∈ L) (hm : H0 a = none ∨ a ∈ M) (hz : xs.length + zs.length ≤ sizeLine) (e : xs ++ zs = ys) (h : ∀ H', Hs H0 M H' L' → Q .non H') : rExtend (.ref a) [.ref b] H Q := by
  subst e
  exact ⟨a, b, xs, zs, rfl, rfl, S.is _ c.mem, S.is _ mb, hz, h _ (S.put c hm)⟩
theorem cut_run (xs : List V) (i k : Nat) : cutV xs (some (i : Nat)) (some ((i + k : Nat) : Int)) = (xs.drop i).take k := by
  unfold cutV
  rw [HT.sIx_nat, HT.sIx_nat]
  by_cases h : i ≤ xs.length
  · rw [Nat.min_eq_left h]
    refine List.take_eq_take_iff.mpr ?_
    rw [List.length_drop]
    omega
  · have e1 : min i xs.length = xs.length := by omega
    rw [e1, List.drop_of_length_le (Nat.le_refl _), List.drop_of_length_le (by omega)]
    simp
theorem cut_to (xs : List V) (i : Nat) : cutV xs none (some (i : Nat)) = xs.take i := by
  unfold cutV
  rw [HT.sIx_nat, HT.sIx_none, List.drop_zero]
  refine List.take_eq_take_iff.mpr ?_
  omega
theorem cut_from (xs : List V) (i : Nat) : cutV xs (some (i : Nat)) none = xs.drop i := by
  unfold cutV
  rw [HT.sIx_nat, HT.sIx_none]
  by_cases h : i ≤ xs.length
  · rw [Nat.min_eq_left h]
    exact List.take_of_length_le (by rw [List.length_drop]; omega)
  · have e1 : min i xs.length = xs.length := by omega
    rw [e1, List.drop_of_length_le (Nat.le_refl _), List.drop_of_length_le (by omega)]
    simp
end
end Xd

/-! Xd3: list(text) -/
namespace Xd
open PySem PySem.Spec PySem.Calls PyProof.Rows L2 Rs
def rListS : List V → Hp → VK → Prop := fun xs H Q => ∃ x : Str, xs = [.str x] ∧ x.length ≤ sizeLine ∧ ∀ q, H q = none → Q (.ref q) (upd H q (.lst ((PyProof.Rows.signs x).map V.str)))
theorem call_listS {X : Cx} (hc : X.calm = true) : CallR X (.type "list") rListS := by
  intro pins s σ H xs us Q I r h
  obtain ⟨x, e, hz, q⟩ := h
  subst e
  obtain ⟨u, eu, rx⟩ := vals1 r
  subst eu
  obtain ⟨t, rfl⟩ : ∃ t, u = Value.str x t := rx
  refine PySem.call_list_str (hn := hz) (I.ok.hd hc) x t fun h' tk acc' c' hkeep hS hacc => ?_
  refine ⟨.ref s.heap.objs.size, upd H s.heap.objs.size (.lst ((PyProof.Rows.signs x).map V.str)), I.laid hkeep (Nat.le_refl _) (show ObjOk X.prog X.w _ _ _ (.lst ((PyProof.Rows.signs x).map V.str)) from ⟨?_, acc'.toList, c', ?_, ?_⟩), rfl, q _ (I.hok.fresh (Nat.le_refl _))⟩
  · rw [List.length_map, PyProof.Rows.signs_length]; exact hz
  · have el : acc'.toList.length = acc'.size := by simp
    refine vals_of_at (by rw [List.length_map, PyProof.Rows.signs_length, el, hacc.1]; rfl) fun j x1 w h1 h2 => ?_
    obtain ⟨c, t2, hc2, rfl⟩ := hacc.2 j w (by rw [← Array.getElem?_toList]; exact h2)
    have e2 : ((PyProof.Rows.signs x).map V.str)[j]? = some (.str ⟨#[c]⟩) := by
      unfold PyProof.Rows.signs
      rw [List.getElem?_map, List.getElem?_map, Array.getElem?_toList, hc2]
      rfl
    rw [e2] at h1
    cases h1
    exact ⟨t2, rfl⟩
  · rw [Array.toArray_toList]; exact hS
section
variable {K : PySem.W.Frag} {H H0 : Hp} {M : List Addr} {L L' : Led} {σ : L2.St} {a b : Addr} {Q : VK}
theorem rd_listS {x : Str} (S : Hs H0 M H L) (hz : x.length ≤ sizeLine) (h : ∀ p H', H0 p = none → Hs H0 M H' ((p, .lst ((PyProof.Rows.signs x).map V.str)) :: L) → Q (.ref p) H') : rListS [.str x] H Q :=
  ⟨x, rfl, hz, rd_newO S h⟩
end
end Xd

/-! Xe2: exceptions as objects of the ledger: made, looked at, their fields; S.__init__(self, ..) of an own class S -/
namespace Xc
open PySem PySem.Spec PySem.Calls PyProof.Rows L2 Rs ClX
/-- an exception of the class at C, its fields (none: nothing was stored) -/
def ExcAt (H : Hp) (a C : Addr) (o : Option (Addr × List (Str × V))) : Prop := match o with
  | none => H a = some (exo a C none)
  | some (dx, fs) => H a = some (exo a C (some dx)) ∧ H dx = some (exd dx fs)
section
variable {X : Cx} {pins : List (Addr × Obj)} {σ : L2.St} {H : Hp} {s : Shared} {a C dx : Addr} {fs : List (Str × V)}
theorem excAt_inst0 (I : Inv X pins σ H s) (h : H a = some (exo a C none)) : ∃ oe : Obj, PySem.W.InstAt s.heap a oe C none := by
  obtain ⟨t, e⟩ := exo_at I.hok h
  exact ⟨_, e, rfl, rfl, trivial⟩
theorem excAt_inst1 (I : Inv X pins σ H s) (h : H a = some (exo a C (some dx))) (hd : H dx = some (exd dx fs)) : ∃ (oe od : Obj) (mA : Str → Option Value), PySem.W.InstAt s.heap a oe C (some od) ∧ (∀ f, RelO (fs.lookup f) (mA f)) ∧ ∀ n : Str, PySem.W.lookIn n od = some (mA n) := by
  obtain ⟨t, e⟩ := exo_at I.hok h
  obtain ⟨mA, hns, hr⟩ := exd_at I.hok hd
  obtain ⟨od, ho, hl⟩ := lookIn_ns hns
  exact ⟨_, od, mA, ⟨e, rfl, rfl, ho⟩, hr, hl⟩
/-- isinstance(e, c) -/
def rIsE (K : PySem.W.Frag) : List V → Hp → VK → Prop := fun xs H Q => ∃ (a C : Addr) (o : Option (Addr × List (Str × V))) (c : V) (u : Value) (b : Bool), xs = [.ref a, c] ∧ ClsV c u ∧ Lk K C ∧ ExcAt H a C o ∧ PySem.W.kitOne K (.ref C) u = some b ∧ Q (.bl b) H
theorem call_isE : CallR X (.builtin "isinstance") (rIsE X.K) := by
  intro pins s σ H xs us Q I r h
  obtain ⟨a, C, o, c, u, b, rfl, k, l, hh, e, q⟩ := h
  obtain ⟨u1, u2, rfl, r1, r2⟩ := vals2 r
  have e2 := k.eq r2
  subst e2
  cases (show u1 = Value.ref a from r1)
  cases o with
  | none =>
    obtain ⟨oe, J⟩ := excAt_inst0 I hh
    exact PySem.W.kia_one (PySem.W.kitx_exc l.cl l.ga l.gg l.bx l.ha l.hn l.ht l.hm) I.kIn J e (fun z => nomatch z) fun tk => ⟨.bl b, H, I.tok tk, rfl, q⟩
  | some p =>
    obtain ⟨oe, od, mA, J, _, _⟩ := excAt_inst1 I hh.1 hh.2
    exact PySem.W.kia_one (PySem.W.kitx_exc l.cl l.ga l.gg l.bx l.ha l.hn l.ht l.hm) I.kIn J e (fun z => nomatch z) fun tk => ⟨.bl b, H, I.tok tk, rfl, q⟩
/-- e.f -/
def tXe (K : PySem.W.Frag) (f : Str) (te : TE) : TE := fun σ H Q => te σ H fun x H1 => ∃ (a C dx : Addr) (fs : List (Str × V)) (v : V), x = .ref a ∧ Lk K C ∧ PySem.W.findIn K (.ref C) f = some none ∧ ExcAt H1 a C (some (dx, fs)) ∧ fs.lookup f = some v ∧ Q v H1
theorem pe_xe {e : Expr} {te : TE} {pos : Pos} {n : Str} (he : PE X e te) (hb : attributeBase e n X.env (eval e X.env) = eval e X.env := by rfl) : PE X (.Attribute e n pos) (tXe X.K n te) := by
  refine ⟨fun pins s σ H Q I h => attr_of hb (thn (he.run pins s σ H _ I h) fun u s1 hh => ?_)⟩
  obtain ⟨x, H1, I1, rx, a, C, dx, fs, v, ex, l, hno, hd, lk, q⟩ := hh
  subst ex
  obtain rfl : u = Value.ref a := rx
  obtain ⟨oe, od, mA, J, hr, hl⟩ := excAt_inst1 I1 hd.1 hd.2
  obtain ⟨u2, hu, ru⟩ := RelO.some_of (v := v) (o := mA n) (by rw [← lk]; exact hr n)
  exact HandSPX.exc_get I1.kIn J l.ga l.gg l.bx (PySem.W.findObj_own l.hd hno rfl (by rw [hl, hu])) (handed_of ru) ⟨v, H1, I1.tok _, ru, q⟩
end
/-! ### made -/
/-- C(e, ..), C's own __init__ walked -/
def tMkX (C : Addr) (sp : Sp) (dvs : List V) (ta : TA) : TE := fun σ H Q => ta σ H fun vs H1 => vs.length ≤ 1000 ∧ ∀ a, H1 a = none → sp (.ref a :: (vs ++ dvs)) (upd H1 a (exo a C none)) (fun v H2 => v = .non ∧ Q (.ref a) H2) (fun _ _ _ => False)
/-- C(e, ..) of a class without __init__ -/
def tMk0 (C : Addr) (ta : TA) : TE := fun σ H Q => ta σ H fun vs H1 => vs.length ≤ 1000 ∧ ∀ a, H1 a = none → Q (.ref a) (upd H1 a (exo a C none))
section
variable {X : Cx} {e : Expr} {es : List Expr} {ta : TA} {p p1 p2 pos : Pos} {B newId initId : String} {bmB : List Value}
theorem pe_mkx {CX : CXT} {x : Str} {C fI : Addr} {k : Nat} {fd : FuncData} {ps : List Str} {sp : Sp} {ds : List Value} {dvs : List V} (T : Own X.K C B newId initId bmB) (iC : PySem.W.findIn X.K (.ref C) "__init__" = some (some (.ref fI))) (tI : PySem.W.typeIn X.K (.ref fI) = some (.type "function"))
    (F1 : FnOk X.prog X.w X.K X.mg X.base CX k fI fd ps sp) (hr : Room (k + 1) X.A) (hb : Binds X.K fd ps ds) (hd : Vals dvs ds) (hx : Passes CX X (fun _ _ _ => False)) (hg : Gl X x) (hm : X.mg x = some (.ref C)) (ha : PA X (e :: es) ta)
    (hdb : (x == ("__debug__" : Str)) = false := by decide) (he : starEach (e :: es) X.env = (false, eval e X.env) :: starEach es X.env := by rfl) (hp : (backTo pos (starEach es X.env)).any (·.1) = false := by rfl) :
    PE X (.Call (.Name x p) (e :: es) [] pos) (tMkX C sp dvs ta) := by
  refine ⟨fun pins s σ H Q I hh => ?_⟩
  refine wpAny_Call_Name_kw (ld_glob I hg hm ?_ hdb)
  refine PySem.W.callWith_K (h₀ := X.base) I.ok.mod.kin T.kpc (thn (ha.run pos pins s σ H _ I hh) fun us s1 ⟨vs, H1, I1, rv, hz, k1⟩ => ⟨I1.kIn, ?_⟩) he hp
  show wpAny _ _ (call (.ref C) us) _ _ _
  have hC := PySem.W.excInit_of I1.kIn T.ini
  obtain ⟨NB, fb⟩ := T.fb
  obtain ⟨hp1, gn, dr, tk, osS⟩ := s1
  have up1 : hp1.objs.size ≤ hp1.objs.size + 1 := Nat.le_succ _
  have body := k1 (hp1.objs.size + 1) (I1.hok.fresh up1)
  have kept : ∀ b o, hp1.get? b = some o → ((hp1.push (PySem.W.kdv_tup us)).push (PySem.HandSPX.excO C hp1.objs.size)).get? b = some o := fun b o q => Heap.get?_push_of_some _ (Heap.get?_push_of_some _ q)
  have there : ((hp1.push (PySem.W.kdv_tup us)).push (PySem.HandSPX.excO C hp1.objs.size)).get? (hp1.objs.size + 1) = some (PySem.HandSPX.excO C hp1.objs.size) := by heap_get
  have I2 : Inv X pins σ (upd H1 (hp1.objs.size + 1) (exo (hp1.objs.size + 1) C none)) ⟨(hp1.push (PySem.W.kdv_tup us)).push (PySem.HandSPX.excO C hp1.objs.size), gn, dr, tk, osS⟩ :=
    I1.laid (t' := tk) (a := hp1.objs.size + 1) (o := exo (hp1.objs.size + 1) C none) (h' := (hp1.push (PySem.W.kdv_tup us)).push (PySem.HandSPX.excO C hp1.objs.size)) kept up1 (exo_ok there)
  have rels : Vals (V.ref (hp1.objs.size + 1) :: (vs ++ dvs)) (Value.ref (hp1.objs.size + 1) :: (us ++ ds)) := .cons rfl (rv.append hd)
  have len1 : (Value.ref (hp1.objs.size + 1) :: us ++ ds).length = ps.length := (F1.len _ _ _ _ body).symm.trans rels.length |>.symm
  have lus : us.length ≤ sizeLine := by rw [← Paired.length rv, sizeLine_eq]; omega
  refine wpAny_call (xb_call fb hC (PySem.W.looks_findIn I1.kIn iC) (fun self => PySem.W.bind_fn I1.kIn self tI) lus
    (codeAny_mono (F1.run _ X.stack _ _ ⟨Value.ref (hp1.objs.size + 1) :: us, []⟩ (Value.ref (hp1.objs.size + 1) :: (us ++ ds)) _ _ (fun _ _ _ => False) (hr.make C us []) (I2.env0.make C us []) (hb _ (Value.ref (hp1.objs.size + 1) :: us) I2.kIn len1) rels body) fun r s2 z => ?_))
  cases r with
  | error er => exact hx pins σ _ _ er s2 I2 z
  | ok fl =>
    cases fl with
    | ret u =>
      obtain ⟨v, H', I3, rv3, ev, q3⟩ := I2.after z
      subst ev
      exact ⟨rv3, ⟨V.ref (hp1.objs.size + 1), H', I3, rfl, q3⟩⟩
    | next => exact False.elim z
    | brk => exact False.elim z
    | cont => exact False.elim z
/-- C('..') of a class without __init__ of its own -/
theorem pe_mk0 {x : Str} {C : Addr} (F : ExcBaseFacts B newId initId bmB) (q : PySem.W.excIn X.K C bmB newId = true) (hg : Gl X x) (hm : X.mg x = some (.ref C)) (kC : PySem.W.keepIn X.K (.ref C) = true) (ha : PA X (e :: es) ta)
    (hdb : (x == ("__debug__" : Str)) = false := by decide) (he : starEach (e :: es) X.env = (false, eval e X.env) :: starEach es X.env := by rfl) (hp : (backTo pos (starEach es X.env)).any (·.1) = false := by rfl) :
    PE X (.Call (.Name x p) (e :: es) [] pos) (tMk0 C ta) := by
  refine ⟨fun pins s σ H Q I hh => ?_⟩
  refine wpAny_Call_Name_kw (ld_glob I hg hm ?_ hdb)
  refine PySem.W.callWith_K (h₀ := X.base) I.ok.mod.kin kC (thn (ha.run pos pins s σ H _ I hh) fun us s1 ⟨vs, H1, I1, rv, hz, k1⟩ => ⟨I1.kIn, ?_⟩) he hp
  show wpAny _ _ (call (.ref C) us) _ _ _
  obtain ⟨bm, N, nm, qn, bs, hdct, sn, sub, ab, col, dd, y0, y1, y2, y3, y5, mN, hC, hN, hni, T⟩ := exc_obj I1.kIn q
  have lus : us.length ≤ sizeLine := by rw [← Paired.length rv, sizeLine_eq]; omega
  refine wpAny_call_exc_subT F T hC hN hni (fun h' z hm => ?_) lus
  have hn : H1 z = none := I1.hok.gone hm.new
  obtain ⟨t, ht, _, _⟩ := hm.there
  exact ⟨.ref z, _, I1.laidN hm.keeps hm.new hn (exo_ok ht), rfl, k1 z hn⟩
/-- S.__init__(self, ..) where S is an own class that has B's __init__ -/
theorem pe_binitS {n : Str} {pl : Sem Bool} {S C0 : Addr} {mc : Value} (_o : Own X.K C0 B newId initId bmB) (hg : Gl X n) (hm : X.mg n = some (.ref S)) (cr : CRead X.K S mc) (vV : PySem.W.findCls X.K (.ref S) mc "__init__" = some (.val (.builtin initId))) (hin : PySem.W.handedIn (.builtin initId) = true) (ha : PA X (e :: es) ta)
    (hc : eval (.Call (.Attribute (.Name n p1) "__init__" p2) (e :: es) [] pos) X.env = (do
      let ov ← eval (.Name n p1) X.env
      standAt p2.atName
      let (fn, fst) ← holding [ov] (getMethod ov "__init__" pl)
      callWith pos fn fst (backTo pos (starEach (e :: es) X.env)) (backToKw pos (keywordEach [] X.env))) := by rfl)
    (hdb : (n == ("__debug__" : Str)) = false := by decide) (he : starEach (e :: es) X.env = (false, eval e X.env) :: starEach es X.env := by rfl) (hp : (backTo pos (starEach es X.env)).any (·.1) = false := by rfl) :
    PE X (.Call (.Attribute (.Name n p1) "__init__" p2) (e :: es) [] pos) (tBI X.K B newId initId bmB ta) := by
  refine ⟨fun pins s σ H Q I k => PySem.W.methodCall_KW (ld_glob I hg hm ?_ hdb) hc⟩
  refine PySem.W.method_cls I.kIn cr.ga (PySem.W.cls_value I.kIn cr.rd vV hin ?_)
  show wpAny _ _ (callWith pos (Value.builtin initId) [] (backTo pos (starEach (e :: es) X.env)) []) _ _ _
  refine PyProof.Rows.callWith_method1 (thn (ha.run pos pins _ σ H _ (I.tok _) k) fun us s1 ⟨vs, H1, I1, rv, a, C, ws, ev, hl, T, ea, q⟩ => ?_) he hp
  subst ev
  cases rv with
  | @cons _ u1 _ ur rA rW =>
    obtain rfl : u1 = Value.ref a := rA
    exact binit T I1 ea (by rw [← Paired.length rW, sizeLine_eq]; omega) fun s2 J => ⟨.non, H1, J, rfl, q⟩
end
end Xc

/-! Xe3: text * number; repr of a list of things that may be dicts; comprehensions over zip; readings of Xe2 -/
namespace Xc
open PySem PySem.Spec PySem.Calls PyProof.Rows L2 Rs
/-! ### text * number -/
def rMulS : R2 := fun x y H Q => ∃ (t : Str) (n : Int), x = .str t ∧ y = .int n ∧ 0 ≤ n ∧ n ≤ 1000 ∧ t.length ≤ 1000 ∧ Q (.str (Txt.mul t n)) H
theorem op_mulS {X : Cx} : OpR X (binaryOp .Mult) rMulS := by
  intro pins s σ H x y v u Q I rx ry h
  obtain ⟨t, n, rfl, rfl, h0, h1, h2, q⟩ := h
  obtain ⟨a, rfl⟩ := (show ∃ a, v = Value.str t a from rx)
  obtain ⟨b, rfl⟩ := (show ∃ b, u = Value.int n b from ry)
  have hl : t.length * n.toNat ≤ 1000 * 1000 := Nat.mul_le_mul h2 (by omega)
  refine SB.mul (Q := EP X pins σ Q) ⟨by simp; omega, fun h3 _ => ?_, fun _ _ => ?_⟩ fun t' k => ⟨.str _, H, I.tok _, ⟨_, rfl⟩, q⟩
  · have h5 : (t.length : Int) ≤ (2 ^ 63 - 1) / n := by
      refine Int.le_ediv_of_mul_le (by omega) ?_
      have h6 : ((t.length * n.toNat : Nat) : Int) ≤ 1000 * 1000 := by omega
      rw [Int.natCast_mul, Int.toNat_of_nonneg h0] at h6
      omega
    omega
  · unfold Builtin.Str.tooLong
    simp
    rw [sizeLine_eq]
    omega
/-! ### repr of a list -/
inductive TzA (K : PySem.W.Frag) (H : Hp) : List V → List PyData → Prop where
  | nil : TzA K H [] []
  | cons {v : V} {d : PyData} {vs : List V} {ds : List PyData} : Tz K H v d → TzA K H vs ds → TzA K H (v :: vs) (d :: ds)
def rReprL (K : PySem.W.Frag) : List V → Hp → VK → Prop := fun xs H Q => ∃ (p : Addr) (vs : List V) (ds : List PyData), xs = [.ref p] ∧ SqL K H p vs ∧ TzA K H vs ds ∧ vs ≠ [] ∧ (PyData.list ds).shown.length ≤ sizeLine ∧ PyData.depthAll ds ≤ 30 ∧ Q (.str (PyData.list ds).shown) H
section
variable {X : Cx} {pins : List (Addr × Obj)} {σ : L2.St} {H : Hp} {s : Shared}
theorem Tz.reads (I : Inv X pins σ H s) {v : V} {d : PyData} {u : Value} (h : Tz X.K H v d) (r : RelV v u) : ∃ as, Reads s.heap u d as := by
  cases h with
  | dp h _ => exact Dp.reads I d v u h r
  | dk h p _ =>
    cases (show u = Value.ref _ from r)
    obtain ⟨_, ns, vs, kv', o, es, ep, e1, e2, e3, _, e5, _⟩ := dk_of I.hok h
    obtain ⟨r1, r2⟩ := plKv_reads (h := s.heap) p kv' e5
    exact ⟨_, Reads.dict (as := []) (bs := []) e1 e2.1 e3 r1 r2⟩
  | big f =>
    obtain ⟨t, rfl⟩ := (show ∃ t, u = Value.int _ t from r)
    exact ⟨_, .int _ t⟩
theorem TzA.reads (I : Inv X pins σ H s) : ∀ {vs : List V} {ds : List PyData} {us : List Value}, TzA X.K H vs ds → Vals vs us → ∃ as, ReadsAll s.heap us ds as
  | _, _, _, .nil, .nil => ⟨_, .nil⟩
  | _, _, _, .cons h t, .cons r q => by
    obtain ⟨a, h1⟩ := h.reads I r
    obtain ⟨b, h2⟩ := TzA.reads I t q
    exact ⟨_, .cons h1 h2⟩
theorem TzA.shows (I : Inv X pins σ H s) (st : Stat X.K) {n : Nat} (hn : n ≤ 50) : ∀ {vs : List V} {ds : List PyData} {us : List Value}, TzA X.K H vs ds → Vals vs us → (∀ d ∈ ds, d.shown.length ≤ sizeLine) → PyData.depthAll ds ≤ n →
    ∃ bs, ReadAtMost s.heap n bs ∧ ReprAllK X.prog X.w bs s.heap 50 us (PyData.shownAll ds)
  | _, _, _, .nil, .nil, _, _ => ⟨[], fun _ h => (nomatch h), by simp only [PyData.shownAll]; exact .nil⟩
  | _, _, _, .cons (d := d) h t, .cons r q, hz, hd => by
    simp only [PyData.depthAll] at hd
    obtain ⟨b1, m1, k1⟩ := h.shows I st r (hz d List.mem_cons_self) (by omega)
    obtain ⟨b2, m2, k2⟩ := TzA.shows I st hn t q (fun d hm => hz d (List.mem_cons_of_mem _ hm)) (by omega)
    refine ⟨b1 ++ b2, fun b hb => ?_, by
      simp only [PyData.shownAll]
      exact .cons (ReprK.more k1 fun b z => List.mem_append_left _ z) (k2.more_le (fun b z => List.mem_append_right _ z) (Nat.le_refl _))⟩
    rcases List.mem_append.mp hb with z | z
    · obtain ⟨d', as', r', hd'⟩ := m1 b z
      exact ⟨d', as', r', by omega⟩
    · exact m2 b z
theorem depth_of {ds : List PyData} : ∀ {d : PyData}, d ∈ ds → d.depth ≤ PyData.depthAll ds := by
  induction ds with
  | nil => intro d h; exact nomatch h
  | cons x xs ih =>
    intro d h
    simp only [PyData.depthAll]
    rcases List.mem_cons.mp h with rfl | h
    · omega
    · have := ih h
      omega
theorem shown_of {ds : List PyData} {d : PyData} (h : d ∈ ds) : d.shown ∈ PyData.shownAll ds := by
  induction ds with
  | nil => exact nomatch h
  | cons x xs ih =>
    simp only [PyData.shownAll]
    rcases List.mem_cons.mp h with rfl | h
    · exact List.mem_cons_self
    · exact List.mem_cons_of_mem _ (ih h)
theorem call_reprL {k : Nat} (st : Stat X.K) (c : Clr X.A) (hr : Room k X.A) : CallR X (.builtin "repr") (rReprL X.K) := by
  intro pins s σ H xs us Q I r h
  obtain ⟨p, vs, ds, rfl, hs, hq, hne, sw, dp, q⟩ := h
  cases r with
  | cons r1 r2 =>
    cases r2
    rename_i u
    cases (show u = Value.ref p from r1)
    obtain ⟨its, rv, ⟨o, n, ho, hc, hdn, hd⟩, hlen⟩ := I.list hs
    have un := hr.units
    obtain ⟨as, rd⟩ := hq.reads I rv
    have sz : ∀ d ∈ ds, d.shown.length ≤ sizeLine := fun d hm => by
      have z := listText_mem_le (ts := PyData.shownAll ds) (shown_of hm)
      simp only [PyData.shown] at sw
      omega
    obtain ⟨bs, hb, rk⟩ := hq.shows (n := PyData.depthAll ds) I st (by omega) rv sz (Nat.le_refl _)
    have own : Reads s.heap (.ref p) (.list ds) (p :: as) := Reads.list ho hc hd (by simpa using rd)
    have hna : p ∉ bs := fun hm => by
      obtain ⟨d', as', r', hd'⟩ := hb p hm
      have e := (PyProof.Rows.reads_det (fun _ _ e _ => e) own r').1
      rw [e] at hd'
      simp only [PyData.depth] at hd'
      omega
    cases its with
    | nil =>
      have := rv.length
      simp at this
      exact absurd this hne
    | cons y ys =>
      simp only [PyData.shown] at sw q
      refine call_repr_slot (by omega) ⟨o, ho, hc⟩ F.slot_list_repr.toG ?_
      exact call_list_reprK ho hc (by simpa using hd) hna (by rw [rk.length_eq]; simp) (fun i z e => rk.item i z (by simpa using e)) c (fun b _ => Clear.nil b) (by show X.A.units + 1 + (50 + 1) < cLine; omega) (fun _ _ e => e) (fun h' t2 tk2 kp => ⟨_, _, rfl, ⟨.str _, H, I.kept kp, ⟨t2, rfl⟩, q⟩⟩) sw
end
theorem rd_reprL {K : PySem.W.Frag} {H H0 : Hp} {M : List Addr} {L : Led} {Q : VK} {p : Addr} {vs : List V} {ds : List PyData} (S : Hs H0 M H L) (m : (p, HO.lst vs) ∈ L) (h : TzA K H vs ds) (ne : vs ≠ []) (sw : (PyData.list ds).shown.length ≤ sizeLine) (dp : PyData.depthAll ds ≤ 30)
    (k : Q (.str (PyData.list ds).shown) H) : rReprL K [.ref p] H Q := ⟨p, vs, ds, rfl, S.lst m, h, ne, sw, dp, k⟩
end Xc
namespace Xc
open PySem PySem.Spec PySem.Calls PyProof.Rows L2 Rs
/-- __init__ of n arguments that stores mk of them -/
def spIn (C : Addr) (n : Nat) (mk : List V → List (Str × V)) : Sp := fun vs H Q _ => ∃ (a : Addr) (xs : List V), vs = .ref a :: xs ∧ xs.length = n ∧ H a = some (exo a C none) ∧
  ∀ (dx : Addr) (H' : Hp), H dx = none → dx ≠ a → H' a = some (exo a C (some dx)) → H' dx = some (exd dx (mk xs)) → (∀ b, b ≠ a → b ≠ dx → H' b = H b) → Q .non H'
section
variable {σ : L2.St} {H H0 : Hp} {M : List Addr} {L : Led} {Q : VK} {K : PySem.W.Frag} {C a dx : Addr} {f : Str} {x : V}
theorem rd_mkx {R : Addr → Hp → Prop} {n : Nat} {mk : List V → List (Str × V)} {xs : List V} (S : Hs H0 M H L) (hl : xs.length = n) (hn : n ≤ 1000) (h : ∀ a d H', H0 a = none → H0 d = none → Hs H0 M H' ((a, exo a C (some d)) :: (d, exd d (mk xs)) :: L) → R a H') :
    xs.length ≤ 1000 ∧ ∀ a, H a = none → spIn C n mk (.ref a :: (xs ++ [])) (upd H a (exo a C none)) (fun v H2 => v = .non ∧ R a H2) (fun _ _ _ => False) := by
  refine ⟨by omega, fun a ha => ⟨a, xs, by rw [List.append_nil], hl, upd_same, fun d H' hd ne e1 e2 e3 => ⟨rfl, ?_⟩⟩⟩
  rw [upd_ne ne] at hd
  obtain ⟨z1, S1⟩ := S.new hd (exd d (mk xs))
  obtain ⟨z2, S2⟩ := S1.new (a := a) (by rw [upd_ne (Ne.symm ne)]; exact ha) (exo a C (some d))
  have e : H' = upd (upd H d (exd d (mk xs))) a (exo a C (some d)) := by
    funext b
    by_cases hb : b = a
    · rw [hb, upd_same, e1]
    · rw [upd_ne hb]
      by_cases hb2 : b = d
      · rw [hb2, upd_same, e2]
      · rw [upd_ne hb2, e3 b hb hb2, upd_ne hb]
  rw [e]
  exact h a d _ z2 z1 S2
theorem rd_tmkx {sp : Sp} {dvs : List V} {ta : TA} (h : ta σ H fun vs H1 => vs.length ≤ 1000 ∧ ∀ a, H1 a = none → sp (.ref a :: (vs ++ dvs)) (upd H1 a (exo a C none)) (fun v H2 => v = .non ∧ Q (.ref a) H2) (fun _ _ _ => False)) : tMkX C sp dvs ta σ H Q := h
theorem rd_tmk0 {ta : TA} (h : ta σ H fun vs H1 => vs.length ≤ 1000 ∧ ∀ a H2, H1 a = none → H2 = upd H1 a (exo a C none) → Q (.ref a) H2) : tMk0 C ta σ H Q := by
  have e : (fun (vs : List V) (H1 : Hp) => vs.length ≤ 1000 ∧ ∀ a H2, H1 a = none → H2 = upd H1 a (exo a C none) → Q (.ref a) H2) = fun vs H1 => vs.length ≤ 1000 ∧ ∀ a, H1 a = none → Q (.ref a) (upd H1 a (exo a C none)) := by
    funext vs H1
    exact propext ⟨fun ⟨x, y⟩ => ⟨x, fun a ha => y a _ ha rfl⟩, fun ⟨x, y⟩ => ⟨x, fun a H2 ha e => by rw [e]; exact y a ha⟩⟩
  rw [e] at h
  exact h
theorem rd_mk0 {R : Addr → Hp → Prop} {xs : List V} (S : Hs H0 M H L) (hl : xs.length ≤ 1000) (h : ∀ a H', H0 a = none → Hs H0 M H' ((a, exo a C none) :: L) → R a H') : xs.length ≤ 1000 ∧ ∀ a H2, H a = none → H2 = upd H a (exo a C none) → R a H2 :=
  ⟨hl, fun a H2 ha e => by rw [e]; exact h a _ (S.new ha (exo a C none)).1 (S.new ha (exo a C none)).2⟩
theorem rd_isE {o : Option (Addr × List (Str × V))} {c : V} {u : Value} {b : Bool} (e0 : ExcAt H a C o) (l : Lk K C) (hc : ClsV c u) (e : PySem.W.kitOne K (.ref C) u = some b) (h : Q (.bl b) H) : rIsE K [.ref a, c] H Q :=
  ⟨a, C, o, c, u, b, rfl, hc, l, e0, e, h⟩
theorem rd_xe {te : TE} (h : te σ H fun x H1 => ∃ (a C dx : Addr) (fs : List (Str × V)) (v : V), x = .ref a ∧ Lk K C ∧ PySem.W.findIn K (.ref C) f = some none ∧ ExcAt H1 a C (some (dx, fs)) ∧ fs.lookup f = some v ∧ Q v H1) : tXe K f te σ H Q := h
theorem rd_mulS {t : Str} {n : Int} (h0 : 0 ≤ n) (h1 : n ≤ 1000) (h2 : t.length ≤ 1000) (h : Q (.str (Txt.mul t n)) H) : rMulS (.str t) (.int n) H Q := ⟨t, n, rfl, rfl, h0, h1, h2, h⟩
theorem lcw_zip {a b : Addr} {xs ys : List V} {g : TG} {tt : TT} {te : TE} {vs : List Nat} (S : Hs H0 M H L) (hn : xs.length = ys.length) (R : Nat → List V → Prop) (r0 : R 0 []) (hl : ∀ H' acc D, Hs H0 M H' ((D, .lst acc) :: L) → SqL K H' a xs ∧ SqL K H' b ys)
    (hs : ∀ D i x y acc H' T, xs[i]? = some x → ys[i]? = some y → R i acc → H0 D = none → H0 T = none → Hs H0 M H' ((T, .tup [x, y]) :: (D, .lst acc) :: L) → g (.ref T) (wipe σ vs) H' fun σ2 H2 => wipe σ2 vs = wipe σ vs ∧ tt σ2 H2 fun b H3 => if b = true then te σ2 H3 fun y H4 => lcPut H0 M L (R (i + 1)) D y H4 else lcSkip H0 M L (R (i + 1)) D H3)
    (hd : ∀ D acc H', R xs.length acc → H0 D = none → Hs H0 M H' ((D, .lst acc) :: L) → Q (.ref D) H') : lcW (Itz K a b) g tt te vs σ H Q := by
  intro D hD
  have S1 := S.new hD (.lst [])
  refine lc_it (walk_zip (xs := xs) (ys := ys) (n := xs.length) (by omega)) (fun i H' => lcSkip H0 M L (R i) D H') ⟨S1.1, [], r0, S1.2⟩ (fun i H' _ ⟨_, acc, _, S'⟩ => hl H' acc D S') ?_ ?_
  · rintro i x H' H2 hi ⟨n0, acc, r, S'⟩ ⟨T, y, z, rfl, hT, rfl, e1, e2⟩
    obtain ⟨hT0, S2⟩ := S'.new hT (.tup [y, z])
    exact hs D i y z acc _ T e1 e2 r n0 hT0 S2
  · rintro H' ⟨n0, acc, r, S'⟩
    exact hd D acc H' r n0 S'
theorem rd_zip {R : It → Hp → Prop} {ta : TA} (h : ta σ H fun vs H1 => ∃ (a b : Addr) (xs ys : List V), vs = [.ref a, .ref b] ∧ SqL K H1 a xs ∧ SqL K H1 b ys ∧ R (Itz K a b) H1) : iZip K ta σ H R := h
end
end Xc

/-! Xg1: lists and tuples alike as what is walked: enumerate with a start, zip of any two -/
namespace Xg
open PySem PySem.Spec PySem.Calls PyProof.Rows L2 Rs Xd
/-- a list (false), a tuple (true) -/
def Sq (b : Bool) (K : PySem.W.Frag) (H : Hp) (a : Addr) (xs : List V) : Prop := match b with
  | true => SqT K H a xs
  | false => SqL K H a xs
def IsIt (b : Bool) (h : Heap) (i a : Addr) (j : Nat) : Prop := match b with
  | true => h.IsTupleIter i a j
  | false => h.IsListIter i a j
def IsSq (b : Bool) (h : Heap) (a : Addr) (vs : Array Value) : Prop := match b with
  | true => h.IsTuple a vs
  | false => h.IsList a vs
def ito (b : Bool) (a : Addr) : Obj := match b with
  | true => { cls := .type "tuple_iterator", data := .fields #[.ref a, .int 0 0] }
  | false => { cls := .type "list_iterator", data := .fields #[.ref a, .int 0 0] }
theorem IsIt.at {b : Bool} {h h' : Heap} {i a : Addr} {j : Nat} (x : IsIt b h i a j) (k : ∀ o, h.get? i = some o → h'.get? i = some o) : IsIt b h' i a j := by
  cases b <;> (obtain ⟨o, ho, r⟩ := x; exact ⟨o, k o ho, r⟩)
theorem IsIt.obj {b : Bool} {h : Heap} {i a : Addr} {j : Nat} (x : IsIt b h i a j) : ∃ o, h.get? i = some o ∧ ∀ v, o.data ≠ .cell v := by
  cases b <;> (obtain ⟨o, ho, _, hd⟩ := x; exact ⟨o, ho, fun v z => by rw [hd] at z; cases z⟩)
theorem IsSq.lt {b : Bool} {h : Heap} {a : Addr} {vs : Array Value} (x : IsSq b h a vs) : a < h.objs.size := by
  cases b <;> (obtain ⟨o, ho, _⟩ := x; exact Heap.lt_size ho)
theorem begins_sq (b : Bool) (a : Addr) (vs : Array Value) : Begins (.ref a) (ito b a) (fun h => IsSq b h a vs) := by
  cases b
  · exact begins_list a vs
  · exact begins_tuple a vs
theorem ito_it {b : Bool} {h : Heap} {i a : Addr} (x : h.get? i = some (ito b a)) : IsIt b h i a 0 := by
  cases b <;> exact ⟨_, x, rfl, rfl⟩
theorem sdraws {prog : Program} {w : World} {A : Around} (hh : A.handled = none) (b : Bool) (i a : Addr) (ne : a ≠ i) (vs : Array Value) : Draws prog w A i [i, a] vs.size (fun j v => vs[j]? = some v) (fun j h => IsIt b h i a j ∧ IsSq b h a vs) := by
  cases b
  · exact Draws.list hh i a ne vs
  · exact tdraws hh i a ne vs
section
variable {X : Cx} {pins : List (Addr × Obj)} {σ : L2.St} {H : Hp} {s : Shared} {a : Addr} {xs ys : List V}
theorem sq_get (I : Inv X pins σ H s) {b : Bool} (h : Sq b X.K H a xs) : ∃ its : List Value, Vals xs its ∧ IsSq b s.heap a its.toArray := by
  cases b
  · obtain ⟨its, rv, p, _⟩ := I.list h
    exact ⟨its, rv, p.isList⟩
  · obtain ⟨its, rv, p, _⟩ := I.tuple h
    exact ⟨its, rv, p⟩
theorem sq_inj (I : Inv X pins σ H s) {b : Bool} (h : Sq b X.K H a xs) (h' : Sq b X.K H a ys) : xs = ys := by
  cases b
  · exact I.list_inj h h'
  · exact I.tuple_inj h h'
end
/-! ### enumerate from a start -/
def IteS (b : Bool) (k : Int) (K : PySem.W.Frag) (a : Addr) : It :=
  ⟨fun i H => ∃ (xs : List V) (x : V), Sq b K H a xs ∧ xs[i]? = some x, fun i H v H' => ∃ (T : Addr) (x : V), v = .ref T ∧ H T = none ∧ H' = upd H T (.tup [.int (k + (i : Nat)), x]) ∧ ∀ xs, Sq b K H a xs → xs[i]? = some x, fun i H => ∃ xs : List V, Sq b K H a xs ∧ xs.length = i⟩
theorem turn_eS {P : Program} {w : World} {K : PySem.W.Frag} {elts : List Expr} {kk : Nat} {tpos : Pos} (b : Bool) (k : Int) (a e it : Addr) (nai : a ≠ it) (nei : e ≠ it) (nea : e ≠ a) :
    Turn P w K (.Tuple elts kk tpos) (IteS b k K a) [e, it] e (fun i h => (∃ old, IsEnum h e it (k + ((i : Nat) : Int)) old) ∧ IsIt b h it a i) where
  mem := List.mem_cons_self
  obj := fun i h ⟨⟨old, he⟩, hi⟩ c hc => by
    rcases (show c = e ∨ c = it by simpa using hc) with rfl | rfl
    · exact ⟨_, he, fun v z => nomatch z⟩
    · exact hi.obj
  keep := fun i h h' ⟨⟨old, he⟩, hi⟩ kp => ⟨⟨old, kp e (by simp) _ he⟩, hi.at fun o z => kp it (by simp) o z⟩
  item := by
    intro X hP hw hK hc i pins s σ H E I hf ⟨⟨old, he⟩, hit⟩ ⟨xs, x, hq, hx⟩
    subst hP hw hK
    obtain ⟨its, rv, tpl⟩ := sq_get I hq
    obtain ⟨u, hu, ru⟩ := rv.get hx
    obtain ⟨oi, hoi, _⟩ := hit.obj
    have le : e < s.heap.objs.size := Heap.lt_size he
    have li : it < s.heap.objs.size := Heap.lt_size hoi
    have D := sdraws (prog := X.prog) (w := X.w) (A := X.A.in1) (I.ok.hd hc) b it a nai its.toArray
    refine wpAny_pyNext_enum_itemC D he ⟨hit, tpl⟩ ?_ nei (by simp [nei, nea]) fun u' h' tk hu' ho hst hT hsz hk => ?_
    · have := (List.getElem?_eq_some_iff.mp hu).1
      rw [List.size_toArray]
      exact this
    · obtain rfl : u' = u := by
        have z : its[i]? = some u' := by simpa using hu'
        rw [hu] at z
        exact (Option.some.inj z).symm
      refine ⟨_, rfl, wpAny_letOwnedTupleGo_enum (s := { s with heap := h', toks := tk + 1 }) ho fun h2 he2 sb => ?_⟩
      have hT2 : h2.get? s.heap.objs.size = some { cls := .type "tuple", data := .seq #[.int (k + i) tk, u'] } := (sb.2 _ (Nat.ne_of_gt le)).trans hT
      have nw : ObjOk X.prog X.w (upd H s.heap.objs.size (.tup [.int (k + (i : Nat)), x])) h2 s.heap.objs.size (.tup [.int (k + (i : Nat)), x]) := ⟨by rw [sizeLine_eq]; simp, [.int (k + i) tk, u'], .cons ⟨_, rfl⟩ (.cons ru .nil), ⟨_, hT2, rfl, _, rfl⟩⟩
      have I1 : Inv X pins σ (upd H s.heap.objs.size (.tup [.int (k + (i : Nat)), x])) { s with heap := h2, toks := tk + 1 } :=
        I.turnedNew (ch := [e, it]) (fun c ob hb q => (sb.2 c (fun z => hb (by simp [z]))).trans (hk c ob (fun z => hb (by simp [z])) (fun z => hb (by simp [z])) q)) hf (Nat.le_refl _) nw
      refine ⟨.ref s.heap.objs.size, _, I1, rfl, ⟨_, x, rfl, I.hok.fresh (Nat.le_refl _), rfl, fun ys hy => by rw [sq_inj I hy hq]; exact hx⟩, ⟨⟨u', ?_⟩, hst.1.at fun o z => (sb.2 it (Ne.symm nei)).trans z⟩, fun c hb => ?_⟩
      · rw [show k + ((i + 1 : Nat) : Int) = k + (i : Int) + 1 by omega]; exact he2
      · have hb2 : c < s.heap.objs.size := by
          rcases (show c = e ∨ c = it by simpa using hb) with rfl | rfl
          · exact le
          · exact li
        rw [upd_ne (Nat.ne_of_lt hb2)]; exact (hf c hb).1
  done := by
    intro X hP hw hK hc i pins s σ H E I hf ⟨⟨old, he⟩, hit⟩ ⟨xs, hq, hx⟩
    subst hP hw hK
    obtain ⟨its, rv, tpl⟩ := sq_get I hq
    obtain ⟨f0, f1, f2, f3, f4, f5⟩ := hf it (by simp)
    have hl := rv.length
    have D := sdraws (prog := X.prog) (w := X.w) (A := X.A.in1) (I.ok.hd hc) b it a nai its.toArray
    have en : its.toArray.size = i := by rw [List.size_toArray]; omega
    exact wpAny_pyNext_enum_endD D he ⟨by rw [en]; exact hit, tpl⟩ fun h' eb => ⟨rfl, I.turned (t' := s.toks) (fun c o hb q => eb c o hb q) f0 f1 f3 f4 f5⟩
  self := fun A i s Q E ⟨⟨_, he⟩, _⟩ h => wpAny_pyIter_enum he h
section
variable {M : Model} {A : Around} {E : Value → Shared → Prop} {s : Shared} {env : Env}
/-- a built-in class called with keywords -/
theorem callWith_tyKw {pos : Pos} {T : String} {e : Expr} {rest : List Expr} {kws : List Keyword} {Q : Value → Shared → Prop}
    (h : wpAny M A (spliced (backTo pos (starEach (e :: rest) env))) (fun vs s1 => wpAny M A (evalAll ((backToKw pos (keywordEach kws env)).map (·.2)))
      (fun ws s2 => wpAny M A (call (.type T) vs (((backToKw pos (keywordEach kws env)).filterMap (·.1)).zip ws)) Q E s2) E s1) E s)
    (he : backTo pos (starEach (e :: rest) env) = (false, eval e env) :: backTo pos (starEach rest env)) (hp : (backTo pos (starEach (e :: rest) env)).any (·.1) = false)
    (ha : (backToKw pos (keywordEach kws env)).all (·.1.isSome) = true) (hn : (backToKw pos (keywordEach kws env)).any (·.1.isNone) = false) :
    wpAny M A (callWith pos (.type T) [] (backTo pos (starEach (e :: rest) env)) (backToKw pos (keywordEach kws env))) Q E s := by
  rw [he] at h hp ⊢
  have h2 := evalArgs_kwB (Q := fun (z : Args) s2 => wpAny M A (call (.type T) z.pos z.kw) Q E s2) (f := .type T) ha h
  unfold callWith
  refine wpAny_bind (wpAny_holding (wpAny_mono h2 (fun z s1 q => wpAny_bind (wpAny_standAt ?_)) fun _ _ x => x))
  simp only [hp, hn, Bool.or_false]
  exact wpAny_bind (wpAny_pure (wpAny_bind (wpAny_mono q (fun r s3 hr => wpAny_bind (wpAny_holding (wpAny_point (wpAny_pure hr)))) fun _ _ x => x)))
end
def enS (b : Bool) (K : PySem.W.Frag) (R : It → Hp → Prop) (vs zs : List V) (H : Hp) : Prop := ∃ (a : Addr) (k : Int) (xs : List V), vs = [.ref a] ∧ zs = [.int k] ∧ -(2 ^ 63) ≤ k ∧ k < 2 ^ 63 ∧ Sq b K H a xs ∧ R (IteS b k K a) H
def iEnS (b : Bool) (K : PySem.W.Frag) (ta tk : TA) : TI := fun σ H R => ta σ H fun vs H1 => tk σ H1 fun zs H2 => enS b K R vs zs H2
theorem apart_e {N : Nat} {a : Addr} (h : a < N) : a ≠ N ∧ N + 1 ≠ N ∧ N + 1 ≠ a := ⟨Nat.ne_of_lt h, Nat.succ_ne_self _, fun z => by
  rw [← z] at h
  exact absurd h (Nat.not_lt.mpr (Nat.le_succ N))⟩
theorem pi_enS {X : Cx} (b : Bool) {e : Expr} {kws : List Keyword} {ta tk : TA} {p pos tpos : Pos} {elts : List Expr} {kk : Nat} (hg : Gl X "enumerate") (hm : X.mg "enumerate" = none) (ha : PA X [e] ta) (hk : PK X kws tk)
    (he : backTo pos (starEach [e] X.env) = (false, eval e X.env) :: backTo pos (starEach [] X.env) := by rfl) (hpl : (backTo pos (starEach [e] X.env)).any (·.1) = false := by rfl)
    (hall : (backToKw pos (keywordEach kws X.env)).all (·.1.isSome) = true := by rfl) (hnone : (backToKw pos (keywordEach kws X.env)).any (·.1.isNone) = false := by rfl) (hks : (backToKw pos (keywordEach kws X.env)).filterMap (·.1) = [Str.ofString "start"] := by rfl) :
    PI X (.Tuple elts kk tpos) (.Call (.Name "enumerate" p) [e] kws pos) (iEnS b X.K ta tk) := by
  refine ⟨fun pins s σ H R I h => ?_⟩
  refine wpAny_Call_Name_kw (ld_blt I hg hm boot_enumerate ?_)
  refine callWith_tyKw (thn (ha.run pos pins s σ H _ I h) fun us s1 ⟨vs, H1, I1, r1, q1⟩ => thn (hk.run pos pins s1 σ H1 _ I1 q1) fun ws s2 ⟨zs, H2, I2, r2, a, k, xs, ev, ez, k0, k1, hq, q⟩ => ?_) he hpl hall hnone
  rw [hks]
  subst ev ez
  rw [Vals.ref1 r1]
  obtain ⟨u, rfl, t, rfl⟩ := vals1 r2
  obtain ⟨its, rv, tpl⟩ := sq_get I2 hq
  refine enum_begins_start (begins_sq b a its.toArray) tpl k0 k1 fun h' he hit hz hkp => wpAny_pyIter_enum he ?_
  have I3 : Inv X pins σ H2 { s2 with heap := h' } := I2.kept (t' := s2.toks) hkp
  obtain ⟨n1, n2, n3⟩ := apart_e tpl.lt
  refine ⟨s2.heap.objs.size + 1, [s2.heap.objs.size + 1, s2.heap.objs.size], _, _, H2, rfl, I3, turn_eS b k a (s2.heap.objs.size + 1) s2.heap.objs.size n1 n2 n3, ⟨⟨.none, by rw [show k + ((0 : Nat) : Int) = k by omega]; exact he⟩, ito_it hit⟩, fun c hc => ?_, q⟩
  have hle : s2.heap.objs.size ≤ c := by
    rcases (show c = s2.heap.objs.size + 1 ∨ c = s2.heap.objs.size by simpa using hc) with rfl | rfl
    · exact Nat.le_succ _
    · exact Nat.le_refl _
  exact I2.fpOk hle (I2.hok.fresh hle)
/-! ### zip of any two -/
def ItzS (b c : Bool) (K : PySem.W.Frag) (p q : Addr) : It :=
  ⟨fun i H => ∃ (xs ys : List V) (x y : V), Sq b K H p xs ∧ Sq c K H q ys ∧ xs[i]? = some x ∧ ys[i]? = some y,
    fun i H v H' => ∃ T x y, v = .ref T ∧ H T = none ∧ H' = upd H T (.tup [x, y]) ∧ (∀ xs, Sq b K H p xs → xs[i]? = some x) ∧ ∀ ys, Sq c K H q ys → ys[i]? = some y,
    fun i H => ∃ xs ys : List V, Sq b K H p xs ∧ Sq c K H q ys ∧ i = min xs.length ys.length⟩
theorem turn_zS {P : Program} {w : World} {K : PySem.W.Frag} {elts : List Expr} {kk : Nat} {tpos : Pos} (b c : Bool) {p q z TI TO i1 i2 : Addr} (D : ZipSep2 z TI TO i1 i2 [i1, p] [i2, q]) (n1 : p ≠ i1) (n2 : q ≠ i2) :
    Turn P w K (.Tuple elts kk tpos) (ItzS b c K p q) [z, TI, TO, i1, i2] z (fun i h => IsZip h z TI TO .none ∧ IsTupOf2 h TI (.ref i1) (.ref i2) ∧ (∃ x y, IsTupOf2 h TO x y) ∧ IsIt b h i1 p i ∧ IsIt c h i2 q i) where
  mem := List.mem_cons_self
  obj := fun i h ⟨a1, a2, ⟨x, y, a3⟩, a4, a5⟩ d hd => by
    rcases (show d = z ∨ d = TI ∨ d = TO ∨ d = i1 ∨ d = i2 by simpa using hd) with rfl | rfl | rfl | rfl | rfl
    · exact ⟨_, a1, fun v y => nomatch y⟩
    · exact ⟨_, a2, fun v y => nomatch y⟩
    · exact ⟨_, a3, fun v y => nomatch y⟩
    · exact a4.obj
    · exact a5.obj
  keep := fun i h h' ⟨a1, a2, ⟨x, y, a3⟩, a4, a5⟩ kp => ⟨kp z (by simp) _ a1, kp TI (by simp) _ a2, ⟨x, y, kp TO (by simp) _ a3⟩, a4.at fun o e => kp i1 (by simp) o e, a5.at fun o e => kp i2 (by simp) o e⟩
  item := by
    intro X hP hw hK hc i pins s σ H E I hf ⟨a1, a2, ⟨x0, y0, a3⟩, a4, a5⟩ ⟨xs, ys, x, y, hx, hy, ex, ey⟩
    subst hP hw hK
    obtain ⟨us, rx, tx⟩ := sq_get I hx
    obtain ⟨vs, ry, ty⟩ := sq_get I hy
    obtain ⟨u, hu, ru⟩ := rx.get ex
    obtain ⟨v, hv, rv⟩ := ry.get ey
    have lz : z < s.heap.objs.size := Heap.lt_size a1
    have Da := sdraws (prog := X.prog) (w := X.w) (A := X.A.in1) (I.ok.hd hc) b i1 p n1 us.toArray
    have Db := sdraws (prog := X.prog) (w := X.w) (A := X.A.in1) (I.ok.hd hc) c i2 q n2 vs.toArray
    have lu := (List.getElem?_eq_some_iff.mp hu).1
    have lv := (List.getElem?_eq_some_iff.mp hv).1
    refine wpAny_pyNext_zipD2_item D Da Db a1 a2 a3 ⟨a4, tx⟩ ⟨a5, ty⟩ (by rw [List.size_toArray]; exact lu) (by rw [List.size_toArray]; exact lv) fun u' v' h' tk pu pv hz hTO s1 s2 hT hsz hk => ?_
    obtain rfl : u' = u := by
      have e : us[i]? = some u' := by simpa using pu
      rw [hu] at e; exact (Option.some.inj e).symm
    obtain rfl : v' = v := by
      have e : vs[i]? = some v' := by simpa using pv
      rw [hv] at e; exact (Option.some.inj e).symm
    refine ⟨_, rfl, wpAny_letOwnedTupleGo_zip (s := { s with heap := h', toks := tk }) hz fun h2 hz2 sb => ?_⟩
    have hT2 : h2.get? s.heap.objs.size = some { cls := .type "tuple", data := .seq #[u', v'] } := (sb.2 _ (Nat.ne_of_gt lz)).trans hT
    have nw : ObjOk X.prog X.w (upd H s.heap.objs.size (.tup [x, y])) h2 s.heap.objs.size (.tup [x, y]) := ⟨by rw [sizeLine_eq]; simp, [u', v'], .cons ru (.cons rv .nil), ⟨_, hT2, rfl, _, rfl⟩⟩
    have I1 : Inv X pins σ (upd H s.heap.objs.size (.tup [x, y])) { s with heap := h2, toks := tk } :=
      I.turnedNew (ch := [z, TI, TO, i1, i2]) (fun d o hb e => (sb.2 d (fun y => hb (by simp [y]))).trans (hk d o (fun y => hb (by simp [y])) (fun y => hb (by simp [y])) (fun y => hb (by simp [y])) (fun y => hb (by simp [y])) e)) hf (Nat.le_refl _) nw
    refine ⟨.ref s.heap.objs.size, _, I1, rfl, ⟨_, x, y, rfl, I.hok.fresh (Nat.le_refl _), rfl, fun l hl => by rw [sq_inj I hl hx]; exact ex, fun l hl => by rw [sq_inj I hl hy]; exact ey⟩, ⟨hz2, ?_, ⟨u', v', ?_⟩, ?_, ?_⟩, fun d hd => ?_⟩
    · exact (sb.2 _ D.TIz).trans (hk _ _ D.TIz D.TITO D.TIi1 D.TIi2 a2)
    · exact (sb.2 _ D.TOz).trans hTO
    · exact s1.1.at fun o e => (sb.2 _ D.zi1.symm).trans e
    · exact s2.1.at fun o e => (sb.2 _ D.zi2.symm).trans e
    · have hlt : d < s.heap.objs.size := by
        rcases (show d = z ∨ d = TI ∨ d = TO ∨ d = i1 ∨ d = i2 by simpa using hd) with rfl | rfl | rfl | rfl | rfl
        · exact lz
        · exact Heap.lt_size a2
        · exact Heap.lt_size a3
        · obtain ⟨_, e, _⟩ := a4.obj; exact Heap.lt_size e
        · obtain ⟨_, e, _⟩ := a5.obj; exact Heap.lt_size e
      rw [upd_ne (Nat.ne_of_lt hlt)]
      exact (hf d hd).1
  done := by
    intro X hP hw hK hc i pins s σ H E I hf ⟨a1, a2, ⟨x0, y0, a3⟩, a4, a5⟩ ⟨xs, ys, hx, hy, hi⟩
    subst hP hw hK
    obtain ⟨us, rx, tx⟩ := sq_get I hx
    obtain ⟨vs, ry, ty⟩ := sq_get I hy
    have l1 := rx.length
    have l2 := ry.length
    have Da := sdraws (prog := X.prog) (w := X.w) (A := X.A.in1) (I.ok.hd hc) b i1 p n1 us.toArray
    have Db := sdraws (prog := X.prog) (w := X.w) (A := X.A.in1) (I.ok.hd hc) c i2 q n2 vs.toArray
    exact wpAny_pyNext_zipD2_end D Da Db a1 a2 a3 ⟨a4, tx⟩ ⟨a5, ty⟩ (by rw [List.size_toArray]; omega) (by rw [List.size_toArray]; omega) (by rw [List.size_toArray, List.size_toArray]; omega) fun h' tk hk => ⟨rfl, I.turnedL (t' := tk) (ch := [z, TI, TO, i1, i2]) (fun d o hb e =>
      hk d o (fun y => hb (by simp [y])) (fun y => hb (by simp [y])) (fun y => hb (by simp [y])) (fun y => hb (by simp [y])) e) hf⟩
  self := fun A i s Q E st h => wpAny_pyIter_zip st.1 h
def zpS (b c : Bool) (K : PySem.W.Frag) (R : It → Hp → Prop) (vs : List V) (H : Hp) : Prop := ∃ (p q : Addr) (xs ys : List V), vs = [.ref p, .ref q] ∧ Sq b K H p xs ∧ Sq c K H q ys ∧ R (ItzS b c K p q) H
def iZpS (b c : Bool) (K : PySem.W.Frag) (ta : TA) : TI := fun σ H R => ta σ H fun vs H1 => zpS b c K R vs H1
theorem pi_zpS {X : Cx} (b c : Bool) {e e2 : Expr} {ta : TA} {p pos tpos : Pos} {elts : List Expr} {kk : Nat} (hg : Gl X "zip") (hm : X.mg "zip" = none) (ha : PA X [e, e2] ta)
    (hs : starEach [e, e2] X.env = (false, eval e X.env) :: starEach [e2] X.env := by rfl) (hpl : (backTo pos (starEach [e2] X.env)).any (·.1) = false := by rfl) :
    PI X (.Tuple elts kk tpos) (.Call (.Name "zip" p) [e, e2] [] pos) (iZpS b c X.K ta) := by
  refine ⟨fun pins s σ H R I h => ?_⟩
  refine Call_ (ld_blt I hg hm boot_zip (PyProof.Rows.callWith_type1 (thn (ha.run pos pins s σ H _ I h) fun us s1 ⟨vs, H1, I1, r1, p1, p2, xs, ys, ev, hx, hy, q⟩ => ?_) hs hpl))
  subst ev
  cases r1 with
  | cons r rr =>
    cases rr with
    | cons r2 rr =>
      cases rr
      cases r
      cases r2
      obtain ⟨us, rx, tx⟩ := sq_get I1 hx
      obtain ⟨vs, ry, ty⟩ := sq_get I1 hy
      refine zip_begins2 (begins_sq b p1 us.toArray) (begins_sq c p2 vs.toArray) tx ty fun h' hz hTI hTO h1 h2 hsz hk => wpAny_pyIter_zip hz ?_
      have I2 : Inv X pins σ H1 { s1 with heap := h' } := I1.kept (t' := s1.toks) hk
      have l1 := tx.lt
      have l2 := ty.lt
      have Z : ZipSep2 (s1.heap.objs.size + 4) (s1.heap.objs.size + 2) (s1.heap.objs.size + 3) s1.heap.objs.size (s1.heap.objs.size + 1) [s1.heap.objs.size, p1] [s1.heap.objs.size + 1, p2] := zip_sep2 (fun d hd => by rw [List.mem_singleton.mp hd]; exact l1) (fun d hd => by rw [List.mem_singleton.mp hd]; exact l2)
      refine ⟨s1.heap.objs.size + 4, [s1.heap.objs.size + 4, s1.heap.objs.size + 2, s1.heap.objs.size + 3, s1.heap.objs.size, s1.heap.objs.size + 1], _, _, H1, rfl, I2, turn_zS b c Z (Nat.ne_of_lt l1) (Nat.ne_of_lt (Nat.lt_succ_of_lt l2)), ⟨hz, hTI, ⟨_, _, hTO⟩, ito_it h1, ito_it h2⟩, fun d hd => ?_, q⟩
      have hle : s1.heap.objs.size ≤ d := by
        rcases (show d = s1.heap.objs.size + 4 ∨ d = s1.heap.objs.size + 2 ∨ d = s1.heap.objs.size + 3 ∨ d = s1.heap.objs.size ∨ d = s1.heap.objs.size + 1 by simpa using hd) with rfl | rfl | rfl | rfl | rfl
        · exact Nat.le_add_right _ _
        · exact Nat.le_add_right _ _
        · exact Nat.le_add_right _ _
        · exact Nat.le_refl _
        · exact Nat.le_add_right _ _
      exact I1.fpOk hle (I1.hok.fresh hle)
/-! ### readings -/
section
variable {K : PySem.W.Frag} {H H0 : Hp} {M : List Addr} {L : Led} {σ : L2.St} {a p q : Addr} {b c : Bool} {Q : VK}
theorem Hs.sqT {xs : List V} (S : Hs H0 M H L) (m : (a, HO.tup xs) ∈ L) : Sq true K H a xs := S.tup m
theorem Hs.sqL {xs : List V} (S : Hs H0 M H L) (m : (a, HO.lst xs) ∈ L) : Sq false K H a xs := S.lst m
theorem walk_eS {k : Int} {xs : List V} : Walk (IteS b k K a) xs.length (fun H => Sq b K H a xs) (YPair (fun i => some (.int (k + (i : Nat)))) (fun i => xs[i]?)) :=
  ⟨fun i _ hi q => ⟨xs, xs[i], q, by simp [hi]⟩, fun _ q => ⟨xs, q, rfl⟩, fun i H v H' _ q ⟨T, x, h1, h2, h3, h4⟩ => ⟨T, .int (k + (i : Nat)), x, h1, h2, h3, rfl, h4 xs q⟩⟩
theorem walk_zS {xs ys : List V} : Walk (ItzS b c K p q) (min xs.length ys.length) (fun H => Sq b K H p xs ∧ Sq c K H q ys) (YPair (fun i => xs[i]?) (fun i => ys[i]?)) :=
  ⟨fun i _ hi h => ⟨xs, ys, xs[i]'(by omega), ys[i]'(by omega), h.1, h.2, List.getElem?_eq_getElem _, List.getElem?_eq_getElem _⟩, fun _ h => ⟨xs, ys, h.1, h.2, rfl⟩,
    fun i H v H' _ h ⟨T, x, y, h1, h2, h3, h4, h5⟩ => ⟨T, x, y, h1, h2, h3, h4 xs h.1, h5 ys h.2⟩⟩
theorem rd_enS {R : It → Hp → Prop} {ta tk : TA} (h : ta σ H fun vs H1 => tk σ H1 fun zs H2 => enS b K R vs zs H2) : iEnS b K ta tk σ H R := h
theorem rd_enST {R : It → Hp → Prop} {xs : List V} {k : Int} (S : Hs H0 M H L) (m : (a, HO.tup xs) ∈ L) (k0 : -(2 ^ 63) ≤ k) (k1 : k < 2 ^ 63) (h : R (IteS true k K a) H) : enS true K R [.ref a] [.int k] H := ⟨a, k, xs, rfl, rfl, k0, k1, S.tup m, h⟩
theorem rd_enSL {R : It → Hp → Prop} {xs : List V} {k : Int} (S : Hs H0 M H L) (m : (a, HO.lst xs) ∈ L) (k0 : -(2 ^ 63) ≤ k) (k1 : k < 2 ^ 63) (h : R (IteS false k K a) H) : enS false K R [.ref a] [.int k] H := ⟨a, k, xs, rfl, rfl, k0, k1, S.lst m, h⟩
theorem rd_zpS {R : It → Hp → Prop} {ta : TA} (h : ta σ H fun vs H1 => zpS b c K R vs H1) : iZpS b c K ta σ H R := h
theorem rd_zpSI {R : It → Hp → Prop} {xs ys : List V} (hx : Sq b K H p xs) (hy : Sq c K H q ys) (h : R (ItzS b c K p q) H) : zpS b c K R [.ref p, .ref q] H := ⟨p, q, xs, ys, rfl, hx, hy, h⟩
/-- over enumerate from a start -/
theorem fw_enS {xs : List V} {k : Int} {g : TG} {tw : TS} {nx bk ct : L2.St → Hp → Prop} {rt : VK} (Pv : Nat → L2.St → Hp → Prop) (h0 : Pv 0 σ H) (hl : ∀ i σ H, i ≤ xs.length → Pv i σ H → Sq b K H a xs)
    (hs : ∀ i x σ H T, xs[i]? = some x → Pv i σ H → H T = none → g (.ref T) σ (upd H T (.tup [.int (k + (i : Nat)), x])) fun σ2 H2 => tw ⟨Pv (i + 1), rt, nx, Pv (i + 1)⟩ σ2 H2) (hd : ∀ σ H, Pv xs.length σ H → nx σ H) : forW (IteS b k K a) g tw ⟨nx, rt, bk, ct⟩ σ H := by
  refine for_it walk_eS Pv h0 hl ?_ hd
  rintro i x σ H H' hi hp ⟨T, y, z, rfl, hT, rfl, e1, e2⟩
  cases e1
  exact hs i z σ H T e2 hp hT
/-- over zip of any two -/
theorem fw_zpS {xs ys : List V} {g : TG} {tw : TS} {nx bk ct : L2.St → Hp → Prop} {rt : VK} (Pv : Nat → L2.St → Hp → Prop) (h0 : Pv 0 σ H) (hl : ∀ i σ H, i ≤ min xs.length ys.length → Pv i σ H → Sq b K H p xs ∧ Sq c K H q ys)
    (hs : ∀ i x y σ H T, xs[i]? = some x → ys[i]? = some y → Pv i σ H → H T = none → g (.ref T) σ (upd H T (.tup [x, y])) fun σ2 H2 => tw ⟨Pv (i + 1), rt, nx, Pv (i + 1)⟩ σ2 H2) (hd : ∀ σ H, Pv (min xs.length ys.length) σ H → nx σ H) : forW (ItzS b c K p q) g tw ⟨nx, rt, bk, ct⟩ σ H := by
  refine for_it walk_zS Pv h0 hl ?_ hd
  rintro i x σ H H' hi hp ⟨T, y, z, rfl, hT, rfl, e1, e2⟩
  exact hs i y z σ H T e1 e2 hp hT
/-- a comprehension over enumerate from a start -/
theorem lcw_enS {xs : List V} {k : Int} {g : TG} {tt : TT} {te : TE} {vs : List Nat} (S : Hs H0 M H L) (R : Nat → List V → Prop) (r0 : R 0 []) (hl : ∀ H' acc D, Hs H0 M H' ((D, .lst acc) :: L) → Sq b K H' a xs)
    (hs : ∀ D i x acc H' T, xs[i]? = some x → R i acc → H0 D = none → Hs H0 M H' ((D, .lst acc) :: L) → H' T = none → g (.ref T) (wipe σ vs) (upd H' T (.tup [.int (k + (i : Nat)), x])) fun σ2 H2 => wipe σ2 vs = wipe σ vs ∧ tt σ2 H2 fun b H3 => if b = true then te σ2 H3 fun y H4 => lcPut H0 M L (R (i + 1)) D y H4 else lcSkip H0 M L (R (i + 1)) D H3)
    (hd : ∀ D acc H', R xs.length acc → H0 D = none → Hs H0 M H' ((D, .lst acc) :: L) → Q (.ref D) H') : lcW (IteS b k K a) g tt te vs σ H Q := by
  intro D hD
  have S1 := S.new hD (.lst [])
  refine lc_it walk_eS (fun i H' => lcSkip H0 M L (R i) D H') ⟨S1.1, [], r0, S1.2⟩ (fun i H' _ ⟨_, acc, _, S'⟩ => hl H' acc D S') ?_ ?_
  · rintro i x H1 H2 hi ⟨n0, acc, r, S'⟩ ⟨T, y, z, rfl, hT, rfl, e1, e2⟩
    cases e1
    exact hs D i z acc H1 T e2 r n0 S' hT
  · rintro H' ⟨n0, acc, r, S'⟩
    exact hd D acc H' r n0 S'
end
end Xg

/-! Xg2: comprehensions over enumerate of a tuple; comprehensions whose steps change what the ledger holds -/
namespace Xg
open PySem PySem.Spec PySem.Calls PyProof.Rows L2 Rs Xd
section
variable {K : PySem.W.Frag} {H H0 : Hp} {M : List Addr} {L : Led} {σ : L2.St} {a p q : Addr} {Q : VK}
theorem lcw_enT {xs : List V} {g : TG} {tt : TT} {te : TE} {vs : List Nat} (S : Hs H0 M H L) (R : Nat → List V → Prop) (r0 : R 0 []) (hl : ∀ H' acc D, Hs H0 M H' ((D, .lst acc) :: L) → SqT K H' a xs)
    (hs : ∀ D i x acc H' T, xs[i]? = some x → R i acc → H0 D = none → Hs H0 M H' ((D, .lst acc) :: L) → H' T = none → g (.ref T) (wipe σ vs) (upd H' T (.tup [.int (i : Nat), x])) fun σ2 H2 => wipe σ2 vs = wipe σ vs ∧ tt σ2 H2 fun b H3 => if b = true then te σ2 H3 fun y H4 => lcPut H0 M L (R (i + 1)) D y H4 else lcSkip H0 M L (R (i + 1)) D H3)
    (hd : ∀ D acc H', R xs.length acc → H0 D = none → Hs H0 M H' ((D, .lst acc) :: L) → Q (.ref D) H') : lcW (IteT K a) g tt te vs σ H Q := by
  intro D hD
  have S1 := S.new hD (.lst [])
  refine lc_it walk_eT (fun i H' => lcSkip H0 M L (R i) D H') ⟨S1.1, [], r0, S1.2⟩ (fun i H' _ ⟨_, acc, _, S'⟩ => hl H' acc D S') ?_ ?_
  · rintro i x H1 H2 hi ⟨n0, acc, r, S'⟩ ⟨T, y, z, rfl, hT, rfl, e1, e2⟩
    cases e1
    exact hs D i z acc H1 T e2 r n0 S' hT
  · rintro H' ⟨n0, acc, r, S'⟩
    exact hd D acc H' r n0 S'
def lvSkip (H0 : Hp) (M : List Addr) (R1 : List V → Led → Prop) (D : Addr) (H : Hp) : Prop := H0 D = none ∧ ∃ acc L, R1 acc L ∧ Hs H0 M H ((D, .lst acc) :: L)
def lvPut (H0 : Hp) (M : List Addr) (R1 : List V → Led → Prop) (D : Addr) (y : V) (H : Hp) : Prop := ∃ acc, H D = some (.lst acc) ∧ acc.length < sizeLine ∧ lvSkip H0 M R1 D (upd H D (.lst (acc ++ [y])))
theorem rd_lvPut {D : Addr} {y : V} {acc : List V} {L1 L2 : Led} {R1 : List V → Led → Prop} (S : Hs H0 M H L2) (pm : ∀ x, cn x ((D, HO.lst acc) :: L1) ≤ cn x L2) (n : H0 D = none) (hl : acc.length < sizeLine) (r : R1 (acc ++ [y]) L1) : lvPut H0 M R1 D y H := by
  have S1 := S.re pm
  exact ⟨acc, S1.is _ List.mem_cons_self, hl, n, _, _, r, S1.put .here (Or.inl n)⟩
theorem lcv_range {lo : Int} {n : Nat} {g : TG} {tt : TT} {te : TE} {vs : List Nat} (S : Hs H0 M H L) (R : Nat → List V → Led → Prop) (r0 : R 0 [] L)
    (hs : ∀ D i acc L' H', i < n → R i acc L' → H0 D = none → Hs H0 M H' ((D, .lst acc) :: L') → g (.int (lo + i)) (wipe σ vs) H' fun σ2 H2 => wipe σ2 vs = wipe σ vs ∧ tt σ2 H2 fun b H3 => if b = true then te σ2 H3 fun y H4 => lvPut H0 M (R (i + 1)) D y H4 else lvSkip H0 M (R (i + 1)) D H3)
    (hd : ∀ D acc L' H', R n acc L' → H0 D = none → Hs H0 M H' ((D, .lst acc) :: L') → Q (.ref D) H') : lcW (Itr lo n) g tt te vs σ H Q := by
  intro D hD
  have S1 := S.new hD (.lst [])
  refine lc_range (fun i H' => lvSkip H0 M (R i) D H') ⟨S1.1, [], L, r0, S1.2⟩ ?_ ?_
  · rintro i H' hi ⟨n0, acc, L', r, S'⟩
    exact hs D i acc L' H' hi r n0 S'
  · rintro H' ⟨n0, acc, L', r, S'⟩
    exact hd D acc L' H' r n0 S'
theorem lcv_list {a : Addr} {xs : List V} {g : TG} {tt : TT} {te : TE} {vs : List Nat} (S : Hs H0 M H L) (R : Nat → List V → Led → Prop) (r0 : R 0 [] L) (hl : ∀ i H' acc D L', R i acc L' → Hs H0 M H' ((D, .lst acc) :: L') → SqL K H' a xs)
    (hs : ∀ D i x acc L' H', xs[i]? = some x → R i acc L' → H0 D = none → Hs H0 M H' ((D, .lst acc) :: L') → g x (wipe σ vs) H' fun σ2 H2 => wipe σ2 vs = wipe σ vs ∧ tt σ2 H2 fun b H3 => if b = true then te σ2 H3 fun y H4 => lvPut H0 M (R (i + 1)) D y H4 else lvSkip H0 M (R (i + 1)) D H3)
    (hd : ∀ D acc L' H', R xs.length acc L' → H0 D = none → Hs H0 M H' ((D, .lst acc) :: L') → Q (.ref D) H') : lcW (Itl K a) g tt te vs σ H Q := by
  intro D hD
  have S1 := S.new hD (.lst [])
  refine lc_list (xs := xs) (fun i H' => lvSkip H0 M (R i) D H') ⟨S1.1, [], L, r0, S1.2⟩ (fun i H' _ ⟨_, acc, L', r, S'⟩ => hl i H' acc D L' r S') ?_ ?_
  · rintro i x H' hi ⟨n0, acc, L', r, S'⟩
    exact hs D i x acc L' H' hi r n0 S'
  · rintro H' ⟨n0, acc, L', r, S'⟩
    exact hd D acc L' H' r n0 S'
end
end Xg

/-! Xf1: functions held as values behind the end of the def that made them: their cells tracked -/
namespace Xf
open PySem PySem.Spec PySem.Calls PyProof.Rows L2 Rs NdefX
/-- a cell that holds v for good -/
def CellO (c : Addr) (v : V) : HO := .ext fun h => ∃ u, RelV v u ∧ h.IsCell c (some u)
theorem cellO_ok {P : Program} {w : World} {H : Hp} {h : Heap} {c : Addr} {v : V} {u : Value} (r : RelV v u) (e : h.IsCell c (some u)) : ObjOk P w H h c (CellO c v) := by
  obtain ⟨o, ho, hd⟩ := e
  exact ⟨⟨u, r, o, ho, hd⟩, ⟨o, ho⟩, fun h1 h2 ⟨u, r, o, ho, hd⟩ k => ⟨u, r, o, k o ho, hd⟩⟩
theorem cellO_at {P : Program} {w : World} {H : Hp} {h : Heap} {c : Addr} {v : V} (hok : HOk P w H h) (e : H c = some (CellO c v)) : ∃ u, RelV v u ∧ h.IsCell c (some u) := by
  obtain ⟨z, _, _⟩ := hok c _ e
  exact z
/-- cells: where, what -/
abbrev CL := List (Addr × V)
def hide (cs : CL) (H : Hp) : Hp := fun b => match cs.lookup b with
  | some _ => none
  | none => H b
def unhide (cs : CL) (H : Hp) : Hp := fun b => match cs.lookup b with
  | some v => some (CellO b v)
  | none => H b
/-- all are tracked -/
def Trk (cs : CL) (H : Hp) : Prop := ∀ b v, cs.lookup b = some v → H b = some (CellO b v)
section
variable {cs : CL} {H H' : Hp} {b : Addr} {v : V} {o : HO}
theorem hide_in (h : cs.lookup b = some v) : hide cs H b = none := by unfold hide; rw [h]
theorem hide_out (h : cs.lookup b = none) : hide cs H b = H b := by unfold hide; rw [h]
theorem unhide_in (h : cs.lookup b = some v) : unhide cs H b = some (CellO b v) := by unfold unhide; rw [h]
theorem unhide_out (h : cs.lookup b = none) : unhide cs H b = H b := by unfold unhide; rw [h]
theorem hide_none (h : H b = none) : hide cs H b = none := by
  unfold hide
  split
  · rfl
  · exact h
theorem hide_some (h : hide cs H b = some o) : cs.lookup b = none ∧ H b = some o := by
  unfold hide at h
  split at h
  · cases h
  · exact ⟨by assumption, h⟩
theorem Trk.out (t : Trk cs H) (h : H b = some o) (n : ∀ v, o ≠ CellO b v) : cs.lookup b = none := by
  cases e : cs.lookup b with
  | none => rfl
  | some v =>
    rw [t b v e] at h
    exact absurd (Option.some.inj h).symm (n v)
theorem Trk.none (t : Trk cs H) (h : H b = none) : cs.lookup b = none := by
  cases e : cs.lookup b with
  | none => rfl
  | some v => rw [t b v e] at h; cases h
theorem cell_tup {b : Addr} {v : V} {xs : List V} : HO.tup xs ≠ CellO b v := fun z => by cases z
theorem hide_hok {P : Program} {w : World} {h : Heap} (t : Trk cs H) (x : HOk P w H h) : HOk P w (hide cs H) h := fun a o e => by
  obtain ⟨_, e2⟩ := hide_some e
  refine (x a o e2).stay (fun b u _ q => q) (fun b q => ?_) fun b xs q => ?_
  · rw [hide_out (t.out q fun v z => by cases z)]; exact q
  · rw [hide_out (t.out q fun v => cell_tup)]; exact q
theorem unhide_hok {P : Program} {w : World} {h : Heap} (n : ∀ b v, cs.lookup b = some v → H b = Option.none) (c : ∀ b v, cs.lookup b = some v → ∃ u, RelV v u ∧ h.IsCell b (some u)) (x : HOk P w H h) : HOk P w (unhide cs H) h := fun a o e => by
  cases hl : cs.lookup a with
  | some v =>
    rw [unhide_in hl] at e
    cases e
    obtain ⟨u, r, q⟩ := c a v hl
    exact cellO_ok r q
  | none =>
    rw [unhide_out hl] at e
    have out : ∀ {b : Addr} {u : HO}, H b = some u → cs.lookup b = none := fun {b u} q => by
      cases z : cs.lookup b with
      | none => rfl
      | some v => rw [n b v z] at q; cases q
    exact (x a o e).stay (fun b u _ q => q) (fun b q => by rw [unhide_out (out q)]; exact q) fun b xs q => by rw [unhide_out (out q)]; exact q
theorem hide_un {fs ex : List Addr} {H0 : Hp} {h0 h : Heap} (t : Trk cs H) (u : Un fs ex H0 H h0 h) : Un fs ex H0 (hide cs H) h0 h where
  keep := u.keep
  slot := u.slot
  free := fun b o q n x => hide_none (u.free b o q n x)
  there := u.there
  tups := fun b xs q => by
    have z := u.tups b xs q
    rw [hide_out (t.out z fun v => cell_tup)]; exact z
  frzs := fun b o xs q => by
    have z := u.frzs b o xs q
    rw [hide_out (t.out z fun v e => by cases e)]; exact z
  tbls := fun b ps q => by
    obtain ⟨m, z⟩ := u.tbls b ps q
    exact ⟨m, by rw [hide_out (t.out z fun v e => by cases e)]; exact z⟩
/-- what a call made of the heap without the cells, told of the heap with them -/
theorem unhide_un {fs : List Addr} {h h' : Heap} (t : Trk cs H) (hf : ∀ b ∈ fs, H b = Option.none) (u : Un fs [] (hide cs H) H' h h') : Un fs [] H (unhide cs H') h h' where
  keep := fun b o q n => u.keep b o q (hide_none n)
  slot := fun b o q n => u.slot b o q (hide_none n)
  free := fun b o q n x => by rw [unhide_out (t.none n)]; exact u.free b o q (hide_none n) x
  there := u.there
  tups := fun b xs q => by
    have l := t.out q fun v => cell_tup
    rw [unhide_out l]
    exact u.tups b xs (by rw [hide_out l]; exact q)
  frzs := fun b o xs q => by
    have l := t.out q fun v e => by cases e
    rw [unhide_out l]
    exact u.frzs b o xs (by rw [hide_out l]; exact q)
  tbls := fun b ps q => by
    have l := t.out q fun v e => by cases e
    obtain ⟨m, z⟩ := u.tbls b ps (by rw [hide_out l]; exact q)
    exact ⟨m, by rw [unhide_out l]; exact z⟩
theorem unhide_ub {fs : List Addr} {h B h' : Heap} (t : Trk cs H) (u : UB fs (hide cs H) H' h B h') : UB fs H (unhide cs H') h B h' where
  keep := fun b o q n => u.keep b o q (hide_none n)
  slot := u.slot
  free := fun b o q n => by rw [unhide_out (t.none n)]; exact u.free b o q (hide_none n)
  there := u.there
  tups := fun b xs q => by
    have l := t.out q fun v => cell_tup
    rw [unhide_out l]
    exact u.tups b xs (by rw [hide_out l]; exact q)
  frzs := fun b o xs q => by
    have l := t.out q fun v e => by cases e
    rw [unhide_out l]
    exact u.frzs b o xs (by rw [hide_out l]; exact q)
  tbls := fun b ps q => by
    have l := t.out q fun v e => by cases e
    obtain ⟨m, z⟩ := u.tbls b ps (by rw [hide_out l]; exact q)
    exact ⟨m, by rw [unhide_out l]; exact z⟩
end
/-- nothing stands there -/
def Free (cs : CL) (H : Hp) : Prop := ∀ b v, cs.lookup b = some v → H b = none
/-- a wish, of the heap without the cells -/
def Qh (cs : CL) (Q : VK) : VK := fun v H' => Free cs H' → Q v (unhide cs H')
def Eh (cs : CL) (E : XK) : XK := fun c d H' => Free cs H' → E c d (unhide cs H')
section
variable {P : Program} {w : World} {outer : List Env} {cs : CL} {H : Hp} {s s' : Shared} {Q : VK} {E : XK} {u : Value}
theorem cells_kept {fs : List Addr} {h B : Heap} (t : Trk cs H) (hok : HOk P w H h) (hf : ∀ b ∈ fs, H b = none) (k : ∀ b o, h.get? b = some o → hide cs H b = none → b ∉ fs → B.get? b = some o) : ∀ b v, cs.lookup b = some v → ∃ u, RelV v u ∧ B.IsCell b (some u) := fun b v e => by
  obtain ⟨u, r, o, ho, hd⟩ := cellO_at hok (t b v e)
  exact ⟨u, r, o, k b o ho (hide_in e) (fun z => by have := hf b z; rw [t b v e] at this; cases this), hd⟩
theorem ce_unhide (t : Trk cs H) (hok : HOk P w H s.heap) (hf : ∀ b ∈ frs outer, H b = none) (h : CE outer P w (hide cs H) s (Qh cs Q) u s') : CE outer P w H s Q u s' := by
  obtain ⟨v, H', e1, e2, un, hok', r, q⟩ := h
  have ck := cells_kept (P := P) (w := w) t hok hf (fun b o q n nf => un.keep b o q n nf (by simp))
  have fr : Free cs H' := fun b v e => by
    obtain ⟨u, _, o, ho, _⟩ := cellO_at hok (t b v e)
    exact un.free b o ho (hide_in e) (by simp)
  exact ⟨v, unhide cs H', e1, e2, unhide_un t hf un, unhide_hok fr ck hok', r, q fr⟩
theorem cx_unhide (t : Trk cs H) (hok : HOk P w H s.heap) (hf : ∀ b ∈ frs outer, H b = none) (h : L2.CX P w outer (hide cs H) s (Eh cs E) u s') : L2.CX P w outer H s E u s' := by
  obtain ⟨a, B, H', cls, d, e0, fl, hok', ub, na, e1, e2, q⟩ := h
  have ck := cells_kept (P := P) (w := w) t hok hf (fun b o q n nf => ub.keep b o q n nf)
  have fr : Free cs H' := fun b v e => by
    obtain ⟨u, _, o, ho, _⟩ := cellO_at hok (t b v e)
    exact ub.free b o ho (hide_in e)
  refine ⟨a, B, unhide cs H', cls, d, e0, fl, unhide_hok fr ck hok', unhide_ub t ub, ?_, e1, e2, q fr⟩
  cases hl : cs.lookup a with
  | none => rw [unhide_out hl]; exact na
  | some v =>
    obtain ⟨u, _, o, ho, _⟩ := ck a v hl
    have z := fl.2.1
    rw [ho] at z; cases z
end
end Xf

/-! Xh1: lambdas with parameters as values: made, tracked, called -/
namespace Xh
open PySem PySem.Spec PySem.Calls PyProof.Rows L2 LamX NdefX
/-- a lambda's words, its cells, its code object -/
structure LF where
  qual : Str
  params : Arguments
  body : Expr
  scope : Scope
  cl : List (Str × Addr)
  c : Addr
abbrev LF.fd (F : LF) (pm ctv : Value) : FuncData := PySem.W.kla_fn "<lambda>" F.qual F.params F.body F.scope F.cl pm (.ref F.c) ctv
abbrev LF.nf (F : LF) : NF := ⟨"<lambda>", F.qual, F.params, [], F.scope, F.cl, F.c⟩
/-- the object at f is the lambda F -/
def LamO (f : Addr) (F : LF) : HO := .ext fun h => ∃ (pm ctv : Value), h.get? f = some (PySem.W.kla_obj "<lambda>" F.qual F.params F.body F.scope F.cl pm F.c ctv)
theorem lamO_ne {f : Addr} {F : LF} (ps : Array Value) : LamO f F ≠ .tbl ps := fun z => by
  unfold LamO at z
  cases z
theorem lamO_at {P : Program} {w : World} {H : Hp} {h : Heap} {f : Addr} {F : LF} (hok : HOk P w H h) (e : H f = some (LamO f F)) : ∃ (pm ctv : Value), h.get? f = some (PySem.W.kla_obj "<lambda>" F.qual F.params F.body F.scope F.cl pm F.c ctv) := by
  obtain ⟨z, _, _⟩ := hok f _ e
  exact z
section
variable {X : Cx} {pins : List (Addr × Obj)} {σ : L2.St} {H : Hp} {s : Shared}
theorem inv_lam {F : LF} {h' : Heap} {t' : Nat} {pm ctv : Value} (I : Inv X pins σ H { s with heap := h', toks := t' }) :
    Inv X pins σ (upd H h'.objs.size (LamO h'.objs.size F)) { s with heap := h'.push (PySem.W.kla_obj "<lambda>" F.qual F.params F.body F.scope F.cl pm F.c ctv), toks := t' } := by
  refine I.laid (s := { s with heap := h', toks := t' }) (a := h'.objs.size) (fun b u e => Heap.get?_push_of_some _ e) (Nat.le_refl _) ?_
  have e : (h'.push (PySem.W.kla_obj "<lambda>" F.qual F.params F.body F.scope F.cl pm F.c ctv)).get? h'.objs.size = some (PySem.W.kla_obj "<lambda>" F.qual F.params F.body F.scope F.cl pm F.c ctv) := Heap.get?_push_size _ rfl
  exact ⟨⟨pm, ctv, e⟩, ⟨_, e⟩, fun h1 h2 ⟨p, t, z⟩ st => ⟨p, t, st _ z⟩⟩
/-- tables that got one more code object at P -/
theorem tabs_grow {T : List (Addr × Str)} {H G : Hp} {P ca : Addr} {q : Str} {ps : Array Value} {at_ : Pos} (hT : Tabs T H) (same : ∀ r ∈ T, r.1 = P → r.2 = q) (was : H P = some (.tbl ps)) (now : G P = some (.tbl (ps ++ #[rawInt at_.line, rawInt at_.col, .ref ca]))) (code : G ca = some (CodeO ca q))
    (rest : ∀ b o, b ≠ P → H b = some o → G b = some o) : Tabs T G := by
  have codes : ∀ {x : Addr} {y : Str}, H x = some (CodeO x y) → G x = some (CodeO x y) := fun {x y} w => rest x _ (fun z => by
    rw [z, was] at w
    exact codeO_ne ps (Option.some.inj w).symm) w
  intro r hr
  obtain ⟨qs, w1, w2, w3⟩ := hT r hr
  rcases Decidable.em (r.1 = P) with y | y
  · rw [y, was] at w1
    cases w1
    refine ⟨_, by rw [y]; exact now, ?_, fun where_ val found => ?_⟩
    · rw [Array.toList_append]
      exact PySem.TriplesOk_snoc _ _ _ _ w2
    · rw [Array.toList_append] at found
      rcases among_app _ w2 found with old | new_
      · obtain ⟨x, v1, v2⟩ := w3 where_ val old
        exact ⟨x, v1, codes v2⟩
      · exact ⟨ca, new_, by rw [same r hr y]; exact code⟩
  · exact ⟨qs, rest _ _ y w1, w2, fun where_ val found => (w3 where_ val found).imp fun x v => ⟨v.1, codes v.2⟩⟩
/-- a lambda is evaluated: a function object that was not there, its code object new or told by the table -/
theorem lamv_make {T : List (Addr × Str)} {c P : Addr} {ar : Arguments} {bd : Expr} {sco : Scope} {at_ : Pos} {E Q : Value → Shared → Prop} (I : Inv X pins σ H s) (TB : TabB X.base X.mg c P) (own : X.env.code = .ref c) (nodef : defaultsOf ar X.env = ([], []))
    (mine : (P, X.env.qual ++ "<lambda>") ∈ T) (same : ∀ r ∈ T, r.1 = P → r.2 = X.env.qual ++ "<lambda>") (hT : Tabs T H) (held : ∀ y ∈ sco.names, y.2 = .free → ∃ a, X.env.cells.lookup y.1 = some a)
    (go : ∀ (f ca : Addr) (G : Hp) (s' : Shared), Inv X pins σ G s' → ExtN H G → (∀ b, G b = Option.none → H b = Option.none) → Tabs T G → H f = none →
      G f = some (LamO f ⟨X.env.qual ++ "<lambda>", ar, bd, sco, cloFrom X.env.cells sco.names [], ca⟩) → G ca = some (CodeO ca (X.env.qual ++ "<lambda>")) → Q (.ref f) s') :
    wpAny (model X.prog X.w) X.A (eval (.Lambda ar bd sco at_) X.env) Q E s := by
  obtain ⟨qs, was, w2, w3⟩ := hT _ mine
  have stands : s.heap.get? P = some { cls := .none, data := .fields qs } := I.hok P _ was
  refine PySem.W.kla_eval nodef ?_
  rcases found : codeAmong at_ qs.toList with _ | val
  · refine PySem.W.kla_makeFunction (mg := X.mg) (c := c) (P := P) (ps := qs) (closure_ok held) I.ok.glob (I.mod.glob.keeps I.bk) own (TB.code.keeps I.bk) stands w2 found TB.gP (TB.bm.keeps I.bk) fun ca ctv hp tk kept ge lt rcd tab => ?_
    obtain ⟨wh, oc, vs, t, r0, r1, r2, r3⟩ := rcd
    cases r0
    have noC : H ca = none := I.hok.fresh ge
    have J := inv_table (t' := tk) (more := #[rawInt at_.line, rawInt at_.col, .ref ca]) (h' := hp) I was (fun b o n e => kept b o n e) tab ge ⟨oc, vs, t, r1, r2, r3⟩
    have noF := J.hok.fresh (Nat.le_refl hp.objs.size)
    have nPC : P ≠ ca := ne_of_none was noC
    have rest : ∀ b o, b ≠ P → H b = some o → upd (upd (upd H P (.tbl (qs ++ #[rawInt at_.line, rawInt at_.col, .ref ca]))) ca (CodeO ca (X.env.qual ++ "<lambda>"))) hp.objs.size (LamO hp.objs.size ⟨X.env.qual ++ "<lambda>", ar, bd, sco, cloFrom X.env.cells sco.names [], ca⟩) b = some o := fun b o n e => by
      have e2 : upd (upd H P (.tbl (qs ++ #[rawInt at_.line, rawInt at_.col, .ref ca]))) ca (CodeO ca (X.env.qual ++ "<lambda>")) b = some o := by rw [upd_ne (ne_of_none e noC), upd_ne n]; exact e
      rw [upd_ne (ne_of_none e2 noF)]; exact e2
    have atC : upd (upd (upd H P (.tbl (qs ++ #[rawInt at_.line, rawInt at_.col, .ref ca]))) ca (CodeO ca (X.env.qual ++ "<lambda>"))) hp.objs.size (LamO hp.objs.size ⟨X.env.qual ++ "<lambda>", ar, bd, sco, cloFrom X.env.cells sco.names [], ca⟩) ca = some (CodeO ca (X.env.qual ++ "<lambda>")) := by rw [upd_ne (Nat.ne_of_lt lt), upd_same]
    have atP : upd (upd (upd H P (.tbl (qs ++ #[rawInt at_.line, rawInt at_.col, .ref ca]))) ca (CodeO ca (X.env.qual ++ "<lambda>"))) hp.objs.size (LamO hp.objs.size ⟨X.env.qual ++ "<lambda>", ar, bd, sco, cloFrom X.env.cells sco.names [], ca⟩) P = some (.tbl (qs ++ #[rawInt at_.line, rawInt at_.col, .ref ca])) := by
      have e2 : upd (upd H P (.tbl (qs ++ #[rawInt at_.line, rawInt at_.col, .ref ca]))) ca (CodeO ca (X.env.qual ++ "<lambda>")) P = some (.tbl (qs ++ #[rawInt at_.line, rawInt at_.col, .ref ca])) := by rw [upd_ne nPC, upd_same]
      rw [upd_ne (ne_of_none e2 noF)]; exact e2
    exact go hp.objs.size ca _ _ (inv_lam (pm := (X.mg "__name__").getD .none) (ctv := ctv) J) (fun b o e n => rest b o (fun z => by
      rw [z, was] at e
      exact n qs (Option.some.inj e).symm) e) (fun b e => upd_none (upd_none (upd_none e))) (tabs_grow hT same was atP atC rest) (I.hok.fresh (Nat.le_trans ge (Nat.le_of_lt lt))) upd_same atC
  · obtain ⟨ca, rfl, told⟩ := w3 at_ val found
    refine PySem.W.kla_makeFunctionHit (mg := X.mg) (c := c) (P := P) (ps := qs) (closure_ok held) I.ok.glob (I.mod.glob.keeps I.bk) own (TB.code.keeps I.bk) stands w2 found (TB.bm.keeps I.bk) fun ctv hp tk kept sz => ?_
    have J : Inv X pins σ H { s with heap := hp, toks := tk } := I.kept kept
    have noF := J.hok.fresh (Nat.le_refl hp.objs.size)
    have all : ∀ b o, H b = some o → upd H hp.objs.size (LamO hp.objs.size ⟨X.env.qual ++ "<lambda>", ar, bd, sco, cloFrom X.env.cells sco.names [], ca⟩) b = some o := fun b o e => by rw [upd_ne (ne_of_none e noF)]; exact e
    exact go hp.objs.size ca _ _ (inv_lam (pm := (X.mg "__name__").getD .none) (ctv := ctv) J) (fun b o e _ => all b o e) (fun b e => upd_none e) (hT.ext all) noF upd_same (all _ _ told)
end
/-! ### the expression -/
/-- the reading of «lambda ..: ..»: a new function object -/
def tLamV (T : List (Addr × Str)) (mk : Addr → LF) : TE := fun σ H Q => Tabs T H ∧ ∀ (f c' : Addr) (H1 : Hp), ExtN H H1 → (∀ b, H1 b = Option.none → H b = Option.none) → Tabs T H1 → H f = none → H1 f = some (LamO f (mk c')) → H1 c' = some (CodeO c' (mk c').qual) → Q (.ref f) H1
theorem pe_lamv {X : Cx} {T : List (Addr × Str)} {c P : Addr} {params : Arguments} {body : Expr} {scope : Scope} {pos : Pos} (TB : TabB X.base X.mg c P) (hcode : X.env.code = .ref c) (hm : (P, X.env.qual ++ "<lambda>") ∈ T) (hu : ∀ p ∈ T, p.1 = P → p.2 = X.env.qual ++ "<lambda>")
    (hdef : defaultsOf params X.env = ([], [])) (hfree : ∀ y ∈ scope.names, y.2 = .free → X.env.scope.names.lookup y.1 = some .cell ∨ X.env.scope.names.lookup y.1 = some .free) :
    PE X (.Lambda params body scope pos) (tLamV T fun c' => ⟨X.env.qual ++ "<lambda>", params, body, scope, cloFrom X.env.cells scope.names [], c'⟩) := by
  refine ⟨fun pins s σ H Q I h => ?_⟩
  obtain ⟨hT, h⟩ := h
  refine lamv_make I TB hcode hdef hm hu hT (fun y hy e => (hfree y hy e).elim (fun z => I.ok.has _ (.inl z)) fun z => I.ok.has _ (.inr z)) fun f c' H1 s' I1 eN nn T1 f0 f1 c1 => ?_
  exact ⟨.ref f, H1, I1, rfl, h f c' H1 eN nn T1 f0 f1 c1⟩
/-! ### calls of function values -/
/-- what a call of the function at f, of these things, with this heap, keeps -/
def CallsTo (P : Program) (w : World) (K : PySem.W.Frag) (mg : Str → Option Value) (base : Heap) (CX : CXT) (k : Nat) (f : Addr) (H : Hp) (vs : List V) (Q : VK) (E : XK) : Prop :=
  ∀ (A : Around) (outer : List Env) (s : Shared) (us : List Value), Room k A → Env0 P w K mg base A outer s H → Vals vs us → PySem.W.FnAt f s.heap ∧ codeAny (model P w) A (.call (.ref f) ⟨us, []⟩) (CR CX outer P w H s Q E) s
section
variable {CX : CXT} {P : Program} {w : World} {K : PySem.W.Frag} {mg : Str → Option Value} {base : Heap} {N ps : List Str} {F : LF} {f : Addr} {k j : Nat}
/-- a lambda that captures nothing -/
theorem calls_lam {H : Hp} {vs : List V} {Q : VK} {E : XK} {t : TE} (S : NScope N ps [] F.scope) (hcl : F.cl = []) (hb : ∀ (pm ctv : Value) (us : List Value), us.length = ps.length → bindArgs (F.fd pm ctv) ⟨us, []⟩ = pure (ps.zip us)) (hl : vs.length = ps.length)
    (hf : H f = some (LamO f F)) (hc : H F.c = some (CodeO F.c F.qual))
    (hbody : ∀ (A : Around) (outer : List Env) (s : Shared), Room k (A.deeper (envF F.nf f s.heap.objs.size)) → PE (ncx CX P w K mg base N F.nf f A outer s H E) F.body t) (hq : t (startF N vs []) H Q) :
    CallsTo P w K mg base CX (k + 1) f H vs Q E := by
  refine fun A outer s us hr e0 r => ?_
  have unlim : s.heap.NoLimit := e0.mod.nolimit.keeps fun x y z => (e0.bs x y z).1
  obtain ⟨pm, ctv, ho⟩ := lamO_at e0.hok hf
  refine ⟨⟨_, _, _, _, ho⟩, ?_⟩
  refine PySem.W.kla_callFunE hr.depth ho rfl S.co S.gen rfl (codeO_at e0.hok hc) ?_
  rw [hb pm ctv us (by rw [← r.length]; exact hl)]
  refine wpAny_pure (wpAny_newFunctionEnv S.nocell (fun y hy => S.par y.1 (List.of_mem_zip hy).1) (fun hn frm grown => ⟨unlim.fresh _ grown, ?_⟩) S.kind)
  show codeAny _ _ (.expr F.body (envF F.nf f s.heap.objs.size)) _ _
  have still : ∀ x y, s.heap.get? x = some y → hn.get? x = some y := fun x y z => grown.extBut x y (Nat.ne_of_lt (Heap.lt_size z)) (Heap.get?_push_of_some _ z)
  have C : CellsAt F.nf.cl [] [] s.heap H := by
    refine ⟨rfl, fun y c e => ?_, fun x y c e _ => ?_, fun i y e => by simp at e⟩
    · rw [show F.nf.cl = [] from hcl] at e; cases e
    · rw [show F.nf.cl = [] from hcl] at e; cases e
  have I : Inv (ncx CX P w K mg base N F.nf f A outer s H E) [] (startF N vs []) H { s with heap := hn, toks := s.toks + (ps.zip us).length } := inv_startN S hr.hd e0 hl r C frm still
  refine PySem.W.kla_codeExpr (wpAny_mono ((hbody A outer s (hr.deeper _)).run [] _ (startF N vs []) H Q I hq) (fun v s' hq => ?_) fun e s' hq => hq)
  obtain ⟨w', H', J, rv, q⟩ := hq
  exact ⟨w', H', J.os, J.bare, J.base, J.hok, rv, q⟩
end
/-- the object at f is known to be a function -/
def IsFn (f : Addr) (H : Hp) : Prop := ∀ (P : Program) (w : World) (h : Heap), HOk P w H h → PySem.W.FnAt f h
theorem isFn_lam {f : Addr} {F : LF} {H : Hp} (e : H f = some (LamO f F)) : IsFn f H := fun P w h hok => by
  obtain ⟨pm, ctv, ho⟩ := lamO_at hok e
  exact ⟨_, _, _, _, ho⟩
/-- o.m(..), m a field that holds a function -/
def tCallF (X : Cx) (CX : CXT) (k : Nat) (m : Str) (te : TE) (ta : TA) (E : XK) : TE := fun σ H Q => te σ H fun x H1 => ∃ a C dx fs f, x = .ref a ∧ H1 a = some (.ins C dx fs) ∧ Cls X.K C ∧ NoAttr X.K C m ∧ fs.lookup m = some (.ref f) ∧ IsFn f H1 ∧
  ta σ H1 fun vs H2 => CallsTo X.prog X.w X.K X.mg X.base CX k f H2 vs Q E
section
variable {X : Cx} {CX : CXT} {k j : Nat} {m : Str} {E : XK} {te : TE} {ta : TA} {o e : Expr} {es : List Expr} {apos pos : Pos}
theorem getfn_ok {H : Hp} {σ : L2.St} {s : Shared} {pins : List (Addr × Obj)} {a C dx : Addr} {fs : List (Str × V)} {v : V} {pl : Sem Bool} {Q : Value × List Value → Shared → Prop} (I : Inv X pins σ H s) (e : H a = some (.ins C dx fs)) (c : Cls X.K C) (n : NoAttr X.K C m) (l : fs.lookup m = some v)
    (h : ∀ u s', Inv X pins σ H s' → RelV v u → Q (u, []) s') : wpAny (model X.prog X.w) X.A (getMethod (.ref a) m pl) Q X.xe s := by
  obtain ⟨mm, ob, rr, _⟩ := ins_get I.hok e
  obtain ⟨u, hu, ru⟩ := RelO.some_of (v := v) (o := mm m) (by rw [← l]; exact rr m)
  obtain ⟨od, J, hl⟩ := ob.look
  refine PySem.W.method_usual (r := none) I.kIn J (PySem.W.plainGet_of (c.get m)).1 (PySem.W.plainGet_of (c.get m)).2 n rfl ?_
  exact get_map I.kIn ob (c.get m) c.hd n hu (handed_of ru) (h u _ (I.tok _) ru)
theorem pe_callF {pl : Sem Bool} (he : PE X o te) (ha : PA X (e :: es) ta) (hr : Room j X.A) (hk : k ≤ j) (hx : Passes CX X E)
    (ht : eval (.Call (.Attribute o m apos) (e :: es) [] pos) X.env = (do let recv ← eval o X.env; standAt apos.atName; let (fn_, first_) ← holding [recv] (getMethod recv m pl); callWith pos fn_ first_ (backTo pos (starEach (e :: es) X.env)) (backToKw pos (keywordEach [] X.env))) := by rfl)
    (hs : starEach (e :: es) X.env = (false, eval e X.env) :: starEach es X.env := by rfl) (hpl : (backTo pos (starEach es X.env)).any (·.1) = false := by rfl) :
    PE X (.Call (.Attribute o m apos) (e :: es) [] pos) (tCallF X CX k m te ta E) := by
  refine ⟨fun pins s σ H Q I h => ?_⟩
  refine PySem.W.methodCall_KW (pl := pl) (thn (he.run pins s σ H _ I h) fun u s1 ⟨x, H1, I1, rx, a, C, dx, fs, f, ex, ea, c, n, l, hfn, q⟩ => ?_) ht
  subst ex
  cases (show u = Value.ref a from rx)
  refine getfn_ok I1 ea c n l fun u2 s2 I2 ru => ?_
  obtain rfl : u2 = Value.ref f := ru
  show wpAny _ _ (callWith pos (.ref f) [] (backTo pos (starEach (e :: es) X.env)) []) _ _ s2
  refine PySem.W.callWith_F (first := []) (hfn _ _ _ I2.hok) ?_ hs hpl
  refine thn (ha.run pos pins s2 σ H1 _ I2 q) fun us s3 ⟨vs, H2, I3, r, q3⟩ => ?_
  obtain ⟨z1, z2⟩ := q3 X.A X.stack s3 us (hr.mono hk) I3.env0 r
  refine ⟨z1, wpAny_call (codeAny_mono z2 fun r s' hq => ?_)⟩
  cases r with
  | error e => exact hx pins σ H2 s3 e s' I3 hq
  | ok fl =>
    cases fl with
    | ret u => exact I3.after hq
    | next => exact False.elim hq
    | brk => exact False.elim hq
    | cont => exact False.elim hq
end
end Xh

/-! Xh2: defs with defaults of both kinds -/
namespace Xh
open PySem PySem.Spec PySem.Calls PyProof.Rows L2 Rs
structure CalDD (K : PySem.W.Frag) (mg : Str → Option Value) (x : Str) (st : Stmt) (dvs : List V) (kws : List (Str × V)) (f : Addr) (fd : FuncData) : Prop where
  F : FunD K x x (defArgs st) (defBody st) (defScope st) dvs kws f fd
  m : mg x = some (.ref f)
section
variable {σ : L2.St} {H H0 : Hp} {M : List Addr} {L L' : Led} {Q : VK} {te : TE} {ta : TA} {a : Addr}
theorem rd_callF {X : Cx} {CX : CXT} {k : Nat} {m : Str} {E : XK} (h : te σ H fun x H1 => ∃ a C dx fs f, x = .ref a ∧ H1 a = some (.ins C dx fs) ∧ Cls X.K C ∧ NoAttr X.K C m ∧ fs.lookup m = some (.ref f) ∧ IsFn f H1 ∧
  ta σ H1 fun vs H2 => CallsTo X.prog X.w X.K X.mg X.base CX k f H2 vs Q E) : tCallF X CX k m te ta E σ H Q := h
theorem rd_callFV {K : PySem.W.Frag} {m : Str} {C dx f : Addr} {fs : List (Str × V)} {R : Addr → Prop} (S : Hs H0 M H L) (hm : (a, HO.ins C dx fs) ∈ L) (c : Cls K C) (n : NoAttr K C m) (e : fs.lookup m = some (.ref f)) (hf : IsFn f H) (h : R f) :
    ∃ a' C dx fs f, V.ref a = .ref a' ∧ H a' = some (.ins C dx fs) ∧ Cls K C ∧ NoAttr K C m ∧ fs.lookup m = some (.ref f) ∧ IsFn f H ∧ R f := ⟨a, C, dx, fs, f, rfl, S.is _ hm, c, n, e, hf, h⟩
end
end Xh

/-! Xh3: repr of a list of things, some of them pairs (text, thing) -/
namespace Xh
open PySem PySem.Spec PySem.Calls PyProof.Rows L2 Rs Xc
inductive Tp (K : PySem.W.Frag) (H : Hp) : V → PyData → Prop where
  | tz {v : V} {d : PyData} (h : Tz K H v d) : Tp K H v d
  | pr {p : Addr} {t : Str} {v : V} {d : PyData} (h : SqT K H p [.str t, v]) (q : Tz K H v d) : Tp K H (.ref p) (.tuple [.str t, d])
inductive TpA (K : PySem.W.Frag) (H : Hp) : List V → List PyData → Prop where
  | nil : TpA K H [] []
  | cons {v : V} {d : PyData} {vs : List V} {ds : List PyData} : Tp K H v d → TpA K H vs ds → TpA K H (v :: vs) (d :: ds)
def rReprP (K : PySem.W.Frag) : List V → Hp → VK → Prop := fun xs H Q => ∃ (p : Addr) (vs : List V) (ds : List PyData), xs = [.ref p] ∧ SqL K H p vs ∧ TpA K H vs ds ∧ vs ≠ [] ∧ (PyData.list ds).shown.length ≤ sizeLine ∧ PyData.depthAll ds ≤ 30 ∧ Q (.str (PyData.list ds).shown) H
section
variable {X : Cx} {pins : List (Addr × Obj)} {σ : L2.St} {H : Hp} {s : Shared}
theorem tz_shows (I : Inv X pins σ H s) (st : Stat X.K) {n : Nat} {v : V} {d : PyData} {u : Value} (h : Tz X.K H v d) (r : RelV v u) (hz : d.shown.length ≤ sizeLine) (hd : d.depth ≤ n) :
    ∃ bs, ReadAtMost s.heap d.depth bs ∧ ReprK X.prog X.w bs s.heap n u d.shown := by
  cases h with
  | dp h sw =>
    obtain ⟨as, q⟩ := Dp.reads I d v u h r
    obtain ⟨bs, h1, h2⟩ := ReprK.of_reads (prog := X.prog) (w := X.w) q sw (PyData.noDict_hsm (dp_noDict d v h)) hz
    exact ⟨bs, h1, h2.level_le hd⟩
  | @dk a kv kds h p sw =>
    cases (show u = Value.ref a from r)
    obtain ⟨_, ns, vs, kv', o, es, ep, e1, e2, e3, _, e5, _⟩ := dk_of I.hok h
    obtain ⟨r1, r2⟩ := plKv_reads (h := s.heap) p kv' e5
    have q : Reads s.heap (.ref a) (.dict kds) ([a] ++ [] ++ []) := Reads.dict (as := []) (bs := []) e1 e2.1 e3 r1 r2
    obtain ⟨bs, h1, h2⟩ := ReprK.of_reads (prog := X.prog) (w := X.w) q sw (fun _ hm => by
      have z : sysModules = a := by simpa using hm
      rw [z] at ns
      simp at ns) hz
    exact ⟨bs, h1, h2.level_le hd⟩
  | @big i f =>
    obtain ⟨tk, rfl⟩ := (show ∃ tk, u = Value.int i tk from r)
    exact ⟨[], fun _ h => (nomatch h), by simp only [PyData.shown]; exact reprK_big I.kIn st f⟩
theorem Tp.reads (I : Inv X pins σ H s) {v : V} {d : PyData} {u : Value} (h : Tp X.K H v d) (r : RelV v u) : ∃ as, Reads s.heap u d as := by
  cases h with
  | tz h => exact h.reads I r
  | @pr p t v d h q =>
    cases (show u = Value.ref p from r)
    obtain ⟨its, rv, ⟨o, ho, hc, n, hd⟩, _⟩ := I.tuple h
    obtain ⟨u1, u2, rfl, q1, q2⟩ := vals2 rv
    obtain ⟨tk, rfl⟩ := (show ∃ tk, u1 = Value.str t tk from q1)
    obtain ⟨as, rd⟩ := q.reads I q2
    exact ⟨_, Reads.tuple ho hc hd (.cons (.str t tk) (.cons rd .nil))⟩
theorem Tp.shows (I : Inv X pins σ H s) (st : Stat X.K) {n : Nat} {v : V} {d : PyData} {u : Value} (h : Tp X.K H v d) (r : RelV v u) (hz : d.shown.length ≤ sizeLine) (hd : d.depth ≤ n) :
    ∃ bs, ReadAtMost s.heap d.depth bs ∧ ReprK X.prog X.w bs s.heap n u d.shown := by
  cases h with
  | tz h => exact tz_shows I st h r hz hd
  | @pr p t v d h q =>
    have hrd := Tp.reads I (.pr h q) r
    obtain ⟨as, rdp⟩ := hrd
    cases (show u = Value.ref p from r)
    obtain ⟨its, rv, ⟨o, ho, hc, n2, hdt⟩, _⟩ := I.tuple h
    obtain ⟨u1, u2, rfl, q1, q2⟩ := vals2 rv
    obtain ⟨tk, rfl⟩ := (show ∃ tk, u1 = Value.str t tk from q1)
    have es : (PyData.tuple [.str t, d]).shown = tupleText [reprText t, d.shown] := by simp [PyData.shown, PyData.shownAll]
    rw [es] at hz ⊢
    have z1 := Nat.le_trans (tupleText_mem_le (ts := [reprText t, d.shown]) (t := reprText t) (by simp)) hz
    have z2 := Nat.le_trans (tupleText_mem_le (ts := [reprText t, d.shown]) (t := d.shown) (by simp)) hz
    have ed : (PyData.tuple [.str t, d]).depth = d.depth + 1 := by
      simp only [PyData.depth, PyData.depthAll]; omega
    rw [ed] at hd
    obtain ⟨m, rfl⟩ : ∃ m, n = m + 1 := ⟨n - 1, by omega⟩
    obtain ⟨bs, hb, rk⟩ := tz_shows I st (n := m) q q2 z2 (by omega)
    have hall : ReprAllK X.prog X.w bs s.heap m [.str t tk, u2] [reprText t, d.shown] := .cons (ReprK.of_is (ReprIs.str t tk z1) _ _ _) (.cons rk .nil)
    have hna : p ∉ bs := not_mem_of_deeper rdp (by rw [ed]; omega) hb
    refine ⟨p :: bs, ReadAtMost.cons rdp (Nat.le_refl _) (hb.mono (by rw [ed]; omega)), ?_⟩
    exact ReprK.tuple ho hc hdt hna hall
theorem TpA.reads (I : Inv X pins σ H s) : ∀ {vs : List V} {ds : List PyData} {us : List Value}, TpA X.K H vs ds → Vals vs us → ∃ as, ReadsAll s.heap us ds as
  | _, _, _, .nil, .nil => ⟨_, .nil⟩
  | _, _, _, .cons h t, .cons r q => by
    obtain ⟨a, h1⟩ := h.reads I r
    obtain ⟨b, h2⟩ := TpA.reads I t q
    exact ⟨_, .cons h1 h2⟩
theorem TpA.shows (I : Inv X pins σ H s) (st : Stat X.K) {n : Nat} (hn : n ≤ 50) : ∀ {vs : List V} {ds : List PyData} {us : List Value}, TpA X.K H vs ds → Vals vs us → (∀ d ∈ ds, d.shown.length ≤ sizeLine) → PyData.depthAll ds ≤ n →
    ∃ bs, ReadAtMost s.heap n bs ∧ ReprAllK X.prog X.w bs s.heap 50 us (PyData.shownAll ds)
  | _, _, _, .nil, .nil, _, _ => ⟨[], fun _ h => (nomatch h), by simp only [PyData.shownAll]; exact .nil⟩
  | _, _, _, .cons (d := d) h t, .cons r q, hz, hd => by
    simp only [PyData.depthAll] at hd
    obtain ⟨b1, m1, k1⟩ := h.shows I st (n := 50) r (hz d List.mem_cons_self) (by omega)
    obtain ⟨b2, m2, k2⟩ := TpA.shows I st hn t q (fun d hm => hz d (List.mem_cons_of_mem _ hm)) (by omega)
    refine ⟨b1 ++ b2, fun b hb => ?_, by
      simp only [PyData.shownAll]
      exact .cons (ReprK.more k1 fun b z => List.mem_append_left _ z) (k2.more_le (fun b z => List.mem_append_right _ z) (Nat.le_refl _))⟩
    rcases List.mem_append.mp hb with z | z
    · obtain ⟨d', as', r', hd'⟩ := m1 b z
      exact ⟨d', as', r', by omega⟩
    · exact m2 b z
theorem call_reprPs {k : Nat} (st : Stat X.K) (c : Clr X.A) (hr : Room k X.A) : CallR X (.builtin "repr") (rReprP X.K) := by
  intro pins s σ H xs us Q I r h
  obtain ⟨p, vs, ds, rfl, hs, hq, hne, sw, dp, q⟩ := h
  cases r with
  | cons r1 r2 =>
    cases r2
    rename_i u
    cases (show u = Value.ref p from r1)
    obtain ⟨its, rv, ⟨o, n, ho, hc, hdn, hd⟩, hlen⟩ := I.list hs
    have un := hr.units
    obtain ⟨as, rd⟩ := hq.reads I rv
    have sz : ∀ d ∈ ds, d.shown.length ≤ sizeLine := fun d hm => by
      have z := listText_mem_le (ts := PyData.shownAll ds) (shown_of hm)
      simp only [PyData.shown] at sw
      omega
    obtain ⟨bs, hb, rk⟩ := hq.shows (n := PyData.depthAll ds) I st (by omega) rv sz (Nat.le_refl _)
    have own : Reads s.heap (.ref p) (.list ds) (p :: as) := Reads.list ho hc hd (by simpa using rd)
    have hna : p ∉ bs := fun hm => by
      obtain ⟨d', as', r', hd'⟩ := hb p hm
      have e := (PyProof.Rows.reads_det (fun _ _ e _ => e) own r').1
      rw [e] at hd'
      simp only [PyData.depth] at hd'
      omega
    cases its with
    | nil =>
      have := rv.length
      simp at this
      exact absurd this hne
    | cons y ys =>
      simp only [PyData.shown] at sw q
      refine call_repr_slot (by omega) ⟨o, ho, hc⟩ F.slot_list_repr.toG ?_
      exact call_list_reprK ho hc (by simpa using hd) hna (by rw [rk.length_eq]; simp) (fun i z e => rk.item i z (by simpa using e)) c (fun b _ => Clear.nil b) (by show X.A.units + 1 + (50 + 1) < cLine; omega) (fun _ _ e => e) (fun h' t2 tk2 kp => ⟨_, _, rfl, ⟨.str _, H, I.kept kp, ⟨t2, rfl⟩, q⟩⟩) sw
end
end Xh

/-! Xh4: comprehensions over enumerate of a list whose steps change the ledger; lambdas as values in the readings -/
namespace Xh
open PySem PySem.Spec PySem.Calls PyProof.Rows L2 Rs Xg
section
variable {K : PySem.W.Frag} {H H0 : Hp} {M : List Addr} {L : Led} {σ : L2.St} {a : Addr} {Q : VK}
theorem lcv_enum {xs : List V} {g : TG} {tt : TT} {te : TE} {vs : List Nat} (S : Hs H0 M H L) (R : Nat → List V → Led → Prop) (r0 : R 0 [] L) (hl : ∀ i H' acc D L', R i acc L' → Hs H0 M H' ((D, .lst acc) :: L') → SqL K H' a xs)
    (hs : ∀ D i x acc L' H' T, xs[i]? = some x → R i acc L' → H0 D = none → Hs H0 M H' ((D, .lst acc) :: L') → H' T = none → g (.ref T) (wipe σ vs) (upd H' T (.tup [.int (i : Nat), x])) fun σ2 H2 => wipe σ2 vs = wipe σ vs ∧ tt σ2 H2 fun b H3 => if b = true then te σ2 H3 fun y H4 => lvPut H0 M (R (i + 1)) D y H4 else lvSkip H0 M (R (i + 1)) D H3)
    (hd : ∀ D acc L' H', R xs.length acc L' → H0 D = none → Hs H0 M H' ((D, .lst acc) :: L') → Q (.ref D) H') : lcW (Ite K a) g tt te vs σ H Q := by
  intro D hD
  have S1 := S.new hD (.lst [])
  refine lc_it walk_enum (fun i H' => lvSkip H0 M (R i) D H') ⟨S1.1, [], L, r0, S1.2⟩ (fun i H' _ ⟨_, acc, L', r, S'⟩ => hl i H' acc D L' r S') ?_ ?_
  · rintro i x H1 H2 hi ⟨n0, acc, L', r, S'⟩ ⟨T, y, z, rfl, hT, rfl, e1, e2⟩
    cases e1
    exact hs D i z acc L' H1 T e2 r n0 S' hT
  · rintro H' ⟨n0, acc, L', r, S'⟩
    exact hd D acc L' H' r n0 S'
end
end Xh

/-! Xh5: a nested def as a value, called behind the end of its maker: its cells are tracked -/
namespace Xh
open PySem PySem.Spec PySem.Calls PyProof.Rows L2 LamX NdefX Xf
/-- the cells of cl are those of cs; ws: what the names fr stand for -/
structure ClAt (cl : List (Str × Addr)) (fr : List Str) (ws : List (Option V)) (cs : CL) : Prop where
  len : ws.length = fr.length
  all : ∀ y c, cl.lookup y = some c → ∃ v, cs.lookup c = some v
  inj : ∀ x y c, cl.lookup x = some c → cl.lookup y = some c → x = y
  has : ∀ (i : Nat) (y : Str), fr[i]? = some y → ∃ c, cl.lookup y = some c ∧ ∀ v, ws[i]? = some (some v) → cs.lookup c = some v
section
variable {CX : CXT} {P : Program} {w : World} {K : PySem.W.Frag} {mg : Str → Option Value} {base : Heap} {N ps fr : List Str} {F : NF} {f : Addr} {k j : Nat} {sp : List (Option V) → Sp} {cs : CL} {H : Hp}
theorem fn_out {h : Heap} (t : Trk cs H) (hok : HOk P w H h) (e : H f = some (FnO f F)) : cs.lookup f = none := by
  rcases q : cs.lookup f with _ | v
  · rfl
  · obtain ⟨u, _, o, ho, hd⟩ := cellO_at hok (t f v q)
    obtain ⟨od, sl, doc, pm, ctv, ho2⟩ := fnO_at hok e
    rw [ho2] at ho
    cases ho
    cases hd
theorem isFn_nd (e : H f = some (FnO f F)) : IsFn f H := fun P w h hok => by
  obtain ⟨od, sl, doc, pm, ctv, ho⟩ := fnO_at hok e
  exact ⟨_, _, _, _, ho⟩
theorem code_out {h : Heap} {c : Addr} {q : Str} (t : Trk cs H) (hok : HOk P w H h) (e : H c = some (CodeO c q)) : cs.lookup c = none := by
  rcases z : cs.lookup c with _ | v
  · rfl
  · obtain ⟨u, _, o, ho, hd⟩ := cellO_at hok (t c v z)
    obtain ⟨⟨oc, vs, tk, h1, h2, h3⟩, _, _⟩ := hok c _ e
    rw [ho] at h1
    cases h1
    rw [h2] at hd
    cases hd
theorem env_hide {A : Around} {outer : List Env} {s : Shared} (t : Trk cs H) (e : Env0 P w K mg base A outer s H) : Env0 P w K mg base A outer s (hide cs H) :=
  ⟨e.frames, e.mod, fun b o q => ⟨(e.bs b o q).1, hide_none (e.bs b o q).2⟩, e.bsz, e.funs, fun b q => hide_none (e.frf b q), hide_hok t e.hok, e.bare⟩
theorem cells_hide {h : Heap} {ws : List (Option V)} (t : Trk cs H) (hok : HOk P w H h) (c : ClAt F.cl fr ws cs) : CellsAt F.cl fr ws h (hide cs H) := by
  refine ⟨c.len, fun y a e => ?_, c.inj, fun i y e => ?_⟩
  · obtain ⟨v, q⟩ := c.all y a e
    obtain ⟨u, _, z⟩ := cellO_at hok (t a v q)
    exact ⟨hide_in q, _, z⟩
  · obtain ⟨a, e1, e2⟩ := c.has i y e
    refine ⟨a, e1, fun v ev => ?_⟩
    obtain ⟨u, r, z⟩ := cellO_at hok (t a v (e2 v ev))
    exact ⟨u, r, z⟩
/-- a nested def, called later: what its body promises of the heap less its cells -/
theorem calls_nd {vs : List V} {ws : List (Option V)} {Q : VK} {E : XK} (o : NOk P w K mg base (L2.CX P w) k f F ps fr sp) (t : Trk cs H) (c : ClAt F.cl fr ws cs) (hf : H f = some (FnO f F)) (hc : H F.c = some (CodeO F.c F.qual)) (q : sp ws vs (hide cs H) (Qh cs Q) (Eh cs E)) :
    CallsTo P w K mg base (L2.CX P w) k f H vs Q E := by
  refine fun A outer s us hr e0 r => ⟨isFn_nd hf _ _ _ e0.hok, ?_⟩
  have run := o.run A outer s (hide cs H) us vs ws (Qh cs Q) (Eh cs E) hr (env_hide t e0) (by rw [hide_out (fn_out t e0.hok hf)]; exact hf) (by rw [hide_out (code_out t e0.hok hc)]; exact hc) (cells_hide t e0.hok c) r q
  refine codeAny_mono run fun rs s' z => ?_
  cases rs with
  | error e => exact cx_unhide t e0.hok e0.frf z
  | ok fl =>
    cases fl with
    | ret u => exact ce_unhide t e0.hok e0.frf z
    | next => exact z.elim
    | brk => exact z.elim
    | cont => exact z.elim
end
end Xh

/-! Xh6: a def that hands out functions which capture its names: at its end its cells are heap objects -/
namespace Xh
open PySem PySem.Spec PySem.Calls PyProof.Rows L2 LamX NdefX Xf
structure EndsR where
  nx : L2.St → Hp → Prop
  rt : V → L2.St → Hp → Prop
abbrev TSR := EndsR → L2.St → Hp → Prop
def SPR (X : Cx) (pins : List (Addr × Obj)) (D : EndsR) (f : Flow) (s' : Shared) : Prop :=
  match f with
  | .next => ∃ σ' H', Inv X pins σ' H' s' ∧ D.nx σ' H'
  | .ret u => ∃ v σ' H', Inv X pins σ' H' s' ∧ RelV v u ∧ D.rt v σ' H'
  | _ => False
/-- a block; what is told is told with the slots -/
structure PSr (X : Cx) (st : List Stmt) (t : TSR) : Prop where
  run : ∀ (pins : List (Addr × Obj)) (s : Shared) (σ : L2.St) (H : Hp) (D : EndsR), Inv X pins σ H s → t D σ H → wpAny (model X.prog X.w) X.A (execs st X.env) (SPR X pins D) X.xe s
structure P1r (X : Cx) (st : Stmt) (t : TSR) : Prop where
  run : ∀ (pins : List (Addr × Obj)) (s : Shared) (σ : L2.St) (H : Hp) (D : EndsR), Inv X pins σ H s → t D σ H → wpAny (model X.prog X.w) X.A (exec st X.env) (SPR X pins D) X.xe s
def tLift (t : TS) : TSR := fun D σ H => t ⟨D.nx, fun _ _ => False, fun _ _ => False, fun _ _ => False⟩ σ H
def tSeqR (t u : TSR) : TSR := fun D σ H => t ⟨fun σ H => u D σ H, D.rt⟩ σ H
def tRetR (t : TE) : TSR := fun D σ H => t σ H fun v H' => D.rt v σ H'
def tIfR (c : TT) (t u : TSR) : TSR := fun D σ H => c σ H fun b H1 => if b = true then t D σ H1 else u D σ H1
def tNextR : TSR := fun D σ H => D.nx σ H
section
variable {X : Cx} {st : Stmt} {rest : List Stmt} {t u : TSR} {pos : Pos}
theorem p1_lift {t : TS} (h : PS X st t) : P1r X st (tLift t) := by
  refine ⟨fun pins s σ H D I q => thn (h.run pins s σ H _ I q) fun f s1 z => ?_⟩
  cases f with
  | next => exact z
  | ret v => obtain ⟨_, _, _, _, _, q⟩ := z; exact q.elim
  | brk => obtain ⟨_, _, _, q⟩ := z; exact q.elim
  | cont => obtain ⟨_, _, _, q⟩ := z; exact q.elim
theorem p1_ret {e : Expr} {te : TE} (he : PE X e te) : P1r X (.Return (some e) pos) (tRetR te) := by
  refine ⟨fun pins s σ H D I h => ?_⟩
  exact wpAny_Return_some (thn (he.run pins s σ H _ I h) fun v s1 ⟨x, H1, I1, r1, q1⟩ => ⟨x, σ, H1, I1, r1, q1⟩)
theorem psr_cons (h1 : P1r X st t) (h2 : PSr X rest u) : PSr X (st :: rest) (tSeqR t u) := by
  refine ⟨fun pins s σ H D I h => ?_⟩
  refine wpAny_execs_cons (thn (h1.run pins s σ H ⟨u D, D.rt⟩ I h) fun f s1 q => ?_)
  cases f with
  | next =>
    obtain ⟨σ', H', I', q⟩ := q
    exact h2.run pins s1 σ' H' D I' q
  | ret v => exact q
  | brk => exact q.elim
  | cont => exact q.elim
theorem psr_nil : PSr X [] tNextR := ⟨fun pins s σ H D I h => wpAny_execs_nil ⟨σ, H, I, h⟩⟩
theorem psr_one (h1 : P1r X st t) : PSr X [st] t := by
  refine ⟨fun pins s σ H D I h => ?_⟩
  refine wpAny_execs_cons (thn (h1.run pins s σ H D I h) fun f s1 q => ?_)
  cases f with
  | next => exact wpAny_execs_nil q
  | ret v => exact q
  | brk => exact q.elim
  | cont => exact q.elim
theorem p1_if {c : Expr} {a b : List Stmt} {tc : TT} (hc : PT X c tc) (ha : PSr X a t) (hb : PSr X b u) : P1r X (.If c a b pos) (tIfR tc t u) := by
  refine ⟨fun pins s σ H D I h => ?_⟩
  refine wpAny_If (thn (hc.run pins s σ H _ I h) fun d s1 ⟨H1, I1, q1⟩ => ?_)
  cases d with
  | true => exact ha.run pins s1 σ H1 D I1 q1
  | false => exact hb.run pins s1 σ H1 D I1 q1
end
/-! ### the handing over -/
/-- the cells of cl, with what the names hold -/
structure Cov (N : List Str) (cl : List (Str × Addr)) (σ : L2.St) (cs : CL) : Prop where
  has : ∀ (y : Str) (c : Addr) (j : Nat) (v : V), cl.lookup y = some c → N[j]? = some y → σ[j]? = some (some v) → cs.lookup c = some v
  own : ∀ (c : Addr) (v : V), cs.lookup c = some v → ∃ (y : Str) (j : Nat), cl.lookup y = some c ∧ N[j]? = some y ∧ σ[j]? = some (some v)
theorem graph_lookup {ks : List Addr} {g : Addr → V} {c : Addr} (h : c ∈ ks) : (ks.map fun c => (c, g c)).lookup c = some (g c) := by
  induction ks with
  | nil => cases h
  | cons k ks ih =>
    simp only [List.map_cons, List.lookup_cons]
    by_cases e : c = k
    · subst e; simp
    · rw [show (c == k) = false by simpa using e]
      rcases List.mem_cons.mp h with q | q
      · exact absurd q e
      · exact ih q
theorem graph_mem {ks : List Addr} {g : Addr → V} {c : Addr} {v : V} (h : (ks.map fun c => (c, g c)).lookup c = some v) : c ∈ ks ∧ v = g c := by
  induction ks with
  | nil => cases h
  | cons k ks ih =>
    simp only [List.map_cons, List.lookup_cons] at h
    by_cases e : c = k
    · subst e
      simp only [beq_self_eq_true] at h
      exact ⟨List.mem_cons_self, (Option.some.inj h).symm⟩
    · rw [show (c == k) = false by simpa using e] at h
      obtain ⟨a, b⟩ := ih h
      exact ⟨List.mem_cons_of_mem _ a, b⟩
open Classical in
theorem cov_ex {N : List Str} {cl : List (Str × Addr)} {σ : L2.St} (nd : N.Nodup) (inj : ∀ x y c, cl.lookup x = some c → cl.lookup y = some c → x = y) (all : ∀ (y : Str) (c : Addr), cl.lookup y = some c → ∃ (j : Nat) (v : V), N[j]? = some y ∧ σ[j]? = some (some v)) : ∃ cs, Cov N cl σ cs := by
  let good : Addr → V → Prop := fun c v => ∃ (y : Str) (j : Nat), cl.lookup y = some c ∧ N[j]? = some y ∧ σ[j]? = some (some v)
  let g : Addr → V := fun c => if h : ∃ v, good c v then h.choose else .non
  let ks : List Addr := (cl.map (·.2)).filter fun c => decide (∃ v, good c v)
  refine ⟨ks.map fun c => (c, g c), fun y c j v h1 h2 h3 => ?_, fun c v h => ?_⟩
  · have hg : ∃ v, good c v := ⟨v, y, j, h1, h2, h3⟩
    have hm : c ∈ ks := by
      refine List.mem_filter.mpr ⟨?_, decide_eq_true hg⟩
      exact List.mem_map.mpr ⟨(y, c), PySem.mem_of_lookup h1, rfl⟩
    rw [graph_lookup (g := g) hm]
    have eg : g c = hg.choose := dif_pos hg
    obtain ⟨y', j', a1, a2, a3⟩ := hg.choose_spec
    have ey : y = y' := inj _ _ _ h1 a1
    subst ey
    have ej : j = j' := by
      have l1 := (List.getElem?_eq_some_iff.mp h2).1
      exact (List.getElem?_inj l1 nd).mp (h2.trans a2.symm)
    subst ej
    rw [h3] at a3
    rw [eg]
    exact congrArg some (Option.some.inj (Option.some.inj a3)).symm
  · obtain ⟨h1, h2⟩ := graph_mem h
    have hg : ∃ v, good c v := by simpa using (List.mem_filter.mp h1).2
    have eg : g c = hg.choose := dif_pos hg
    rw [h2, eg]
    exact hg.choose_spec
/-- what is wished for at the end of a def whose cells are cl, told of the heap with the cells -/
def Handed (N : List Str) (cl : List (Str × Addr)) (σ : L2.St) (H : Hp) (R : Hp → Prop) : Prop :=
  (∀ (y : Str) (c : Addr), cl.lookup y = some c → ∃ (j : Nat) (v : V), N[j]? = some y ∧ σ[j]? = some (some v)) ∧ ∀ cs : CL, (∀ (x y : Str) (c : Addr), cl.lookup x = some c → cl.lookup y = some c → x = y) → Cov N cl σ cs → Free cs H → R (unhide cs H)
theorem cellsFrom_kind : ∀ (names : List (Str × NameKind)) (n : Nat) (acc : List (Str × Addr)) (y : Str) (c : Addr), (y, c) ∈ cellsFrom n names acc → (y, c) ∈ acc ∨ (y, NameKind.cell) ∈ names
  | [], _, _, _, _, h => .inl h
  | (x, k) :: names, n, acc, y, c, h => by
    unfold cellsFrom at h
    split at h
    · rename_i e
      have e : k = NameKind.cell := by
        cases k <;> first | rfl | exact absurd e (by decide)
      rcases cellsFrom_kind names _ _ y c h with q | q
      · rcases List.mem_cons.mp q with e2 | q
        · cases e2; exact .inr (by rw [e]; exact List.mem_cons_self)
        · exact .inl q
      · exact .inr (List.mem_cons_of_mem _ q)
    · exact (cellsFrom_kind names _ _ y c h).imp_right (List.mem_cons_of_mem _)
theorem look_nodup {α : Type} : ∀ {l : List (Str × α)} {y : Str} {k : α}, (l.map (·.1)).Nodup → (y, k) ∈ l → l.lookup y = some k
  | [], _, _, _, h => nomatch h
  | (x, a) :: l, y, k, nd, h => by
    simp only [List.map_cons, List.nodup_cons] at nd
    rw [List.lookup_cons]
    rcases List.mem_cons.mp h with e | h
    · cases e; simp
    · have ne : y ≠ x := fun e => nd.1 (e ▸ List.mem_map_of_mem (f := (·.1)) h)
      rw [show (y == x) = false by simpa using ne]
      exact look_nodup nd.2 h
/-- THE RULE: such a def by its body -/
theorem fn_maker {CX : CXT} {P : Program} {w : World} {K : PySem.W.Frag} {mg : Str → Option Value} {base : Heap} {k : Nat} {f : Addr} {name qual : Str} {params : Arguments} {body : List Stmt} {scope : Scope} {dV kV doc pm cdv ct oc : Value} {an od : Option Addr}
    {osl : Array (Option Value)} {N ps : List Str} {sp : Sp} (lk : K.lookup f = some ⟨oc, od, .func (PySem.W.fnOf name qual params body scope dV kV doc pm an cdv ct), osl⟩) (hcd : PySem.W.codeIn K cdv qual = true) (S : FnScope N ps scope) (nk : (scope.names.map (·.1)).Nodup)
    (len : ∀ vs H Q E, sp vs H Q E → vs.length = ps.length)
    (hbody : ∀ (A : Around) (outer : List Env) (s : Shared) (H : Hp) (vs : List V) (Q : VK) (E : XK), Room k (A.deeper (envOfC qual scope s.heap.objs.size f cdv)) → sp vs H Q E →
      ∃ t, PSr (cxOf CX P w K mg base N qual scope f cdv A outer s H E) body t ∧ t { nx := fun _ _ => False, rt := fun v σ H' => Handed N (cellsFrom (s.heap.objs.size + 1) scope.names []) σ H' (Q v) } (start N vs) H) :
    FnOk P w K mg base CX (k + 1) f (PySem.W.fnOf name qual params body scope dV kV doc pm an cdv ct) ps sp := by
  refine ⟨len, fun A outer s H args us vs Q E hr e0 hb r hsp => ?_⟩
  have hl := len _ _ _ _ hsp
  have KX : K.In s.heap := e0.mod.kin.keeps fun b o e => (e0.bs b o e).1
  have lim : s.heap.NoLimit := e0.mod.nolimit.keeps fun b o e => (e0.bs b o e).1
  have hkind : ∀ y ∈ ps.zip us, scope.names.lookup y.1 = some .local ∨ (scope.names.lookup y.1 = some .cell ∧ ((cellsFrom (s.heap.objs.size + 1) scope.names []).lookup y.1).isSome = true) := fun ⟨n, v⟩ hy => by
    rcases S.par n (List.of_mem_zip hy).1 with q | q
    · exact .inl q
    · exact .inr ⟨q, PySem.W.cellsFrom_some _ _ _ (.inl q)⟩
  refine codeAny_call_function hr.depth (KX _ _ lk) rfl S.co S.gen rfl (PySem.W.codeRec_of KX hcd) (hb _ _ _ _ ?_)
  refine wpAny_newFunctionEnv_cells S.kind hkind fun env he s1 x => ?_
  subst he
  refine ⟨lim.keeps x.toInCall.keep, codeAny_func ?_⟩
  obtain ⟨t, ht, hq⟩ := hbody A outer s H vs Q E (hr.deeper _) hsp
  have I : Inv (cxOf CX P w K mg base N qual scope f cdv A outer s H E) [] (start N vs) H s1 := inv_start S hr.hd e0 hl r x
  refine wpAny_mono (ht.run [] s1 (start N vs) H _ I hq) (fun fl s' hs => ?_) fun e s' hs => hs
  cases fl with
  | ret u =>
    obtain ⟨v, σ', H', J, rv, all, q⟩ := hs
    obtain ⟨cs, cv⟩ := cov_ex S.nd J.ok.inj all
    have fr : Free cs H' := fun b v e => by
      obtain ⟨y, j, h1, _⟩ := cv.own b v e
      exact J.freeC y b h1
    have old : ∀ b, b < s.heap.objs.size → cs.lookup b = none := fun b hb => by
      cases e : cs.lookup b with
      | none => rfl
      | some v =>
        obtain ⟨y, j, h1, _⟩ := cv.own b v e
        have z : s.heap.objs.size ≤ b := J.ok.cab y b rfl h1
        omega
    have lt : ∀ b o, H b = some o → b < s.heap.objs.size := fun b o e => e0.hok.lt e
    refine ⟨v, unhide cs H', J.os, J.bare, ?_, ?_, rv, q cs J.ok.inj cv fr⟩
    · have un := J.base
      exact ⟨un.keep, un.slot, fun b o h1 h2 h3 => by rw [unhide_out (old b (Heap.lt_size h1))]; exact un.free b o h1 h2 h3, un.there, fun b xs h => by rw [unhide_out (old b (lt _ _ h))]; exact un.tups b xs h,
        fun b o u h => by rw [unhide_out (old b (lt _ _ h))]; exact un.frzs b o u h, fun b ps h => by rw [unhide_out (old b (lt _ _ h))]; exact un.tbls b ps h⟩
    · refine unhide_hok fr (fun b v e => ?_) J.hok
      obtain ⟨y, j, h1, h2, h3⟩ := cv.own b v e
      have ky : scope.names.lookup y = some .cell := by
        rcases cellsFrom_kind _ _ _ _ _ (PySem.mem_of_lookup h1) with z | z
        · cases z
        · exact look_nodup nk z
      obtain ⟨m, hn, hl⟩ := J.loc
      obtain ⟨u, r, l⟩ := hl j y v h2 h3 (.inr (.inl ky))
      rcases l with ⟨z, _⟩ | ⟨_, c', hc', hcell⟩
      · have z : scope.names.lookup y = some .local := z
        rw [ky] at z; cases z
      · have hc' : (cellsFrom (s.heap.objs.size + 1) scope.names []).lookup y = some c' := hc'
        have h1 : (cellsFrom (s.heap.objs.size + 1) scope.names []).lookup y = some b := h1
        rw [h1] at hc'
        cases hc'
        exact ⟨u, r, hcell⟩
  | next =>
    obtain ⟨σ', H', J, q⟩ := hs
    exact False.elim q
  | brk => exact hs.elim
  | cont => exact hs.elim
theorem PSr.nox {X : Cx} {st : List Stmt} {t : TSR} (h : PSr X.nox st t) : PSr X st t := ⟨fun pins s σ H D I hw =>
  wpAny_mono (h.run pins s σ H D (I.wish _) hw) (fun f s' q => by
    cases f with
    | next => obtain ⟨σ', H', J, q⟩ := q; exact ⟨σ', H', J.unwish, q⟩
    | ret u => obtain ⟨v, σ', H', J, r, q⟩ := q; exact ⟨v, σ', H', J.unwish, r, q⟩
    | brk => exact q.elim
    | cont => exact q.elim) fun _ _ x => x.elim⟩
/-- such a def whose code object is known -/
theorem fnC_maker {P : Program} {w : World} {K : PySem.W.Frag} {mg : Str → Option Value} {base : Heap} {x qual : Str} {st : Stmt} {f c : Addr} {fd : FuncData} {N ps : List Str} {k : Nat} {sp : Sp} (F : Xc.FunC K x qual st f fd c) (S : FnScope N ps (defScope st)) (nk : ((defScope st).names.map (·.1)).Nodup) (len : ∀ vs H Q E, sp vs H Q E → vs.length = ps.length)
    (hbody : ∀ (A : Around) (o : List Env) (s : Shared) (H : Hp) (vs : List V) (Q : VK) (E : XK), Room k (A.deeper (envOfC qual (defScope st) s.heap.objs.size f (.ref c))) → sp vs H Q E →
      ∃ t, PSr (cxOf CX0 P w K mg base N qual (defScope st) f (.ref c) A o s H E).nox (defBody st) t ∧ t { nx := fun _ _ => False, rt := fun v σ H' => Handed N (cellsFrom (s.heap.objs.size + 1) (defScope st).names []) σ H' (Q v) } (start N vs) H) : FnOk P w K mg base CX0 (k + 1) f fd ps sp := by
  obtain ⟨oc, od, kV, doc, pm, an, ct, osl, rfl, lk, hcd⟩ := F.ex
  refine fn_maker lk hcd S nk len fun A o s H vs Q E hr hsp => ?_
  obtain ⟨t, h, q⟩ := hbody A o s H vs Q E hr hsp
  exact ⟨t, h.nox, q⟩
theorem calls_mono {CX : CXT} {P : Program} {w : World} {K : PySem.W.Frag} {mg : Str → Option Value} {base : Heap} {k : Nat} {f : Addr} {H : Hp} {vs : List V} {Q Q' : VK} {E : XK} (c : CallsTo P w K mg base CX k f H vs Q E) (h : ∀ v H', Q v H' → Q' v H') : CallsTo P w K mg base CX k f H vs Q' E :=
  fun A outer s us hr e0 r => ⟨(c A outer s us hr e0 r).1, codeAny_mono (c A outer s us hr e0 r).2 fun rs s' z => by
    cases rs with
    | error e => exact z
    | ok fl =>
      cases fl with
      | ret u => obtain ⟨v, H', e1, e2, un, hok', r, q⟩ := z; exact ⟨v, H', e1, e2, un, hok', r, h v H' q⟩
      | next => exact z
      | brk => exact z
      | cont => exact z⟩
/-- what a function captured, by the cells that were handed over -/
theorem clAt_of {N : List Str} {cl : List (Str × Addr)} {σ : L2.St} {cs : CL} {names : List (Str × NameKind)} {fr : List Str} {ws : List (Option V)} (cv : Cov N cl σ cs) (inj : ∀ (x y : Str) (c : Addr), cl.lookup x = some c → cl.lookup y = some c → x = y)
    (all : ∀ (y : Str) (c : Addr), cl.lookup y = some c → ∃ (j : Nat) (v : V), N[j]? = some y ∧ σ[j]? = some (some v)) (hfree : ∀ y ∈ names, y.2 = .free → ∃ c, cl.lookup y.1 = some c) (hfr : ∀ y ∈ fr, (y, NameKind.free) ∈ names) (hw : ws.length = fr.length)
    (hv : ∀ (i : Nat) (y : Str) (v : V), fr[i]? = some y → ws[i]? = some (some v) → ∃ (j : Nat), N[j]? = some y ∧ σ[j]? = some (some v)) : ClAt (cloFrom cl names []) fr ws cs := by
  refine ⟨hw, fun y c e => ?_, fun x y c e1 e2 => inj x y c (clo_cm hfree e1) (clo_cm hfree e2), fun i y e => ?_⟩
  · have e2 := clo_cm hfree e
    obtain ⟨j, v, h1, h2⟩ := all y c e2
    exact ⟨v, cv.has y c j v e2 h1 h2⟩
  · have hm := hfr y (List.mem_of_getElem? e)
    obtain ⟨c, hc⟩ := hfree _ hm rfl
    refine ⟨c, clo_has hfree hm hc, fun v ev => ?_⟩
    obtain ⟨j, h1, h2⟩ := hv i y v e ev
    exact cv.has y c j v hc h1 h2
theorem unhide_keep {cs : CL} {H : Hp} {b : Addr} {o : HO} (fr : Free cs H) (e : H b = some o) : unhide cs H b = some o := by
  rw [unhide_out]
  · exact e
  · cases z : cs.lookup b with
    | none => rfl
    | some v => rw [fr b v z] at e; cases e
theorem unhide_trk {cs : CL} {H : Hp} : Trk cs (unhide cs H) := fun b v e => unhide_in e
end Xh

/-! Xi1: promises of defs that make functions: tables change, what never changes stays -/
namespace Xi
open PySem PySem.Spec PySem.Calls PyProof.Rows L2 Rs Xc
/-- what never changes stays -/
structure Pers (H H' : Hp) : Prop where
  ext : ∀ b r, H b = some (.ext r) → H' b = some (.ext r)
  tup : ∀ b xs, H b = some (.tup xs) → H' b = some (.tup xs)
theorem Pers.refl (H : Hp) : Pers H H := ⟨fun _ _ e => e, fun _ _ e => e⟩
theorem Pers.trans {H H1 H2 : Hp} (a : Pers H H1) (b : Pers H1 H2) : Pers H H2 := ⟨fun x r e => b.ext x r (a.ext x r e), fun x r e => b.tup x r (a.tup x r e)⟩
/-- the base B, with the tables and all that never changes as it stands at H -/
def rbI (B H : Hp) : Hp := fun b => match H b with | some (.tbl ps) => some (.tbl ps) | some (.ext r) => some (.ext r) | some (.tup xs) => some (.tup xs) | _ => B b
/-- these are objects that may be written -/
inductive MutL (H : Hp) : List Addr → Prop where
  | nil : MutL H []
  | lst {b : Addr} {xs : List V} {M : List Addr} (h : H b = some (.lst xs)) (t : MutL H M) : MutL H (b :: M)
  | dct {b : Addr} {kvs : List (Key × V)} {M : List Addr} (h : H b = some (.dK kvs)) (t : MutL H M) : MutL H (b :: M)
  | ins {b C dx : Addr} {fs : List (Str × V)} {M : List Addr} (h : H b = some (.ins C dx fs)) (t : MutL H M) : MutL H (b :: M)
section
variable {B H H' H1 H2 : Hp} {M C : List Addr} {L L' LL F : Led} {Q : VK} {TT : List (Addr × Str)} {a : Addr}
theorem MutL.at_ (m : MutL H M) {b : Addr} (hb : b ∈ M) : (∃ xs, H b = some (.lst xs)) ∨ (∃ kvs, H b = some (.dK kvs)) ∨ ∃ C dx fs, H b = some (.ins C dx fs) := by
  induction m with
  | nil => cases hb
  | lst h _ ih =>
    rcases List.mem_cons.mp hb with rfl | hb
    · exact .inl ⟨_, h⟩
    · exact ih hb
  | dct h _ ih =>
    rcases List.mem_cons.mp hb with rfl | hb
    · exact .inr (.inl ⟨_, h⟩)
    · exact ih hb
  | ins h _ ih =>
    rcases List.mem_cons.mp hb with rfl | hb
    · exact .inr (.inr ⟨_, _, _, h⟩)
    · exact ih hb
theorem MutL.not (m : MutL H M) {b : Addr} {o : HO} (e : H b = some o) (h1 : ∀ xs, o ≠ .lst xs) (h2 : ∀ kvs, o ≠ .dK kvs) (h3 : ∀ C dx fs, o ≠ .ins C dx fs) : b ∉ M := fun hb => by
  rcases m.at_ hb with ⟨xs, z⟩ | ⟨kvs, z⟩ | ⟨C, dx, fs, z⟩
  · rw [e] at z; exact h1 _ (Option.some.inj z)
  · rw [e] at z; exact h2 _ (Option.some.inj z)
  · rw [e] at z; exact h3 _ _ _ (Option.some.inj z)
theorem MutL.ext (m : MutL H M) {b : Addr} {r : Heap → Prop} (e : H b = some (.ext r)) : b ∉ M := m.not e (fun _ z => by cases z) (fun _ z => by cases z) (fun _ _ _ z => by cases z)
theorem MutL.tup (m : MutL H M) {b : Addr} {r : List V} (e : H b = some (.tup r)) : b ∉ M := m.not e (fun _ z => by cases z) (fun _ z => by cases z) (fun _ _ _ z => by cases z)
theorem MutL.tbl (m : MutL H M) {b : Addr} {r : Array Value} (e : H b = some (.tbl r)) : b ∉ M := m.not e (fun _ z => by cases z) (fun _ z => by cases z) (fun _ _ _ z => by cases z)
theorem rbI_ext {b : Addr} {r : Heap → Prop} (e : H b = some (.ext r)) : rbI B H b = some (.ext r) := by unfold rbI; rw [e]
theorem rbI_tup {b : Addr} {r : List V} (e : H b = some (.tup r)) : rbI B H b = some (.tup r) := by unfold rbI; rw [e]
theorem rbI_tbl {b : Addr} {r : Array Value} (e : H b = some (.tbl r)) : rbI B H b = some (.tbl r) := by unfold rbI; rw [e]
theorem rbI_lst {b : Addr} {xs : List V} (e : H b = some (.lst xs)) : rbI B H b = B b := by unfold rbI; rw [e]
theorem rbI_dct {b : Addr} {xs : List (Key × V)} (e : H b = some (.dK xs)) : rbI B H b = B b := by unfold rbI; rw [e]
theorem rbI_ins {b C dx : Addr} {xs : List (Str × V)} (e : H b = some (.ins C dx xs)) : rbI B H b = B b := by unfold rbI; rw [e]
theorem _root_.Rs.Hs.toI (S : Hs B M H L) : Hs (rbI B H) M H L := by
  refine ⟨S.nd, S.is, fun b o e hm => ?_, S.mu⟩
  unfold rbI at e
  split at e
  · rename_i h; rw [h]; exact e
  · rename_i h; rw [h]; exact e
  · rename_i h; rw [h]; exact e
  · exact S.old b o e hm
theorem _root_.Rs.Hs.ofI (S : Hs B M H L) (S' : Hs (rbI B H) M H' L') : Hs B M H' L' := by
  refine ⟨S'.nd, S'.is, fun b o e hm => S'.old b o ?_ hm, S'.mu⟩
  have h3 := S.old b o e hm
  unfold rbI
  rw [h3]
  split
  · rename_i h; exact h.symm
  · rename_i h; exact h.symm
  · rename_i h; exact h.symm
  · exact e
theorem _root_.Rs.Hs.persI (S' : Hs (rbI B H) M H' L') (m : MutL H M) : Pers H H' := ⟨fun b r e => S'.old _ _ (rbI_ext e) (m.ext e), fun b r e => S'.old _ _ (rbI_tup e) (m.tup e)⟩
theorem tabs_pers (p : Pers H H') (k : ∀ b ps, H b = some (.tbl ps) → H' b = some (.tbl ps)) (t : LamX.Tabs TT H) : LamX.Tabs TT H' := fun q hq => by
  obtain ⟨ps, h1, h2, h3⟩ := t q hq
  refine ⟨ps, k _ _ h1, h2, fun pos cv hc => ?_⟩
  obtain ⟨c, e1, e2⟩ := h3 pos cv hc
  exact ⟨c, e1, p.ext _ _ e2⟩
theorem _root_.Rs.Hs.tabI (S' : Hs (rbI B H) M H' L') (m : MutL H M) (t : LamX.Tabs TT H) : LamX.Tabs TT H' :=
  tabs_pers (S'.persI m) (fun b ps e => S'.old _ _ (rbI_tbl e) (m.tbl e)) t
/-- more objects that may be written; fewer -/
theorem _root_.Rs.Hs.addM {o : HO} (S : Hs B M H L) (m : (a, o) ∈ L) : Hs B (a :: M) H L := by
  refine ⟨S.nd, S.is, fun b u e hb => S.old b u e fun z => hb (List.mem_cons_of_mem _ z), fun b hb => ?_⟩
  by_cases e : b = a
  · rw [e, S.is _ m]; simp
  · rcases List.mem_cons.mp hb with z | z
    · exact absurd z e
    · exact S.mu b z
theorem _root_.Rs.Hs.lessM (S : Hs B M H L) (sub : ∀ b ∈ C, b ∈ M) (h : ∀ b ∈ M, b ∈ C ∨ B b = none) : Hs B C H L :=
  ⟨S.nd, S.is, fun b u e hb => S.old b u e (fun z => (h b z).elim hb fun q => by rw [q] at e; cases e), fun b hb => S.mu b (sub b hb)⟩
/-- another base -/
theorem _root_.Rs.Hs.base {B' : Hp} (S : Hs B M H L) (h : ∀ b o, B' b = some o → b ∉ M → H b = some o) : Hs B' M H L := ⟨S.nd, S.is, h, S.mu⟩
/-! ### promises -/
abbrev SepF := Hp → List V → List Addr → Led → (V → Hp → Led → Led → Prop) → Prop
/-- R: the heap, the arguments, what may be written, what is known ahead, what is promised (the new objects told apart) -/
def SepT (TT : List (Addr × Str)) (R : SepF) : Sp := fun vs H Q _ => ∃ C L post, R H vs C L post ∧ (L.map (·.1)).Nodup ∧ (∀ q ∈ L, H q.1 = some q.2) ∧ (∀ c ∈ C, c ∈ L.map (·.1)) ∧ LamX.Tabs TT H ∧
  ∀ v H' N L', post v H' N L' → Hs (noT H) C H' (N ++ L') → (∀ q ∈ L', q.1 ∈ L.map (·.1)) → (∀ q ∈ N, noT H q.1 = none) → LamX.Tabs TT H' → Pers H H' → Q v H'
theorem frameT (nb : ∀ b ps, B b ≠ some (.tbl ps)) (nf : ∀ q ∈ F, ∀ ps, q.2 ≠ .tbl ps) (S : Hs B M H (L ++ F)) (S' : Hs (noT H) C H' L') (hC : ∀ c ∈ C, c ∈ L.map (·.1) ∧ (B c = none ∨ c ∈ M)) (hk : ∀ q ∈ L', q.1 ∈ L.map (·.1) ∨ noT H q.1 = none) (m : MutL H M) : Hs B M H' (L' ++ F) := by
  have nd := S.nd
  rw [List.map_append, List.nodup_append] at nd
  obtain ⟨_, nF, dis⟩ := nd
  have isF : ∀ q ∈ F, H' q.1 = some q.2 := fun q h => by
    refine S'.old _ _ (noT_some (S.is q (List.mem_append_right _ h)) (nf q h)) fun hc => ?_
    exact dis _ (hC _ hc).1 _ (List.mem_map_of_mem (f := (·.1)) h) rfl
  refine ⟨?_, ?_, ?_, ?_⟩
  · rw [List.map_append, List.nodup_append]
    refine ⟨S'.nd, nF, ?_⟩
    intro x hx y hy e
    subst e
    obtain ⟨q, hq, rfl⟩ := List.mem_map.mp hx
    rcases hk q hq with h | h
    · exact dis _ h _ hy rfl
    · obtain ⟨r, hr, e⟩ := List.mem_map.mp hy
      have := noT_some (S.is r (List.mem_append_right _ hr)) (nf r hr)
      rw [e, h] at this
      cases this
  · intro q hq
    rcases List.mem_append.mp hq with h | h
    · exact S'.is q h
    · exact isF q h
  · intro b o e hb
    refine S'.old _ _ (noT_some (S.old b o e hb) fun ps z => nb b ps (by rw [e, z])) fun hc => ?_
    rcases (hC _ hc).2 with z | z
    · rw [z] at e; cases e
    · exact hb z
  · intro b hb
    by_cases hc : b ∈ C
    · exact S'.mu b hc
    · rcases m.at_ hb with ⟨xs, z⟩ | ⟨kvs, z⟩ | ⟨C', dx, fs, z⟩
      · rw [S'.old b _ (noT_some z fun ps q => by cases q) hc]; simp
      · rw [S'.old b _ (noT_some z fun ps q => by cases q) hc]; simp
      · rw [S'.old b _ (noT_some z fun ps q => by cases q) hc]; simp
theorem none_noT (nb : ∀ b ps, B b ≠ some (.tbl ps)) (S : Hs B M H L) (m : MutL H M) (h : noT H a = none) : B a = none := by
  cases e : B a with
  | none => rfl
  | some o =>
    by_cases hm : a ∈ M
    · rcases m.at_ hm with ⟨xs, z⟩ | ⟨kvs, z⟩ | ⟨C', dx, fs, z⟩
      · rw [noT_some z (fun ps q => by cases q)] at h; cases h
      · rw [noT_some z (fun ps q => by cases q)] at h; cases h
      · rw [noT_some z (fun ps q => by cases q)] at h; cases h
    · rw [noT_some (S.old a o e hm) (fun ps z => nb a ps (by rw [e, z]))] at h; cases h
theorem rbI_none (h : rbI B H a = none) : B a = none := by
  unfold rbI at h
  split at h
  · cases h
  · cases h
  · cases h
  · exact h
/-- such a def is called -/
theorem sept_use {R : SepF} {vs : List V} {post : V → Hp → Led → Led → Prop} {E : XK} (nb : ∀ b ps, B b ≠ some (.tbl ps)) (S : Hs B M H LL) (tb : LamX.Tabs TT H) (m : MutL H M) (r : R H vs C L post) (pm : ∀ a, cn a (L ++ F) ≤ cn a LL) (nf : ∀ q ∈ F, ∀ ps, q.2 ≠ .tbl ps) (hC : ∀ c ∈ C, c ∈ L.map (·.1) ∧ (B c = none ∨ c ∈ M))
    (h : ∀ v H' N L', post v H' N L' → (∀ q ∈ N, B q.1 = none) → Hs B M H' (N ++ (L' ++ F)) → LamX.Tabs TT H' → Pers H H' → Q v H') : SepT TT R vs H Q E := by
  have S1 := S.re pm
  refine ⟨C, L, post, r, ?_, fun q hq => S1.is q (List.mem_append_left _ hq), fun c hc => (hC c hc).1, tb, fun v H' N L' p S' h1 h2 tb' pe => ?_⟩
  · have := S1.nd
    rw [List.map_append, List.nodup_append] at this
    exact this.1
  · refine h v H' N L' p (fun q hq => none_noT nb S m (h2 q hq)) ?_ tb' pe
    rw [← List.append_assoc]
    refine frameT nb nf S1 S' hC (fun q hq => ?_) m
    rcases List.mem_append.mp hq with z | z
    · exact Or.inr (h2 q z)
    · exact Or.inl (h1 q z)
theorem noT_nb {H0 : Hp} : ∀ b ps, noT H0 b ≠ some (.tbl ps) := fun b ps e => (noT_of e).2 ps rfl
theorem Pers.of_ext (h : LamX.ExtN H H') : Pers H H' := ⟨fun b r e => h b _ e (fun ps z => by cases z), fun b r e => h b _ e (fun ps z => by cases z)⟩
theorem Pers.of_noT (S : Hs (noT H) C H' L') (m : MutL H C) : Pers H H' := ⟨fun b r e => S.old b _ (noT_some e fun ps z => by cases z) (m.ext e), fun b r e => S.old b _ (noT_some e fun ps z => by cases z) (m.tup e)⟩
end
end Xi

/-! Xi2: ways that come together -/
namespace Xi
open PySem PySem.Spec PySem.Calls PyProof.Rows L2 Rs
theorem if_viaV {b : Bool} {te1 te2 : TE} {σ : L2.St} {H : Hp} {C : VK} (Post : V → Hp → Prop) (h1 : b = true → ∀ C' : VK, (∀ v H', Post v H' → C' v H') → te1 σ H C') (h2 : b = false → ∀ C' : VK, (∀ v H', Post v H' → C' v H') → te2 σ H C') (k : ∀ v H', Post v H' → C v H') : if b = true then te1 σ H C else te2 σ H C := by
  cases b with
  | true => exact h1 rfl C k
  | false => exact h2 rfl C k
theorem seq_via {t u : TS} {σ : L2.St} {H : Hp} {nx : L2.St → Hp → Prop} {rt : VK} {bk ct : L2.St → Hp → Prop} (R : L2.St → Hp → Prop) (h : ∀ nx : L2.St → Hp → Prop, (∀ σ' H', R σ' H' → nx σ' H') → t ⟨nx, rt, bk, ct⟩ σ H) (k : ∀ σ' H', R σ' H' → u ⟨nx, rt, bk, ct⟩ σ' H') : tSeq t u ⟨nx, rt, bk, ct⟩ σ H := h _ k
theorem ifs_viaP {b : Bool} {t u : TS} {σ : L2.St} {H : Hp} {nx : L2.St → Hp → Prop} {rt : VK} {bk ct : L2.St → Hp → Prop} (Post : Hp → Prop) (h1 : b = true → ∀ nx' : L2.St → Hp → Prop, (∀ H', Post H' → nx' σ H') → t ⟨nx', rt, bk, ct⟩ σ H) (h2 : b = false → ∀ nx' : L2.St → Hp → Prop, (∀ H', Post H' → nx' σ H') → u ⟨nx', rt, bk, ct⟩ σ H)
    (k : ∀ H', Post H' → nx σ H') : if b = true then t ⟨nx, rt, bk, ct⟩ σ H else u ⟨nx, rt, bk, ct⟩ σ H := by
  cases b with
  | true => exact h1 rfl nx k
  | false => exact h2 rfl nx k
/-- the scope of a comprehension that an assignment's value is -/
def lcScope : Stmt → Scope
  | .Assign _ (.ListComp _ _ sc _) .. => sc
  | st => defScope st
end Xi

/-! Xj1: methods by the object's own class, function values called by a name, captured lambdas handed over, C.m(x, ..) of own classes -/
namespace Xj
open PySem PySem.Spec PySem.Calls PyProof.Rows L2 LamX NdefX Xf Xh
section
variable {X : Cx} {CX : CXT} {k j i : Nat} {m x : Str} {E : XK} {te : TE} {ta : TA} {o e : Expr} {es : List Expr} {apos pos p : Pos}
theorem run_to {pins : List (Addr × Obj)} {σ : L2.St} {H : Hp} {s : Shared} {Q : VK} {f : Addr} {us : List Value} {vs : List V} (c : CallsTo X.prog X.w X.K X.mg X.base CX k f H vs Q E) (hr : Room j X.A) (hk : k ≤ j) (hx : Passes CX X E) (I : Inv X pins σ H s) (r : Vals vs us) :
    wpAny (model X.prog X.w) X.A (call (.ref f) us) (EP X pins σ Q) X.xe s := by
  obtain ⟨_, z⟩ := c X.A X.stack s us (hr.mono hk) I.env0 r
  refine wpAny_call (codeAny_mono z fun r s' hq => ?_)
  cases r with
  | error e => exact hx pins σ H s e s' I hq
  | ok fl =>
    cases fl with
    | ret u => exact I.after hq
    | next => exact False.elim hq
    | brk => exact False.elim hq
    | cont => exact False.elim hq
/-- o.m(..), m a method of the class that o is of -/
def tMethD (X : Cx) (CX : CXT) (k : Nat) (m : Str) (te : TE) (ta : TA) (E : XK) : TE := fun σ H Q => te σ H fun x H1 => ∃ a C dx fs f, x = .ref a ∧ H1 a = some (.ins C dx fs) ∧ Cls X.K C ∧ Meth X.K C m f ∧ fs.lookup m = none ∧ ta σ H1 fun vs H2 => CallsTo X.prog X.w X.K X.mg X.base CX k f H2 (x :: vs) Q E
theorem pe_methD {pl : Sem Bool} (he : PE X o te) (ha : PA X (e :: es) ta) (hr : Room j X.A) (hk : k ≤ j) (hx : Passes CX X E)
    (hst : starEach (e :: es) X.env = (false, eval e X.env) :: starEach es X.env := by rfl) (hpl : (backTo pos (starEach es X.env)).any (·.1) = false := by rfl)
    (ht : eval (.Call (.Attribute o m apos) (e :: es) [] pos) X.env = (do
      let ov ← eval o X.env
      standAt apos.atName
      let (f, first) ← holding [ov] (getMethod ov m pl)
      callWith pos f first (backTo pos (starEach (e :: es) X.env)) (backToKw pos (keywordEach [] X.env))) := by rfl) :
    PE X (.Call (.Attribute o m apos) (e :: es) [] pos) (tMethD X CX k m te ta E) := by
  refine ⟨fun pins s σ H Q I h => ?_⟩
  refine PySem.W.methodCall_KW (pl := pl) (thn (he.run pins s σ H _ I h) fun u s1 ⟨x, H1, I1, rx, a, C, dx, fs, f, ex, ea, c, hm, l, q⟩ => ?_) ht
  subst ex
  obtain rfl : u = Value.ref a := rx
  refine getmeth_ok I1 ea c hm l ?_
  refine PySem.W.callWith_K (first := [.ref a]) (h₀ := X.base) I.ok.mod.kin hm.kp (thn (ha.run pos pins s1 σ H1 _ I1 q) fun us s2 ⟨vs, H2, I2, r, q2⟩ => ⟨I2.kIn, ?_⟩) hst hpl
  exact run_to (us := .ref a :: us) q2 hr hk hx I2 (.cons rfl r)
theorem pe_methD0 {pl : Sem Bool} (he : PE X o te) (hr : Room j X.A) (hk : k ≤ j) (hx : Passes CX X E)
    (ht : eval (.Call (.Attribute o m apos) [] [] pos) X.env = (do
      let ov ← eval o X.env
      standAt apos.atName
      let (f, first) ← holding [ov] (getMethod ov m pl)
      callWith pos f first (backTo pos (starEach [] X.env)) (backToKw pos (keywordEach [] X.env))) := by rfl) :
    PE X (.Call (.Attribute o m apos) [] [] pos) (tMethD X CX k m te tNil E) := by
  refine ⟨fun pins s σ H Q I h => ?_⟩
  refine PySem.W.methodCall_KW (pl := pl) (thn (he.run pins s σ H _ I h) fun u s1 ⟨x, H1, I1, rx, a, C, dx, fs, f, ex, ea, c, hm, l, q⟩ => ?_) ht
  subst ex
  obtain rfl : u = Value.ref a := rx
  refine getmeth_ok I1 ea c hm l ?_
  refine PySem.W.callWith_K0 (first := [.ref a]) I1.kIn hm.kp ?_
  exact run_to (us := [.ref a]) q hr hk hx I1 (.cons rfl .nil)
/-- f(..), f a name that holds a function -/
def tCallV (X : Cx) (CX : CXT) (k i : Nat) (ta : TA) (E : XK) : TE := fun σ H Q => ∃ f, σ[i]? = some (some (.ref f)) ∧ IsFn f H ∧ ta σ H fun vs H2 => IsFn f H2 ∧ CallsTo X.prog X.w X.K X.mg X.base CX k f H2 vs Q E
theorem pe_callV (hN : X.N[i]? = some x) (hv : Vis X.env.scope x) (ha : PA X (e :: es) ta) (hr : Room j X.A) (hk : k ≤ j) (hx : Passes CX X E) (hdb : (x == ("__debug__" : Str)) = false := by decide) (hcd : (x == ("__classdict__" : Str)) = false := by decide)
    (he : starEach (e :: es) X.env = (false, eval e X.env) :: starEach es X.env := by rfl) (hpl : (backTo pos (starEach es X.env)).any (·.1) = false := by rfl) : PE X (.Call (.Name x p) (e :: es) [] pos) (tCallV X CX k i ta E) := by
  refine ⟨fun pins s σ H Q I h => ?_⟩
  obtain ⟨f, hs, hf, ht⟩ := h
  refine wpAny_Call_Name_kw (thn ((pe_var (pos := p) hN hv hdb hcd).run pins s σ H (fun v H1 => v = .ref f ∧ H1 = H) I ⟨.ref f, hs, rfl, rfl⟩) fun u s1 ⟨v, H1, I1, r1, q1⟩ => ?_)
  obtain ⟨rfl, rfl⟩ := q1
  obtain rfl : u = Value.ref f := r1
  refine PySem.W.callWith_F (first := []) (hf _ _ _ I1.hok) (thn (ha.run pos pins s1 σ _ _ I1 ht) fun us s2 ⟨vs, H2, I2, r, hf2, q⟩ => ⟨hf2 _ _ _ I2.hok, ?_⟩) he hpl
  exact run_to q hr hk hx I2 r
theorem pe_callV0 (hN : X.N[i]? = some x) (hv : Vis X.env.scope x) (hr : Room j X.A) (hk : k ≤ j) (hx : Passes CX X E) (hdb : (x == ("__debug__" : Str)) = false := by decide) (hcd : (x == ("__classdict__" : Str)) = false := by decide) :
    PE X (.Call (.Name x p) [] [] pos) (tCallV X CX k i tNil E) := by
  refine ⟨fun pins s σ H Q I h => ?_⟩
  obtain ⟨f, hs, hf, _, q⟩ := h
  refine wpAny_Call_Name_kw (thn ((pe_var (pos := p) hN hv hdb hcd).run pins s σ H (fun v H1 => v = .ref f ∧ H1 = H) I ⟨.ref f, hs, rfl, rfl⟩) fun u s1 ⟨v, H1, I1, r1, q1⟩ => ?_)
  obtain ⟨rfl, rfl⟩ := q1
  obtain rfl : u = Value.ref f := r1
  refine PySem.W.callWith_F0 (first := []) (hf _ _ _ I1.hok) ?_
  exact run_to q hr hk hx I1 .nil
/-- C.m(o, ..), C an own class, m a def of it or of a class above it -/
def tClsF (sp : Sp) (E : XK) (ta : TA) : TE := fun σ H Q => ta σ H fun vs H1 => sp vs H1 Q E
theorem pe_clsF {n : Str} {pl : Sem Bool} {S f : Addr} {mc : Value} {fd : FuncData} {ps : List Str} {sp : Sp} {p1 p2 : Pos} (hg : Gl X n) (hm : X.mg n = some (.ref S)) (cr : ClX.CRead X.K S mc) (vV : PySem.W.findCls X.K (.ref S) mc m = some (.val (.ref f))) (hin : PySem.W.handedIn (.ref f) = true) (hkp : PySem.W.keepIn X.K (.ref f) = true)
    (F : FnOk X.prog X.w X.K X.mg X.base CX k f fd ps sp) (hr : Room k X.A) (hb : Binds X.K fd ps []) (hx : Passes CX X E) (ha : PA X (e :: es) ta)
    (hc : eval (.Call (.Attribute (.Name n p1) m p2) (e :: es) [] pos) X.env = (do
      let ov ← eval (.Name n p1) X.env
      standAt p2.atName
      let (fn, fst) ← holding [ov] (getMethod ov m pl)
      callWith pos fn fst (backTo pos (starEach (e :: es) X.env)) (backToKw pos (keywordEach [] X.env))) := by rfl)
    (hdb : (n == ("__debug__" : Str)) = false := by decide) (he : starEach (e :: es) X.env = (false, eval e X.env) :: starEach es X.env := by rfl) (hp : (backTo pos (starEach es X.env)).any (·.1) = false := by rfl) :
    PE X (.Call (.Attribute (.Name n p1) m p2) (e :: es) [] pos) (tClsF sp E ta) := by
  refine ⟨fun pins s σ H Q I k => PySem.W.methodCall_KW (ld_glob I hg hm ?_ hdb) hc⟩
  refine PySem.W.method_cls I.kIn cr.ga (PySem.W.cls_value I.kIn cr.rd vV hin ?_)
  show wpAny _ _ (callWith pos (Value.ref f) [] (backTo pos (starEach (e :: es) X.env)) []) _ _ _
  refine PySem.W.callWith_K (first := []) (h₀ := X.base) I.ok.mod.kin hkp (thn (ha.run pos pins _ σ H _ (I.tok _) k) fun us s1 ⟨vs, H1, I1, rv, q⟩ => ⟨I1.kIn, ?_⟩) he hp
  exact run_fn (us := us) (vs := vs) (dvs := []) F hr hb .nil hx I1 rv (by rw [List.append_nil]; exact q)
end
section
variable {CX : CXT} {P : Program} {w : World} {K : PySem.W.Frag} {mg : Str → Option Value} {base : Heap} {N ps fr : List Str} {F : LF} {f : Addr} {k j : Nat} {H : Hp} {vs : List V} {Q Q' : VK} {E : XK}
theorem calls_up (c : CallsTo P w K mg base CX j f H vs Q E) (h : j ≤ k) : CallsTo P w K mg base CX k f H vs Q E := fun A outer s us hr => c A outer s us (hr.mono h)
structure CalMD (K : PySem.W.Frag) (qual : Str) (st : Stmt) (dvs : List V) (f : Addr) (fd : FuncData) : Prop where
  F : FunD K "__init__" qual (defArgs st) (defBody st) (defScope st) dvs [] f fd
/-- what never raises -/
theorem calls_ok (c : CallsTo P w K mg base CX0 k f H vs Q E0) : CallsTo P w K mg base (L2.CX P w) k f H vs Q E := fun A outer s us hr e0 r => ⟨(c A outer s us hr e0 r).1, codeAny_mono (c A outer s us hr e0 r).2 fun rs s' z => by
  cases rs with
  | error e => exact z.elim
  | ok fl =>
    cases fl with
    | ret u => exact z
    | next => exact z
    | brk => exact z
    | cont => exact z⟩
/-- a def of the text -/
theorem calls_fn {x qual : Str} {st : Stmt} {fd : FuncData} {sp : Sp} (Fn : Fun K x qual st f fd) (o : FnOk P w K mg base CX k f fd ps sp) (hb : Binds K fd ps []) (q : sp vs H Q E) : CallsTo P w K mg base CX k f H vs Q E := by
  refine fun A outer s us hr e0 r => ?_
  have KX : K.In s.heap := e0.mod.kin.keeps fun b o e => (e0.bs b o e).1
  obtain ⟨oc, od, kV, doc, pm, an, cdv, ct, osl, rfl, lk, hcd⟩ := Fn.ex
  have hl : (us ++ []).length = ps.length := by rw [List.append_nil, ← r.length]; exact o.len _ _ _ _ q
  refine ⟨⟨_, _, _, _, KX _ _ lk⟩, o.run A outer s H ⟨us, []⟩ us vs Q E hr e0 ?_ r q⟩
  have := hb s us KX hl
  rw [List.append_nil] at this
  exact this
/-- a lambda that captured names, called behind the end of its maker -/
theorem calls_lamC {ws : List (Option V)} {cs : CL} {t : TE} (S : NScope N ps fr F.scope) (hb : ∀ (pm ctv : Value) (us : List Value), us.length = ps.length → bindArgs (F.fd pm ctv) ⟨us, []⟩ = pure (ps.zip us)) (hl : vs.length = ps.length)
    (tr : Trk cs H) (c : ClAt F.cl fr ws cs) (hf : H f = some (LamO f F)) (hc : H F.c = some (CodeO F.c F.qual))
    (hbody : ∀ (A : Around) (outer : List Env) (s : Shared), Room k (A.deeper (envF F.nf f s.heap.objs.size)) → PE (ncx (L2.CX P w) P w K mg base N F.nf f A outer s (hide cs H) (Eh cs E)) F.body t) (hq : t (startF N vs ws) (hide cs H) (Qh cs Q)) :
    CallsTo P w K mg base (L2.CX P w) (k + 1) f H vs Q E := by
  refine fun A outer s us hr e0 r => ?_
  have e1 := env_hide tr e0
  have unlim : s.heap.NoLimit := e0.mod.nolimit.keeps fun x y z => (e0.bs x y z).1
  obtain ⟨pm, ctv, ho⟩ := lamO_at e0.hok hf
  refine ⟨⟨_, _, _, _, ho⟩, ?_⟩
  refine PySem.W.kla_callFunE hr.depth ho rfl S.co S.gen rfl (codeO_at e0.hok hc) ?_
  rw [hb pm ctv us (by rw [← r.length]; exact hl)]
  refine wpAny_pure (wpAny_newFunctionEnv S.nocell (fun y hy => S.par y.1 (List.of_mem_zip hy).1) (fun hn frm grown => ⟨unlim.fresh _ grown, ?_⟩) S.kind)
  show codeAny _ _ (.expr F.body (envF F.nf f s.heap.objs.size)) _ _
  have still : ∀ x y, s.heap.get? x = some y → hn.get? x = some y := fun x y z => grown.extBut x y (Nat.ne_of_lt (Heap.lt_size z)) (Heap.get?_push_of_some _ z)
  have C : CellsAt F.nf.cl fr ws s.heap (hide cs H) := cells_hide (F := F.nf) tr e0.hok c
  have I : Inv (ncx (L2.CX P w) P w K mg base N F.nf f A outer s (hide cs H) (Eh cs E)) [] (startF N vs ws) (hide cs H) { s with heap := hn, toks := s.toks + (ps.zip us).length } := inv_startN S hr.hd e1 hl r C frm still
  refine PySem.W.kla_codeExpr (wpAny_mono ((hbody A outer s (hr.deeper _)).run [] _ (startF N vs ws) (hide cs H) (Qh cs Q) I hq) (fun v s' hq => ?_) fun e s' hq => ?_)
  · obtain ⟨w', H', J, rv, q⟩ := hq
    exact ce_unhide tr e0.hok e0.frf ⟨w', H', J.os, J.bare, J.base, J.hok, rv, q⟩
  · refine wpAny_mono hq (fun _ s2 z => ?_) fun e2 s2 z => ?_
    · exact cx_unhide tr e0.hok e0.frf z
    · exact cx_unhide tr e0.hok e0.frf z
end
section
variable {X : Cx} {CX : CXT} {k i : Nat} {m : Str} {E : XK} {te : TE} {ta : TA} {σ : L2.St} {H : Hp} {Q : VK} {sp : Sp}
theorem rd_methD (h : te σ H fun x H1 => ∃ a C dx fs f, x = .ref a ∧ H1 a = some (.ins C dx fs) ∧ Cls X.K C ∧ Meth X.K C m f ∧ fs.lookup m = none ∧ ta σ H1 fun vs H2 => CallsTo X.prog X.w X.K X.mg X.base CX k f H2 (x :: vs) Q E) : tMethD X CX k m te ta E σ H Q := h
theorem rd_clsF (h : ta σ H fun vs H1 => sp vs H1 Q E) : tClsF sp E ta σ H Q := h
end
end Xj

/-! Xk1: askings as trees: what is asked, what is put into the row, what is told; a tree kept at a heap -/
namespace Xk
open PySem PySem.Spec PyProof.Rows L2 Rs LamX
inductive Ak (ι β : Type) : Type
  | ret (b : β) : Ak ι β
  | ask (q : ι) (k : Bool → Ak ι β) : Ak ι β
  | put (ys : List V) (k : Ak ι β) : Ak ι β
namespace Ak
variable {ι κ β γ : Type}
def bind : Ak ι β → (β → Ak ι γ) → Ak ι γ
  | ret b, g => g b
  | ask q k, g => ask q fun b => (k b).bind g
  | put ys k, g => put ys (k.bind g)
def mapq (f : ι → κ) : Ak ι β → Ak κ β
  | ret b => ret b
  | ask q k => ask (f q) fun b => (k b).mapq f
  | put ys k => put ys (k.mapq f)
theorem bind_ret (t : Ak ι β) : t.bind ret = t := by
  induction t with
  | ret b => rfl
  | ask q k ih => simp only [bind, ih]
  | put ys k ih => simp only [bind, ih]
theorem bind_bind {δ : Type} (t : Ak ι β) (g : β → Ak ι γ) (h : γ → Ak ι δ) : (t.bind g).bind h = t.bind fun b => (g b).bind h := by
  induction t with
  | ret b => rfl
  | ask q k ih => simp only [bind, ih]
  | put ys k ih => simp only [bind, ih]
theorem ite_bind {c : Prop} [Decidable c] (t u : Ak ι β) (g : β → Ak ι γ) : (if c then t else u).bind g = if c then t.bind g else u.bind g := by split <;> rfl
end Ak
theorem same_nn {H H' : Hp} {b : Addr} (s : Same H H') (e : H' b = none) : H b = none := by
  cases h : H b with
  | none => rfl
  | some o => rw [s _ _ h] at e; cases e
/-- a thing that may be changed stands there -/
def Mq : HO → Prop
  | .lst _ => True
  | .ins _ _ _ => True
  | .dK _ => True
  | _ => False
theorem Mq.tbl {o : HO} (h : Mq o) (ps : Array Value) : o ≠ .tbl ps := fun e => by subst e; exact h
def Std (H : Hp) (b : Addr) : Prop := ∃ o, H b = some o ∧ Mq o
theorem Std.ext {H H' : Hp} {b : Addr} (s : Std H b) (e : ExtN H H') : Std H' b := let ⟨o, h, n⟩ := s; ⟨o, e _ _ h n.tbl, n⟩
theorem Std.ne {H : Hp} {b : Addr} (s : Std H b) : H b ≠ none := by obtain ⟨o, h, _⟩ := s; rw [h]; simp
theorem Std.not {H : Hp} {b : Addr} {o : HO} (s : Std H b) (h : H b = some o) : Mq o := by obtain ⟨u, e, m⟩ := s; rw [h] at e; cases e; exact m
/-- what an asking is, what it may change (besides tables), what it keeps -/
structure Wd (ι : Type) where
  TT : List (Addr × Str)
  MM : List Addr
  J : Hp → Prop
  Do : ι → Hp → VK → XK → Prop
  mono : ∀ q H (Q Q' : VK) (E E' : XK), (∀ v H', Q v H' → Q' v H') → (∀ c d H', E c d H' → E' c d H') → Do q H Q E → Do q H Q' E'
  jm : ∀ H H', J H → (∀ b ∈ MM, ∀ o, H b = some o → H' b = some o) → J H'
/-- what is done between askings: new objects, tables, the program's own objects o but those of pr -/
structure Mv {ι : Type} (W : Wd ι) (pr o o' : List Addr) (H H' : Hp) : Prop where
  ext : ∀ b u, H b = some u → (b ∉ o ∨ b ∈ pr) → (∀ ps, u ≠ .tbl ps) → H' b = some u
  tab : Tabs W.TT H → Tabs W.TT H'
  nn : ∀ b, H' b = none → H b = none
  sub : ∀ b ∈ o', b ∈ o ∨ H b = none
  sup : ∀ b ∈ o, b ∈ o'
  on : (∀ b ∈ o, H b ≠ none) → ∀ b ∈ o', H' b ≠ none
/-- what an asking keeps -/
structure Frm {ι : Type} (W : Wd ι) (H H' : Hp) : Prop where
  old : ∀ b o, H b = some o → b ∉ W.MM → (∀ ps, o ≠ .tbl ps) → H' b = some o
  tab : Tabs W.TT H → Tabs W.TT H'
  nn : ∀ b, H' b = none → H b = none
  j : W.J H → W.J H'
/-- a row is written -/
structure Pt {ι : Type} (W : Wd ι) (a : Addr) (ys : List V) (pr o o' : List Addr) (H H' : Hp) : Prop where
  at_ : H' a = some (.lst ys)
  old : ∀ b u, H b = some u → b ≠ a → (b ∉ o ∨ b ∈ pr) → (∀ ps, u ≠ .tbl ps) → H' b = some u
  tab : Tabs W.TT H → Tabs W.TT H'
  nn : ∀ b, H' b = none → H b = none
  sub : ∀ b ∈ o', b ∈ o ∨ H b = none
  sup : ∀ b ∈ o, b ∈ o'
  on : (∀ b ∈ o, H b ≠ none) → ∀ b ∈ o', H' b ≠ none
section
variable {ι κ β γ : Type} {W : Wd ι} {a : Addr} {H H' H1 H2 : Hp} {E : XK} {pr pr' o o' o1 o2 : List Addr}
theorem Mv.refl (W : Wd ι) (pr o : List Addr) (H : Hp) : Mv W pr o o H H := ⟨fun _ _ e _ _ => e, id, fun _ h => h, fun _ h => .inl h, fun _ h => h, id⟩
theorem mv_keepo (x : Mv W pr o o1 H H1) {b : Addr} {u : HO} (e : H b = some u) (h : b ∉ o ∨ b ∈ pr) : b ∉ o1 ∨ b ∈ pr := by
  rcases h with h | h
  · by_cases c : b ∈ o1
    · rcases x.sub b c with z | z
      · exact absurd z h
      · rw [e] at z; cases z
    · exact .inl c
  · exact .inr h
theorem mv_sub (x : Mv W pr o o1 H H1) {b : Addr} (h : b ∈ o1 ∨ H1 b = none) : b ∈ o ∨ H b = none := by
  rcases h with h | h
  · exact x.sub b h
  · exact .inr (x.nn b h)
theorem Mv.trans (x : Mv W pr o o1 H H1) (y : Mv W pr o1 o2 H1 H2) : Mv W pr o o2 H H2 :=
  ⟨fun b u e h nt => y.ext b u (x.ext b u e h nt) (mv_keepo x e h) nt, fun t => y.tab (x.tab t), fun b h => x.nn b (y.nn b h), fun b hb => mv_sub x (y.sub b hb), fun b hb => y.sup b (x.sup b hb), fun h => y.on (x.on h)⟩
theorem Mv.same (s : Same H H') : Mv W pr o o H H' := ⟨fun b u e _ _ => s b u e, fun t => t.ext s, fun b e => same_nn s e, fun _ h => .inl h, fun _ h => h, fun h b hb z => h b hb (same_nn s z)⟩
theorem Pt.mv {ys : List V} (x : Mv W pr o o1 H H1) (y : Pt W a ys pr o1 o2 H1 H2) : Pt W a ys pr o o2 H H2 :=
  ⟨y.at_, fun b u e n h nt => y.old b u (x.ext b u e h nt) n (mv_keepo x e h) nt, fun t => y.tab (x.tab t), fun b h => x.nn b (y.nn b h), fun b hb => mv_sub x (y.sub b hb), fun b hb => y.sup b (x.sup b hb), fun h => y.on (x.on h)⟩
theorem Mv.less (h : ∀ b ∈ pr, b ∈ pr') (x : Mv W pr' o o' H H') : Mv W pr o o' H H' := ⟨fun b u e c nt => x.ext b u e (c.imp_right (h b)) nt, x.tab, x.nn, x.sub, x.sup, x.on⟩
theorem Pt.less {ys : List V} (h : ∀ b ∈ pr, b ∈ pr') (x : Pt W a ys pr' o o' H H') : Pt W a ys pr o o' H H' := ⟨x.at_, fun b u e n c nt => x.old b u e n (c.imp_right (h b)) nt, x.tab, x.nn, x.sub, x.sup, x.on⟩
/-- the tree is kept at H; o: the program's own objects, pr: those of them that stay as they are -/
def Wp (W : Wd ι) (a : Addr) (E : XK) (pr : List Addr) : Ak ι β → List Addr → Hp → (β → List Addr → Hp → Prop) → Prop
  | .ret b, o, H, Q => ∀ o' H', Mv W pr o o' H H' → Q b o' H'
  | .ask q k, o, H, Q => ∀ o' H', Mv W pr o o' H H' → W.Do q H' (fun v H2 => ∃ b, v = .bl b ∧ Frm W H' H2 ∧ Wp W a E pr (k b) o' H2 Q) E
  | .put ys k, o, H, Q => ∀ o' H', Pt W a ys pr o o' H H' → Wp W a E pr k o' H' Q
theorem Wp.mv {Q : β → List Addr → Hp → Prop} (m : Mv W pr o o' H H') : ∀ {t : Ak ι β}, Wp W a E pr t o H Q → Wp W a E pr t o' H' Q
  | .ret b, h => fun o2 H2 n => h o2 H2 (m.trans n)
  | .ask q k, h => fun o2 H2 n => h o2 H2 (m.trans n)
  | .put ys k, h => fun o2 H2 n => h o2 H2 (n.mv m)
theorem Wp.imp {Q Q' : β → List Addr → Hp → Prop} (m : ∀ b o H, Q b o H → Q' b o H) : ∀ {t : Ak ι β} {o : List Addr} {H : Hp}, Wp W a E pr t o H Q → Wp W a E pr t o H Q'
  | .ret b, _, _, h => fun o2 H2 n => m _ _ _ (h o2 H2 n)
  | .ask q k, _, _, h => fun o2 H2 n => W.mono _ _ _ _ _ _ (fun v H3 ⟨b, e, f, w⟩ => ⟨b, e, f, Wp.imp m w⟩) (fun _ _ _ z => z) (h o2 H2 n)
  | .put ys k, _, _, h => fun o2 H2 n => Wp.imp m (h o2 H2 n)
/-- more stays as it is -/
theorem Wp.prot {Q : β → List Addr → Hp → Prop} (le : ∀ b ∈ pr, b ∈ pr') : ∀ {t : Ak ι β} {o : List Addr} {H : Hp}, Wp W a E pr t o H Q → Wp W a E pr' t o H Q
  | .ret b, _, _, h => fun o2 H2 n => h o2 H2 (n.less le)
  | .ask q k, _, _, h => fun o2 H2 n => W.mono _ _ _ _ _ _ (fun v H3 ⟨b, e, f, w⟩ => ⟨b, e, f, Wp.prot le w⟩) (fun _ _ _ z => z) (h o2 H2 (n.less le))
  | .put ys k, _, _, h => fun o2 H2 n => Wp.prot le (h o2 H2 (n.less le))
theorem Wp.bind {Q : γ → List Addr → Hp → Prop} {g : β → Ak ι γ} : ∀ {t : Ak ι β} {o : List Addr} {H : Hp}, Wp W a E pr (t.bind g) o H Q → Wp W a E pr t o H (fun b o' H' => Wp W a E pr (g b) o' H' Q)
  | .ret b, _, _, h => fun o2 H2 n => Wp.mv n h
  | .ask q k, _, _, h => fun o2 H2 n => W.mono _ _ _ _ _ _ (fun v H3 ⟨b, e, f, w⟩ => ⟨b, e, f, Wp.bind w⟩) (fun _ _ _ z => z) (h o2 H2 n)
  | .put ys k, _, _, h => fun o2 H2 n => Wp.bind (h o2 H2 n)
end
/-! ### a tree run by answers -/
section
variable {ι β γ : Type}
/-- what is told, how the row stands at last, what was asked and how the row stood -/
def Ak.run (tl : Nat → ι → Bool) : Ak ι β → Nat → List V → β × List V × List (ι × List V)
  | .ret b, _, xs => (b, xs, [])
  | .ask q k, n, xs => (((k (tl n q)).run tl (n + 1) xs).1, ((k (tl n q)).run tl (n + 1) xs).2.1, (q, xs) :: ((k (tl n q)).run tl (n + 1) xs).2.2)
  | .put ys k, n, _ => k.run tl n ys
theorem run_bind (tl : Nat → ι → Bool) (g : β → Ak ι γ) : ∀ (t : Ak ι β) (n : Nat) (xs : List V),
    (t.bind g).run tl n xs = (((g (t.run tl n xs).1).run tl (n + (t.run tl n xs).2.2.length) (t.run tl n xs).2.1).1, ((g (t.run tl n xs).1).run tl (n + (t.run tl n xs).2.2.length) (t.run tl n xs).2.1).2.1,
      (t.run tl n xs).2.2 ++ ((g (t.run tl n xs).1).run tl (n + (t.run tl n xs).2.2.length) (t.run tl n xs).2.1).2.2)
  | .ret b, n, xs => by simp [Ak.bind, Ak.run]
  | .ask q k, n, xs => by
    have e := run_bind tl g (k (tl n q)) (n + 1) xs
    simp only [Ak.bind, Ak.run, e, List.length_cons, List.cons_append]
    rw [show n + 1 + ((k (tl n q)).run tl (n + 1) xs).2.2.length = n + (((k (tl n q)).run tl (n + 1) xs).2.2.length + 1) by omega]
  | .put ys k, n, xs => run_bind tl g k n ys
/-- kept by an invariant over so many askings -/
theorem Wp.of_run {W : Wd ι} {a : Addr} {E : XK} {pr : List Addr} (tl : Nat → ι → Bool) (I : List Addr → Nat → Hp → Prop) {Q : β → List Addr → Hp → Prop} (im : ∀ o o' n H H', I o n H → Mv W pr o o' H H' → I o' n H') (ip : ∀ o o' n ys H H', I o n H → Pt W a ys pr o o' H H' → I o' n H') (ia : a ∉ W.MM) (io : ∀ o n H, I o n H → a ∉ o) :
    ∀ (t : Ak ι β) (n : Nat) (xs : List V) (o : List Addr) (H : Hp), I o n H → H a = some (.lst xs) →
      (∀ i q ys o' H', (t.run tl n xs).2.2[i]? = some (q, ys) → I o' (n + i) H' → H' a = some (.lst ys) → W.Do q H' (fun v H2 => v = .bl (tl (n + i) q) ∧ Frm W H' H2 ∧ I o' (n + i + 1) H2) E) →
      (∀ o' H', I o' (n + (t.run tl n xs).2.2.length) H' → H' a = some (.lst (t.run tl n xs).2.1) → Q (t.run tl n xs).1 o' H') → Wp W a E pr t o H Q
  | .ret b, n, xs, o, H, i0, ha, _, hq => fun o' H' m => hq o' H' (im _ _ _ _ _ i0 m) (m.ext _ _ ha (.inl (io _ _ _ i0)) (fun _ z => by cases z))
  | .ask q k, n, xs, o, H, i0, ha, hs, hq => fun o' H' m => by
    have ha' := m.ext _ _ ha (.inl (io _ _ _ i0)) (fun _ z => by cases z)
    refine W.mono _ _ _ _ _ _ (fun v H2 ⟨e, f, i2⟩ => ⟨tl n q, e, f, ?_⟩) (fun _ _ _ z => z) (hs 0 q xs o' H' rfl (im _ _ _ _ _ i0 m) ha')
    have ha2 := f.old _ _ ha' ia (fun _ z => by cases z)
    refine Wp.of_run tl I im ip ia io (k (tl n q)) (n + 1) xs o' H2 i2 ha2 (fun i q' ys o3 H3 e3 i3 h3 => ?_) fun o3 H3 i3 h3 => ?_
    · have z := hs (i + 1) q' ys o3 H3 (by simpa [Ak.run] using e3) (by rw [show n + (i + 1) = n + 1 + i by omega]; exact i3) h3
      rw [show n + (i + 1) = n + 1 + i by omega] at z
      exact z
    · refine hq o3 H3 ?_ h3
      simp only [Ak.run, List.length_cons]
      rw [show n + (((k (tl n q)).run tl (n + 1) xs).2.2.length + 1) = n + 1 + ((k (tl n q)).run tl (n + 1) xs).2.2.length by omega]
      exact i3
  | .put ys k, n, xs, o, H, i0, ha, hs, hq => fun o' H' p => Wp.of_run tl I im ip ia io k n ys o' H' (ip _ _ _ _ _ _ i0 p) p.at_ hs hq
/-- the very askings are those of another run, as long as the answers are alike -/
theorem run_pre (tl tl' : Nat → ι → Bool) : ∀ (t : Ak ι β) (n : Nat) (xs : List V) (m : Nat), (∀ i q ys, i < m → (t.run tl n xs).2.2[i]? = some (q, ys) → tl (n + i) q = tl' (n + i) q) → (t.run tl n xs).2.2.take (m + 1) = (t.run tl' n xs).2.2.take (m + 1)
  | .ret b, n, xs, m, _ => rfl
  | .ask q k, n, xs, m, h => by
    simp only [Ak.run, List.take_succ_cons]
    congr 1
    cases m with
    | zero => rfl
    | succ m =>
      have e := h 0 q xs (Nat.succ_pos _) rfl
      rw [Nat.add_zero] at e
      rw [← e]
      exact run_pre tl tl' (k (tl n q)) (n + 1) xs m fun i q' ys hi e' => by
        have z := h (i + 1) q' ys (by omega) (by simpa [Ak.run] using e')
        rw [show n + (i + 1) = n + 1 + i by omega] at z
        exact z
  | .put ys k, n, xs, m, h => run_pre tl tl' k n ys m h
end
end Xk

/-! Xk2: a lambda with parameters handed down: the running frame's cells are heap objects while the callee runs -/
namespace Xk
open PySem PySem.Spec PySem.Calls PyProof.Rows L2 Rs LamX NdefX Xf Xh
/-- a cell of a running frame, while a callee runs: its very object -/
def CellZ (c : Addr) (o : Obj) (v : V) : HO := .frz o (.ext fun h => ∃ u, RelV v u ∧ h.IsCell c (some u))
theorem cellZ_ok {P : Program} {w : World} {H : Hp} {h : Heap} {c : Addr} {o : Obj} {v : V} {u : Value} (r : RelV v u) (e : h.get? c = some o) (k : h.IsCell c (some u)) : ObjOk P w H h c (CellZ c o v) :=
  ⟨e, ⟨u, r, k⟩, ⟨o, e⟩, fun h1 h2 ⟨u, r, o, ho, hd⟩ k => ⟨u, r, o, k o ho, hd⟩⟩
theorem cellZ_at {P : Program} {w : World} {H : Hp} {h : Heap} {c : Addr} {o : Obj} {v : V} (hok : HOk P w H h) (e : H c = some (CellZ c o v)) : h.get? c = some o ∧ ∃ u, RelV v u ∧ h.IsCell c (some u) := by
  obtain ⟨e1, z, _, _⟩ := hok c _ e
  exact ⟨e1, z⟩
def unhideZ (oz : Addr → Obj) (cs : CL) (H : Hp) : Hp := fun b => match cs.lookup b with
  | some v => some (CellZ b (oz b) v)
  | none => H b
def TrkZ (oz : Addr → Obj) (cs : CL) (H : Hp) : Prop := ∀ b v, cs.lookup b = some v → H b = some (CellZ b (oz b) v)
section
variable {cs : CL} {oz : Addr → Obj} {H H' : Hp} {b : Addr} {v : V} {o : HO}
theorem unhideZ_in (h : cs.lookup b = some v) : unhideZ oz cs H b = some (CellZ b (oz b) v) := by unfold unhideZ; rw [h]
theorem unhideZ_out (h : cs.lookup b = none) : unhideZ oz cs H b = H b := by unfold unhideZ; rw [h]
theorem unhideZ_trk : TrkZ oz cs (unhideZ oz cs H) := fun b v e => unhideZ_in e
theorem TrkZ.out (t : TrkZ oz cs H) (h : H b = some o) (n : ∀ ob u, o ≠ .frz ob u) : cs.lookup b = none := by
  cases e : cs.lookup b with
  | none => rfl
  | some v =>
    rw [t b v e] at h
    exact absurd (Option.some.inj h).symm (n _ _)
theorem TrkZ.none (t : TrkZ oz cs H) (h : H b = none) : cs.lookup b = none := by
  cases e : cs.lookup b with
  | none => rfl
  | some v => rw [t b v e] at h; cases h
theorem hide_unhideZ (fr : Free cs H) : hide cs (unhideZ oz cs H) = H := by
  funext b
  cases e : cs.lookup b with
  | none => rw [hide_out e, unhideZ_out e]
  | some v => rw [hide_in e, fr b v e]
theorem unhideZ_keep (fr : Free cs H) (e : H b = some o) : unhideZ oz cs H b = some o := by
  rw [unhideZ_out]
  · exact e
  · cases z : cs.lookup b with
    | none => rfl
    | some v => rw [fr b v z] at e; cases e
theorem hideZ_hok {P : Program} {w : World} {h : Heap} (t : TrkZ oz cs H) (x : HOk P w H h) : HOk P w (hide cs H) h := fun a o e => by
  obtain ⟨_, e2⟩ := hide_some e
  refine (x a o e2).stay (fun b u _ q => q) (fun b q => ?_) fun b xs q => ?_
  · rw [hide_out (t.out q fun _ _ z => by cases z)]; exact q
  · rw [hide_out (t.out q fun _ _ z => by cases z)]; exact q
theorem unhideZ_hok {P : Program} {w : World} {h : Heap} (n : ∀ b v, cs.lookup b = some v → H b = Option.none) (c : ∀ b v, cs.lookup b = some v → h.get? b = some (oz b) ∧ ∃ u, RelV v u ∧ h.IsCell b (some u)) (x : HOk P w H h) : HOk P w (unhideZ oz cs H) h := fun a o e => by
  cases hl : cs.lookup a with
  | some v =>
    rw [unhideZ_in hl] at e
    cases e
    obtain ⟨e1, u, r, q⟩ := c a v hl
    exact cellZ_ok r e1 q
  | none =>
    rw [unhideZ_out hl] at e
    have out : ∀ {b : Addr} {u : HO}, H b = some u → cs.lookup b = none := fun {b u} q => by
      cases z : cs.lookup b with
      | none => rfl
      | some v => rw [n b v z] at q; cases q
    exact (x a o e).stay (fun b u _ q => q) (fun b q => by rw [unhideZ_out (out q)]; exact q) fun b xs q => by rw [unhideZ_out (out q)]; exact q
theorem unhideZ_un {fs : List Addr} {h h' : Heap} (t : TrkZ oz cs H) (u : Un fs [] (hide cs H) H' h h') : Un fs [] H (unhideZ oz cs H') h h' where
  keep := fun b o q n => u.keep b o q (hide_none n)
  slot := fun b o q n => u.slot b o q (hide_none n)
  free := fun b o q n x => by rw [unhideZ_out (t.none n)]; exact u.free b o q (hide_none n) x
  there := u.there
  tups := fun b xs q => by
    have l := t.out q fun _ _ z => by cases z
    rw [unhideZ_out l]
    exact u.tups b xs (by rw [hide_out l]; exact q)
  frzs := fun b o xs q => by
    cases l : cs.lookup b with
    | none =>
      rw [unhideZ_out l]
      exact u.frzs b o xs (by rw [hide_out l]; exact q)
    | some v => rw [unhideZ_in l, ← t b v l]; exact q
  tbls := fun b ps q => by
    have l := t.out q fun _ _ z => by cases z
    obtain ⟨m, z⟩ := u.tbls b ps (by rw [hide_out l]; exact q)
    exact ⟨m, by rw [unhideZ_out l]; exact z⟩
theorem unhideZ_ub {fs : List Addr} {h B h' : Heap} (t : TrkZ oz cs H) (u : UB fs (hide cs H) H' h B h') : UB fs H (unhideZ oz cs H') h B h' where
  keep := fun b o q n => u.keep b o q (hide_none n)
  slot := u.slot
  free := fun b o q n => by rw [unhideZ_out (t.none n)]; exact u.free b o q (hide_none n)
  there := u.there
  tups := fun b xs q => by
    have l := t.out q fun _ _ z => by cases z
    rw [unhideZ_out l]
    exact u.tups b xs (by rw [hide_out l]; exact q)
  frzs := fun b o xs q => by
    cases l : cs.lookup b with
    | none =>
      rw [unhideZ_out l]
      exact u.frzs b o xs (by rw [hide_out l]; exact q)
    | some v => rw [unhideZ_in l, ← t b v l]; exact q
  tbls := fun b ps q => by
    have l := t.out q fun _ _ z => by cases z
    obtain ⟨m, z⟩ := u.tbls b ps (by rw [hide_out l]; exact q)
    exact ⟨m, by rw [unhideZ_out l]; exact z⟩
end
/-- a wish, of the heap without the cells -/
def Qz (oz : Addr → Obj) (cs : CL) (Q : VK) : VK := fun v H' => Free cs H' → Q v (unhideZ oz cs H')
def Ez (oz : Addr → Obj) (cs : CL) (E : XK) : XK := fun c d H' => Free cs H' → E c d (unhideZ oz cs H')
section
variable {P : Program} {w : World} {outer : List Env} {cs : CL} {oz : Addr → Obj} {H : Hp} {s s' : Shared} {Q : VK} {E : XK} {u : Value}
theorem cellsZ_kept {fs : List Addr} {h B : Heap} (t : TrkZ oz cs H) (hok : HOk P w H h) (hf : ∀ b ∈ fs, H b = none) (k : ∀ b o, h.get? b = some o → hide cs H b = none → b ∉ fs → B.get? b = some o) : ∀ b v, cs.lookup b = some v → B.get? b = some (oz b) ∧ ∃ u, RelV v u ∧ B.IsCell b (some u) := fun b v e => by
  obtain ⟨e1, u, r, o, ho, hd⟩ := cellZ_at hok (t b v e)
  have nf : b ∉ fs := fun z => by have := hf b z; rw [t b v e] at this; cases this
  exact ⟨k b _ e1 (hide_in e) nf, u, r, o, k b o ho (hide_in e) nf, hd⟩
theorem ce_unhideZ (t : TrkZ oz cs H) (hok : HOk P w H s.heap) (hf : ∀ b ∈ frs outer, H b = none) (h : CE outer P w (hide cs H) s (Qz oz cs Q) u s') : CE outer P w H s Q u s' := by
  obtain ⟨v, H', e1, e2, un, hok', r, q⟩ := h
  have ck := cellsZ_kept (P := P) (w := w) t hok hf (fun b o q n nf => un.keep b o q n nf (by simp))
  have fr : Free cs H' := fun b v e => by
    obtain ⟨e1, _⟩ := cellZ_at hok (t b v e)
    exact un.free b _ e1 (hide_in e) (by simp)
  exact ⟨v, unhideZ oz cs H', e1, e2, unhideZ_un t un, unhideZ_hok fr ck hok', r, q fr⟩
theorem cx_unhideZ (t : TrkZ oz cs H) (hok : HOk P w H s.heap) (hf : ∀ b ∈ frs outer, H b = none) (h : L2.CX P w outer (hide cs H) s (Ez oz cs E) u s') : L2.CX P w outer H s E u s' := by
  obtain ⟨a, B, H', cls, d, e0, fl, hok', ub, na, e1, e2, q⟩ := h
  have ck := cellsZ_kept (P := P) (w := w) t hok hf (fun b o q n nf => ub.keep b o q n nf)
  have fr : Free cs H' := fun b v e => by
    obtain ⟨e1, _⟩ := cellZ_at hok (t b v e)
    exact ub.free b _ e1 (hide_in e)
  refine ⟨a, B, unhideZ oz cs H', cls, d, e0, fl, unhideZ_hok fr ck hok', unhideZ_ub t ub, ?_, e1, e2, q fr⟩
  cases hl : cs.lookup a with
  | none => rw [unhideZ_out hl]; exact na
  | some v =>
    obtain ⟨ho, _⟩ := ck a v hl
    have z := fl.2.1
    rw [ho] at z; cases z
end
section
variable {P : Program} {w : World} {K : PySem.W.Frag} {mg : Str → Option Value} {base : Heap} {N ps fr : List Str} {F : LF} {f : Addr} {k j : Nat} {H : Hp} {vs : List V} {Q Q' : VK} {E : XK} {cs : CL} {oz : Addr → Obj}
theorem env_hideZ {A : Around} {outer : List Env} {s : Shared} (t : TrkZ oz cs H) (e : Env0 P w K mg base A outer s H) : Env0 P w K mg base A outer s (hide cs H) :=
  ⟨e.frames, e.mod, fun b o q => ⟨(e.bs b o q).1, hide_none (e.bs b o q).2⟩, e.bsz, e.funs, fun b q => hide_none (e.frf b q), hideZ_hok t e.hok, e.bare⟩
theorem cells_hideZ {F : NF} {h : Heap} {ws : List (Option V)} (t : TrkZ oz cs H) (hok : HOk P w H h) (c : ClAt F.cl fr ws cs) : CellsAt F.cl fr ws h (hide cs H) := by
  refine ⟨c.len, fun y a e => ?_, c.inj, fun i y e => ?_⟩
  · obtain ⟨v, q⟩ := c.all y a e
    obtain ⟨_, u, _, z⟩ := cellZ_at hok (t a v q)
    exact ⟨hide_in q, _, z⟩
  · obtain ⟨a, e1, e2⟩ := c.has i y e
    refine ⟨a, e1, fun v ev => ?_⟩
    obtain ⟨_, u, r, z⟩ := cellZ_at hok (t a v (e2 v ev))
    exact ⟨u, r, z⟩
/-- a lambda that captured names of a frame that still runs -/
theorem calls_lamZ {ws : List (Option V)} {t : TE} (S : NScope N ps fr F.scope) (hb : ∀ (pm ctv : Value) (us : List Value), us.length = ps.length → bindArgs (F.fd pm ctv) ⟨us, []⟩ = pure (ps.zip us)) (hl : vs.length = ps.length)
    (tr : TrkZ oz cs H) (c : ClAt F.cl fr ws cs) (hf : H f = some (LamO f F)) (hc : H F.c = some (CodeO F.c F.qual))
    (hbody : ∀ (A : Around) (outer : List Env) (s : Shared), Room k (A.deeper (envF F.nf f s.heap.objs.size)) → PE (ncx (L2.CX P w) P w K mg base N F.nf f A outer s (hide cs H) (Ez oz cs E)) F.body t) (hq : t (startF N vs ws) (hide cs H) (Qz oz cs Q)) :
    CallsTo P w K mg base (L2.CX P w) (k + 1) f H vs Q E := by
  refine fun A outer s us hr e0 r => ?_
  have e1 := env_hideZ tr e0
  have unlim : s.heap.NoLimit := e0.mod.nolimit.keeps fun x y z => (e0.bs x y z).1
  obtain ⟨pm, ctv, ho⟩ := lamO_at e0.hok hf
  refine ⟨⟨_, _, _, _, ho⟩, ?_⟩
  refine PySem.W.kla_callFunE hr.depth ho rfl S.co S.gen rfl (codeO_at e0.hok hc) ?_
  rw [hb pm ctv us (by rw [← r.length]; exact hl)]
  refine wpAny_pure (wpAny_newFunctionEnv S.nocell (fun y hy => S.par y.1 (List.of_mem_zip hy).1) (fun hn frm grown => ⟨unlim.fresh _ grown, ?_⟩) S.kind)
  show codeAny _ _ (.expr F.body (envF F.nf f s.heap.objs.size)) _ _
  have still : ∀ x y, s.heap.get? x = some y → hn.get? x = some y := fun x y z => grown.extBut x y (Nat.ne_of_lt (Heap.lt_size z)) (Heap.get?_push_of_some _ z)
  have C : CellsAt F.nf.cl fr ws s.heap (hide cs H) := cells_hideZ (F := F.nf) tr e0.hok c
  have I : Inv (ncx (L2.CX P w) P w K mg base N F.nf f A outer s (hide cs H) (Ez oz cs E)) [] (startF N vs ws) (hide cs H) { s with heap := hn, toks := s.toks + (ps.zip us).length } := inv_startN S hr.hd e1 hl r C frm still
  refine PySem.W.kla_codeExpr (wpAny_mono ((hbody A outer s (hr.deeper _)).run [] _ (startF N vs ws) (hide cs H) (Qz oz cs Q) I hq) (fun v s' hq => ?_) fun e s' hq => ?_)
  · obtain ⟨w', H', J, rv, q⟩ := hq
    exact ce_unhideZ tr e0.hok e0.frf ⟨w', H', J.os, J.bare, J.base, J.hok, rv, q⟩
  · refine wpAny_mono hq (fun _ s2 z => ?_) fun e2 s2 z => ?_
    · exact cx_unhideZ tr e0.hok e0.frf z
    · exact cx_unhideZ tr e0.hok e0.frf z
end
section
variable {X : Cx} {pins : List (Addr × Obj)} {σ : L2.St} {H H' : Hp} {s s' : Shared} {cs : CL} {oz : Addr → Obj} {h' : Heap}
theorem callC_free (I : Inv X pins σ H s) (cv : Cov X.N X.env.cells σ cs) : Free cs H := fun b v e => by
  obtain ⟨y, j, h1, _⟩ := cv.own b v e
  exact I.freeC y b h1
/-- behind a call that saw the cells -/
theorem _root_.L2.Inv.callC {g' : Array GenState} {t' : Nat} {d' : Drawn} (I : Inv X pins σ H s) (fnA : ∀ y, X.fn y = true) (cv : Cov X.N X.env.cells σ cs) (all : ∀ (y : Str) (c : Addr), X.env.cells.lookup y = some c → ∃ (j : Nat) (v : V), X.N[j]? = some y ∧ σ[j]? = some (some v))
    (u : Un (frs X.stack) [] (unhideZ oz cs H) H' s.heap h') (hok : HOk X.prog X.w H' h') (tr : TrkZ oz cs H') (hg : AllBare g') : Inv X pins σ (hide cs H') { s with heap := h', gens := g', drawn := d', toks := t' } := by
  have fr := callC_free I cv
  have un : ∀ {b : Addr}, H b = Option.none → cs.lookup b = Option.none → unhideZ oz cs H b = Option.none := fun {b} n l => by rw [unhideZ_out l]; exact n
  have lo : ∀ b o, X.s_0.heap.get? b = some o → cs.lookup b = Option.none := fun b o e => by
    cases z : cs.lookup b with
    | none => rfl
    | some v =>
      obtain ⟨y, j, h1, _⟩ := cv.own b v z
      have := I.ok.cab y b (fnA y) h1
      exact absurd (Nat.lt_of_lt_of_le (Heap.lt_size e) this) (Nat.lt_irrefl _)
  have nst : ∀ b o, X.s_0.heap.get? b = some o → b ∉ X.fs → b ∉ frs X.stack := fun b o e nb hm => by
    rcases List.mem_cons.mp (I.stkSub b hm) with z | z
    · rw [z] at e
      exact absurd (Nat.lt_of_lt_of_le (Heap.lt_size e) I.ok.above) (Nat.lt_irrefl _)
    · exact nb z
  have some_lo : ∀ {b : Addr} {o : HO}, H b = some o → cs.lookup b = Option.none := fun {b o} e => by
    cases z : cs.lookup b with
    | none => rfl
    | some v => rw [fr b v z] at e; cases e
  have lloc : cs.lookup X.env.locals = Option.none := by
    cases z : cs.lookup X.env.locals with
    | none => rfl
    | some v =>
      obtain ⟨y, j, h1, _⟩ := cv.own _ v z
      exact absurd rfl (I.cne y _ h1)
  have cellK : ∀ (y : Str) (c : Addr), X.env.cells.lookup y = some c → ∃ (j : Nat) (v : V), X.N[j]? = some y ∧ σ[j]? = some (some v) ∧ cs.lookup c = some v ∧ ∃ u, RelV v u ∧ h'.IsCell c (some u) := fun y c e => by
    obtain ⟨j, v, h1, h2⟩ := all y c e
    have h3 := cv.has y c j v e h1 h2
    exact ⟨j, v, h1, h2, h3, (cellZ_at hok (tr c v h3)).2⟩
  refine ⟨I.ok, I.os, hg, ⟨fun b o e n hb hx => ?_, fun b o e n hb hx => ?_, fun b o e n hx => ?_, fun b o e hx => ?_, fun b xs e => ?_, fun b o xs e => ?_, fun b ps e => ?_⟩, ?_, fun y c e => ?_, ?_, fun y c e => ?_, fun p hp => ?_, hideZ_hok tr hok, I.len⟩
  · exact u.keep b o (I.base.keep b o e n hb hx) (un (I.base.free b o e n hx) (lo b o e)) (nst b o e hb) (by simp)
  · obtain ⟨sl, e1⟩ := I.base.slot b o e n hb hx
    obtain ⟨sl2, e2⟩ := u.any e1 (un (I.base.free b o e n hx) (lo b o e)) (by simp)
    exact ⟨sl2, e2⟩
  · obtain ⟨o', e1⟩ := I.base.there b o e hx
    exact hide_none (u.free b o' e1 (un (I.base.free b o e n hx) (lo b o e)) (by simp))
  · obtain ⟨o', e1⟩ := I.base.there b o e hx
    exact u.there b o' e1 (by simp)
  · have e1 := I.base.tups b xs e
    have l := some_lo e1
    rw [hide_out l]
    exact u.tups b xs (by rw [unhideZ_out l]; exact e1)
  · have e1 := I.base.frzs b o xs e
    have l := some_lo e1
    rw [hide_out l]
    exact u.frzs b o xs (by rw [unhideZ_out l]; exact e1)
  · obtain ⟨m1, e1⟩ := I.base.tbls b ps e
    have l := some_lo e1
    obtain ⟨m2, e2⟩ := u.tbls b (ps ++ m1) (by rw [unhideZ_out l]; exact e1)
    exact ⟨m1 ++ m2, by rw [hide_out l, e2, Array.append_assoc]⟩
  · obtain ⟨m, ⟨o, es, ep, ho, r⟩, hl⟩ := I.loc
    obtain ⟨sl, hL⟩ := u.any ho (un I.free lloc) (by simp)
    refine ⟨m, ⟨_, es, ep, hL, r⟩, fun i x v e1 e2 e3 => ?_⟩
    obtain ⟨w, rw_, l⟩ := hl i x v e1 e2 e3
    rcases l with l | ⟨k, c, e, z⟩
    · exact ⟨w, rw_, .inl l⟩
    · have h3 := cv.has x c i v e e1 e2
      obtain ⟨w2, r2, z2⟩ := (cellZ_at hok (tr c v h3)).2
      exact ⟨w2, r2, .inr ⟨k, c, e, z2⟩⟩
  · obtain ⟨j, v, _, _, _, w, _, z⟩ := cellK y c e
    exact ⟨_, z⟩
  · obtain ⟨m, ⟨o, _, _, ho, _⟩, _⟩ := I.loc
    exact hide_none (u.free _ o ho (un I.free lloc) (by simp))
  · obtain ⟨j, v, _, _, h3, _⟩ := cellK y c e
    exact hide_in h3
  · obtain ⟨e, n, ne, nf, d⟩ := I.pin p hp
    have l : cs.lookup p.1 = Option.none := by
      cases z : cs.lookup p.1 with
      | none => rfl
      | some v =>
        obtain ⟨y, j, h1, _⟩ := cv.own _ v z
        obtain ⟨w, o, ho, hd⟩ := I.cell y _ h1
        rw [e] at ho
        cases ho
        exact absurd hd (d w)
    have ns : p.1 ∉ frs X.stack := fun z => by
      rcases List.mem_cons.mp (I.stkSub _ z) with q | q
      · exact ne q
      · exact nf q
    exact ⟨u.keep _ _ e (un n l) ns (by simp), hide_none (u.free _ _ e (un n l) (by simp)), ne, nf, d⟩
/-- what is wished for at the heap with the cells -/
def Qc (cs : CL) (Q : VK) : VK := fun v H' => Q v (hide cs H')
def Ec (cs : CL) (E : XK) : XK := fun c d H' => E c d (hide cs H')
theorem after_c {Q : VK} {u : Value} (I : Inv X pins σ H s) (fnA : ∀ y, X.fn y = true) (cv : Cov X.N X.env.cells σ cs) (all : ∀ (y : Str) (c : Addr), X.env.cells.lookup y = some c → ∃ (j : Nat) (v : V), X.N[j]? = some y ∧ σ[j]? = some (some v))
    (h : CE X.stack X.prog X.w (unhideZ oz cs H) s (Qc cs Q) u s') : EP X pins σ Q u s' := by
  obtain ⟨v, H', os, bare, un, hok, r, q⟩ := h
  have tr : TrkZ oz cs H' := fun b v e => un.frzs b _ _ (unhideZ_in e)
  obtain ⟨hh, g, d, t, os'⟩ := s'
  obtain rfl : os' = s.os := os
  exact ⟨v, hide cs H', I.callC (h' := hh) (g' := g) (d' := d) (t' := t) fnA cv all un hok tr bare, r, q⟩
theorem _root_.L2.XE.of_callC {W : WX} {E : XK} (I : Inv X pins σ H s) (fnA : ∀ y, X.fn y = true) (cv : Cov X.N X.env.cells σ cs) (all : ∀ (y : Str) (c : Addr), X.env.cells.lookup y = some c → ∃ (j : Nat) (v : V), X.N[j]? = some y ∧ σ[j]? = some (some v))
    (hW : ∀ cls d H', E cls d H' → W cls d σ H') {u : Value} (c : L2.CX X.prog X.w X.stack (unhideZ oz cs H) s (Ec cs E) u s') : XE X W u s' := by
  obtain ⟨a, B, H', cls, d, rfl, fl, hok, ub, na, os, ag, hE⟩ := c
  have tr : TrkZ oz cs H' := fun b v e => ub.frzs b _ _ (unhideZ_in e)
  obtain ⟨G, g1, g2⟩ := restrict s'.heap fun b => (B.get? b).isSome || decide (b ∈ frs X.stack)
  have st : B.StaysIn s'.heap := fl.1
  have gB : ∀ b o, B.get? b = some o → G.get? b = some o := fun b o e => by
    rw [g1 b (by simp [e])]
    exact st b o e
  have gF : ∀ b, b ∈ frs X.stack → G.get? b = s'.heap.get? b := fun b hb => g1 b (by simp [hb])
  have og : ∀ b o, G.get? b = some o → s'.heap.get? b = some o ∧ ((B.get? b).isSome = true ∨ b ∈ frs X.stack) := fun b o e => by
    cases q : ((B.get? b).isSome || decide (b ∈ frs X.stack)) with
    | false => rw [g2 b q] at e; cases e
    | true =>
      rw [g1 b q] at e
      exact ⟨e, by simpa [Bool.or_eq_true] using q⟩
  refine ⟨a, B, { s with heap := G, gens := s'.gens, drawn := s'.drawn, toks := s'.toks }, pins, σ, hide cs H', cls, d, rfl, ?_, fun b o e hb => ?_, Heap.UpToSlots.of_keeps fun b o e => (og b o e).1, .inr (.inl fl), hide_none na, os, ag, hW _ _ _ hE⟩
  · refine I.callC fnA cv all ⟨fun b o e n hb _ => gB b o (ub.keep b o e n hb), fun b o e n hb _ => ?_, fun b o e n _ => ub.free b o e n, fun b o e _ => ?_, ub.tups, ub.frzs, ub.tbls⟩ (hok.kept gB) tr ag
    · obtain ⟨sl, q⟩ := ub.slot b o e hb
      exact ⟨sl, by rw [gF b hb]; exact q⟩
    · by_cases hb : b ∈ frs X.stack
      · obtain ⟨sl, q⟩ := ub.slot b o e hb
        exact ⟨_, by rw [gF b hb]; exact q⟩
      · obtain ⟨o', q⟩ := ub.there b o e hb
        exact ⟨o', gB b o' q⟩
  · obtain ⟨e', h⟩ := og b o e
    rcases h with h | h
    · obtain ⟨o', q⟩ := Option.isSome_iff_exists.mp h
      have z := st b o' q
      rw [e'] at z; cases z
      exact q
    · exact absurd h hb
theorem env_unhide {P : Program} {w : World} {K : PySem.W.Frag} {mg : Str → Option Value} {base : Heap} {A : Around} {outer : List Env} (e : Env0 P w K mg base A outer s H) (fr : Free cs H) (nb : ∀ b o, base.get? b = some o → cs.lookup b = Option.none) (nf : ∀ b ∈ frs outer, cs.lookup b = Option.none)
    (c : ∀ b v, cs.lookup b = some v → s.heap.get? b = some (oz b) ∧ ∃ u, RelV v u ∧ s.heap.IsCell b (some u)) : Env0 P w K mg base A outer s (unhideZ oz cs H) :=
  ⟨e.frames, e.mod, fun b o q => ⟨(e.bs b o q).1, by rw [unhideZ_out (nb b o q)]; exact (e.bs b o q).2⟩, e.bsz, e.funs, fun b q => by rw [unhideZ_out (nf b q)]; exact e.frf b q, unhideZ_hok fr c e.hok, e.bare⟩
/-- the state at a call, with the cells -/
theorem env0_c (I : Inv X pins σ H s) (fnA : ∀ y, X.fn y = true) (cv : Cov X.N X.env.cells σ cs) (hoz : ∀ b o, s.heap.get? b = some o → oz b = o) (vis : ∀ (y : Str) (c : Addr), X.env.cells.lookup y = some c → X.env.scope.names.lookup y = some .cell) : Env0 X.prog X.w X.K X.mg X.base X.A X.stack s (unhideZ oz cs H) := by
  refine env_unhide I.env0 (callC_free I cv) (fun b o e => ?_) (fun b hb => ?_) fun b v e => ?_
  · cases z : cs.lookup b with
    | none => rfl
    | some v =>
      obtain ⟨y, j, h1, _⟩ := cv.own b v z
      have h2 := I.ok.cab y b (fnA y) h1
      have h3 := Heap.lt_size (I.ok.bs b o e).1
      exact absurd (Nat.lt_of_lt_of_le h3 h2) (Nat.lt_irrefl _)
  · cases z : cs.lookup b with
    | none => rfl
    | some v =>
      obtain ⟨y, j, h1, _⟩ := cv.own b v z
      rcases List.mem_cons.mp (I.stkSub b hb) with q | q
      · exact absurd q (I.cne y b h1)
      · obtain ⟨_, o, ho, _⟩ := I.ok.funs.mem q
        have h2 := I.ok.cab y b (fnA y) h1
        exact absurd (Nat.lt_of_lt_of_le (Heap.lt_size ho) h2) (Nat.lt_irrefl _)
  · obtain ⟨y, j, h1, h2, h3⟩ := cv.own b v e
    obtain ⟨m, hn, hl⟩ := I.loc
    obtain ⟨u, r, l⟩ := hl j y v h2 h3 (.inr (.inl (vis y b h1)))
    rcases l with ⟨z, _⟩ | ⟨_, c', hc', hcl⟩
    · have z : X.env.scope.names.lookup y = some .local := z
      rw [vis y b h1] at z; cases z
    · rw [h1] at hc'
      cases hc'
      obtain ⟨o, ho, hd⟩ := hcl
      exact ⟨by rw [hoz _ _ ho]; exact ho, u, r, o, ho, hd⟩
end
/-! ### the call -/
/-- g(lambda ..: .., e, ..): the lambda's object, then what the callee is told of the heap with the cells -/
def tDn (X : Cx) (T : List (Addr × Str)) (mk : Addr → LF) (sp : Sp) (E : XK) (ta : TA) : TE := fun σ H Q =>
  (∀ (y : Str) (c : Addr), X.env.cells.lookup y = some c → ∃ (j : Nat) (v : V), X.N[j]? = some y ∧ σ[j]? = some (some v)) ∧ Tabs T H ∧
    ∀ (f c' : Addr) (H1 : Hp), ExtN H H1 → (∀ b, H1 b = Option.none → H b = Option.none) → Tabs T H1 → H f = none → H1 f = some (LamO f (mk c')) → H1 c' = some (CodeO c' (mk c').qual) →
      ta σ H1 fun vs H2 => ∀ (cs : CL) (oz : Addr → Obj), (∀ (x y : Str) (c : Addr), X.env.cells.lookup x = some c → X.env.cells.lookup y = some c → x = y) → Cov X.N X.env.cells σ cs → Free cs H2 → sp (.ref f :: vs) (unhideZ oz cs H2) (Qc cs Q) (Ec cs E)
section
variable {X : Cx} {k : Nat} {f : Addr} {fd : FuncData} {ps : List Str} {sp : Sp} {E : XK} {x : Str} {p pos lpos : Pos} {e : Expr} {es : List Expr} {ta : TA} {T : List (Addr × Str)} {c P : Addr} {params : Arguments} {body : Expr} {scope : Scope} {W : WX}
theorem pe_dn (F : FnOk X.prog X.w X.K X.mg X.base (L2.CX X.prog X.w) k f fd ps sp) (hr : Room k X.A) (hg : Gl X x) (hm : X.mg x = some (.ref f)) (hk : PySem.W.keepIn X.K (.ref f) = true) (hb : Binds X.K fd ps []) (tk : Takes X W) (hW : ∀ cls d σ H, E cls d H → W cls d σ H)
    (TB : TabB X.base X.mg c P) (hcode : X.env.code = .ref c) (hmT : (P, X.env.qual ++ "<lambda>") ∈ T) (hu : ∀ p ∈ T, p.1 = P → p.2 = X.env.qual ++ "<lambda>")
    (hdef : defaultsOf params X.env = ([], [])) (hfree : ∀ y ∈ scope.names, y.2 = .free → X.env.scope.names.lookup y.1 = some .cell ∨ X.env.scope.names.lookup y.1 = some .free) (fnA : ∀ y, X.fn y = true) (hnd : X.N.Nodup)
    (vis : ∀ (y : Str) (c : Addr), X.env.cells.lookup y = some c → X.env.scope.names.lookup y = some .cell)
    (ha : PA X (e :: es) ta) (hdb : (x == ("__debug__" : Str)) = false := by decide) (hst : starEach (.Lambda params body scope lpos :: e :: es) X.env = (false, eval (.Lambda params body scope lpos) X.env) :: starEach (e :: es) X.env := by rfl)
    (hst2 : starEach (e :: es) X.env = (false, eval e X.env) :: starEach es X.env := by rfl)
    (hpl : (backTo pos (starEach (e :: es) X.env)).any (·.1) = false := by rfl) :
    PE X (.Call (.Name x p) (.Lambda params body scope lpos :: e :: es) [] pos) (tDn X T (fun c' => ⟨X.env.qual ++ "<lambda>", params, body, scope, cloFrom X.env.cells scope.names [], c'⟩) sp E ta) := by
  refine ⟨fun pins s σ H Q I h => ?_⟩
  obtain ⟨all, hT, h⟩ := h
  refine wpAny_Call_Name_kw (ld_glob I hg hm ?_ hdb)
  refine PySem.W.callWith_K (h₀ := X.base) I.ok.mod.kin hk ?_ hst hpl
  show wpAny _ _ (spliced ((false, eval (.Lambda params body scope lpos) X.env) :: backTo pos (starEach (e :: es) X.env))) _ _ s
  refine Calls.spliced_cons (lamv_make I TB hcode hdef hmT hu hT (fun y hy e => (hfree y hy e).elim (fun z => I.ok.has _ (.inl z)) fun z => I.ok.has _ (.inr z)) fun fo c' H1 s1 I1 eN nn T1 f0 f1 c1 => ?_)
  have h := h fo c' H1 eN nn T1 f0 f1 c1
  refine thn (ha.run pos pins s1 σ H1 _ I1 h) fun us s2 ⟨vs, H2, I2, r, q⟩ => ⟨I2.kIn, ?_⟩
  obtain ⟨cs, cv⟩ := cov_ex hnd I2.ok.inj all
  let oz : Addr → Obj := fun b => match s2.heap.get? b with
    | some o => o
    | none => { cls := .none, data := .fields #[] }
  have hoz : ∀ b o, s2.heap.get? b = some o → oz b = o := fun b o e => by show (match s2.heap.get? b with | some o => o | none => _) = o; rw [e]
  have q := q cs oz I2.ok.inj cv (callC_free I2 cv)
  have hl : (Value.ref fo :: us).length = ps.length := by
    have z := F.len _ _ _ _ q
    simp only [List.length_cons] at z ⊢
    rw [← r.length]; exact z
  have e0 := env0_c I2 fnA cv hoz vis
  have bi := hb s2 (.ref fo :: us) I2.kIn (by rw [List.append_nil]; exact hl)
  rw [List.append_nil] at bi
  refine wpAny_call (codeAny_mono (F.run X.A X.stack s2 (unhideZ oz cs H2) ⟨.ref fo :: us, []⟩ (.ref fo :: us) (.ref fo :: vs) _ _ hr e0 bi (.cons rfl r) q) fun r s' hq => ?_)
  cases r with
  | error e => exact tk e s' (XE.of_callC I2 fnA cv all (fun cls d H' h => hW cls d σ H' h) hq)
  | ok fl =>
    cases fl with
    | ret u => exact after_c I2 fnA cv all hq
    | next => exact False.elim hq
    | brk => exact False.elim hq
    | cont => exact False.elim hq
/-- a def whose code object is known, by its body; it may raise -/
theorem _root_.Xc.FunC.okX {P : Program} {w : World} {K : PySem.W.Frag} {mg : Str → Option Value} {base : Heap} {x qual : Str} {st : Stmt} {f c : Addr} {fd : FuncData} {N ps : List Str} {k : Nat} {sp : Sp} (F : Xc.FunC K x qual st f fd c) (S : FnScope N ps (defScope st)) (len : ∀ vs H Q E, sp vs H Q E → vs.length = ps.length)
    (hbody : ∀ (A : Around) (outer : List Env) (s : Shared) (H : Hp) (vs : List V) (Q : VK) (E : XK), Room k (A.deeper (envOfC qual (defScope st) s.heap.objs.size f (.ref c))) → sp vs H Q E →
      ∃ t, PSs (cxOf (L2.CX P w) P w K mg base N qual (defScope st) f (.ref c) A outer s H E) (defBody st) t ∧ t { nx := fun _ H' => Q .non H', rt := Q } (start N vs) H) : FnOk P w K mg base (L2.CX P w) (k + 1) f fd ps sp := by
  obtain ⟨oc, od, kV, doc, pm, an, ct, osl, rfl, lk, hcd⟩ := F.ex
  exact fn_of lk hcd S len fun A outer s H vs Q E hr hsp => hbody A outer s H vs Q E hr hsp
end
end Xk

/-! Xk3: trees told of a lambda handed down -/
namespace Xk
open PySem PySem.Spec PySem.Calls PyProof.Rows L2 Rs LamX NdefX Xf Xh
theorem vis_of {names : List (Str × NameKind)} {n : Nat} (nk : (names.map (·.1)).Nodup) : ∀ (y : Str) (c : Addr), (cellsFrom n names []).lookup y = some c → names.lookup y = some .cell := fun y c h => by
  rcases cellsFrom_kind _ _ _ _ _ (PySem.mem_of_lookup h) with z | z
  · cases z
  · exact look_nodup nk z
theorem cx_mono {P : Program} {w : World} {outer : List Env} {H : Hp} {s s' : Shared} {E E' : XK} {u : Value} (m : ∀ c d H', E c d H' → E' c d H') (h : L2.CX P w outer H s E u s') : L2.CX P w outer H s E' u s' := by
  obtain ⟨a, B, H', cls, d, e0, fl, hok', ub, na, e1, e2, q⟩ := h
  exact ⟨a, B, H', cls, d, e0, fl, hok', ub, na, e1, e2, m _ _ _ q⟩
theorem calls_mono2 {P : Program} {w : World} {K : PySem.W.Frag} {mg : Str → Option Value} {base : Heap} {k : Nat} {f : Addr} {H : Hp} {vs : List V} {Q Q' : VK} {E E' : XK} (h : ∀ v H', Q v H' → Q' v H') (m : ∀ c d H', E c d H' → E' c d H')
    (c : CallsTo P w K mg base (L2.CX P w) k f H vs Q E) : CallsTo P w K mg base (L2.CX P w) k f H vs Q' E' :=
  fun A outer s us hr e0 r => ⟨(c A outer s us hr e0 r).1, codeAny_mono (c A outer s us hr e0 r).2 fun rs s' z => by
    cases rs with
    | error e => exact cx_mono m z
    | ok fl =>
      cases fl with
      | ret u => obtain ⟨v, H', e1, e2, un, hok', r, q⟩ := z; exact ⟨v, H', e1, e2, un, hok', r, h v H' q⟩
      | next => exact z
      | brk => exact z
      | cont => exact z⟩
/-- o.m(..) told without the context -/
def tMethP (P : Program) (w : World) (K : PySem.W.Frag) (mg : Str → Option Value) (base : Heap) (k : Nat) (m : Str) (te : TE) (ta : TA) (E : XK) : TE := fun σ H Q => te σ H fun x H1 => ∃ a C dx fs f, x = .ref a ∧ H1 a = some (.ins C dx fs) ∧ Cls K C ∧ Meth K C m f ∧ fs.lookup m = none ∧
  ta σ H1 fun vs H2 => CallsTo P w K mg base (L2.CX P w) k f H2 (x :: vs) Q E
/-- every asking is such -/
def Ak.all {ι β : Type} (R : ι → Prop) : Ak ι β → Prop
  | .ret _ => True
  | .ask q k => R q ∧ ∀ b, (k b).all R
  | .put _ k => k.all R
/-- nothing is put -/
def Ak.np {ι β : Type} : Ak ι β → Prop
  | .ret _ => True
  | .ask _ k => ∀ b, (k b).np
  | .put _ _ => False
section
variable {ι κ β : Type} {W : Wd ι} {W' : Wd κ} {cs : CL} {oz : Addr → Obj} {H H' : Hp} {E : XK} {a b : Addr}
theorem tabs_hide {T : List (Addr × Str)} (tr : TrkZ oz cs H) (t : Tabs T H) : Tabs T (hide cs H) := fun p hp => by
  obtain ⟨ps, h1, h2, h3⟩ := t p hp
  refine ⟨ps, by rw [hide_out (tr.out h1 fun _ _ z => by cases z)]; exact h1, h2, fun pos cv hc => ?_⟩
  obtain ⟨c, e1, e2⟩ := h3 pos cv hc
  exact ⟨c, e1, by rw [hide_out (tr.out e2 fun _ _ z => by unfold CodeO at z; cases z)]; exact e2⟩
theorem tabs_seen {T : List (Addr × Str)} (t : Tabs T (hide cs H)) : Tabs T H := t.ext fun b o e => (hide_some e).2
theorem mv_hide {pr o o' : List Addr} (eT : W'.TT = W.TT) (tr : TrkZ oz cs H) (oc : ∀ b v, cs.lookup b = some v → b ∉ o) (m : Mv W' pr o o' H H') : Mv W pr o o' (hide cs H) (hide cs H') ∧ TrkZ oz cs H' ∧ ∀ b v, cs.lookup b = some v → b ∉ o' := by
  have tr' : TrkZ oz cs H' := fun b v z => m.ext _ _ (tr b v z) (.inl (oc b v z)) (fun _ y => by cases y)
  have oc' : ∀ b v, cs.lookup b = some v → b ∉ o' := fun b v e z => by
    rcases m.sub b z with y | y
    · exact oc b v e y
    · rw [tr b v e] at y; cases y
  refine ⟨⟨fun b u e h n => ?_, fun t => ?_, fun b e => ?_, fun b hb => (m.sub b hb).imp_right hide_none, m.sup, fun h b hb => ?_⟩, tr', oc'⟩
  · obtain ⟨l, e2⟩ := hide_some e
    rw [hide_out l]
    exact m.ext _ _ e2 h n
  · have t1 := m.tab (by rw [eT]; exact tabs_seen t)
    rw [eT] at t1
    exact tabs_hide tr' t1
  · cases l : cs.lookup b with
    | some v => exact hide_in l
    | none =>
      rw [hide_out l] at e ⊢
      exact m.nn b e
  · have l : cs.lookup b = none := by
      cases z : cs.lookup b with
      | none => rfl
      | some v => exact absurd hb (oc' b v z)
    rw [hide_out l]
    refine m.on (fun c hc z => h c hc (hide_none z)) b hb
theorem frm_unhide (eT : W'.TT = W.TT) (eM : W'.MM = W.MM) (jj : ∀ H, W'.J H) {H2 : Hp} (tr : TrkZ oz cs H) (fr : Free cs H2) (f : Frm W (hide cs H) H2) : Frm W' H (unhideZ oz cs H2) := by
  refine ⟨fun b o e n nt => ?_, fun t => ?_, fun b e => ?_, fun _ => jj _⟩
  · cases l : cs.lookup b with
    | some v => rw [unhideZ_in l, ← tr b v l]; exact e
    | none =>
      rw [unhideZ_out l]
      exact f.old b o (by rw [hide_out l]; exact e) (by rw [← eM]; exact n) nt
  · rw [eT] at t ⊢
    exact (f.tab (tabs_hide tr t)).ext fun b o e => unhideZ_keep fr e
  · cases l : cs.lookup b with
    | some v => rw [unhideZ_in l] at e; cases e
    | none =>
      rw [unhideZ_out l] at e
      have z := f.nn b e
      rwa [hide_out l] at z
/-- what a lambda asks for each place -/
theorem Wp.lift {pr : List Addr} (g : κ → ι) (eT : W'.TT = W.TT) (eM : W'.MM = W.MM) (jj : ∀ H, W'.J H) (L1 : Led) (l1 : ∀ q ∈ L1, q.1 ∉ W.MM ∧ ∀ ps, q.2 ≠ .tbl ps)
    (R : κ → Prop) (step : ∀ m Hu Qn En, R m → TrkZ oz cs Hu → (∀ q ∈ L1, Hu q.1 = some q.2) → W.Do (g m) (hide cs Hu) (Qz oz cs Qn) (Ez oz cs En) → W'.Do m Hu Qn En) {Q : β → List Addr → Hp → Prop} :
    ∀ (t : Ak κ β) (o : List Addr) (Hu : Hp), t.np → TrkZ oz cs Hu → (∀ q ∈ L1, Hu q.1 = some q.2) → (∀ q ∈ L1, q.1 ∉ o ∨ q.1 ∈ pr) → (∀ b v, cs.lookup b = some v → b ∉ o) → (Ak.all R t) → Wp W a E pr (t.mapq g) o (hide cs Hu) Q → Wp W' b (Ec cs E) pr t o Hu (fun r o' H' => Q r o' (hide cs H'))
  | .ret r, o, Hu, _, tr, _, _, oc, _, h => fun o' H' m => h o' _ (mv_hide eT tr oc m).1
  | .ask q k, o, Hu, np, tr, hl, lo, oc, al, h => fun o' H' m => by
    obtain ⟨m', tr', oc'⟩ := mv_hide (W := W) eT tr oc m
    have hl' : ∀ q ∈ L1, H' q.1 = some q.2 := fun q hq => m.ext _ _ (hl q hq) (lo q hq) (l1 q hq).2
    have lo' : ∀ q ∈ L1, q.1 ∉ o' ∨ q.1 ∈ pr := fun q hq => mv_keepo m (hl q hq) (lo q hq)
    refine step q H' _ _ al.1 tr' hl' (W.mono _ _ _ _ _ _ ?hq ?he (h o' _ m'))
    case hq =>
      intro v H2 z fr
      obtain ⟨r, e, f, w⟩ := z
      refine ⟨r, e, frm_unhide eT eM jj tr' fr f, ?_⟩
      have tr2 : TrkZ oz cs (unhideZ oz cs H2) := unhideZ_trk
      refine Wp.lift g eT eM jj L1 l1 R step (k r) o' _ (np r) tr2 (fun q hq => ?_) lo' oc' (al.2 r) (by rw [hide_unhideZ fr]; exact w)
      have l2 : cs.lookup q.1 = none ∨ ∃ v, cs.lookup q.1 = some v := by cases cs.lookup q.1 with | none => exact .inl rfl | some v => exact .inr ⟨v, rfl⟩
      rcases l2 with l2 | ⟨v, l2⟩
      · rw [unhideZ_out l2]
        exact f.old _ _ (by rw [hide_out l2]; exact hl' q hq) (l1 q hq).1 (l1 q hq).2
      · rw [unhideZ_in l2, ← tr' _ _ l2]; exact hl' q hq
    case he =>
      intro c d H2 z fr
      show E c d (hide cs (unhideZ oz cs H2))
      rw [hide_unhideZ fr]; exact z
  | .put _ _, _, _, np, _, _, _, _, _, _ => np.elim
end
end Xk

/-! Xk4: a ledger kept over askings -/
namespace Xk
open PySem PySem.Spec PySem.Calls PyProof.Rows L2 Rs LamX Xc Xi
theorem _root_.Rs.Hs.refull {B H : Hp} {M : List Addr} {L : Led} (S : Hs B M H L) : Hs H [] H L := ⟨S.nd, S.is, fun _ _ e _ => e, fun _ h => nomatch h⟩
theorem _root_.Rs.Hs.refullM {B H : Hp} {M M' : List Addr} {L : Led} (S : Hs B M H L) (h : ∀ b ∈ M', b ∈ L.map (·.1)) : Hs H M' H L := ⟨S.nd, S.is, fun _ _ e _ => e, fun b hb => by
  obtain ⟨q, hq, rfl⟩ := List.mem_map.mp (h b hb)
  rw [S.is q hq]; simp⟩
/-- what of the entry stays -/
def bsK (MM : List Addr) (H : Hp) : Hp := fun b => if b ∈ MM then none else noT H b
theorem bsK_some {MM : List Addr} {H : Hp} {b : Addr} {o : HO} (e : bsK MM H b = some o) : H b = some o ∧ b ∉ MM ∧ ∀ ps, o ≠ .tbl ps := by
  unfold bsK at e
  split at e
  · cases e
  · rename_i h; exact ⟨(noT_of e).1, h, (noT_of e).2⟩
theorem bsK_none {MM : List Addr} {H : Hp} {b : Addr} (e : H b = none) : bsK MM H b = none := by
  unfold bsK
  split
  · rfl
  · exact noT_none e
structure BK {ι : Type} (W : Wd ι) (B : Hp) : Prop where
  bk : ∀ b o, B b = some o → b ∉ W.MM ∧ ∀ ps, o ≠ .tbl ps
  js : ∀ H, W.J H → ∀ b ∈ W.MM, Std H b
theorem bk_of {ι : Type} {W : Wd ι} (H : Hp) (js : ∀ H, W.J H → ∀ b ∈ W.MM, Std H b) : BK W (bsK W.MM H) := ⟨fun b o e => (bsK_some e).2, js⟩
/-- B: what stays whatever is asked; M: what the program changes itself; L: what stands; o: the program's own, pr: those of them that stay now -/
structure Kp {ι : Type} (W : Wd ι) (pr o : List Addr) (B : Hp) (M : List Addr) (L : Led) (H : Hp) : Prop where
  S : Hs B M H L
  tb : Tabs W.TT H
  j : W.J H
  lk : ∀ q ∈ L, q.1 ∉ W.MM ∧ (∀ ps, q.2 ≠ .tbl ps) ∧ (q.1 ∉ o ∨ q.1 ∈ pr)
  mo : ∀ b ∈ M, b ∈ L.map (·.1)
  bo : ∀ b u, B b = some u → b ∉ o ∨ b ∈ pr
  oo : ∀ b ∈ o, H b ≠ none
  ps : ∀ b ∈ pr, b ∈ o
section
variable {ι β : Type} {W : Wd ι} {a : Addr} {B H H' : Hp} {M M' : List Addr} {L L' : Led} {E : XK} {Q : β → List Addr → Hp → Prop} {pr pr' o o' : List Addr}
theorem Kp.mu (k : Kp W pr o B M L H) : ∀ b ∈ M, H b ≠ none := fun b hb => by
  obtain ⟨q, hq, rfl⟩ := List.mem_map.mp (k.mo b hb)
  rw [k.S.is q hq]; simp
theorem Kp.mv (k : Kp W pr o B M L H) (bk : BK W B) (m : Mv W pr o o' H H') (om : ∀ b ∈ W.MM, b ∉ o ∨ b ∈ pr) : Kp W pr o' B M L H' := by
  refine ⟨⟨k.S.nd, fun q hq => m.ext _ _ (k.S.is q hq) (k.lk q hq).2.2 (k.lk q hq).2.1, fun b u e hm => m.ext _ _ (k.S.old b u e hm) (k.bo b u e) (bk.bk b u e).2, fun b hb => ?_⟩, m.tab k.tb, ?_, fun q hq => ⟨(k.lk q hq).1, (k.lk q hq).2.1, mv_keepo m (k.S.is q hq) (k.lk q hq).2.2⟩, k.mo, fun b u e => ?_, m.on k.oo, fun b hb => m.sup b (k.ps b hb)⟩
  · obtain ⟨q, hq, rfl⟩ := List.mem_map.mp (k.mo b hb)
    rw [m.ext _ _ (k.S.is q hq) (k.lk q hq).2.2 (k.lk q hq).2.1]; simp
  · exact W.jm _ _ k.j fun b hb u e => m.ext _ _ e (om b hb) ((bk.js _ k.j b hb).not e).tbl
  · by_cases hm : b ∈ M
    · obtain ⟨q, hq, rfl⟩ := List.mem_map.mp (k.mo b hm)
      exact mv_keepo m (k.S.is q hq) (k.lk q hq).2.2
    · exact mv_keepo m (k.S.old b u e hm) (k.bo b u e)
theorem mm_keepo (bk : BK W B) (j : W.J H) (m : Mv W pr o o' H H') (om : ∀ b ∈ W.MM, b ∉ o ∨ b ∈ pr) : ∀ b ∈ W.MM, b ∉ o' ∨ b ∈ pr := fun b hb => by
  obtain ⟨u, e, _⟩ := bk.js _ j b hb
  exact mv_keepo m e (om b hb)
theorem Kp.frm (k : Kp W pr o B M L H) (bk : BK W B) (f : Frm W H H') : Kp W pr o B M L H' := by
  refine ⟨⟨k.S.nd, fun q hq => f.old _ _ (k.S.is q hq) (k.lk q hq).1 (k.lk q hq).2.1, fun b u e hm => f.old _ _ (k.S.old b u e hm) (bk.bk b u e).1 (bk.bk b u e).2, fun b hb => ?_⟩, f.tab k.tb, f.j k.j, k.lk, k.mo, k.bo, fun b hb z => k.oo b hb (f.nn b z), k.ps⟩
  obtain ⟨q, hq, rfl⟩ := List.mem_map.mp (k.mo b hb)
  rw [f.old _ _ (k.S.is q hq) (k.lk q hq).1 (k.lk q hq).2.1]; simp
/-- kept by a tree that puts nothing -/
theorem Wp.keep (bk : BK W B) : ∀ {t : Ak ι β} {o : List Addr} {H : Hp}, t.np → Kp W pr o B M L H → (∀ b ∈ W.MM, b ∉ o ∨ b ∈ pr) → Wp W a E pr t o H Q → Wp W a E pr t o H (fun b o' H' => Q b o' H' ∧ Kp W pr o' B M L H' ∧ (∀ b ∈ W.MM, b ∉ o' ∨ b ∈ pr))
  | .ret b, _, _, _, k, om, h => fun o2 H2 m => ⟨h o2 H2 m, k.mv bk m om, mm_keepo bk k.j m om⟩
  | .ask q c, _, _, np, k, om, h => fun o2 H2 m => W.mono _ _ _ _ _ _ (fun v H3 ⟨b, e, f, w⟩ => ⟨b, e, f, Wp.keep bk (np b) ((k.mv bk m om).frm bk f) (mm_keepo bk k.j m om) w⟩) (fun _ _ _ z => z) (h o2 H2 m)
  | .put _ _, _, _, np, _, _, _ => np.elim
/-- how a tree leaves the row -/
def Ak.ends (R : List V → β → Prop) : Ak ι β → List V → Prop
  | .ret b, xs => R xs b
  | .ask _ k, xs => ∀ b, (k b).ends R xs
  | .put ys k, _ => k.ends R ys
theorem Wp.rets {R : List V → β → Prop} : ∀ {t : Ak ι β} {o : List Addr} {H : Hp} {xs : List V}, t.ends R xs → Wp W a E pr t o H Q → Wp W a E pr t o H (fun b o' H' => (∃ ys, R ys b) ∧ Q b o' H')
  | .ret b, _, _, xs, en, h => fun o2 H2 m => ⟨⟨xs, en⟩, h o2 H2 m⟩
  | .ask q c, _, _, xs, en, h => fun o2 H2 m => W.mono _ _ _ _ _ _ (fun v H3 ⟨b, e, f, w⟩ => ⟨b, e, f, Wp.rets (en b) w⟩) (fun _ _ _ z => z) (h o2 H2 m)
  | .put ys c, _, _, xs, en, h => fun o2 H2 p => Wp.rets (xs := ys) en (h o2 H2 p)
/-- kept by a tree that writes the row -/
theorem Wp.keepR (bk : BK W B) {R : List V → β → Prop} (F : List V → Led) (hF : ∀ ys zs, ∀ q ∈ F ys, q = (a, .lst ys) ∨ (q.1 ≠ a ∧ q ∈ F zs)) (hk : ∀ ys zs, (F ys).map (·.1) = (F zs).map (·.1)) (ha : a ∈ M) :
    ∀ {t : Ak ι β} {o : List Addr} {H : Hp} {xs : List V}, t.ends R xs → Kp W pr o B M (F xs) H → (∀ b ∈ W.MM, b ∉ o ∨ b ∈ pr) → Wp W a E pr t o H Q → Wp W a E pr t o H (fun b o' H' => Q b o' H' ∧ (∃ ys, R ys b ∧ Kp W pr o' B M (F ys) H') ∧ (∀ b ∈ W.MM, b ∉ o' ∨ b ∈ pr))
  | .ret b, _, _, xs, en, k, om, h => fun o2 H2 m => ⟨h o2 H2 m, ⟨xs, en, k.mv bk m om⟩, mm_keepo bk k.j m om⟩
  | .ask q c, _, _, xs, en, k, om, h => fun o2 H2 m => W.mono _ _ _ _ _ _ (fun v H3 ⟨b, e, f, w⟩ => ⟨b, e, f, Wp.keepR bk F hF hk ha (en b) ((k.mv bk m om).frm bk f) (mm_keepo bk k.j m om) w⟩) (fun _ _ _ z => z) (h o2 H2 m)
  | .put ys c, o, H, xs, en, k, om, h => fun o2 H2 p => by
    have am : a ∉ W.MM := by
      obtain ⟨q, hq, e⟩ := List.mem_map.mp (k.mo a ha)
      rw [← e]; exact (k.lk q hq).1
    have ko : ∀ {b : Addr} {u : HO}, H b = some u → (b ∉ o ∨ b ∈ pr) → b ∉ o2 ∨ b ∈ pr := fun {b u} e h => by
      rcases h with h | h
      · by_cases c : b ∈ o2
        · rcases p.sub b c with z | z
          · exact absurd z h
          · rw [e] at z; cases z
        · exact .inl c
      · exact .inr h
    refine Wp.keepR bk F hF hk ha (xs := ys) en ⟨⟨?_, fun q hq => ?_, fun b u e hm => ?_, fun b hb => ?_⟩, p.tab k.tb, ?_, fun q hq => ?_, ?_, fun b u e => ?_, p.on k.oo, fun b hb => p.sup b (k.ps b hb)⟩ (fun b hb => ?_) (h o2 H2 p)
    · rw [hk ys xs]; exact k.S.nd
    · rcases hF ys xs q hq with rfl | ⟨n, z⟩
      · exact p.at_
      · exact p.old _ _ (k.S.is q z) n (k.lk q z).2.2 (k.lk q z).2.1
    · exact p.old _ _ (k.S.old b u e hm) (fun z => hm (z ▸ ha)) (k.bo b u e) (bk.bk b u e).2
    · by_cases e : b = a
      · rw [e, p.at_]; simp
      · obtain ⟨q, hq, rfl⟩ := List.mem_map.mp (k.mo b hb)
        rw [p.old _ _ (k.S.is q hq) e (k.lk q hq).2.2 (k.lk q hq).2.1]; simp
    · exact W.jm _ _ k.j fun b hb u e => p.old _ _ e (fun z => am (z ▸ hb)) (om b hb) ((bk.js _ k.j b hb).not e).tbl
    · rcases hF ys xs q hq with e | ⟨n, z⟩
      · obtain ⟨r, hr, er⟩ := List.mem_map.mp (k.mo a ha)
        rw [e]
        refine ⟨am, (fun _ z => by cases z), ?_⟩
        have z := ko (k.S.is r hr) (k.lk r hr).2.2
        rwa [er] at z
      · exact ⟨(k.lk q z).1, (k.lk q z).2.1, ko (k.S.is q z) (k.lk q z).2.2⟩
    · intro b hb; rw [hk ys xs]; exact k.mo b hb
    · by_cases hm : b ∈ M
      · obtain ⟨q, hq, rfl⟩ := List.mem_map.mp (k.mo b hm)
        exact ko (k.S.is q hq) (k.lk q hq).2.2
      · exact ko (k.S.old b u e hm) (k.bo b u e)
    · obtain ⟨u, e, _⟩ := bk.js _ k.j b hb
      exact ko e (om b hb)
theorem tabs_lst {T : List (Addr × Str)} (S : Hs H M' H' L') (ml : ∀ b ∈ M', ∃ xs, H b = some (.lst xs)) (t : Tabs T H) : Tabs T H' := by
  have nm : ∀ {b : Addr} {u : HO}, H b = some u → (∀ xs, u ≠ .lst xs) → b ∉ M' := fun {b u} e n z => by
    obtain ⟨xs, h⟩ := ml b z
    rw [e] at h
    exact n xs (Option.some.inj h)
  exact tabs_pers ⟨fun b r e => S.old _ _ e (nm e fun _ z => by cases z), fun b r e => S.old _ _ e (nm e fun _ z => by cases z)⟩ (fun b ps e => S.old _ _ e (nm e fun _ z => by cases z)) t
theorem seg_nn (S : Hs H M' H' L') : ∀ b, H' b = none → H b = none := fun b e => by
  cases h : H b with
  | none => rfl
  | some u =>
    by_cases hm : b ∈ M'
    · exact absurd e (S.mu b hm)
    · rw [S.old b u h hm] at e; cases e
/-- a stretch of the program's own -/
theorem mv_seg {N : List Addr} (S : Hs H M' H' L') (ml : ∀ b ∈ M', (∃ xs, H b = some (.lst xs)) ∧ b ∈ o ∧ b ∉ pr) (hN : ∀ b ∈ N, H b = none ∧ b ∈ L'.map (·.1)) : Mv W pr o (N ++ o) H H' := by
  refine ⟨fun b u e h _ => S.old b u e fun z => ?_, tabs_lst S fun b hb => (ml b hb).1, seg_nn S, fun b hb => ?_, fun b hb => List.mem_append_right _ hb, fun h b hb => ?_⟩
  · rcases h with h | h
    · exact h (ml b z).2.1
    · exact (ml b z).2.2 h
  · rcases List.mem_append.mp hb with z | z
    · exact .inr (hN b z).1
    · exact .inl z
  · rcases List.mem_append.mp hb with z | z
    · obtain ⟨q, hq, rfl⟩ := List.mem_map.mp (hN b z).2
      rw [S.is q hq]; simp
    · exact fun y => h b z (seg_nn S b y)
/-- the row is written -/
theorem pt_seg {ys : List V} (S : Hs H [a] H' L') (m : (a, HO.lst ys) ∈ L') (ml : ∃ xs, H a = some (.lst xs)) : Pt W a ys pr o o H H' :=
  ⟨S.is _ m, fun b u e n _ _ => S.old b u e (by simpa using n), tabs_lst S (fun b hb => by rw [List.mem_singleton.mp hb]; exact ml), seg_nn S, fun _ h => .inl h, fun _ h => h, fun h b hb z => h b hb (seg_nn S b z)⟩
theorem Kp.seg (k : Kp W pr o B M L H) (bk : BK W B) (S : Hs H M' H' L') (ml : ∀ b ∈ M', (∃ xs, H b = some (.lst xs)) ∧ b ∉ W.MM ∧ (B b = none ∨ b ∈ M)) (lk : ∀ q ∈ L', q.1 ∉ W.MM ∧ (∀ ps, q.2 ≠ .tbl ps) ∧ (q.1 ∉ o' ∨ q.1 ∈ pr')) (mo : ∀ b ∈ M, b ∈ L'.map (·.1)) (bo : ∀ b u, B b = some u → b ∉ o' ∨ b ∈ pr') (oo : ∀ b ∈ o', H' b ≠ none) (ps : ∀ b ∈ pr', b ∈ o') : Kp W pr' o' B M L' H' := by
  refine ⟨⟨S.nd, S.is, fun b u e hm => S.old b u (k.S.old b u e hm) fun z => ?_, fun b hb => ?_⟩, tabs_lst S (fun b hb => (ml b hb).1) k.tb, W.jm _ _ k.j fun b hb u e => S.old b u e fun z => (ml b z).2.1 hb, lk, mo, bo, oo, ps⟩
  · rcases (ml b z).2.2 with y | y
    · rw [e] at y; cases y
    · exact hm y
  · obtain ⟨q, hq, rfl⟩ := List.mem_map.mp (mo b hb)
    rw [S.is q hq]; simp
/-- what is new stands apart -/
theorem Kp.fresh (k : Kp W pr o B M L H) (bk : BK W B) {p : Addr} (e : H p = none) : p ∉ W.MM ∧ (B p = none ∨ p ∈ M) := by
  refine ⟨fun z => (bk.js _ k.j p z).ne e, ?_⟩
  by_cases hm : p ∈ M
  · exact .inr hm
  · refine .inl ?_
    cases h : B p with
    | none => rfl
    | some u => rw [k.S.old p u h hm] at e; cases e
end
end Xk

/-! Xl1: isinstance of a function -/
namespace PySem
open Sem (wp)
namespace F
theorem xl_slot_ga : Slot "function" "__getattribute__" "object.__getattribute__" :=
  .of (owner := "object") (n := "__getattribute__") (by rw [typeLookup_type, builtinLookup_eq_fast]; kernel_rfl) (by decide +kernel) (by decide +kernel) (by decide +kernel)
    (by first | exact .inl (by decide +kernel) | exact .inr (by decide +kernel)) (by rw [isSubtype_type]; kernel_rfl)
theorem xl_args_ga (a b : Value) : argsOk "object.__getattribute__" ⟨[a, b], []⟩ := by unfold argsOk; kernel_rfl
theorem xl_entry_ga : entryFor table "object.__getattribute__" = some Builtin.«object.__getattribute__» := entryFor_of_tree (by kernel_rfl)
theorem xl_lk_class : typeLookup (.type "function") "__class__" = pure (some (.builtin "object.__class__")) := by rw [typeLookup_type, builtinLookup_eq_fast]; kernel_rfl
theorem xl_sub_class_owner : isSubtype (.type "function") (.type (".".intercalate ("object.__class__".cutAt '.').dropLast)) = pure true := by
  rw [owner_object_class, isSubtype_type]; kernel_rfl
end F
section
variable {prog : Program} {w : World} {A : Around} {E : Value → Shared → Prop} {h : Heap} {g : Array GenState} {d : Drawn} {t : Nat} {os : OsState} {a : Addr} {o : Obj}
theorem xl_class_get {R : Result → Shared → Prop} (hx : h.get? a = some o) (hc : o.cls = .type "function") (hq : R (.ok (.ret (.type "function"))) ⟨h, g, d, t, os⟩) :
    codeAny (model prog w) A (.call (.builtin "getset_descriptor.__get__") ⟨[.builtin "object.__class__", .ref a, .type "function"], []⟩) R ⟨h, g, d, t, os⟩ := by
  have hT : (⟨h, g, d, t, os⟩ : Shared).TypeIs (.ref a) "function" := ⟨_, hx, hc⟩
  have hT5 : (⟨h, g, d, t, os⟩ : Shared).TypeIs (.builtin "object.__class__") "getset_descriptor" := F.typeOf_object_class
  have f8 := F.xl_sub_class_owner
  refine codeAny_call_builtin F.slot_gs_get.plain F.entry_gs_get (F.slot_gs_get.check _ _ _ _ _ _ _ _ hT5 (F.args_gs_get _ _ _) ?_)
  repeat (any_goals (first | assumption | wp_step))
  refine ⟨Code.quiet_builtin _ (by decide +kernel), codeAny_builtin F.entry_object_class ?_⟩
  repeat (any_goals (first | assumption | wp_step))
theorem xl_class_entry {tk : Tok} {Q : Fin → Shared → Prop} (hx : h.get? a = some o) (hc : o.cls = .type "function") (hq : Q (.done (.ret (.type "function"))) ⟨h, g, d, t, os⟩) :
    wpAny (model prog w) A (Builtin.«object.__getattribute__» ⟨[.ref a, .str "__class__" tk], []⟩) Q E ⟨h, g, d, t, os⟩ := by
  have hT : (⟨h, g, d, t, os⟩ : Shared).TypeIs (.ref a) "function" := ⟨_, hx, hc⟩
  have hT5 : (⟨h, g, d, t, os⟩ : Shared).TypeIs (.builtin "object.__class__") "getset_descriptor" := F.typeOf_object_class
  have f4 := F.xl_lk_class
  have f5 := F.typeOf_object_class
  have f6 := F.slot_gs_get.lookup
  have f7 := F.slot_gs_set.lookup
  repeat (any_goals (first | assumption | wp_step))
  refine xl_class_get hx hc ?_
  repeat (any_goals (first | assumption | wp_step))
theorem xl_class_call {tk : Tok} {R : Result → Shared → Prop} (hx : h.get? a = some o) (hc : o.cls = .type "function") (hq : R (.ok (.ret (.type "function"))) ⟨h, g, d, t, os⟩) :
    codeAny (model prog w) A (.call (.builtin "object.__getattribute__") ⟨[.ref a, .str "__class__" tk], []⟩) R ⟨h, g, d, t, os⟩ :=
  codeAny_call_builtin F.xl_slot_ga.plain F.xl_entry_ga (F.xl_slot_ga.check _ _ _ _ _ _ _ _ (show (⟨h, g, d, t, os⟩ : Shared).TypeIs (.ref a) "function" from ⟨_, hx, hc⟩) (F.xl_args_ga _ _) (xl_class_entry hx hc hq))
theorem xl_class_by {tk : Tok} {Q : Value → Shared → Prop} (hx : h.get? a = some o) (hc : o.cls = .type "function") (hq : Q (.type "function") ⟨h, g, d, t, os⟩) : wpAny (model prog w) A (getAttrBy (.ref a) (.str "__class__" tk) false) Q E ⟨h, g, d, t, os⟩ := by
  have hT : (⟨h, g, d, t, os⟩ : Shared).TypeIs (.ref a) "function" := ⟨_, hx, hc⟩
  have f2 := F.xl_slot_ga.lookup
  have f3 := F.xl_slot_ga.bind (.ref a)
  repeat (any_goals (first | assumption | wp_step))
  refine xl_class_call hx hc ?_
  repeat (any_goals (first | assumption | wp_step))
theorem xl_class_attr {Q : Option Value → Shared → Prop} (hx : h.get? a = some o) (hc : o.cls = .type "function") (hq : Q (some (.type "function")) ⟨h, g, d, t + 1, os⟩) : wpAny (model prog w) A (getAttr? (.ref a) "__class__") Q E ⟨h, g, d, t, os⟩ := by
  unfold getAttr? getAttrBy?
  repeat (any_goals (first | assumption | with_reducible apply xl_class_by hx hc | wp_step))
end
namespace W
theorem kitx_fn {K : Frag} {a : Addr} : KitX K (.ref a) (.type "function") (KitAt a "function") := kitx_of kitAt_ty (fun {_ _ _ _ _ s} p k => by obtain ⟨h, g, d, t, os⟩ := s; obtain ⟨o, h1, h2⟩ := p; exact xl_class_attr h1 h2 k)
end W
end PySem
namespace Xl
open PySem PySem.Spec PyProof.Rows L2 Rs
/-- isinstance(x, c), where x may be a function -/
def rIsiF (K : PySem.W.Frag) : List V → Hp → VK → Prop := fun xs H Q => rIsi K xs H Q ∨ ∃ (f : Addr) (F : Xh.LF) (c : V) (u : Value) (b : Bool), xs = [.ref f, c] ∧ ClsV c u ∧ H f = some (Xh.LamO f F) ∧ PySem.W.kitOne K (.type "function") u = some b ∧ Q (.bl b) H
theorem call_isiF {X : Cx} : CallR X (.builtin "isinstance") (rIsiF X.K) := by
  intro pins s σ H xs us Q I r h
  rcases h with h | ⟨f, F, c, u, b, rfl, k, hf, e, q⟩
  · exact call_isi pins s σ H xs us Q I r h
  · obtain ⟨u1, u2, rfl, r1, r2⟩ := vals2 r
    have e2 := k.eq r2
    subst e2
    cases (show u1 = Value.ref f from r1)
    obtain ⟨pm, ctv, hg⟩ := Xh.lamO_at I.hok hf
    exact PySem.W.kia_one PySem.W.kitx_fn I.kIn ⟨_, hg, rfl⟩ e (fun z => nomatch z) fun tk => ⟨.bl b, H, I.tok tk, rfl, q⟩
end Xl

/-! K16m: things put in at spots, and taken out again -/
namespace K16
structure Pp where
  s : Nat
  n : Nat
  f : Bool
  sp : List Nat
structure Fit (P : Pp) (m : Nat) : Prop where
  n1 : 1 ≤ P.n
  le : P.s + P.n + P.sp.length ≤ m
  at_ : ∀ i p, P.sp[i]? = some p → p ≤ P.n + i
section
variable {α : Type}
def put (s : List α) (z : α × Nat) : List α := s.take z.2 ++ [z.1] ++ s.drop z.2
def ins (s : List α) (zs : List (α × Nat)) : List α := zs.foldl put s
theorem put_len (s : List α) (z : α × Nat) : (put s z).length = s.length + 1 := by
  unfold put
  simp only [List.length_append, List.length_take, List.length_drop, List.length_cons, List.length_nil]
  omega
theorem ins_len : ∀ (zs : List (α × Nat)) (s : List α), (ins s zs).length = s.length + zs.length
  | [], s => by simp [ins]
  | z :: zs, s => by
    have := ins_len zs (put s z)
    rw [put_len] at this
    show (ins (put s z) zs).length = _
    rw [this, List.length_cons]
    omega
theorem ins_snoc (s : List α) (zs : List (α × Nat)) (z : α × Nat) : ins s (zs ++ [z]) = put (ins s zs) z := by
  unfold ins
  rw [List.foldl_append]
  rfl
theorem put_get {s : List α} {x : α} {p : Nat} (h : p ≤ s.length) : (put s (x, p))[p]? = some x := by
  unfold put
  rw [List.append_assoc, List.getElem?_append_right (by rw [List.length_take]; omega)]
  simp [List.length_take, Nat.min_eq_left h]
theorem put_erase {s : List α} {x : α} {p : Nat} (h : p ≤ s.length) : (put s (x, p)).eraseIdx p = s := by
  unfold put
  rw [List.append_assoc, List.eraseIdx_append_of_length_le (by rw [List.length_take]; omega)]
  simp [List.length_take, Nat.min_eq_left h, List.take_append_drop]
theorem put_back {t : List α} {p : Nat} {x : α} (h : t[p]? = some x) : put (t.eraseIdx p) (x, p) = t := by
  obtain ⟨hl, e⟩ := List.getElem?_eq_some_iff.mp h
  unfold put
  rw [List.eraseIdx_eq_take_drop_succ]
  have l1 : (t.take p).length = p := by rw [List.length_take]; omega
  have e1 : (t.take p ++ t.drop (p + 1)).take p = t.take p := by rw [List.take_append_of_le_length (by omega), List.take_of_length_le (by omega)]
  have e2 : (t.take p ++ t.drop (p + 1)).drop p = t.drop (p + 1) := by rw [List.drop_append_of_le_length (by omega), List.drop_of_length_le (by omega)]; rfl
  show (t.take p ++ t.drop (p + 1)).take p ++ [x] ++ (t.take p ++ t.drop (p + 1)).drop p = t
  rw [e1, e2, ← e, List.append_assoc, List.singleton_append, List.getElem_cons_drop, List.take_append_drop]
theorem ins_surj (n : Nat) : ∀ (k : Nat) (sp : List Nat), sp.length = k → (∀ i p, sp[i]? = some p → p ≤ n + i) → ∀ t : List α, t.length = n + k → ∃ (st : List α) (zs : List (α × Nat)), st.length = n ∧ zs.map (·.2) = sp ∧ ins st zs = t
  | 0, sp, hk, _, t, ht => ⟨t, [], by omega, by simp [List.length_eq_zero_iff.mp hk], rfl⟩
  | k + 1, sp, hk, h, t, ht => by
    obtain ⟨sq, p, rfl⟩ : ∃ sq p, sp = sq ++ [p] := by
      have hne : sp ≠ [] := fun z => by rw [z] at hk; cases hk
      exact ⟨sp.dropLast, sp.getLast hne, (List.dropLast_concat_getLast hne).symm⟩
    have hq : sq.length = k := by rw [List.length_append] at hk; simpa using hk
    have hp : p ≤ n + k := h k p (by rw [← hq]; simp)
    obtain ⟨x, hx⟩ : ∃ x, t[p]? = some x := ⟨t[p]'(by omega), List.getElem?_eq_getElem _⟩
    obtain ⟨st, zs, h1, h2, h3⟩ := ins_surj n k sq hq (fun i q hi => h i q (by
      have := (List.getElem?_eq_some_iff.mp hi).1
      rw [List.getElem?_append_left this]; exact hi)) (t.eraseIdx p) (by rw [List.length_eraseIdx]; split <;> omega)
    refine ⟨st, zs ++ [(x, p)], h1, by simp [h2], ?_⟩
    rw [ins_snoc, h3, put_back hx]
theorem zip_self : ∀ zs : List (α × Nat), (zs.map (·.1)).zip (zs.map (·.2)) = zs
  | [] => rfl
  | z :: zs => by simp only [List.map_cons, List.zip_cons_cons, zip_self zs]
theorem zip_fst : ∀ (xs : List α) (sp : List Nat), sp.length ≤ xs.length → (xs.zip sp).map (·.1) = xs.take sp.length
  | _, [], _ => by simp
  | [], _ :: _, h => by simp at h
  | x :: xs, q :: sp, h => by simp only [List.zip_cons_cons, List.map_cons, List.length_cons, List.take_succ_cons, zip_fst xs sp (by simpa using h)]
theorem zip_snd : ∀ (xs : List α) (sp : List Nat), sp.length ≤ xs.length → (xs.zip sp).map (·.2) = sp
  | _, [], _ => by simp
  | [], _ :: _, h => by simp at h
  | x :: xs, q :: sp, h => by simp only [List.zip_cons_cons, List.map_cons, zip_snd xs sp (by simpa using h)]
def cut (P : Pp) (xs : List α) : List α := (xs.drop P.s).take P.n
def stc (P : Pp) (xs : List α) : List α := if P.f then (cut P xs).reverse else cut P xs
def zsc (P : Pp) (xs : List α) : List (α × Nat) := (xs.drop (P.s + P.n)).zip P.sp
def lay (P : Pp) (xs : List α) : List α := xs.take P.s ++ ins (stc P xs) (zsc P xs) ++ xs.drop (P.s + P.n + P.sp.length)
theorem cut_len {P : Pp} {xs : List α} (F : Fit P xs.length) : (cut P xs).length = P.n := by
  have := F.le
  unfold cut; rw [List.length_take, List.length_drop]; omega
theorem stc_len {P : Pp} {xs : List α} (F : Fit P xs.length) : (stc P xs).length = P.n := by
  unfold stc
  split
  · rw [List.length_reverse, cut_len F]
  · exact cut_len F
theorem zsc_len {P : Pp} {xs : List α} (F : Fit P xs.length) : (zsc P xs).length = P.sp.length := by
  have := F.le
  unfold zsc; rw [List.length_zip, List.length_drop]; omega
theorem lay_len {P : Pp} {xs : List α} (F : Fit P xs.length) : (lay P xs).length = xs.length := by
  have := F.le
  unfold lay
  rw [List.length_append, List.length_append, ins_len, stc_len F, zsc_len F, List.length_take, List.length_drop]
  omega
theorem ins_mem : ∀ (zs : List (α × Nat)) (s : List α) (x : α), x ∈ ins s zs → x ∈ s ∨ x ∈ zs.map (·.1)
  | [], s, x, h => Or.inl h
  | z :: zs, s, x, h => by
    rcases ins_mem zs (put s z) x h with h | h
    · unfold put at h
      simp only [List.mem_append, List.mem_singleton] at h
      rcases h with (h | h) | h
      · exact Or.inl (List.mem_of_mem_take h)
      · exact Or.inr (by simp [h])
      · exact Or.inl (List.mem_of_mem_drop h)
    · exact Or.inr (by simp only [List.map_cons, List.mem_cons]; exact Or.inr h)
theorem lay_mem {P : Pp} {xs : List α} {x : α} (h : x ∈ lay P xs) : x ∈ xs := by
  unfold lay at h
  simp only [List.mem_append] at h
  rcases h with (h | h) | h
  · exact List.mem_of_mem_take h
  · rcases ins_mem _ _ _ h with h | h
    · unfold stc at h
      have : x ∈ cut P xs := by
        split at h
        · exact List.mem_reverse.mp h
        · exact h
      exact List.mem_of_mem_drop (List.mem_of_mem_take this)
    · unfold zsc at h
      obtain ⟨⟨a, b⟩, h1, rfl⟩ := List.mem_map.mp h
      exact List.mem_of_mem_drop (List.of_mem_zip h1).1
  · exact List.mem_of_mem_drop h
/-- each row is laid of one -/
theorem lay_surj {P : Pp} {xs : List α} (F : Fit P xs.length) : ∃ ys, ys.length = xs.length ∧ lay P ys = xs := by
  have hle := F.le
  obtain ⟨st, zs, h1, h2, h3⟩ := ins_surj P.n P.sp.length P.sp rfl F.at_ ((xs.drop P.s).take (P.n + P.sp.length)) (by rw [List.length_take, List.length_drop]; omega)
  have hz : zs.length = P.sp.length := by rw [← h2, List.length_map]
  have hts : (xs.take P.s).length = P.s := by rw [List.length_take]; omega
  obtain ⟨c, hc⟩ : ∃ c, c = (if P.f then st.reverse else st) := ⟨_, rfl⟩
  have hcl : c.length = P.n := by rw [hc]; split <;> simp [h1]
  refine ⟨xs.take P.s ++ (c ++ (zs.map (·.1) ++ xs.drop (P.s + P.n + P.sp.length))), ?_, ?_⟩
  · simp only [List.length_append, hts, hcl, List.length_map, hz, List.length_drop]; omega
  · have d1 : (xs.take P.s ++ (c ++ (zs.map (·.1) ++ xs.drop (P.s + P.n + P.sp.length)))).drop P.s = c ++ (zs.map (·.1) ++ xs.drop (P.s + P.n + P.sp.length)) := by
      rw [List.drop_append_of_le_length (by omega), List.drop_of_length_le (by omega)]; rfl
    have e1 : cut P (xs.take P.s ++ (c ++ (zs.map (·.1) ++ xs.drop (P.s + P.n + P.sp.length)))) = c := by
      unfold cut
      rw [d1, List.take_append_of_le_length (by omega), List.take_of_length_le (by omega)]
    have e2 : stc P (xs.take P.s ++ (c ++ (zs.map (·.1) ++ xs.drop (P.s + P.n + P.sp.length)))) = st := by
      unfold stc
      rw [e1, hc]
      split <;> simp
    have d2 : (xs.take P.s ++ (c ++ (zs.map (·.1) ++ xs.drop (P.s + P.n + P.sp.length)))).drop (P.s + P.n) = zs.map (·.1) ++ xs.drop (P.s + P.n + P.sp.length) := by
      rw [← List.drop_drop, d1, List.drop_append_of_le_length (by omega), List.drop_of_length_le (by omega)]; rfl
    have e3 : zsc P (xs.take P.s ++ (c ++ (zs.map (·.1) ++ xs.drop (P.s + P.n + P.sp.length)))) = zs := by
      unfold zsc
      rw [d2]
      have : P.sp = zs.map (·.2) ++ [] := by simp [h2]
      rw [this, List.zip_append (by simp)]
      rw [List.zip_nil_right, List.append_nil]
      exact zip_self zs
    have d3 : (xs.take P.s ++ (c ++ (zs.map (·.1) ++ xs.drop (P.s + P.n + P.sp.length)))).drop (P.s + P.n + P.sp.length) = xs.drop (P.s + P.n + P.sp.length) := by
      rw [← List.drop_drop, d2, List.drop_append_of_le_length (by rw [List.length_map]; omega), List.drop_of_length_le (by rw [List.length_map]; omega)]; rfl
    have t1 : (xs.take P.s ++ (c ++ (zs.map (·.1) ++ xs.drop (P.s + P.n + P.sp.length)))).take P.s = xs.take P.s := by
      rw [List.take_append_of_le_length (by omega), List.take_of_length_le (by omega)]
    unfold lay
    rw [e2, e3, d3, t1, h3, List.append_assoc]
    have : xs.drop (P.s + P.n + P.sp.length) = (xs.drop P.s).drop (P.n + P.sp.length) := by rw [List.drop_drop]; congr 1; omega
    rw [this, List.take_append_drop, List.take_append_drop]
/-- what lies where in the laid row -/
theorem lay_parts {P : Pp} {ys : List α} (F : Fit P ys.length) : (lay P ys).take P.s = ys.take P.s ∧ ((lay P ys).drop P.s).take (P.n + P.sp.length) = ins (stc P ys) (zsc P ys) ∧ (lay P ys).drop (P.s + P.n + P.sp.length) = ys.drop (P.s + P.n + P.sp.length) := by
  have hle := F.le
  have hts : (ys.take P.s).length = P.s := by rw [List.length_take]; omega
  have hi : (ins (stc P ys) (zsc P ys)).length = P.n + P.sp.length := by rw [ins_len, stc_len F, zsc_len F]
  have d1 : (lay P ys).drop P.s = ins (stc P ys) (zsc P ys) ++ ys.drop (P.s + P.n + P.sp.length) := by
    unfold lay
    rw [List.append_assoc, List.drop_append_of_le_length (by omega), List.drop_of_length_le (by omega)]; rfl
  refine ⟨?_, ?_, ?_⟩
  · unfold lay
    rw [List.append_assoc, List.take_append_of_le_length (by omega), List.take_of_length_le (by omega)]
  · rw [d1, List.take_append_of_le_length (by omega), List.take_of_length_le (by omega)]
  · rw [show P.s + P.n + P.sp.length = P.s + (P.n + P.sp.length) by omega, ← List.drop_drop, d1, List.drop_append_of_le_length (by omega), List.drop_of_length_le (by omega)]
    rw [show P.s + (P.n + P.sp.length) = P.s + P.n + P.sp.length by omega]; rfl
/-- the row of its parts -/
theorem row_parts {P : Pp} {ys : List α} (F : Fit P ys.length) : ys.take P.s ++ (cut P ys ++ (zsc P ys).map (·.1)) ++ ys.drop (P.s + P.n + P.sp.length) = ys := by
  have hle := F.le
  have e : (zsc P ys).map (·.1) = (ys.drop (P.s + P.n)).take P.sp.length := by
    unfold zsc
    exact zip_fst _ _ (by rw [List.length_drop]; omega)
  rw [e, List.append_assoc, List.append_assoc]
  have e2 : (ys.drop (P.s + P.n)).take P.sp.length ++ ys.drop (P.s + P.n + P.sp.length) = ys.drop (P.s + P.n) := by
    rw [show ys.drop (P.s + P.n + P.sp.length) = (ys.drop (P.s + P.n)).drop P.sp.length by rw [List.drop_drop], List.take_append_drop]
  rw [e2]
  unfold cut
  rw [show ys.drop (P.s + P.n) = (ys.drop P.s).drop P.n by rw [List.drop_drop], List.take_append_drop, List.take_append_drop]
end
end K16

/-! K16m: the least run of so many. -/
namespace K16
/-- j: how often n is halved until it is below 8 -/
def At (n j : Nat) : Prop := n < 8 * 2 ^ j ∧ (j = 0 ∨ 8 * 2 ^ (j - 1) ≤ n)
theorem At.le {n i j : Nat} (h : At n i) (k : At n j) : i ≤ j := by
  apply Classical.byContradiction
  intro hc
  obtain ⟨h1, h2⟩ := h
  obtain ⟨k1, k2⟩ := k
  rcases h2 with rfl | h2
  · omega
  · have : 2 ^ j ≤ 2 ^ (i - 1) := Nat.pow_le_pow_right (by decide) (by omega)
    omega
theorem At.uniq {n i j : Nat} (h : At n i) (k : At n j) : i = j := Nat.le_antisymm (h.le k) (k.le h)
def ceilP (n j : Nat) : Nat := n / 2 ^ j + (if n % 2 ^ j = 0 then 0 else 1)
theorem ceilP_eq (n j : Nat) : (n + 2 ^ j - 1) / 2 ^ j = ceilP n j := by
  have hp : 0 < 2 ^ j := Nat.pow_pos (by decide)
  have e := Nat.div_add_mod n (2 ^ j)
  have l := Nat.mod_lt n hp
  unfold ceilP
  generalize n / 2 ^ j = q at *
  generalize n % 2 ^ j = r at *
  generalize 2 ^ j = s at *
  subst e
  split
  · rename_i h
    subst h
    have : s * q + 0 + s - 1 = (s - 1) + s * q := by omega
    rw [this, Nat.add_mul_div_left _ _ hp, Nat.div_eq_of_lt (by omega)]
    omega
  · have : s * q + r + s - 1 = (r - 1) + s * (q + 1) := by rw [Nat.mul_add]; omega
    rw [this, Nat.add_mul_div_left _ _ hp, Nat.div_eq_of_lt (by omega)]
    omega
theorem ceil_small {n : Nat} (h : n < 8) {j : Nat} (k : At n j) : ceilP n j = n := by
  have : At n 0 := ⟨by omega, Or.inl rfl⟩
  obtain rfl := k.uniq this
  simp [ceilP, Nat.mod_one]
theorem ceil_big {n : Nat} (h : 8 ≤ n) {j : Nat} (k : At n j) : 4 ≤ ceilP n j ∧ ceilP n j ≤ 8 := by
  obtain ⟨k1, k2⟩ := k
  have hp : 0 < 2 ^ j := Nat.pow_pos (by decide)
  rcases k2 with rfl | k2
  · simp at k1; omega
  · cases j with
    | zero => simp at k1; omega
    | succ j =>
      have e : 2 ^ (j + 1) = 2 * 2 ^ j := by rw [Nat.pow_succ]; omega
      have k3 : 8 * 2 ^ j ≤ n := k2
      have d1 : 4 ≤ n / 2 ^ (j + 1) := by rw [Nat.le_div_iff_mul_le hp, e]; omega
      have d2 : n / 2 ^ (j + 1) < 8 := by rw [Nat.div_lt_iff_lt_mul hp]; omega
      unfold ceilP
      split <;> omega
/-- one halving -/
theorem half_div (n j : Nat) : n / 2 ^ j / 2 = n / 2 ^ (j + 1) := by rw [Nat.div_div_eq_div_mul, Nat.pow_succ]
theorem half_mod (n j : Nat) : n % 2 ^ (j + 1) = n % 2 ^ j + 2 ^ j * (n / 2 ^ j % 2) := by rw [Nat.pow_succ, Nat.mod_mul]
theorem half_more (n j : Nat) : (n % 2 ^ (j + 1) = 0) ↔ (n % 2 ^ j = 0 ∧ n / 2 ^ j % 2 = 0) := by
  rw [half_mod]
  have hp : 0 < 2 ^ j := Nat.pow_pos (by decide)
  constructor
  · intro h
    refine ⟨by omega, ?_⟩
    rcases Nat.mod_two_eq_zero_or_one (n / 2 ^ j) with z | z
    · exact z
    · rw [z] at h; omega
  · rintro ⟨h1, h2⟩
    rw [h1, h2]; simp
theorem at_end {n j : Nat} (h1 : n / 2 ^ j < 8) (h2 : j = 0 ∨ 8 ≤ n / 2 ^ (j - 1)) : At n j := by
  have hp : 0 < 2 ^ j := Nat.pow_pos (by decide)
  refine ⟨by rw [Nat.div_lt_iff_lt_mul hp] at h1; omega, ?_⟩
  rcases h2 with h2 | h2
  · exact Or.inl h2
  · have hp2 : 0 < 2 ^ (j - 1) := Nat.pow_pos (by decide)
    rw [Nat.le_div_iff_mul_le hp2] at h2
    exact Or.inr h2
theorem at_due {n j : Nat} (h1 : ¬ 2 ^ j * 8 ≤ n) (h2 : j = 0 ∨ 2 ^ (j - 1) * 8 ≤ n) : At n j := by
  refine ⟨by omega, ?_⟩
  rcases h2 with h2 | h2
  · exact Or.inl h2
  · exact Or.inr (by omega)
end K16

local macro_rules | `(tactic| walk_at "mem") => `(tactic| repeat (with_reducible first | exact List.mem_cons_self | apply List.mem_cons_of_mem))
local macro_rules | `(tactic| walk_at "chg") => `(tactic| repeat (with_reducible first | exact Rs.Chg.here | apply Rs.Chg.there))
local macro_rules | `(tactic| walk_at "chgF") => `(tactic| (intro o'; walk_at "chg"))
local macro_rules | `(tactic| walk_at "own") => `(tactic| first | (apply Or.inl; assumption) | (apply Or.inr; simp))
local macro_rules | `(tactic| walk_at "size") => `(tactic| first | exact Rs.sz (Nat.le_of_ble_eq_true rfl) | (refine Rs.sz ?_; omega) | (refine Rs.sz ?_; simp; done) | (refine Rs.sz ?_; simp; omega))
local macro_rules | `(tactic| walk_at "size1") => `(tactic| first | exact Rs.sz' (Nat.le_of_ble_eq_true rfl) | (refine Rs.sz' ?_; omega) | (refine Rs.sz' ?_; simp; done) | (refine Rs.sz' ?_; simp; omega))
local macro_rules | `(tactic| walk_at "val") => `(tactic| first | assumption | rfl)
local macro_rules | `(tactic| walk_at "put") => `(tactic| first | assumption | rfl)
local macro_rules | `(tactic| walk_at "rd1") => `(tactic| first
  | with_reducible refine Rs.rd_seq ?_
  | with_reducible refine Rs.rd_asg ?_
  | ((with_reducible refine' Rs.rd_var ?e ?_); (case e => rfl))
  | with_reducible refine Rs.rd_c ?_
  | with_reducible refine Rs.rd_op ?_
  | with_reducible refine Rs.rd_I0 ?_
  | with_reducible refine Rs.rd_cons ?_
  | with_reducible refine Rs.rd_nil ?_
  | ((with_reducible refine' Rs.rd_name ?e ?_); (case e => (dsimp only [List.set]; try rfl)))
  | with_reducible refine Rs.rd_ifS ?_
  | with_reducible refine Rs.rd_test ?_
  | with_reducible refine Rs.rd_bl ?_
  | with_reducible refine Rs.rd_ret ?_
  | with_reducible refine Rs.rd_retN ?_
  | with_reducible refine Rs.rd_drop ?_
  | with_reducible refine Rs.rd_next ?_
  | with_reducible refine Rs.rd_eqI ?_
  | with_reducible refine Rs.rd_neI ?_
  | with_reducible refine Rs.rd_eqS ?_
  | with_reducible refine Rs.rd_neS ?_
  | with_reducible refine Rs.rd_eqB ?_
  | with_reducible refine Rs.rd_par ?_
  | with_reducible refine Rs.rd_par3 ?_
  | ((with_reducible refine Rs.rd_two ?_); dsimp only [List.set])
  | ((with_reducible refine Rs.rd_three ?_); dsimp only [List.set])
  | with_reducible refine Rs.rd_un ?_
  | with_reducible refine Rs.rd_U ?_
  | with_reducible refine Rs.rd_tB ?_
  | with_reducible refine Rs.rd_and ?_
  | with_reducible refine Rs.rd_or ?_
  | with_reducible refine Rs.rd_not ?_
  | with_reducible refine Rs.rd_andV ?_
  | with_reducible refine Rs.rd_orV ?_
  | with_reducible refine Rs.rd_notV ?_
  | with_reducible refine Rs.rd_if ?_
  | with_reducible refine Rs.rd_tup ?_
  | with_reducible refine Rs.rd_lst ?_
  | with_reducible refine Rs.rd_cb ?_
  | with_reducible refine Rs.rd_call0 ?_
  | with_reducible refine Rs.rd_call ?_
  | with_reducible refine Rs.rd_callN ?_
  | with_reducible refine Rs.rd_chain ?_
  | with_reducible refine Rs.rd_bits ?_
  | with_reducible refine Rs.rd_int1 ?_
  | with_reducible refine Rs.rd_int2 ?_
  | with_reducible refine Rs.rd_dget ?_
  | with_reducible refine Rs.rd_dput ?_
  | with_reducible refine Rs.rd_slice3 ?_
  | with_reducible refine Rs.rd_sl ?_
  | with_reducible refine Rs.rd_noPart ?_
  | with_reducible refine Rs.rd_part ?_
  | ((with_reducible refine' Rs.rd_mod ?c ?_); (case c => omega); intro r e h0 h1)
  | ((with_reducible refine' Rs.rd_div ?c ?d ?_); (case c => omega); (case d => omega))
  | ((with_reducible refine' Rs.rd_mulL ?c ?d ?_); (case c => omega); (case d => omega))
  | ((with_reducible refine' Rs.rd_mulR ?c ?d ?_); (case c => omega); (case d => omega))
  | ((with_reducible refine' Rs.rd_pow ?c ?d ?f ?_); (case c => omega); (case d => omega); (case f => omega))
  | ((with_reducible refine' Rs.rd_newL (by assumption) ?z ?_); (case z => walk_at "size"); intro p H hp S)
  | ((with_reducible refine' Rs.rd_newT (by assumption) ?z ?_); (case z => walk_at "size"); intro p H hp S)
  | ((with_reducible refine' Rs.rd_newO (by assumption) ?_); intro p H hp S)
  | ((with_reducible refine' Rs.rd_ixL (by assumption) ?m ?e ?_); (case m => (walk_at "mem"; done)); (case e => first | rfl | assumption))
  | ((with_reducible refine' Rs.rd_ixT (by assumption) ?m ?e ?_); (case m => (walk_at "mem"; done)); (case e => first | rfl | assumption))
  | ((with_reducible refine' Rs.rd_len (by assumption) ?m ?_); (case m => (walk_at "mem"; done)))
  | ((with_reducible refine' Rs.rd_lenT (by assumption) ?m ?_); (case m => (walk_at "mem"; done)))
  | ((with_reducible refine' Rs.rd_getS (by assumption) ?m ?e ?_); (case m => (walk_at "mem"; done)); (case e => walk_at "val"))
  | ((with_reducible refine' Rs.rd_putS (by assumption) ?c ?m ?z ?e ?_); (case c => (walk_at "chg"; done)); (case m => walk_at "own"); (case z => walk_at "size1"); (case e => walk_at "put"); intro H S)
  | ((with_reducible refine' Rs.gt_ref (by assumption) ?m ?e ?_); (case m => (walk_at "mem"; done)); (case e => rfl))
  | with_reducible refine Rs.gt_cons ?_
  | with_reducible refine Rs.gt_nil ?_
  | with_reducible refine Rs.rd_for ?_
  | with_reducible refine Rs.rd_rng1 ?_
  | with_reducible refine Rs.rd_rng2 ?_
  | ((with_reducible refine' Rs.rd_rng1v ?c ?d ?_); (case c => omega); (case d => omega))
  | with_reducible refine Rs.rd_iList ?_
  | with_reducible refine Rs.rd_iTup ?_
  | ((with_reducible refine' Rs.rd_lstI (by assumption) ?m ?_); (case m => (walk_at "mem"; done)))
  | ((with_reducible refine' Rs.rd_tupI (by assumption) ?m ?_); (case m => (walk_at "mem"; done)))
  | with_reducible refine Rs.rd_wl ?_
  | ((with_reducible refine' Rs.rd_disp (by assumption) ?_); intro p H hp S)
  | with_reducible refine Rs.rd_prs ?_
  | with_reducible refine Rs.rd_prs0 ?_
  | ((with_reducible refine' Rs.rd_dspEnd (by assumption) ?c ?m ?e ?z ?f ?_); (case c => (walk_at "chg"; done)); (case m => walk_at "own"); (case e => rfl); (case z => exact Nat.le_of_ble_eq_true rfl); (case f => walk_at "put"); intro H S)
  | ((with_reducible refine' Rs.rd_isi (by assumption) ?e ?_); (case e => first | exact Rs.kit_int _ | exact Rs.kit_bool _ | exact Rs.kit_list _ | exact Rs.kit_tuple _ | exact Rs.kit_str _))
  | with_reducible refine Rs.rd_iteT ?_
  | with_reducible refine Rs.rd_nT ?_
  | with_reducible refine Rs.rd_nF ?_
  | with_reducible refine Rs.rd_iteF ?_)
local macro_rules | `(tactic| walk_at "end") => `(tactic| first
  | assumption
  | omega
  | exact Rs.Hs.get (by assumption) (by walk_at "mem"; done)
  | exact Rs.Hs.same (by assumption)
  | (intro b o e hb; exact Rs.Hs.old1 (by assumption) e hb)
  | rfl)
local macro_rules | `(tactic| walk_at "rd") => `(tactic| repeat (walk_at "rd1"))
local macro_rules | `(tactic| walk_at "st") => `(tactic| (refine Rs.rd_start ?_; dsimp only [Rs.stV, List.head?, List.tail]))
local macro_rules | `(tactic| walk_at "noat") => `(tactic| assumption)
local macro_rules | `(tactic| walk_at "cls") => `(tactic| assumption)
local macro_rules | `(tactic| walk_at "fv") => `(tactic| rfl)
local macro_rules | `(tactic| walk_at "sub") => `(tactic| repeat (with_reducible first | exact List.Sublist.refl _ | exact List.nil_sublist _ | apply List.Sublist.cons_cons | apply List.Sublist.cons))
local macro_rules | `(tactic| walk_at "rd1") => `(tactic| first
  | with_reducible refine Rs.rd_fld ?_
  | ((with_reducible refine' Rs.rd_fldV (by assumption) ?m ?c ?n ?e ?_); (case m => (walk_at "mem"; done)); (case c => walk_at "cls"); (case n => walk_at "noat"); (case e => walk_at "fv"))
  | with_reducible refine Rs.rd_sfld ?_
  | ((with_reducible refine' Rs.rd_sfldV (by assumption) ?ch ?o ?c ?n ?z ?e ?_); (case ch => (walk_at "chg"; done)); (case o => walk_at "own"); (case c => walk_at "cls"); (case n => walk_at "noat"); (case z => walk_at "fvz"); (case e => walk_at "fput"); intro H S)
  | with_reducible refine Rs.rd_meth ?_
  | ((with_reducible refine' Rs.rd_methV (by assumption) ?m ?e ?_); (case m => (walk_at "mem"; done)); (case e => walk_at "fv"))
  | with_reducible refine Rs.rd_bm ?_
  | with_reducible refine Rs.rd_bm0 ?_
  | ((with_reducible refine' Rs.rd_tyL (by assumption) ?m ?_); (case m => (walk_at "mem"; done)))
  | ((with_reducible refine' Rs.rd_app (by assumption) ?c ?o ?z ?_); (case c => (walk_at "chg"; done)); (case o => walk_at "own"); (case z => walk_at "size1"); intro H S)
  | ((with_reducible refine' Rs.rd_sumI (by assumption) ?m ?e ?_); (case m => (walk_at "mem"; done)); (case e => rfl))
  | ((with_reducible refine' Rs.rd_slL (by assumption) ?m ?e ?_); (case m => (walk_at "mem"; done)); (case e => rfl); intro p H hp S)
  | ((with_reducible refine' Rs.rd_catL (by assumption) ?m ?n ?z ?_); (case m => (walk_at "mem"; done)); (case n => (walk_at "mem"; done)); (case z => walk_at "size"); intro p H hp S)
  | with_reducible refine Rs.rd_revL ?_
  | ((with_reducible refine' Rs.rd_revV (by assumption) ?m ?_); (case m => (walk_at "mem"; done)); intro p H hp S)
  | with_reducible refine Rs.rd_isN ?_
  | with_reducible refine Rs.rd_notN ?_
  | ((with_reducible refine' Rs.gt_unl (by assumption) ?m ?e ?_); (case m => (walk_at "mem"; done)); (case e => rfl))
  | with_reducible refine Rs.gt_sub ?_
  | with_reducible refine Rs.gt_slc ?_
  | with_reducible refine Rs.rd_lc ?_)
local macro_rules | `(tactic| walk_at "cut") => `(tactic| repeat' (first | walk_at "rd1" | (refine Rs.rd_dec ?_ ?_ <;> intro hc)))
local macro_rules | `(tactic| walk_at "fvz") => `(tactic| exact Nat.le_of_ble_eq_true rfl)
local macro_rules | `(tactic| walk_at "fput") => `(tactic| rfl)
local macro_rules | `(tactic| walk_at "rd1") => `(tactic| with_reducible refine Rs.rd_nn ?_)
local macro_rules | `(tactic| walk_at "rd1") => `(tactic| first
  | ((with_reducible refine' Rs.rd_aug ?e ?_); (case e => rfl))
  | ((with_reducible refine Rs.rd_ipI ?_); dsimp only [List.set]))
local macro_rules | `(tactic| walk_at "lc") => `(tactic| (walk_at "rd"; dsimp only [L2.wipe, List.map, List.set]; refine ⟨rfl, ?_⟩; walk_at "rd"))
local macro_rules | `(tactic| walk_at "rd1") => `(tactic| first
  | ((with_reducible refine' Rs.rd_sumT (by assumption) ?m ?e ?_); (case m => (walk_at "mem"; done)); (case e => rfl))
  | with_reducible refine Rs.rd_cbk ?_
  | ((with_reducible refine' Rs.rd_sumK (by assumption) ?m ?e ?_); (case m => (walk_at "mem"; done)); (case e => rfl))
  | ((with_reducible refine' Rs.rd_maxDT (by assumption) ?m ?e ?_); (case m => (walk_at "mem"; done)); (case e => rfl))
  | with_reducible refine Rs.rd_slT3 ?_)
local macro_rules | `(tactic| walk_at "rd1") => `(tactic| with_reducible refine Rs.rd_yes ?_)
local macro_rules | `(tactic| walk_at "if0") => `(tactic| (first | (show if false = true then _ else _) | skip); walk_at "rd")
local macro_rules | `(tactic| walk_at "if1") => `(tactic| (first | (show if true = true then _ else _) | skip); walk_at "rd")
local macro_rules | `(tactic| walk_at "rd1") => `(tactic| first
  | ((with_reducible refine' Rs.rd_clear (by assumption) ?c ?o ?_); (case c => (walk_at "chg"; done)); (case o => walk_at "own"); intro H S))
local macro_rules | `(tactic| walk_at "led") => `(tactic| (intro a'; simp only [Rs.cn_app, Rs.cn_cons, Rs.cn_nil, List.append_assoc, List.cons_append, List.nil_append, List.reverse_nil, List.map_nil]; omega))
local macro_rules | `(tactic| walk_at "mem1") => `(tactic| (with_reducible first | exact List.mem_cons_self | assumption | (apply List.mem_cons_of_mem; walk_at "mem1") | (apply List.mem_append_right; walk_at "mem1") | (apply List.mem_append_left; walk_at "mem1")))
local macro_rules | `(tactic| walk_at "mem") => `(tactic| walk_at "mem1")
local macro_rules | `(tactic| walk_at "rd1") => `(tactic| first
  | with_reducible refine Rs.rd_enum ?_
  | with_reducible refine Rs.rd_methK ?_
  | ((with_reducible refine' Rs.rd_enI (by assumption) ?m ?_); (case m => (walk_at "mem"; done))))
local macro_rules | `(tactic| walk_at "chg1") => `(tactic| (with_reducible first | exact Rs.Chg.here | (apply Rs.Chg.there; walk_at "chg1") | (apply Rs.Chg.appR; walk_at "chg1") | (apply Rs.Chg.appL; walk_at "chg1")))
local macro_rules | `(tactic| walk_at "chg") => `(tactic| walk_at "chg1")
namespace K16
open PySem L2 Rs Xc Xd Xg Xh Xi Xj Xk Xl
def topS (i : Nat) : Stmt := PySem.Challenge.pw_runsort_k16_doors_of_runs_and_pieces.main.body.getD i (.Pass ⟨0, 0, 0, 0⟩)
abbrev s_BadPaper___init__ : Stmt := inClass (topS 3) 0
theorem sc_BadPaper___init__ : FnScope ["self", "at"] ["self", "at"] (defScope s_BadPaper___init__) := ⟨rfl, rfl, rfl, by decide +kernel, rfl, by decide +kernel, by decide +kernel⟩
abbrev s_BadKind___init__ : Stmt := inClass (topS 5) 0
theorem sc_BadKind___init__ : FnScope ["self", "wanted"] ["self", "wanted"] (defScope s_BadKind___init__) := ⟨rfl, rfl, rfl, by decide +kernel, rfl, by decide +kernel, by decide +kernel⟩
abbrev s_BadNumber___init__ : Stmt := inClass (topS 7) 0
theorem sc_BadNumber___init__ : FnScope ["self", "at"] ["self", "at"] (defScope s_BadNumber___init__) := ⟨rfl, rfl, rfl, by decide +kernel, rfl, by decide +kernel, by decide +kernel⟩
abbrev s_TooMany___init__ : Stmt := inClass (topS 9) 0
theorem sc_TooMany___init__ : FnScope ["self", "most"] ["self", "most"] (defScope s_TooMany___init__) := ⟨rfl, rfl, rfl, by decide +kernel, rfl, by decide +kernel, by decide +kernel⟩
abbrev s_Order___init__ : Stmt := inClass (topS 16) 0
theorem sc_Order___init__ : FnScope ["self", "rule"] ["self", "rule"] (defScope s_Order___init__) := ⟨rfl, rfl, rfl, by decide +kernel, rfl, by decide +kernel, by decide +kernel⟩
abbrev s_Order_counted : Stmt := inClass (topS 16) 1
theorem sc_Order_counted : FnScope ["self"] ["self"] (defScope s_Order_counted) := ⟨rfl, rfl, rfl, by decide +kernel, rfl, by decide +kernel, by decide +kernel⟩
abbrev s_Order_ahead : Stmt := inClass (topS 16) 2
theorem sc_Order_ahead : FnScope ["self", "one", "other", "answer"] ["self", "one", "other"] (defScope s_Order_ahead) := ⟨rfl, rfl, rfl, by decide +kernel, rfl, by decide +kernel, by decide +kernel⟩
abbrev s_Order_many_asked : Stmt := inClass (topS 16) 4
theorem sc_Order_many_asked : FnScope ["self"] ["self"] (defScope s_Order_many_asked) := ⟨rfl, rfl, rfl, by decide +kernel, rfl, by decide +kernel, by decide +kernel⟩
abbrev s_is_whole : Stmt := topS 13
theorem sc_is_whole : FnScope ["thing", "least", "most"] ["thing", "least", "most"] (defScope s_is_whole) := ⟨rfl, rfl, rfl, by decide +kernel, rfl, by decide +kernel, by decide +kernel⟩
abbrev s_need_row : Stmt := topS 14
theorem sc_need_row : FnScope ["thing"] ["thing"] (defScope s_need_row) := ⟨rfl, rfl, rfl, by decide +kernel, rfl, by decide +kernel, by decide +kernel⟩
abbrev s_need_order : Stmt := topS 17
theorem sc_need_order : FnScope ["thing"] ["thing"] (defScope s_need_order) := ⟨rfl, rfl, rfl, by decide +kernel, rfl, by decide +kernel, by decide +kernel⟩
abbrev s_least_run : Stmt := topS 20
theorem sc_least_run : FnScope ["many", "left", "more", "digit"] ["many"] (defScope s_least_run) := ⟨rfl, rfl, rfl, by decide +kernel, rfl, by decide +kernel, by decide +kernel⟩
abbrev s_need_end : Stmt := topS 21
theorem sc_need_end : FnScope ["row", "start", "end", "nearest"] ["row", "start", "end", "nearest"] (defScope s_need_end) := ⟨rfl, rfl, rfl, by decide +kernel, rfl, by decide +kernel, by decide +kernel⟩
abbrev s_run_at : Stmt := topS 22
theorem sc_run_at : FnScope ["row", "order", "start", "end", "last", "falls", "at"] ["row", "order", "start", "end"] (defScope s_run_at) := ⟨rfl, rfl, rfl, by decide +kernel, rfl, by decide +kernel, by decide +kernel⟩
abbrev s_turn_run : Stmt := topS 23
theorem sc_turn_run : FnScope ["row", "start", "end"] ["row", "start", "end"] (defScope s_turn_run) := ⟨rfl, rfl, rfl, by decide +kernel, rfl, by decide +kernel, by decide +kernel⟩
abbrev s_are_spots : Stmt := topS 24
theorem sc_are_spots : FnScope ["spots", "natural", "at", "spot"] ["spots", "natural"] (defScope s_are_spots) := ⟨rfl, rfl, rfl, by decide +kernel, rfl, by decide +kernel, by decide +kernel⟩
abbrev s_piece_fits : Stmt := topS 25
theorem sc_piece_fits : FnScope ["piece", "many", "start", "natural", "falls", "spots"] ["piece", "many"] (defScope s_piece_fits) := ⟨rfl, rfl, rfl, by decide +kernel, rfl, by decide +kernel, by decide +kernel⟩
abbrev s_right_spot : Stmt := topS 29
theorem sc_right_spot : FnScope ["row", "order", "thing", "start", "end", "last"] ["row", "order", "thing", "start", "end"] (defScope s_right_spot) := ⟨rfl, rfl, rfl, by decide +kernel, rfl, by decide +kernel, by decide +kernel⟩
abbrev s_need_least : Stmt := topS 32
theorem sc_need_least : FnScope ["least"] ["least"] (defScope s_need_least) := ⟨rfl, rfl, rfl, by decide +kernel, rfl, by decide +kernel, by decide +kernel⟩
abbrev s_cut_piece : Stmt := topS 33
theorem sc_cut_piece : FnScope ["row", "order", "start", "least", "natural", "falls", "things", "stretch", "spots", "thing", "spot"] ["row", "order", "start", "least"] (defScope s_cut_piece) := ⟨rfl, rfl, rfl, by decide +kernel, rfl, by decide +kernel, by decide +kernel⟩
abbrev s_cut_pieces : Stmt := topS 34
theorem sc_cut_pieces : FnScope ["row", "order", "least", "pieces", "start", "piece"] ["row", "order", "least"] (defScope s_cut_pieces) := ⟨rfl, rfl, rfl, by decide +kernel, rfl, by decide +kernel, by decide +kernel⟩
abbrev s_need_piece : Stmt := topS 35
theorem sc_need_piece : FnScope ["row", "piece"] ["row", "piece"] (defScope s_need_piece) := ⟨rfl, rfl, rfl, by decide +kernel, rfl, by decide +kernel, by decide +kernel⟩
abbrev s_lay_piece : Stmt := topS 36
theorem sc_lay_piece : FnScope ["row", "piece", "start", "natural", "falls", "spots", "things", "stretch", "thing", "spot"] ["row", "piece"] (defScope s_lay_piece) := ⟨rfl, rfl, rfl, by decide +kernel, rfl, by decide +kernel, by decide +kernel⟩
abbrev s_lay_back : Stmt := topS 37
theorem sc_lay_back : FnScope ["row", "piece", "start", "natural", "falls", "spots", "stretch", "grown", "spot", "things"] ["row", "piece"] (defScope s_lay_back) := ⟨rfl, rfl, rfl, by decide +kernel, rfl, by decide +kernel, by decide +kernel⟩
abbrev s_is_spot : Stmt := topS 40
theorem sc_is_spot : FnScope ["row", "order", "start", "end", "spot", "thing", "place"] ["row", "order", "start", "end", "spot"] (defScope s_is_spot) := ⟨rfl, rfl, rfl, by decide +kernel, rfl, by decide +kernel, by decide +kernel⟩
abbrev s_is_told : Stmt := topS 41
theorem sc_is_told : FnScope ["row", "order", "start", "piece", "least", "natural", "falls", "spots", "end", "at", "spot"] ["row", "order", "start", "piece", "least"] (defScope s_is_told) := ⟨rfl, rfl, rfl, by decide +kernel, rfl, by decide +kernel, by decide +kernel⟩
abbrev s_check_pieces : Stmt := topS 42
theorem sc_check_pieces : FnScope ["row", "order", "pieces", "least", "laid", "start", "number", "piece"] ["row", "order", "pieces", "least"] (defScope s_check_pieces) := ⟨rfl, rfl, rfl, by decide +kernel, rfl, by decide +kernel, by decide +kernel⟩
abbrev s_l_mixed : Stmt := topS 44
theorem sc_l_mixed : FnScope ["_law_cell", "_law_k", "_law_number"] ["_law_cell", "_law_k"] (defScope s_l_mixed) := ⟨rfl, rfl, rfl, by decide +kernel, rfl, by decide +kernel, by decide +kernel⟩
abbrev s_l_begun : Stmt := topS 45
theorem sc_l_begun : FnScope ["_law_script", "_law_k", "_law_cell", "_law_behind"] ["_law_script", "_law_k"] (defScope s_l_begun) := ⟨rfl, rfl, rfl, by decide +kernel, rfl, by decide +kernel, by decide +kernel⟩
abbrev s_l_take : Stmt := topS 46
theorem sc_l_take : FnScope ["_law_state", "_law_count", "_law_found", "_law_number"] ["_law_state", "_law_count"] (defScope s_l_take) := ⟨rfl, rfl, rfl, by decide +kernel, rfl, by decide +kernel, by decide +kernel⟩
abbrev s_l_runs : Stmt := topS 47
theorem sc_l_runs : FnScope ["_law_state", "_law_count", "_law_found", "_law_size_here", "_law_way", "_law_last", "_law_k"] ["_law_state", "_law_count"] (defScope s_l_runs) := ⟨rfl, rfl, rfl, by decide +kernel, rfl, by decide +kernel, by decide +kernel⟩
abbrev s_l_numbers : Stmt := topS 48
theorem sc_l_numbers : FnScope ["_law_state", "_law_count", "_law_way", "_law_step", "_law_base", "_law_others", "_law_found", "_law_turn", "_law_k"] ["_law_state", "_law_count"] (defScope s_l_numbers) := ⟨rfl, rfl, rfl, by decide +kernel, rfl, by decide +kernel, by decide +kernel⟩
abbrev s_l_size : Stmt := topS 49
theorem sc_l_size : FnScope ["_law_state", "_law_way", "_law_few"] ["_law_state"] (defScope s_l_size) := ⟨rfl, rfl, rfl, by decide +kernel, rfl, by decide +kernel, by decide +kernel⟩
abbrev s_l_word : Stmt := topS 50
theorem sc_l_word : FnScope ["_law_caught", "_law_found"] ["_law_caught"] (defScope s_l_word) := ⟨rfl, rfl, rfl, by decide +kernel, rfl, by decide +kernel, by decide +kernel⟩
abbrev s_l_said : Stmt := topS 51
theorem sc_l_said : FnScope ["_law_deed", "_law_told", "_law_caught", "e"] ["_law_deed"] (defScope s_l_said) := ⟨rfl, rfl, rfl, by decide +kernel, rfl, by decide +kernel, by decide +kernel⟩
abbrev s_l_by_row : Stmt := topS 52
theorem sc_l_by_row : FnScope ["_law_bad", "_law_judge", "_law_odd", "_law_found"] ["_law_bad", "_law_judge", "_law_odd"] (defScope s_l_by_row) := ⟨rfl, rfl, rfl, by decide +kernel, rfl, by decide +kernel, by decide +kernel⟩
abbrev s_l_by_order : Stmt := topS 53
theorem sc_l_by_order : FnScope ["_law_line", "_law_none", "_law_odd", "_law_found"] ["_law_line", "_law_none", "_law_odd"] (defScope s_l_by_order) := ⟨rfl, rfl, rfl, by decide +kernel, rfl, by decide +kernel, by decide +kernel⟩
abbrev s_l_numbers_right : Stmt := topS 54
theorem sc_l_numbers_right : FnScope ["_law_line", "_law_judge", "_law_odd", "_law_low", "_law_found", "_law_due", "_law_thing"] ["_law_line", "_law_judge", "_law_odd", "_law_low"] (defScope s_l_numbers_right) := ⟨rfl, rfl, rfl, by decide +kernel, rfl, by decide +kernel, by decide +kernel⟩
abbrev s_l_papers_right : Stmt := topS 55
theorem sc_l_papers_right : FnScope ["_law_line", "_law_judge", "_law_odd", "_law_found"] ["_law_line", "_law_judge", "_law_odd"] (defScope s_l_papers_right) := ⟨rfl, rfl, rfl, by decide +kernel, rfl, by decide +kernel, by decide +kernel⟩
abbrev s_l_empty_right : Stmt := topS 56
theorem sc_l_empty_right : FnScope ["_law_judge", "_law_none", "_law_odd", "_law_low", "_law_found", "_law_thing"] ["_law_judge", "_law_none", "_law_odd", "_law_low"] (defScope s_l_empty_right) := ⟨rfl, rfl, rfl, by decide +kernel, rfl, by decide +kernel, by decide +kernel⟩
abbrev s_l_long_right : Stmt := topS 57
theorem sc_l_long_right : FnScope ["_law_state", "_law_line", "_law_judge", "_law_filled", "_law_at", "_law_paper", "_law_kept"] ["_law_state", "_law_line", "_law_judge"] (defScope s_l_long_right) := ⟨rfl, rfl, rfl, by decide +kernel, rfl, by decide +kernel, by decide +kernel⟩
abbrev s_law : Stmt := topS 58
theorem sc_law : FnScope ["_law_script", "_law_k", "_law_state", "_law_line", "_law_kept", "_law_turn", "_law_judge", "_law_bad", "_law_rule", "_law_none", "_law_odd", "_law_low", "_law_second", "_law_mark", "_law_number"] ["_law_script"] (defScope s_law) := ⟨rfl, rfl, rfl, by decide +kernel, rfl, by decide +kernel, by decide +kernel⟩
structure Ad where
  (C_SortError C_BadPaper f_BadPaper___init__ C_BadKind f_BadKind___init__ C_BadNumber f_BadNumber___init__ C_TooMany f_TooMany___init__ C_BadText C_NoSuch C_BadAnswer C_Stopped C_Order f_Order___init__ f_Order_counted f_Order_ahead f_Order_many_asked f_is_whole f_need_row f_need_order f_least_run f_need_end f_run_at f_turn_run f_are_spots f_piece_fits f_right_spot cc_right_spot f_need_least f_cut_piece f_cut_pieces f_need_piece f_lay_piece f_lay_back f_is_spot f_is_told f_check_pieces f__law_mixed f__law_begun f__law_take f__law_runs f__law_numbers f__law_size f__law_word f__law_said f__law_by_row cc__law_by_row f__law_by_order cc__law_by_order f__law_numbers_right cc__law_numbers_right f__law_papers_right cc__law_papers_right f__law_empty_right cc__law_empty_right f__law_long_right f_law cc_law : Addr)
  (d_BadPaper___init__ d_BadKind___init__ d_BadNumber___init__ d_TooMany___init__ d_Order___init__ d_Order_counted d_Order_ahead d_Order_many_asked d_is_whole d_need_row d_need_order d_least_run d_need_end d_run_at d_turn_run d_are_spots d_piece_fits d_right_spot d_need_least d_cut_piece d_cut_pieces d_need_piece d_lay_piece d_lay_back d_is_spot d_is_told d_check_pieces d__law_mixed d__law_begun d__law_take d__law_runs d__law_numbers d__law_size d__law_word d__law_said d__law_by_row d__law_by_order d__law_numbers_right d__law_papers_right d__law_empty_right d__law_long_right d_law : FuncData)
structure Txt (K : PySem.W.Frag) (mg : Str → Option Value) (w : World) (A : Ad) : Prop where
  m_SortError : mg "SortError" = some (.ref A.C_SortError)
  q_SortError : PySem.W.excIn K A.C_SortError [.type "Exception", .type "BaseException", .type "object"] "Exception.__new__" = true
  p_SortError : PySem.W.keepIn K (.ref A.C_SortError) = true
  k_SortError : Xc.Lk K A.C_SortError
  r_SortError : ClX.CRead K A.C_SortError (.type "type")
  m_BadPaper : mg "BadPaper" = some (.ref A.C_BadPaper)
  o_BadPaper : Xc.Own K A.C_BadPaper "Exception" "Exception.__new__" "Exception.__init__" [.type "Exception", .type "BaseException", .type "object"]
  k_BadPaper : Xc.Lk K A.C_BadPaper
  t_BadPaper_at : PySem.W.takerIn K A.C_BadPaper "at" = some none
  na_BadPaper_at : PySem.W.findIn K (.ref A.C_BadPaper) "at" = some none
  i_BadPaper : PySem.W.findIn K (.ref A.C_BadPaper) "__init__" = some (some (.ref A.f_BadPaper___init__))
  y_BadPaper : PySem.W.typeIn K (.ref A.f_BadPaper___init__) = some (.type "function")
  c_BadPaper___init__ : CalM K "__init__" "BadPaper.__init__" s_BadPaper___init__ ["self", "at"] A.f_BadPaper___init__ A.d_BadPaper___init__
  v_BadPaper : PySem.W.findCls K (.ref A.C_SortError) (.type "type") "__init__" = some (.val (.builtin "Exception.__init__"))
  m_BadKind : mg "BadKind" = some (.ref A.C_BadKind)
  o_BadKind : Xc.Own K A.C_BadKind "TypeError" "TypeError.__new__" "TypeError.__init__" [.type "TypeError", .type "Exception", .type "BaseException", .type "object"]
  k_BadKind : Xc.Lk K A.C_BadKind
  t_BadKind_wanted : PySem.W.takerIn K A.C_BadKind "wanted" = some none
  na_BadKind_wanted : PySem.W.findIn K (.ref A.C_BadKind) "wanted" = some none
  i_BadKind : PySem.W.findIn K (.ref A.C_BadKind) "__init__" = some (some (.ref A.f_BadKind___init__))
  y_BadKind : PySem.W.typeIn K (.ref A.f_BadKind___init__) = some (.type "function")
  c_BadKind___init__ : CalM K "__init__" "BadKind.__init__" s_BadKind___init__ ["self", "wanted"] A.f_BadKind___init__ A.d_BadKind___init__
  v_BadKind : PySem.W.findCls K (.type "TypeError") (.type "type") "__init__" = some (.val (.builtin "TypeError.__init__"))
  m_BadNumber : mg "BadNumber" = some (.ref A.C_BadNumber)
  o_BadNumber : Xc.Own K A.C_BadNumber "IndexError" "IndexError.__new__" "IndexError.__init__" [.type "IndexError", .type "LookupError", .type "Exception", .type "BaseException", .type "object"]
  k_BadNumber : Xc.Lk K A.C_BadNumber
  t_BadNumber_at : PySem.W.takerIn K A.C_BadNumber "at" = some none
  na_BadNumber_at : PySem.W.findIn K (.ref A.C_BadNumber) "at" = some none
  i_BadNumber : PySem.W.findIn K (.ref A.C_BadNumber) "__init__" = some (some (.ref A.f_BadNumber___init__))
  y_BadNumber : PySem.W.typeIn K (.ref A.f_BadNumber___init__) = some (.type "function")
  c_BadNumber___init__ : CalM K "__init__" "BadNumber.__init__" s_BadNumber___init__ ["self", "at"] A.f_BadNumber___init__ A.d_BadNumber___init__
  v_BadNumber : PySem.W.findCls K (.type "IndexError") (.type "type") "__init__" = some (.val (.builtin "IndexError.__init__"))
  m_TooMany : mg "TooMany" = some (.ref A.C_TooMany)
  o_TooMany : Xc.Own K A.C_TooMany "OverflowError" "OverflowError.__new__" "OverflowError.__init__" [.type "OverflowError", .type "ArithmeticError", .type "Exception", .type "BaseException", .type "object"]
  k_TooMany : Xc.Lk K A.C_TooMany
  t_TooMany_most : PySem.W.takerIn K A.C_TooMany "most" = some none
  na_TooMany_most : PySem.W.findIn K (.ref A.C_TooMany) "most" = some none
  i_TooMany : PySem.W.findIn K (.ref A.C_TooMany) "__init__" = some (some (.ref A.f_TooMany___init__))
  y_TooMany : PySem.W.typeIn K (.ref A.f_TooMany___init__) = some (.type "function")
  c_TooMany___init__ : CalM K "__init__" "TooMany.__init__" s_TooMany___init__ ["self", "most"] A.f_TooMany___init__ A.d_TooMany___init__
  v_TooMany : PySem.W.findCls K (.type "OverflowError") (.type "type") "__init__" = some (.val (.builtin "OverflowError.__init__"))
  m_BadText : mg "BadText" = some (.ref A.C_BadText)
  m_NoSuch : mg "NoSuch" = some (.ref A.C_NoSuch)
  m_BadAnswer : mg "BadAnswer" = some (.ref A.C_BadAnswer)
  m_Stopped : mg "Stopped" = some (.ref A.C_Stopped)
  m_Order : mg "Order" = some (.ref A.C_Order)
  cl_Order : Cls K A.C_Order
  na_Order_own_rule : NoAttr K A.C_Order "own_rule"
  na_Order_times_asked : NoAttr K A.C_Order "times_asked"
  i_Order : Mk K A.C_Order A.f_Order___init__
  c_Order___init__ : CalM K "__init__" "Order.__init__" s_Order___init__ ["self", "rule"] A.f_Order___init__ A.d_Order___init__
  h_Order_counted : Meth K A.C_Order "counted" A.f_Order_counted
  c_Order_counted : CalM K "counted" "Order.counted" s_Order_counted ["self"] A.f_Order_counted A.d_Order_counted
  h_Order_ahead : Meth K A.C_Order "ahead" A.f_Order_ahead
  c_Order_ahead : CalM K "ahead" "Order.ahead" s_Order_ahead ["self", "one", "other"] A.f_Order_ahead A.d_Order_ahead
  h_Order_many_asked : Meth K A.C_Order "many_asked" A.f_Order_many_asked
  c_Order_many_asked : CalM K "many_asked" "Order.many_asked" s_Order_many_asked ["self"] A.f_Order_many_asked A.d_Order_many_asked
  r_Order : ClX.CRead K A.C_Order (.type "type")
  vi_Order : PySem.W.findCls K (.ref A.C_Order) (.type "type") "__init__" = some (.val (.ref A.f_Order___init__))
  c_is_whole : CalD K mg "is_whole" s_is_whole [("least", .int 0),("most", .int 4096)] A.f_is_whole A.d_is_whole
  c_need_row : Cal K mg "need_row" s_need_row ["thing"] A.f_need_row A.d_need_row
  c_need_order : Cal K mg "need_order" s_need_order ["thing"] A.f_need_order A.d_need_order
  c_least_run : Cal K mg "least_run" s_least_run ["many"] A.f_least_run A.d_least_run
  c_need_end : CalD K mg "need_end" s_need_end [("nearest", .int 0)] A.f_need_end A.d_need_end
  c_run_at : Xh.CalDD K mg "run_at" s_run_at [.int 0] [("end", .non)] A.f_run_at A.d_run_at
  c_turn_run : Cal K mg "turn_run" s_turn_run ["row", "start", "end"] A.f_turn_run A.d_turn_run
  c_are_spots : Cal K mg "are_spots" s_are_spots ["spots", "natural"] A.f_are_spots A.d_are_spots
  c_piece_fits : Cal K mg "piece_fits" s_piece_fits ["piece", "many"] A.f_piece_fits A.d_piece_fits
  cx_right_spot : Xc.FunC K "right_spot" "right_spot" s_right_spot A.f_right_spot A.d_right_spot A.cc_right_spot
  nt_right_spot : K.lookup 317 = none
  ht_right_spot : PySem.W.codeHdIn K A.cc_right_spot 317 = true
  c_right_spot : CalD K mg "right_spot" s_right_spot [("start", .int 0),("end", .non)] A.f_right_spot A.d_right_spot
  c_need_least : Cal K mg "need_least" s_need_least ["least"] A.f_need_least A.d_need_least
  c_cut_piece : Xh.CalDD K mg "cut_piece" s_cut_piece [.int 0] [("least", .int 8)] A.f_cut_piece A.d_cut_piece
  c_cut_pieces : CalD K mg "cut_pieces" s_cut_pieces [("least", .non)] A.f_cut_pieces A.d_cut_pieces
  c_need_piece : Cal K mg "need_piece" s_need_piece ["row", "piece"] A.f_need_piece A.d_need_piece
  c_lay_piece : Cal K mg "lay_piece" s_lay_piece ["row", "piece"] A.f_lay_piece A.d_lay_piece
  c_lay_back : Cal K mg "lay_back" s_lay_back ["row", "piece"] A.f_lay_back A.d_lay_back
  c_is_spot : Cal K mg "is_spot" s_is_spot ["row", "order", "start", "end", "spot"] A.f_is_spot A.d_is_spot
  c_is_told : Cal K mg "is_told" s_is_told ["row", "order", "start", "piece", "least"] A.f_is_told A.d_is_told
  c_check_pieces : CalD K mg "check_pieces" s_check_pieces [("least", .non)] A.f_check_pieces A.d_check_pieces
  c__law_mixed : Cal K mg "_law_mixed" s_l_mixed ["_law_cell", "_law_k"] A.f__law_mixed A.d__law_mixed
  c__law_begun : Cal K mg "_law_begun" s_l_begun ["_law_script", "_law_k"] A.f__law_begun A.d__law_begun
  c__law_take : Cal K mg "_law_take" s_l_take ["_law_state", "_law_count"] A.f__law_take A.d__law_take
  c__law_runs : Cal K mg "_law_runs" s_l_runs ["_law_state", "_law_count"] A.f__law_runs A.d__law_runs
  c__law_numbers : Cal K mg "_law_numbers" s_l_numbers ["_law_state", "_law_count"] A.f__law_numbers A.d__law_numbers
  c__law_size : Cal K mg "_law_size" s_l_size ["_law_state"] A.f__law_size A.d__law_size
  c__law_word : Cal K mg "_law_word" s_l_word ["_law_caught"] A.f__law_word A.d__law_word
  c__law_said : Cal K mg "_law_said" s_l_said ["_law_deed"] A.f__law_said A.d__law_said
  cx__law_by_row : Xc.FunC K "_law_by_row" "_law_by_row" s_l_by_row A.f__law_by_row A.d__law_by_row A.cc__law_by_row
  nt__law_by_row : K.lookup 443 = none
  ht__law_by_row : PySem.W.codeHdIn K A.cc__law_by_row 443 = true
  c__law_by_row : Cal K mg "_law_by_row" s_l_by_row ["_law_bad", "_law_judge", "_law_odd"] A.f__law_by_row A.d__law_by_row
  cx__law_by_order : Xc.FunC K "_law_by_order" "_law_by_order" s_l_by_order A.f__law_by_order A.d__law_by_order A.cc__law_by_order
  nt__law_by_order : K.lookup 450 = none
  ht__law_by_order : PySem.W.codeHdIn K A.cc__law_by_order 450 = true
  c__law_by_order : Cal K mg "_law_by_order" s_l_by_order ["_law_line", "_law_none", "_law_odd"] A.f__law_by_order A.d__law_by_order
  cx__law_numbers_right : Xc.FunC K "_law_numbers_right" "_law_numbers_right" s_l_numbers_right A.f__law_numbers_right A.d__law_numbers_right A.cc__law_numbers_right
  nt__law_numbers_right : K.lookup 457 = none
  ht__law_numbers_right : PySem.W.codeHdIn K A.cc__law_numbers_right 457 = true
  c__law_numbers_right : Cal K mg "_law_numbers_right" s_l_numbers_right ["_law_line", "_law_judge", "_law_odd", "_law_low"] A.f__law_numbers_right A.d__law_numbers_right
  cx__law_papers_right : Xc.FunC K "_law_papers_right" "_law_papers_right" s_l_papers_right A.f__law_papers_right A.d__law_papers_right A.cc__law_papers_right
  nt__law_papers_right : K.lookup 462 = none
  ht__law_papers_right : PySem.W.codeHdIn K A.cc__law_papers_right 462 = true
  c__law_papers_right : Cal K mg "_law_papers_right" s_l_papers_right ["_law_line", "_law_judge", "_law_odd"] A.f__law_papers_right A.d__law_papers_right
  cx__law_empty_right : Xc.FunC K "_law_empty_right" "_law_empty_right" s_l_empty_right A.f__law_empty_right A.d__law_empty_right A.cc__law_empty_right
  nt__law_empty_right : K.lookup 469 = none
  ht__law_empty_right : PySem.W.codeHdIn K A.cc__law_empty_right 469 = true
  c__law_empty_right : Cal K mg "_law_empty_right" s_l_empty_right ["_law_judge", "_law_none", "_law_odd", "_law_low"] A.f__law_empty_right A.d__law_empty_right
  c__law_long_right : Cal K mg "_law_long_right" s_l_long_right ["_law_state", "_law_line", "_law_judge"] A.f__law_long_right A.d__law_long_right
  cx_law : Xc.FunC K "law" "law" s_law A.f_law A.d_law A.cc_law
  nt_law : K.lookup 481 = none
  ht_law : PySem.W.codeHdIn K A.cc_law 481 = true
  c_law : Cal K mg "law" s_law ["_law_script"] A.f_law A.d_law
  g_MOST_THINGS : ∃ u, mg "MOST_THINGS" = some u ∧ RelV (.int 4096) u
  g_LEAST : ∃ u, mg "LEAST" = some u ∧ RelV (.int 8) u
  g_MOST_LEAST : ∃ u, mg "MOST_LEAST" = some u ∧ RelV (.int 64) u
  g_MOST_GROWN : ∃ u, mg "MOST_GROWN" = some u ∧ RelV (.int 64) u
  x_stat : PySem.W.nsIn K cStatics "sys.int_max_str_digits" = some none
  x_any_BadPaper : PySem.W.exmAny K (.ref A.C_BadPaper) [.ref A.C_SortError, .ref A.C_BadAnswer, .ref A.C_BadKind, .ref A.C_BadNumber, .ref A.C_BadText, .ref A.C_NoSuch, .ref A.C_Stopped, .ref A.C_TooMany] = some true
  x_kit_BadPaper : ([.ref A.C_BadPaper, .ref A.C_BadKind, .ref A.C_BadNumber, .ref A.C_TooMany, .ref A.C_Stopped, .ref A.C_SortError] : List Value).map (fun c => PySem.W.kitOne K (.ref A.C_BadPaper) c) = [some true, some false, some false, some false, some false, some true]
  x_any_BadKind : PySem.W.exmAny K (.ref A.C_BadKind) [.ref A.C_SortError, .ref A.C_BadAnswer, .ref A.C_BadKind, .ref A.C_BadNumber, .ref A.C_BadText, .ref A.C_NoSuch, .ref A.C_Stopped, .ref A.C_TooMany] = some true
  x_kit_BadKind : ([.ref A.C_BadPaper, .ref A.C_BadKind, .ref A.C_BadNumber, .ref A.C_TooMany, .ref A.C_Stopped, .type "TypeError"] : List Value).map (fun c => PySem.W.kitOne K (.ref A.C_BadKind) c) = [some false, some true, some false, some false, some false, some true]
  x_any_BadNumber : PySem.W.exmAny K (.ref A.C_BadNumber) [.ref A.C_SortError, .ref A.C_BadAnswer, .ref A.C_BadKind, .ref A.C_BadNumber, .ref A.C_BadText, .ref A.C_NoSuch, .ref A.C_Stopped, .ref A.C_TooMany] = some true
  x_kit_BadNumber : ([.ref A.C_BadPaper, .ref A.C_BadKind, .ref A.C_BadNumber, .ref A.C_TooMany, .ref A.C_Stopped, .type "IndexError"] : List Value).map (fun c => PySem.W.kitOne K (.ref A.C_BadNumber) c) = [some false, some false, some true, some false, some false, some true]
  x_any_TooMany : PySem.W.exmAny K (.ref A.C_TooMany) [.ref A.C_SortError, .ref A.C_BadAnswer, .ref A.C_BadKind, .ref A.C_BadNumber, .ref A.C_BadText, .ref A.C_NoSuch, .ref A.C_Stopped, .ref A.C_TooMany] = some true
  x_kit_TooMany : ([.ref A.C_BadPaper, .ref A.C_BadKind, .ref A.C_BadNumber, .ref A.C_TooMany, .ref A.C_Stopped, .type "OverflowError"] : List Value).map (fun c => PySem.W.kitOne K (.ref A.C_TooMany) c) = [some false, some false, some false, some true, some false, some true]
  x_i_Order : PySem.W.kitOne K (.ref A.C_Order) (.ref A.C_Order) = some true
  x_il_Order : PySem.W.kitOne K (.ref A.C_Order) (.type "list") = some false
  x_io_int : PySem.W.kitOne K (.type "int") (.ref A.C_Order) = some false
  x_io_bool : PySem.W.kitOne K (.type "bool") (.ref A.C_Order) = some false
  x_io_str : PySem.W.kitOne K (.type "str") (.ref A.C_Order) = some false
  x_io_non : PySem.W.kitOne K (.type "NoneType") (.ref A.C_Order) = some false
  x_io_lst : PySem.W.kitOne K (.type "list") (.ref A.C_Order) = some false
  x_io_tup : PySem.W.kitOne K (.type "tuple") (.ref A.C_Order) = some false
  x_io_dct : PySem.W.kitOne K (.type "dict") (.ref A.C_Order) = some false
  x_io_fun : PySem.W.kitOne K (.type "function") (.ref A.C_Order) = some false
  x_oha_Order : PySem.W.findIn K (.ref A.C_Order) "__class__" = some (some (.builtin "object.__class__"))
  x_ohm_Order : PySem.W.mroIn K A.C_Order (.type "object") = some true
  x_ohn : PySem.W.specialIn K (.builtin "object.__class__") "__get__" = some (some (.builtin "getset_descriptor.__get__"))
  x_oht : PySem.W.takesIn K (.builtin "object.__class__") = some true
  n_len : mg "len" = none
  n_min : mg "min" = none
  n_max : mg "max" = none
  n_range : mg "range" = none
  n_repr : mg "repr" = none
  n_isinstance : mg "isinstance" = none
  n_int : mg "int" = none
  n_bool : mg "bool" = none
  n_str : mg "str" = none
  n_tuple : mg "tuple" = none
  n_list : mg "list" = none
  n_enumerate : mg "enumerate" = none
  n_sum : mg "sum" = none
  n_zip : mg "zip" = none
  n_divmod : mg "divmod" = none
  n_all : mg "all" = none
  n_TypeError : mg "TypeError" = none
  n_IndexError : mg "IndexError" = none
  n_OverflowError : mg "OverflowError" = none
  n_RuntimeError : mg "RuntimeError" = none
  n_Exception : mg "Exception" = none
set_option maxHeartbeats 0 in
theorem all_mk {K : PySem.W.Frag} {mg : Str → Option Value} {w : World} {h : Heap} {C_SortError : Addr} {C_BadPaper : Addr} {f_BadPaper___init__ : Addr} {oc_BadPaper___init__ doc_BadPaper___init__ pm_BadPaper___init__ cd_BadPaper___init__ ct_BadPaper___init__ kV_BadPaper___init__ : Value} {od_BadPaper___init__ an_BadPaper___init__ : Option Addr} {osl_BadPaper___init__ : Array (Option Value)} {C_BadKind : Addr} {f_BadKind___init__ : Addr} {oc_BadKind___init__ doc_BadKind___init__ pm_BadKind___init__ cd_BadKind___init__ ct_BadKind___init__ kV_BadKind___init__ : Value} {od_BadKind___init__ an_BadKind___init__ : Option Addr} {osl_BadKind___init__ : Array (Option Value)} {C_BadNumber : Addr} {f_BadNumber___init__ : Addr} {oc_BadNumber___init__ doc_BadNumber___init__ pm_BadNumber___init__ cd_BadNumber___init__ ct_BadNumber___init__ kV_BadNumber___init__ : Value} {od_BadNumber___init__ an_BadNumber___init__ : Option Addr} {osl_BadNumber___init__ : Array (Option Value)} {C_TooMany : Addr} {f_TooMany___init__ : Addr} {oc_TooMany___init__ doc_TooMany___init__ pm_TooMany___init__ cd_TooMany___init__ ct_TooMany___init__ kV_TooMany___init__ : Value} {od_TooMany___init__ an_TooMany___init__ : Option Addr} {osl_TooMany___init__ : Array (Option Value)} {C_BadText : Addr} {C_NoSuch : Addr} {C_BadAnswer : Addr} {C_Stopped : Addr} {C_Order : Addr} {f_Order___init__ : Addr} {oc_Order___init__ doc_Order___init__ pm_Order___init__ cd_Order___init__ ct_Order___init__ kV_Order___init__ : Value} {od_Order___init__ an_Order___init__ : Option Addr} {osl_Order___init__ : Array (Option Value)} {f_Order_counted : Addr} {oc_Order_counted doc_Order_counted pm_Order_counted cd_Order_counted ct_Order_counted kV_Order_counted : Value} {od_Order_counted an_Order_counted : Option Addr} {osl_Order_counted : Array (Option Value)} {f_Order_ahead : Addr} {oc_Order_ahead doc_Order_ahead pm_Order_ahead cd_Order_ahead ct_Order_ahead kV_Order_ahead : Value} {od_Order_ahead an_Order_ahead : Option Addr} {osl_Order_ahead : Array (Option Value)} {f_Order_many_asked : Addr} {oc_Order_many_asked doc_Order_many_asked pm_Order_many_asked cd_Order_many_asked ct_Order_many_asked kV_Order_many_asked : Value} {od_Order_many_asked an_Order_many_asked : Option Addr} {osl_Order_many_asked : Array (Option Value)} {f_is_whole : Addr} {D_is_whole : Addr} {oc_is_whole doc_is_whole pm_is_whole cd_is_whole ct_is_whole : Value} {od_is_whole an_is_whole : Option Addr} {osl_is_whole : Array (Option Value)} {f_need_row : Addr} {oc_need_row doc_need_row pm_need_row cd_need_row ct_need_row kV_need_row : Value} {od_need_row an_need_row : Option Addr} {osl_need_row : Array (Option Value)} {f_need_order : Addr} {oc_need_order doc_need_order pm_need_order cd_need_order ct_need_order kV_need_order : Value} {od_need_order an_need_order : Option Addr} {osl_need_order : Array (Option Value)} {f_least_run : Addr} {oc_least_run doc_least_run pm_least_run cd_least_run ct_least_run kV_least_run : Value} {od_least_run an_least_run : Option Addr} {osl_least_run : Array (Option Value)} {f_need_end : Addr} {D_need_end : Addr} {oc_need_end doc_need_end pm_need_end cd_need_end ct_need_end : Value} {od_need_end an_need_end : Option Addr} {osl_need_end : Array (Option Value)} {f_run_at : Addr} {D_run_at : Addr} {DT_run_at : Addr} {DO_run_at : Obj} {DI_run_at : List Value} {DN_run_at : Nat} {oc_run_at doc_run_at pm_run_at cd_run_at ct_run_at : Value} {od_run_at an_run_at : Option Addr} {osl_run_at : Array (Option Value)} {f_turn_run : Addr} {oc_turn_run doc_turn_run pm_turn_run cd_turn_run ct_turn_run kV_turn_run : Value} {od_turn_run an_turn_run : Option Addr} {osl_turn_run : Array (Option Value)} {f_are_spots : Addr} {oc_are_spots doc_are_spots pm_are_spots cd_are_spots ct_are_spots kV_are_spots : Value} {od_are_spots an_are_spots : Option Addr} {osl_are_spots : Array (Option Value)} {f_piece_fits : Addr} {oc_piece_fits doc_piece_fits pm_piece_fits cd_piece_fits ct_piece_fits kV_piece_fits : Value} {od_piece_fits an_piece_fits : Option Addr} {osl_piece_fits : Array (Option Value)} {f_right_spot : Addr} {D_right_spot : Addr} {oc_right_spot doc_right_spot pm_right_spot  ct_right_spot : Value} {od_right_spot an_right_spot : Option Addr} {osl_right_spot : Array (Option Value)} {cc_right_spot : Addr} {f_need_least : Addr} {oc_need_least doc_need_least pm_need_least cd_need_least ct_need_least kV_need_least : Value} {od_need_least an_need_least : Option Addr} {osl_need_least : Array (Option Value)} {f_cut_piece : Addr} {D_cut_piece : Addr} {DT_cut_piece : Addr} {DO_cut_piece : Obj} {DI_cut_piece : List Value} {DN_cut_piece : Nat} {oc_cut_piece doc_cut_piece pm_cut_piece cd_cut_piece ct_cut_piece : Value} {od_cut_piece an_cut_piece : Option Addr} {osl_cut_piece : Array (Option Value)} {f_cut_pieces : Addr} {D_cut_pieces : Addr} {oc_cut_pieces doc_cut_pieces pm_cut_pieces cd_cut_pieces ct_cut_pieces : Value} {od_cut_pieces an_cut_pieces : Option Addr} {osl_cut_pieces : Array (Option Value)} {f_need_piece : Addr} {oc_need_piece doc_need_piece pm_need_piece cd_need_piece ct_need_piece kV_need_piece : Value} {od_need_piece an_need_piece : Option Addr} {osl_need_piece : Array (Option Value)} {f_lay_piece : Addr} {oc_lay_piece doc_lay_piece pm_lay_piece cd_lay_piece ct_lay_piece kV_lay_piece : Value} {od_lay_piece an_lay_piece : Option Addr} {osl_lay_piece : Array (Option Value)} {f_lay_back : Addr} {oc_lay_back doc_lay_back pm_lay_back cd_lay_back ct_lay_back kV_lay_back : Value} {od_lay_back an_lay_back : Option Addr} {osl_lay_back : Array (Option Value)} {f_is_spot : Addr} {oc_is_spot doc_is_spot pm_is_spot cd_is_spot ct_is_spot kV_is_spot : Value} {od_is_spot an_is_spot : Option Addr} {osl_is_spot : Array (Option Value)} {f_is_told : Addr} {oc_is_told doc_is_told pm_is_told cd_is_told ct_is_told kV_is_told : Value} {od_is_told an_is_told : Option Addr} {osl_is_told : Array (Option Value)} {f_check_pieces : Addr} {D_check_pieces : Addr} {oc_check_pieces doc_check_pieces pm_check_pieces cd_check_pieces ct_check_pieces : Value} {od_check_pieces an_check_pieces : Option Addr} {osl_check_pieces : Array (Option Value)} {f__law_mixed : Addr} {oc__law_mixed doc__law_mixed pm__law_mixed cd__law_mixed ct__law_mixed kV__law_mixed : Value} {od__law_mixed an__law_mixed : Option Addr} {osl__law_mixed : Array (Option Value)} {f__law_begun : Addr} {oc__law_begun doc__law_begun pm__law_begun cd__law_begun ct__law_begun kV__law_begun : Value} {od__law_begun an__law_begun : Option Addr} {osl__law_begun : Array (Option Value)} {f__law_take : Addr} {oc__law_take doc__law_take pm__law_take cd__law_take ct__law_take kV__law_take : Value} {od__law_take an__law_take : Option Addr} {osl__law_take : Array (Option Value)} {f__law_runs : Addr} {oc__law_runs doc__law_runs pm__law_runs cd__law_runs ct__law_runs kV__law_runs : Value} {od__law_runs an__law_runs : Option Addr} {osl__law_runs : Array (Option Value)} {f__law_numbers : Addr} {oc__law_numbers doc__law_numbers pm__law_numbers cd__law_numbers ct__law_numbers kV__law_numbers : Value} {od__law_numbers an__law_numbers : Option Addr} {osl__law_numbers : Array (Option Value)} {f__law_size : Addr} {oc__law_size doc__law_size pm__law_size cd__law_size ct__law_size kV__law_size : Value} {od__law_size an__law_size : Option Addr} {osl__law_size : Array (Option Value)} {f__law_word : Addr} {oc__law_word doc__law_word pm__law_word cd__law_word ct__law_word kV__law_word : Value} {od__law_word an__law_word : Option Addr} {osl__law_word : Array (Option Value)} {f__law_said : Addr} {oc__law_said doc__law_said pm__law_said cd__law_said ct__law_said kV__law_said : Value} {od__law_said an__law_said : Option Addr} {osl__law_said : Array (Option Value)} {f__law_by_row : Addr} {oc__law_by_row doc__law_by_row pm__law_by_row  ct__law_by_row kV__law_by_row : Value} {od__law_by_row an__law_by_row : Option Addr} {osl__law_by_row : Array (Option Value)} {cc__law_by_row : Addr} {f__law_by_order : Addr} {oc__law_by_order doc__law_by_order pm__law_by_order  ct__law_by_order kV__law_by_order : Value} {od__law_by_order an__law_by_order : Option Addr} {osl__law_by_order : Array (Option Value)} {cc__law_by_order : Addr} {f__law_numbers_right : Addr} {oc__law_numbers_right doc__law_numbers_right pm__law_numbers_right  ct__law_numbers_right kV__law_numbers_right : Value} {od__law_numbers_right an__law_numbers_right : Option Addr} {osl__law_numbers_right : Array (Option Value)} {cc__law_numbers_right : Addr} {f__law_papers_right : Addr} {oc__law_papers_right doc__law_papers_right pm__law_papers_right  ct__law_papers_right kV__law_papers_right : Value} {od__law_papers_right an__law_papers_right : Option Addr} {osl__law_papers_right : Array (Option Value)} {cc__law_papers_right : Addr} {f__law_empty_right : Addr} {oc__law_empty_right doc__law_empty_right pm__law_empty_right  ct__law_empty_right kV__law_empty_right : Value} {od__law_empty_right an__law_empty_right : Option Addr} {osl__law_empty_right : Array (Option Value)} {cc__law_empty_right : Addr} {f__law_long_right : Addr} {oc__law_long_right doc__law_long_right pm__law_long_right cd__law_long_right ct__law_long_right kV__law_long_right : Value} {od__law_long_right an__law_long_right : Option Addr} {osl__law_long_right : Array (Option Value)} {f_law : Addr} {oc_law doc_law pm_law  ct_law kV_law : Value} {od_law an_law : Option Addr} {osl_law : Array (Option Value)} {cc_law : Addr} {u_MOST_THINGS : Value} {u_LEAST : Value} {u_MOST_LEAST : Value} {u_MOST_GROWN : Value} (X : K.In h) (G : h.Ns mainGlobals mg)
    (a_SortError : PySem.W.nsIn K mainGlobals "SortError" = some (some (.ref C_SortError)))
    (ini_SortError : PySem.W.excIn K C_SortError [.type "Exception", .type "BaseException", .type "object"] "Exception.__new__" = true)
    (dic_SortError : PySem.W.hasDictIn K C_SortError = true)
    (bex_SortError : PySem.W.subIn K (.ref C_SortError) (.type "BaseException") = some true)
    (kpc_SortError : PySem.W.keepIn K (.ref C_SortError) = true)
    (xcl_SortError : (PySem.W.clsIn K C_SortError).isSome = true)
    (xga_SortError : PySem.W.findIn K (.ref C_SortError) "__getattribute__" = some (some (.builtin "BaseException.__getattribute__")))
    (xgg_SortError : PySem.W.findIn K (.ref C_SortError) "__getattr__" = some none)
    (xha_SortError : PySem.W.findIn K (.ref C_SortError) "__class__" = some (some (.builtin "object.__class__")))
    (xhn_SortError : PySem.W.specialIn K (.builtin "object.__class__") "__get__" = some (some (.builtin "getset_descriptor.__get__")))
    (xht_SortError : PySem.W.takesIn K (.builtin "object.__class__") = some true)
    (xhm_SortError : PySem.W.mroIn K C_SortError (.type "object") = some true)
    (rd_SortError : PySem.W.readsIn K C_SortError (.type "type") = true)
    (rg_SortError : PySem.W.specialIn K (.ref C_SortError) "__getattribute__" = some (some (.builtin "type.__getattribute__")))
    (a_BadPaper : PySem.W.nsIn K mainGlobals "BadPaper" = some (some (.ref C_BadPaper)))
    (ini_BadPaper : PySem.W.excInitIn K C_BadPaper [.type "Exception", .type "BaseException", .type "object"] "Exception.__new__" = true)
    (ovr_BadPaper : PySem.W.excOver K C_BadPaper [.type "Exception", .type "BaseException", .type "object"] = true)
    (dic_BadPaper : PySem.W.hasDictIn K C_BadPaper = true)
    (sav_BadPaper : PySem.W.findIn K (.ref C_BadPaper) "__setattr__" = some (some (.builtin "object.__setattr__")))
    (bex_BadPaper : PySem.W.subIn K (.ref C_BadPaper) (.type "BaseException") = some true)
    (tyc_BadPaper : PySem.W.typeIn K (.ref C_BadPaper) = some (.type "type"))
    (kpc_BadPaper : PySem.W.keepIn K (.ref C_BadPaper) = true)
    (xcl_BadPaper : (PySem.W.clsIn K C_BadPaper).isSome = true)
    (xga_BadPaper : PySem.W.findIn K (.ref C_BadPaper) "__getattribute__" = some (some (.builtin "BaseException.__getattribute__")))
    (xgg_BadPaper : PySem.W.findIn K (.ref C_BadPaper) "__getattr__" = some none)
    (xha_BadPaper : PySem.W.findIn K (.ref C_BadPaper) "__class__" = some (some (.builtin "object.__class__")))
    (xhn_BadPaper : PySem.W.specialIn K (.builtin "object.__class__") "__get__" = some (some (.builtin "getset_descriptor.__get__")))
    (xht_BadPaper : PySem.W.takesIn K (.builtin "object.__class__") = some true)
    (xhm_BadPaper : PySem.W.mroIn K C_BadPaper (.type "object") = some true)
    (tk_BadPaper_at : PySem.W.takerIn K C_BadPaper "at" = some none)
    (na_BadPaper_at : PySem.W.findIn K (.ref C_BadPaper) "at" = some none)
    (a_BadPaper___init__ : PySem.W.findIn K (.ref C_BadPaper) "__init__" = some (some (.ref f_BadPaper___init__)))
    (y_BadPaper___init__ : PySem.W.typeIn K (.ref f_BadPaper___init__) = some (.type "function"))
    (l_BadPaper___init__ : K.lookup f_BadPaper___init__ = some ⟨oc_BadPaper___init__, od_BadPaper___init__, .func (PySem.W.fnOf "__init__" "BadPaper.__init__" (defArgs s_BadPaper___init__) (defBody s_BadPaper___init__) (defScope s_BadPaper___init__) .none kV_BadPaper___init__ doc_BadPaper___init__ pm_BadPaper___init__ an_BadPaper___init__ cd_BadPaper___init__ ct_BadPaper___init__), osl_BadPaper___init__⟩)
    (e_BadPaper___init__ : PySem.W.codeIn K cd_BadPaper___init__ "BadPaper.__init__" = true)
    (k_BadPaper___init__ : PySem.W.keepIn K (.ref f_BadPaper___init__) = true)
    (v_BadPaper : PySem.W.findCls K (.ref C_SortError) (.type "type") "__init__" = some (.val (.builtin "Exception.__init__")))
    (a_BadKind : PySem.W.nsIn K mainGlobals "BadKind" = some (some (.ref C_BadKind)))
    (ini_BadKind : PySem.W.excInitIn K C_BadKind [.type "TypeError", .type "Exception", .type "BaseException", .type "object"] "TypeError.__new__" = true)
    (ovr_BadKind : PySem.W.excOver K C_BadKind [.type "TypeError", .type "Exception", .type "BaseException", .type "object"] = true)
    (dic_BadKind : PySem.W.hasDictIn K C_BadKind = true)
    (sav_BadKind : PySem.W.findIn K (.ref C_BadKind) "__setattr__" = some (some (.builtin "object.__setattr__")))
    (bex_BadKind : PySem.W.subIn K (.ref C_BadKind) (.type "BaseException") = some true)
    (tyc_BadKind : PySem.W.typeIn K (.ref C_BadKind) = some (.type "type"))
    (kpc_BadKind : PySem.W.keepIn K (.ref C_BadKind) = true)
    (xcl_BadKind : (PySem.W.clsIn K C_BadKind).isSome = true)
    (xga_BadKind : PySem.W.findIn K (.ref C_BadKind) "__getattribute__" = some (some (.builtin "BaseException.__getattribute__")))
    (xgg_BadKind : PySem.W.findIn K (.ref C_BadKind) "__getattr__" = some none)
    (xha_BadKind : PySem.W.findIn K (.ref C_BadKind) "__class__" = some (some (.builtin "object.__class__")))
    (xhn_BadKind : PySem.W.specialIn K (.builtin "object.__class__") "__get__" = some (some (.builtin "getset_descriptor.__get__")))
    (xht_BadKind : PySem.W.takesIn K (.builtin "object.__class__") = some true)
    (xhm_BadKind : PySem.W.mroIn K C_BadKind (.type "object") = some true)
    (tk_BadKind_wanted : PySem.W.takerIn K C_BadKind "wanted" = some none)
    (na_BadKind_wanted : PySem.W.findIn K (.ref C_BadKind) "wanted" = some none)
    (a_BadKind___init__ : PySem.W.findIn K (.ref C_BadKind) "__init__" = some (some (.ref f_BadKind___init__)))
    (y_BadKind___init__ : PySem.W.typeIn K (.ref f_BadKind___init__) = some (.type "function"))
    (l_BadKind___init__ : K.lookup f_BadKind___init__ = some ⟨oc_BadKind___init__, od_BadKind___init__, .func (PySem.W.fnOf "__init__" "BadKind.__init__" (defArgs s_BadKind___init__) (defBody s_BadKind___init__) (defScope s_BadKind___init__) .none kV_BadKind___init__ doc_BadKind___init__ pm_BadKind___init__ an_BadKind___init__ cd_BadKind___init__ ct_BadKind___init__), osl_BadKind___init__⟩)
    (e_BadKind___init__ : PySem.W.codeIn K cd_BadKind___init__ "BadKind.__init__" = true)
    (k_BadKind___init__ : PySem.W.keepIn K (.ref f_BadKind___init__) = true)
    (v_BadKind : PySem.W.findCls K (.type "TypeError") (.type "type") "__init__" = some (.val (.builtin "TypeError.__init__")))
    (a_BadNumber : PySem.W.nsIn K mainGlobals "BadNumber" = some (some (.ref C_BadNumber)))
    (ini_BadNumber : PySem.W.excInitIn K C_BadNumber [.type "IndexError", .type "LookupError", .type "Exception", .type "BaseException", .type "object"] "IndexError.__new__" = true)
    (ovr_BadNumber : PySem.W.excOver K C_BadNumber [.type "IndexError", .type "LookupError", .type "Exception", .type "BaseException", .type "object"] = true)
    (dic_BadNumber : PySem.W.hasDictIn K C_BadNumber = true)
    (sav_BadNumber : PySem.W.findIn K (.ref C_BadNumber) "__setattr__" = some (some (.builtin "object.__setattr__")))
    (bex_BadNumber : PySem.W.subIn K (.ref C_BadNumber) (.type "BaseException") = some true)
    (tyc_BadNumber : PySem.W.typeIn K (.ref C_BadNumber) = some (.type "type"))
    (kpc_BadNumber : PySem.W.keepIn K (.ref C_BadNumber) = true)
    (xcl_BadNumber : (PySem.W.clsIn K C_BadNumber).isSome = true)
    (xga_BadNumber : PySem.W.findIn K (.ref C_BadNumber) "__getattribute__" = some (some (.builtin "BaseException.__getattribute__")))
    (xgg_BadNumber : PySem.W.findIn K (.ref C_BadNumber) "__getattr__" = some none)
    (xha_BadNumber : PySem.W.findIn K (.ref C_BadNumber) "__class__" = some (some (.builtin "object.__class__")))
    (xhn_BadNumber : PySem.W.specialIn K (.builtin "object.__class__") "__get__" = some (some (.builtin "getset_descriptor.__get__")))
    (xht_BadNumber : PySem.W.takesIn K (.builtin "object.__class__") = some true)
    (xhm_BadNumber : PySem.W.mroIn K C_BadNumber (.type "object") = some true)
    (tk_BadNumber_at : PySem.W.takerIn K C_BadNumber "at" = some none)
    (na_BadNumber_at : PySem.W.findIn K (.ref C_BadNumber) "at" = some none)
    (a_BadNumber___init__ : PySem.W.findIn K (.ref C_BadNumber) "__init__" = some (some (.ref f_BadNumber___init__)))
    (y_BadNumber___init__ : PySem.W.typeIn K (.ref f_BadNumber___init__) = some (.type "function"))
    (l_BadNumber___init__ : K.lookup f_BadNumber___init__ = some ⟨oc_BadNumber___init__, od_BadNumber___init__, .func (PySem.W.fnOf "__init__" "BadNumber.__init__" (defArgs s_BadNumber___init__) (defBody s_BadNumber___init__) (defScope s_BadNumber___init__) .none kV_BadNumber___init__ doc_BadNumber___init__ pm_BadNumber___init__ an_BadNumber___init__ cd_BadNumber___init__ ct_BadNumber___init__), osl_BadNumber___init__⟩)
    (e_BadNumber___init__ : PySem.W.codeIn K cd_BadNumber___init__ "BadNumber.__init__" = true)
    (k_BadNumber___init__ : PySem.W.keepIn K (.ref f_BadNumber___init__) = true)
    (v_BadNumber : PySem.W.findCls K (.type "IndexError") (.type "type") "__init__" = some (.val (.builtin "IndexError.__init__")))
    (a_TooMany : PySem.W.nsIn K mainGlobals "TooMany" = some (some (.ref C_TooMany)))
    (ini_TooMany : PySem.W.excInitIn K C_TooMany [.type "OverflowError", .type "ArithmeticError", .type "Exception", .type "BaseException", .type "object"] "OverflowError.__new__" = true)
    (ovr_TooMany : PySem.W.excOver K C_TooMany [.type "OverflowError", .type "ArithmeticError", .type "Exception", .type "BaseException", .type "object"] = true)
    (dic_TooMany : PySem.W.hasDictIn K C_TooMany = true)
    (sav_TooMany : PySem.W.findIn K (.ref C_TooMany) "__setattr__" = some (some (.builtin "object.__setattr__")))
    (bex_TooMany : PySem.W.subIn K (.ref C_TooMany) (.type "BaseException") = some true)
    (tyc_TooMany : PySem.W.typeIn K (.ref C_TooMany) = some (.type "type"))
    (kpc_TooMany : PySem.W.keepIn K (.ref C_TooMany) = true)
    (xcl_TooMany : (PySem.W.clsIn K C_TooMany).isSome = true)
    (xga_TooMany : PySem.W.findIn K (.ref C_TooMany) "__getattribute__" = some (some (.builtin "BaseException.__getattribute__")))
    (xgg_TooMany : PySem.W.findIn K (.ref C_TooMany) "__getattr__" = some none)
    (xha_TooMany : PySem.W.findIn K (.ref C_TooMany) "__class__" = some (some (.builtin "object.__class__")))
    (xhn_TooMany : PySem.W.specialIn K (.builtin "object.__class__") "__get__" = some (some (.builtin "getset_descriptor.__get__")))
    (xht_TooMany : PySem.W.takesIn K (.builtin "object.__class__") = some true)
    (xhm_TooMany : PySem.W.mroIn K C_TooMany (.type "object") = some true)
    (tk_TooMany_most : PySem.W.takerIn K C_TooMany "most" = some none)
    (na_TooMany_most : PySem.W.findIn K (.ref C_TooMany) "most" = some none)
    (a_TooMany___init__ : PySem.W.findIn K (.ref C_TooMany) "__init__" = some (some (.ref f_TooMany___init__)))
    (y_TooMany___init__ : PySem.W.typeIn K (.ref f_TooMany___init__) = some (.type "function"))
    (l_TooMany___init__ : K.lookup f_TooMany___init__ = some ⟨oc_TooMany___init__, od_TooMany___init__, .func (PySem.W.fnOf "__init__" "TooMany.__init__" (defArgs s_TooMany___init__) (defBody s_TooMany___init__) (defScope s_TooMany___init__) .none kV_TooMany___init__ doc_TooMany___init__ pm_TooMany___init__ an_TooMany___init__ cd_TooMany___init__ ct_TooMany___init__), osl_TooMany___init__⟩)
    (e_TooMany___init__ : PySem.W.codeIn K cd_TooMany___init__ "TooMany.__init__" = true)
    (k_TooMany___init__ : PySem.W.keepIn K (.ref f_TooMany___init__) = true)
    (v_TooMany : PySem.W.findCls K (.type "OverflowError") (.type "type") "__init__" = some (.val (.builtin "OverflowError.__init__")))
    (a_BadText : PySem.W.nsIn K mainGlobals "BadText" = some (some (.ref C_BadText)))
    (a_NoSuch : PySem.W.nsIn K mainGlobals "NoSuch" = some (some (.ref C_NoSuch)))
    (a_BadAnswer : PySem.W.nsIn K mainGlobals "BadAnswer" = some (some (.ref C_BadAnswer)))
    (a_Stopped : PySem.W.nsIn K mainGlobals "Stopped" = some (some (.ref C_Stopped)))
    (a_Order : PySem.W.nsIn K mainGlobals "Order" = some (some (.ref C_Order)))
    (pg_Order : PySem.W.plainGet K C_Order Str.empty = true)
    (hd_Order : PySem.W.hasDictIn K C_Order = true)
    (po_Order : PySem.W.plainOver K C_Order = true)
    (sa_Order : PySem.W.findIn K (.ref C_Order) "__setattr__" = some (some (.builtin "object.__setattr__")))
    (mk_Order : PySem.W.makesIn K C_Order = true)
    (kc_Order : PySem.W.keepIn K (.ref C_Order) = true)
    (na_Order_own_rule : PySem.W.findIn K (.ref C_Order) "own_rule" = some none)
    (na_Order_times_asked : PySem.W.findIn K (.ref C_Order) "times_asked" = some none)
    (a_Order___init__ : PySem.W.findIn K (.ref C_Order) "__init__" = some (some (.ref f_Order___init__)))
    (i_Order___init__ : PySem.W.isFn K (.ref f_Order___init__) = true)
    (l_Order___init__ : K.lookup f_Order___init__ = some ⟨oc_Order___init__, od_Order___init__, .func (PySem.W.fnOf "__init__" "Order.__init__" (defArgs s_Order___init__) (defBody s_Order___init__) (defScope s_Order___init__) .none kV_Order___init__ doc_Order___init__ pm_Order___init__ an_Order___init__ cd_Order___init__ ct_Order___init__), osl_Order___init__⟩)
    (e_Order___init__ : PySem.W.codeIn K cd_Order___init__ "Order.__init__" = true)
    (k_Order___init__ : PySem.W.keepIn K (.ref f_Order___init__) = true)
    (a_Order_counted : PySem.W.findIn K (.ref C_Order) "counted" = some (some (.ref f_Order_counted)))
    (i_Order_counted : PySem.W.isFn K (.ref f_Order_counted) = true)
    (l_Order_counted : K.lookup f_Order_counted = some ⟨oc_Order_counted, od_Order_counted, .func (PySem.W.fnOf "counted" "Order.counted" (defArgs s_Order_counted) (defBody s_Order_counted) (defScope s_Order_counted) .none kV_Order_counted doc_Order_counted pm_Order_counted an_Order_counted cd_Order_counted ct_Order_counted), osl_Order_counted⟩)
    (e_Order_counted : PySem.W.codeIn K cd_Order_counted "Order.counted" = true)
    (k_Order_counted : PySem.W.keepIn K (.ref f_Order_counted) = true)
    (a_Order_ahead : PySem.W.findIn K (.ref C_Order) "ahead" = some (some (.ref f_Order_ahead)))
    (i_Order_ahead : PySem.W.isFn K (.ref f_Order_ahead) = true)
    (l_Order_ahead : K.lookup f_Order_ahead = some ⟨oc_Order_ahead, od_Order_ahead, .func (PySem.W.fnOf "ahead" "Order.ahead" (defArgs s_Order_ahead) (defBody s_Order_ahead) (defScope s_Order_ahead) .none kV_Order_ahead doc_Order_ahead pm_Order_ahead an_Order_ahead cd_Order_ahead ct_Order_ahead), osl_Order_ahead⟩)
    (e_Order_ahead : PySem.W.codeIn K cd_Order_ahead "Order.ahead" = true)
    (k_Order_ahead : PySem.W.keepIn K (.ref f_Order_ahead) = true)
    (a_Order_many_asked : PySem.W.findIn K (.ref C_Order) "many_asked" = some (some (.ref f_Order_many_asked)))
    (i_Order_many_asked : PySem.W.isFn K (.ref f_Order_many_asked) = true)
    (l_Order_many_asked : K.lookup f_Order_many_asked = some ⟨oc_Order_many_asked, od_Order_many_asked, .func (PySem.W.fnOf "many_asked" "Order.many_asked" (defArgs s_Order_many_asked) (defBody s_Order_many_asked) (defScope s_Order_many_asked) .none kV_Order_many_asked doc_Order_many_asked pm_Order_many_asked an_Order_many_asked cd_Order_many_asked ct_Order_many_asked), osl_Order_many_asked⟩)
    (e_Order_many_asked : PySem.W.codeIn K cd_Order_many_asked "Order.many_asked" = true)
    (k_Order_many_asked : PySem.W.keepIn K (.ref f_Order_many_asked) = true)
    (rd_Order : PySem.W.readsIn K C_Order (.type "type") = true)
    (rg_Order : PySem.W.specialIn K (.ref C_Order) "__getattribute__" = some (some (.builtin "type.__getattribute__")))
    (vi_Order : PySem.W.findCls K (.ref C_Order) (.type "type") "__init__" = some (.val (.ref f_Order___init__)))
    (a_is_whole : PySem.W.nsIn K mainGlobals "is_whole" = some (some (.ref f_is_whole)))
    (l_is_whole : K.lookup f_is_whole = some ⟨oc_is_whole, od_is_whole, .func (PySem.W.fnOf "is_whole" "is_whole" (defArgs s_is_whole) (defBody s_is_whole) (defScope s_is_whole) .none (.ref D_is_whole) doc_is_whole pm_is_whole an_is_whole cd_is_whole ct_is_whole), osl_is_whole⟩)
    (e_is_whole : PySem.W.codeIn K cd_is_whole "is_whole" = true)
    (k_is_whole : PySem.W.keepIn K (.ref f_is_whole) = true)
    (dd_is_whole : ∀ q ∈ ([("least", .int 0),("most", .int 4096)] : List (Str × V)), ∃ u, PySem.W.nsIn K D_is_whole q.1 = some (some u) ∧ RelV q.2 u)
    (a_need_row : PySem.W.nsIn K mainGlobals "need_row" = some (some (.ref f_need_row)))
    (l_need_row : K.lookup f_need_row = some ⟨oc_need_row, od_need_row, .func (PySem.W.fnOf "need_row" "need_row" (defArgs s_need_row) (defBody s_need_row) (defScope s_need_row) .none kV_need_row doc_need_row pm_need_row an_need_row cd_need_row ct_need_row), osl_need_row⟩)
    (e_need_row : PySem.W.codeIn K cd_need_row "need_row" = true)
    (k_need_row : PySem.W.keepIn K (.ref f_need_row) = true)
    (a_need_order : PySem.W.nsIn K mainGlobals "need_order" = some (some (.ref f_need_order)))
    (l_need_order : K.lookup f_need_order = some ⟨oc_need_order, od_need_order, .func (PySem.W.fnOf "need_order" "need_order" (defArgs s_need_order) (defBody s_need_order) (defScope s_need_order) .none kV_need_order doc_need_order pm_need_order an_need_order cd_need_order ct_need_order), osl_need_order⟩)
    (e_need_order : PySem.W.codeIn K cd_need_order "need_order" = true)
    (k_need_order : PySem.W.keepIn K (.ref f_need_order) = true)
    (a_least_run : PySem.W.nsIn K mainGlobals "least_run" = some (some (.ref f_least_run)))
    (l_least_run : K.lookup f_least_run = some ⟨oc_least_run, od_least_run, .func (PySem.W.fnOf "least_run" "least_run" (defArgs s_least_run) (defBody s_least_run) (defScope s_least_run) .none kV_least_run doc_least_run pm_least_run an_least_run cd_least_run ct_least_run), osl_least_run⟩)
    (e_least_run : PySem.W.codeIn K cd_least_run "least_run" = true)
    (k_least_run : PySem.W.keepIn K (.ref f_least_run) = true)
    (a_need_end : PySem.W.nsIn K mainGlobals "need_end" = some (some (.ref f_need_end)))
    (l_need_end : K.lookup f_need_end = some ⟨oc_need_end, od_need_end, .func (PySem.W.fnOf "need_end" "need_end" (defArgs s_need_end) (defBody s_need_end) (defScope s_need_end) .none (.ref D_need_end) doc_need_end pm_need_end an_need_end cd_need_end ct_need_end), osl_need_end⟩)
    (e_need_end : PySem.W.codeIn K cd_need_end "need_end" = true)
    (k_need_end : PySem.W.keepIn K (.ref f_need_end) = true)
    (dd_need_end : ∀ q ∈ ([("nearest", .int 0)] : List (Str × V)), ∃ u, PySem.W.nsIn K D_need_end q.1 = some (some u) ∧ RelV q.2 u)
    (a_run_at : PySem.W.nsIn K mainGlobals "run_at" = some (some (.ref f_run_at)))
    (l_run_at : K.lookup f_run_at = some ⟨oc_run_at, od_run_at, .func (PySem.W.fnOf "run_at" "run_at" (defArgs s_run_at) (defBody s_run_at) (defScope s_run_at) (.ref DT_run_at) (.ref D_run_at) doc_run_at pm_run_at an_run_at cd_run_at ct_run_at), osl_run_at⟩)
    (e_run_at : PySem.W.codeIn K cd_run_at "run_at" = true)
    (k_run_at : PySem.W.keepIn K (.ref f_run_at) = true)
    (dd_run_at : ∀ q ∈ ([("end", .non)] : List (Str × V)), ∃ u, PySem.W.nsIn K D_run_at q.1 = some (some u) ∧ RelV q.2 u)
    (dl_run_at : K.lookup DT_run_at = some DO_run_at)
    (do_run_at : DO_run_at.data = .seq DI_run_at.toArray DN_run_at)
    (dr_run_at : Vals [.int 0] DI_run_at)
    (a_turn_run : PySem.W.nsIn K mainGlobals "turn_run" = some (some (.ref f_turn_run)))
    (l_turn_run : K.lookup f_turn_run = some ⟨oc_turn_run, od_turn_run, .func (PySem.W.fnOf "turn_run" "turn_run" (defArgs s_turn_run) (defBody s_turn_run) (defScope s_turn_run) .none kV_turn_run doc_turn_run pm_turn_run an_turn_run cd_turn_run ct_turn_run), osl_turn_run⟩)
    (e_turn_run : PySem.W.codeIn K cd_turn_run "turn_run" = true)
    (k_turn_run : PySem.W.keepIn K (.ref f_turn_run) = true)
    (a_are_spots : PySem.W.nsIn K mainGlobals "are_spots" = some (some (.ref f_are_spots)))
    (l_are_spots : K.lookup f_are_spots = some ⟨oc_are_spots, od_are_spots, .func (PySem.W.fnOf "are_spots" "are_spots" (defArgs s_are_spots) (defBody s_are_spots) (defScope s_are_spots) .none kV_are_spots doc_are_spots pm_are_spots an_are_spots cd_are_spots ct_are_spots), osl_are_spots⟩)
    (e_are_spots : PySem.W.codeIn K cd_are_spots "are_spots" = true)
    (k_are_spots : PySem.W.keepIn K (.ref f_are_spots) = true)
    (a_piece_fits : PySem.W.nsIn K mainGlobals "piece_fits" = some (some (.ref f_piece_fits)))
    (l_piece_fits : K.lookup f_piece_fits = some ⟨oc_piece_fits, od_piece_fits, .func (PySem.W.fnOf "piece_fits" "piece_fits" (defArgs s_piece_fits) (defBody s_piece_fits) (defScope s_piece_fits) .none kV_piece_fits doc_piece_fits pm_piece_fits an_piece_fits cd_piece_fits ct_piece_fits), osl_piece_fits⟩)
    (e_piece_fits : PySem.W.codeIn K cd_piece_fits "piece_fits" = true)
    (k_piece_fits : PySem.W.keepIn K (.ref f_piece_fits) = true)
    (a_right_spot : PySem.W.nsIn K mainGlobals "right_spot" = some (some (.ref f_right_spot)))
    (l_right_spot : K.lookup f_right_spot = some ⟨oc_right_spot, od_right_spot, .func (PySem.W.fnOf "right_spot" "right_spot" (defArgs s_right_spot) (defBody s_right_spot) (defScope s_right_spot) .none (.ref D_right_spot) doc_right_spot pm_right_spot an_right_spot (.ref cc_right_spot) ct_right_spot), osl_right_spot⟩)
    (e_right_spot : PySem.W.codeIn K (.ref cc_right_spot) "right_spot" = true)
    (nt_right_spot : K.lookup 317 = none)
    (ht_right_spot : PySem.W.codeHdIn K cc_right_spot 317 = true)
    (k_right_spot : PySem.W.keepIn K (.ref f_right_spot) = true)
    (dd_right_spot : ∀ q ∈ ([("start", .int 0),("end", .non)] : List (Str × V)), ∃ u, PySem.W.nsIn K D_right_spot q.1 = some (some u) ∧ RelV q.2 u)
    (a_need_least : PySem.W.nsIn K mainGlobals "need_least" = some (some (.ref f_need_least)))
    (l_need_least : K.lookup f_need_least = some ⟨oc_need_least, od_need_least, .func (PySem.W.fnOf "need_least" "need_least" (defArgs s_need_least) (defBody s_need_least) (defScope s_need_least) .none kV_need_least doc_need_least pm_need_least an_need_least cd_need_least ct_need_least), osl_need_least⟩)
    (e_need_least : PySem.W.codeIn K cd_need_least "need_least" = true)
    (k_need_least : PySem.W.keepIn K (.ref f_need_least) = true)
    (a_cut_piece : PySem.W.nsIn K mainGlobals "cut_piece" = some (some (.ref f_cut_piece)))
    (l_cut_piece : K.lookup f_cut_piece = some ⟨oc_cut_piece, od_cut_piece, .func (PySem.W.fnOf "cut_piece" "cut_piece" (defArgs s_cut_piece) (defBody s_cut_piece) (defScope s_cut_piece) (.ref DT_cut_piece) (.ref D_cut_piece) doc_cut_piece pm_cut_piece an_cut_piece cd_cut_piece ct_cut_piece), osl_cut_piece⟩)
    (e_cut_piece : PySem.W.codeIn K cd_cut_piece "cut_piece" = true)
    (k_cut_piece : PySem.W.keepIn K (.ref f_cut_piece) = true)
    (dd_cut_piece : ∀ q ∈ ([("least", .int 8)] : List (Str × V)), ∃ u, PySem.W.nsIn K D_cut_piece q.1 = some (some u) ∧ RelV q.2 u)
    (dl_cut_piece : K.lookup DT_cut_piece = some DO_cut_piece)
    (do_cut_piece : DO_cut_piece.data = .seq DI_cut_piece.toArray DN_cut_piece)
    (dr_cut_piece : Vals [.int 0] DI_cut_piece)
    (a_cut_pieces : PySem.W.nsIn K mainGlobals "cut_pieces" = some (some (.ref f_cut_pieces)))
    (l_cut_pieces : K.lookup f_cut_pieces = some ⟨oc_cut_pieces, od_cut_pieces, .func (PySem.W.fnOf "cut_pieces" "cut_pieces" (defArgs s_cut_pieces) (defBody s_cut_pieces) (defScope s_cut_pieces) .none (.ref D_cut_pieces) doc_cut_pieces pm_cut_pieces an_cut_pieces cd_cut_pieces ct_cut_pieces), osl_cut_pieces⟩)
    (e_cut_pieces : PySem.W.codeIn K cd_cut_pieces "cut_pieces" = true)
    (k_cut_pieces : PySem.W.keepIn K (.ref f_cut_pieces) = true)
    (dd_cut_pieces : ∀ q ∈ ([("least", .non)] : List (Str × V)), ∃ u, PySem.W.nsIn K D_cut_pieces q.1 = some (some u) ∧ RelV q.2 u)
    (a_need_piece : PySem.W.nsIn K mainGlobals "need_piece" = some (some (.ref f_need_piece)))
    (l_need_piece : K.lookup f_need_piece = some ⟨oc_need_piece, od_need_piece, .func (PySem.W.fnOf "need_piece" "need_piece" (defArgs s_need_piece) (defBody s_need_piece) (defScope s_need_piece) .none kV_need_piece doc_need_piece pm_need_piece an_need_piece cd_need_piece ct_need_piece), osl_need_piece⟩)
    (e_need_piece : PySem.W.codeIn K cd_need_piece "need_piece" = true)
    (k_need_piece : PySem.W.keepIn K (.ref f_need_piece) = true)
    (a_lay_piece : PySem.W.nsIn K mainGlobals "lay_piece" = some (some (.ref f_lay_piece)))
    (l_lay_piece : K.lookup f_lay_piece = some ⟨oc_lay_piece, od_lay_piece, .func (PySem.W.fnOf "lay_piece" "lay_piece" (defArgs s_lay_piece) (defBody s_lay_piece) (defScope s_lay_piece) .none kV_lay_piece doc_lay_piece pm_lay_piece an_lay_piece cd_lay_piece ct_lay_piece), osl_lay_piece⟩)
    (e_lay_piece : PySem.W.codeIn K cd_lay_piece "lay_piece" = true)
    (k_lay_piece : PySem.W.keepIn K (.ref f_lay_piece) = true)
    (a_lay_back : PySem.W.nsIn K mainGlobals "lay_back" = some (some (.ref f_lay_back)))
    (l_lay_back : K.lookup f_lay_back = some ⟨oc_lay_back, od_lay_back, .func (PySem.W.fnOf "lay_back" "lay_back" (defArgs s_lay_back) (defBody s_lay_back) (defScope s_lay_back) .none kV_lay_back doc_lay_back pm_lay_back an_lay_back cd_lay_back ct_lay_back), osl_lay_back⟩)
    (e_lay_back : PySem.W.codeIn K cd_lay_back "lay_back" = true)
    (k_lay_back : PySem.W.keepIn K (.ref f_lay_back) = true)
    (a_is_spot : PySem.W.nsIn K mainGlobals "is_spot" = some (some (.ref f_is_spot)))
    (l_is_spot : K.lookup f_is_spot = some ⟨oc_is_spot, od_is_spot, .func (PySem.W.fnOf "is_spot" "is_spot" (defArgs s_is_spot) (defBody s_is_spot) (defScope s_is_spot) .none kV_is_spot doc_is_spot pm_is_spot an_is_spot cd_is_spot ct_is_spot), osl_is_spot⟩)
    (e_is_spot : PySem.W.codeIn K cd_is_spot "is_spot" = true)
    (k_is_spot : PySem.W.keepIn K (.ref f_is_spot) = true)
    (a_is_told : PySem.W.nsIn K mainGlobals "is_told" = some (some (.ref f_is_told)))
    (l_is_told : K.lookup f_is_told = some ⟨oc_is_told, od_is_told, .func (PySem.W.fnOf "is_told" "is_told" (defArgs s_is_told) (defBody s_is_told) (defScope s_is_told) .none kV_is_told doc_is_told pm_is_told an_is_told cd_is_told ct_is_told), osl_is_told⟩)
    (e_is_told : PySem.W.codeIn K cd_is_told "is_told" = true)
    (k_is_told : PySem.W.keepIn K (.ref f_is_told) = true)
    (a_check_pieces : PySem.W.nsIn K mainGlobals "check_pieces" = some (some (.ref f_check_pieces)))
    (l_check_pieces : K.lookup f_check_pieces = some ⟨oc_check_pieces, od_check_pieces, .func (PySem.W.fnOf "check_pieces" "check_pieces" (defArgs s_check_pieces) (defBody s_check_pieces) (defScope s_check_pieces) .none (.ref D_check_pieces) doc_check_pieces pm_check_pieces an_check_pieces cd_check_pieces ct_check_pieces), osl_check_pieces⟩)
    (e_check_pieces : PySem.W.codeIn K cd_check_pieces "check_pieces" = true)
    (k_check_pieces : PySem.W.keepIn K (.ref f_check_pieces) = true)
    (dd_check_pieces : ∀ q ∈ ([("least", .non)] : List (Str × V)), ∃ u, PySem.W.nsIn K D_check_pieces q.1 = some (some u) ∧ RelV q.2 u)
    (a__law_mixed : PySem.W.nsIn K mainGlobals "_law_mixed" = some (some (.ref f__law_mixed)))
    (l__law_mixed : K.lookup f__law_mixed = some ⟨oc__law_mixed, od__law_mixed, .func (PySem.W.fnOf "_law_mixed" "_law_mixed" (defArgs s_l_mixed) (defBody s_l_mixed) (defScope s_l_mixed) .none kV__law_mixed doc__law_mixed pm__law_mixed an__law_mixed cd__law_mixed ct__law_mixed), osl__law_mixed⟩)
    (e__law_mixed : PySem.W.codeIn K cd__law_mixed "_law_mixed" = true)
    (k__law_mixed : PySem.W.keepIn K (.ref f__law_mixed) = true)
    (a__law_begun : PySem.W.nsIn K mainGlobals "_law_begun" = some (some (.ref f__law_begun)))
    (l__law_begun : K.lookup f__law_begun = some ⟨oc__law_begun, od__law_begun, .func (PySem.W.fnOf "_law_begun" "_law_begun" (defArgs s_l_begun) (defBody s_l_begun) (defScope s_l_begun) .none kV__law_begun doc__law_begun pm__law_begun an__law_begun cd__law_begun ct__law_begun), osl__law_begun⟩)
    (e__law_begun : PySem.W.codeIn K cd__law_begun "_law_begun" = true)
    (k__law_begun : PySem.W.keepIn K (.ref f__law_begun) = true)
    (a__law_take : PySem.W.nsIn K mainGlobals "_law_take" = some (some (.ref f__law_take)))
    (l__law_take : K.lookup f__law_take = some ⟨oc__law_take, od__law_take, .func (PySem.W.fnOf "_law_take" "_law_take" (defArgs s_l_take) (defBody s_l_take) (defScope s_l_take) .none kV__law_take doc__law_take pm__law_take an__law_take cd__law_take ct__law_take), osl__law_take⟩)
    (e__law_take : PySem.W.codeIn K cd__law_take "_law_take" = true)
    (k__law_take : PySem.W.keepIn K (.ref f__law_take) = true)
    (a__law_runs : PySem.W.nsIn K mainGlobals "_law_runs" = some (some (.ref f__law_runs)))
    (l__law_runs : K.lookup f__law_runs = some ⟨oc__law_runs, od__law_runs, .func (PySem.W.fnOf "_law_runs" "_law_runs" (defArgs s_l_runs) (defBody s_l_runs) (defScope s_l_runs) .none kV__law_runs doc__law_runs pm__law_runs an__law_runs cd__law_runs ct__law_runs), osl__law_runs⟩)
    (e__law_runs : PySem.W.codeIn K cd__law_runs "_law_runs" = true)
    (k__law_runs : PySem.W.keepIn K (.ref f__law_runs) = true)
    (a__law_numbers : PySem.W.nsIn K mainGlobals "_law_numbers" = some (some (.ref f__law_numbers)))
    (l__law_numbers : K.lookup f__law_numbers = some ⟨oc__law_numbers, od__law_numbers, .func (PySem.W.fnOf "_law_numbers" "_law_numbers" (defArgs s_l_numbers) (defBody s_l_numbers) (defScope s_l_numbers) .none kV__law_numbers doc__law_numbers pm__law_numbers an__law_numbers cd__law_numbers ct__law_numbers), osl__law_numbers⟩)
    (e__law_numbers : PySem.W.codeIn K cd__law_numbers "_law_numbers" = true)
    (k__law_numbers : PySem.W.keepIn K (.ref f__law_numbers) = true)
    (a__law_size : PySem.W.nsIn K mainGlobals "_law_size" = some (some (.ref f__law_size)))
    (l__law_size : K.lookup f__law_size = some ⟨oc__law_size, od__law_size, .func (PySem.W.fnOf "_law_size" "_law_size" (defArgs s_l_size) (defBody s_l_size) (defScope s_l_size) .none kV__law_size doc__law_size pm__law_size an__law_size cd__law_size ct__law_size), osl__law_size⟩)
    (e__law_size : PySem.W.codeIn K cd__law_size "_law_size" = true)
    (k__law_size : PySem.W.keepIn K (.ref f__law_size) = true)
    (a__law_word : PySem.W.nsIn K mainGlobals "_law_word" = some (some (.ref f__law_word)))
    (l__law_word : K.lookup f__law_word = some ⟨oc__law_word, od__law_word, .func (PySem.W.fnOf "_law_word" "_law_word" (defArgs s_l_word) (defBody s_l_word) (defScope s_l_word) .none kV__law_word doc__law_word pm__law_word an__law_word cd__law_word ct__law_word), osl__law_word⟩)
    (e__law_word : PySem.W.codeIn K cd__law_word "_law_word" = true)
    (k__law_word : PySem.W.keepIn K (.ref f__law_word) = true)
    (a__law_said : PySem.W.nsIn K mainGlobals "_law_said" = some (some (.ref f__law_said)))
    (l__law_said : K.lookup f__law_said = some ⟨oc__law_said, od__law_said, .func (PySem.W.fnOf "_law_said" "_law_said" (defArgs s_l_said) (defBody s_l_said) (defScope s_l_said) .none kV__law_said doc__law_said pm__law_said an__law_said cd__law_said ct__law_said), osl__law_said⟩)
    (e__law_said : PySem.W.codeIn K cd__law_said "_law_said" = true)
    (k__law_said : PySem.W.keepIn K (.ref f__law_said) = true)
    (a__law_by_row : PySem.W.nsIn K mainGlobals "_law_by_row" = some (some (.ref f__law_by_row)))
    (l__law_by_row : K.lookup f__law_by_row = some ⟨oc__law_by_row, od__law_by_row, .func (PySem.W.fnOf "_law_by_row" "_law_by_row" (defArgs s_l_by_row) (defBody s_l_by_row) (defScope s_l_by_row) .none kV__law_by_row doc__law_by_row pm__law_by_row an__law_by_row (.ref cc__law_by_row) ct__law_by_row), osl__law_by_row⟩)
    (e__law_by_row : PySem.W.codeIn K (.ref cc__law_by_row) "_law_by_row" = true)
    (nt__law_by_row : K.lookup 443 = none)
    (ht__law_by_row : PySem.W.codeHdIn K cc__law_by_row 443 = true)
    (k__law_by_row : PySem.W.keepIn K (.ref f__law_by_row) = true)
    (a__law_by_order : PySem.W.nsIn K mainGlobals "_law_by_order" = some (some (.ref f__law_by_order)))
    (l__law_by_order : K.lookup f__law_by_order = some ⟨oc__law_by_order, od__law_by_order, .func (PySem.W.fnOf "_law_by_order" "_law_by_order" (defArgs s_l_by_order) (defBody s_l_by_order) (defScope s_l_by_order) .none kV__law_by_order doc__law_by_order pm__law_by_order an__law_by_order (.ref cc__law_by_order) ct__law_by_order), osl__law_by_order⟩)
    (e__law_by_order : PySem.W.codeIn K (.ref cc__law_by_order) "_law_by_order" = true)
    (nt__law_by_order : K.lookup 450 = none)
    (ht__law_by_order : PySem.W.codeHdIn K cc__law_by_order 450 = true)
    (k__law_by_order : PySem.W.keepIn K (.ref f__law_by_order) = true)
    (a__law_numbers_right : PySem.W.nsIn K mainGlobals "_law_numbers_right" = some (some (.ref f__law_numbers_right)))
    (l__law_numbers_right : K.lookup f__law_numbers_right = some ⟨oc__law_numbers_right, od__law_numbers_right, .func (PySem.W.fnOf "_law_numbers_right" "_law_numbers_right" (defArgs s_l_numbers_right) (defBody s_l_numbers_right) (defScope s_l_numbers_right) .none kV__law_numbers_right doc__law_numbers_right pm__law_numbers_right an__law_numbers_right (.ref cc__law_numbers_right) ct__law_numbers_right), osl__law_numbers_right⟩)
    (e__law_numbers_right : PySem.W.codeIn K (.ref cc__law_numbers_right) "_law_numbers_right" = true)
    (nt__law_numbers_right : K.lookup 457 = none)
    (ht__law_numbers_right : PySem.W.codeHdIn K cc__law_numbers_right 457 = true)
    (k__law_numbers_right : PySem.W.keepIn K (.ref f__law_numbers_right) = true)
    (a__law_papers_right : PySem.W.nsIn K mainGlobals "_law_papers_right" = some (some (.ref f__law_papers_right)))
    (l__law_papers_right : K.lookup f__law_papers_right = some ⟨oc__law_papers_right, od__law_papers_right, .func (PySem.W.fnOf "_law_papers_right" "_law_papers_right" (defArgs s_l_papers_right) (defBody s_l_papers_right) (defScope s_l_papers_right) .none kV__law_papers_right doc__law_papers_right pm__law_papers_right an__law_papers_right (.ref cc__law_papers_right) ct__law_papers_right), osl__law_papers_right⟩)
    (e__law_papers_right : PySem.W.codeIn K (.ref cc__law_papers_right) "_law_papers_right" = true)
    (nt__law_papers_right : K.lookup 462 = none)
    (ht__law_papers_right : PySem.W.codeHdIn K cc__law_papers_right 462 = true)
    (k__law_papers_right : PySem.W.keepIn K (.ref f__law_papers_right) = true)
    (a__law_empty_right : PySem.W.nsIn K mainGlobals "_law_empty_right" = some (some (.ref f__law_empty_right)))
    (l__law_empty_right : K.lookup f__law_empty_right = some ⟨oc__law_empty_right, od__law_empty_right, .func (PySem.W.fnOf "_law_empty_right" "_law_empty_right" (defArgs s_l_empty_right) (defBody s_l_empty_right) (defScope s_l_empty_right) .none kV__law_empty_right doc__law_empty_right pm__law_empty_right an__law_empty_right (.ref cc__law_empty_right) ct__law_empty_right), osl__law_empty_right⟩)
    (e__law_empty_right : PySem.W.codeIn K (.ref cc__law_empty_right) "_law_empty_right" = true)
    (nt__law_empty_right : K.lookup 469 = none)
    (ht__law_empty_right : PySem.W.codeHdIn K cc__law_empty_right 469 = true)
    (k__law_empty_right : PySem.W.keepIn K (.ref f__law_empty_right) = true)
    (a__law_long_right : PySem.W.nsIn K mainGlobals "_law_long_right" = some (some (.ref f__law_long_right)))
    (l__law_long_right : K.lookup f__law_long_right = some ⟨oc__law_long_right, od__law_long_right, .func (PySem.W.fnOf "_law_long_right" "_law_long_right" (defArgs s_l_long_right) (defBody s_l_long_right) (defScope s_l_long_right) .none kV__law_long_right doc__law_long_right pm__law_long_right an__law_long_right cd__law_long_right ct__law_long_right), osl__law_long_right⟩)
    (e__law_long_right : PySem.W.codeIn K cd__law_long_right "_law_long_right" = true)
    (k__law_long_right : PySem.W.keepIn K (.ref f__law_long_right) = true)
    (a_law : PySem.W.nsIn K mainGlobals "law" = some (some (.ref f_law)))
    (l_law : K.lookup f_law = some ⟨oc_law, od_law, .func (PySem.W.fnOf "law" "law" (defArgs s_law) (defBody s_law) (defScope s_law) .none kV_law doc_law pm_law an_law (.ref cc_law) ct_law), osl_law⟩)
    (e_law : PySem.W.codeIn K (.ref cc_law) "law" = true)
    (nt_law : K.lookup 481 = none)
    (ht_law : PySem.W.codeHdIn K cc_law 481 = true)
    (k_law : PySem.W.keepIn K (.ref f_law) = true)
    (g_MOST_THINGS : PySem.W.nsIn K mainGlobals "MOST_THINGS" = some (some u_MOST_THINGS))
    (r_MOST_THINGS : RelV (.int 4096) u_MOST_THINGS)
    (g_LEAST : PySem.W.nsIn K mainGlobals "LEAST" = some (some u_LEAST))
    (r_LEAST : RelV (.int 8) u_LEAST)
    (g_MOST_LEAST : PySem.W.nsIn K mainGlobals "MOST_LEAST" = some (some u_MOST_LEAST))
    (r_MOST_LEAST : RelV (.int 64) u_MOST_LEAST)
    (g_MOST_GROWN : PySem.W.nsIn K mainGlobals "MOST_GROWN" = some (some u_MOST_GROWN))
    (r_MOST_GROWN : RelV (.int 64) u_MOST_GROWN)
    (x_stat : PySem.W.nsIn K cStatics "sys.int_max_str_digits" = some none)
    (x_any_BadPaper : PySem.W.exmAny K (.ref C_BadPaper) [.ref C_SortError, .ref C_BadAnswer, .ref C_BadKind, .ref C_BadNumber, .ref C_BadText, .ref C_NoSuch, .ref C_Stopped, .ref C_TooMany] = some true)
    (x_kit_BadPaper : ([.ref C_BadPaper, .ref C_BadKind, .ref C_BadNumber, .ref C_TooMany, .ref C_Stopped, .ref C_SortError] : List Value).map (fun c => PySem.W.kitOne K (.ref C_BadPaper) c) = [some true, some false, some false, some false, some false, some true])
    (x_any_BadKind : PySem.W.exmAny K (.ref C_BadKind) [.ref C_SortError, .ref C_BadAnswer, .ref C_BadKind, .ref C_BadNumber, .ref C_BadText, .ref C_NoSuch, .ref C_Stopped, .ref C_TooMany] = some true)
    (x_kit_BadKind : ([.ref C_BadPaper, .ref C_BadKind, .ref C_BadNumber, .ref C_TooMany, .ref C_Stopped, .type "TypeError"] : List Value).map (fun c => PySem.W.kitOne K (.ref C_BadKind) c) = [some false, some true, some false, some false, some false, some true])
    (x_any_BadNumber : PySem.W.exmAny K (.ref C_BadNumber) [.ref C_SortError, .ref C_BadAnswer, .ref C_BadKind, .ref C_BadNumber, .ref C_BadText, .ref C_NoSuch, .ref C_Stopped, .ref C_TooMany] = some true)
    (x_kit_BadNumber : ([.ref C_BadPaper, .ref C_BadKind, .ref C_BadNumber, .ref C_TooMany, .ref C_Stopped, .type "IndexError"] : List Value).map (fun c => PySem.W.kitOne K (.ref C_BadNumber) c) = [some false, some false, some true, some false, some false, some true])
    (x_any_TooMany : PySem.W.exmAny K (.ref C_TooMany) [.ref C_SortError, .ref C_BadAnswer, .ref C_BadKind, .ref C_BadNumber, .ref C_BadText, .ref C_NoSuch, .ref C_Stopped, .ref C_TooMany] = some true)
    (x_kit_TooMany : ([.ref C_BadPaper, .ref C_BadKind, .ref C_BadNumber, .ref C_TooMany, .ref C_Stopped, .type "OverflowError"] : List Value).map (fun c => PySem.W.kitOne K (.ref C_TooMany) c) = [some false, some false, some false, some true, some false, some true])
    (x_i_Order : PySem.W.kitOne K (.ref C_Order) (.ref C_Order) = some true)
    (x_il_Order : PySem.W.kitOne K (.ref C_Order) (.type "list") = some false)
    (x_io_int : PySem.W.kitOne K (.type "int") (.ref C_Order) = some false)
    (x_io_bool : PySem.W.kitOne K (.type "bool") (.ref C_Order) = some false)
    (x_io_str : PySem.W.kitOne K (.type "str") (.ref C_Order) = some false)
    (x_io_non : PySem.W.kitOne K (.type "NoneType") (.ref C_Order) = some false)
    (x_io_lst : PySem.W.kitOne K (.type "list") (.ref C_Order) = some false)
    (x_io_tup : PySem.W.kitOne K (.type "tuple") (.ref C_Order) = some false)
    (x_io_dct : PySem.W.kitOne K (.type "dict") (.ref C_Order) = some false)
    (x_io_fun : PySem.W.kitOne K (.type "function") (.ref C_Order) = some false)
    (x_oha_Order : PySem.W.findIn K (.ref C_Order) "__class__" = some (some (.builtin "object.__class__")))
    (x_ohm_Order : PySem.W.mroIn K C_Order (.type "object") = some true)
    (x_ohn : PySem.W.specialIn K (.builtin "object.__class__") "__get__" = some (some (.builtin "getset_descriptor.__get__")))
    (x_oht : PySem.W.takesIn K (.builtin "object.__class__") = some true)
    (z_len : PySem.W.nsIn K mainGlobals "len" = some none)
    (z_min : PySem.W.nsIn K mainGlobals "min" = some none)
    (z_max : PySem.W.nsIn K mainGlobals "max" = some none)
    (z_range : PySem.W.nsIn K mainGlobals "range" = some none)
    (z_repr : PySem.W.nsIn K mainGlobals "repr" = some none)
    (z_isinstance : PySem.W.nsIn K mainGlobals "isinstance" = some none)
    (z_int : PySem.W.nsIn K mainGlobals "int" = some none)
    (z_bool : PySem.W.nsIn K mainGlobals "bool" = some none)
    (z_str : PySem.W.nsIn K mainGlobals "str" = some none)
    (z_tuple : PySem.W.nsIn K mainGlobals "tuple" = some none)
    (z_list : PySem.W.nsIn K mainGlobals "list" = some none)
    (z_enumerate : PySem.W.nsIn K mainGlobals "enumerate" = some none)
    (z_sum : PySem.W.nsIn K mainGlobals "sum" = some none)
    (z_zip : PySem.W.nsIn K mainGlobals "zip" = some none)
    (z_divmod : PySem.W.nsIn K mainGlobals "divmod" = some none)
    (z_all : PySem.W.nsIn K mainGlobals "all" = some none)
    (z_TypeError : PySem.W.nsIn K mainGlobals "TypeError" = some none)
    (z_IndexError : PySem.W.nsIn K mainGlobals "IndexError" = some none)
    (z_OverflowError : PySem.W.nsIn K mainGlobals "OverflowError" = some none)
    (z_RuntimeError : PySem.W.nsIn K mainGlobals "RuntimeError" = some none)
    (z_Exception : PySem.W.nsIn K mainGlobals "Exception" = some none)
    : ∃ A, Txt K mg w A :=
  ⟨⟨C_SortError, C_BadPaper, f_BadPaper___init__, C_BadKind, f_BadKind___init__, C_BadNumber, f_BadNumber___init__, C_TooMany, f_TooMany___init__, C_BadText, C_NoSuch, C_BadAnswer, C_Stopped, C_Order, f_Order___init__, f_Order_counted, f_Order_ahead, f_Order_many_asked, f_is_whole, f_need_row, f_need_order, f_least_run, f_need_end, f_run_at, f_turn_run, f_are_spots, f_piece_fits, f_right_spot, cc_right_spot, f_need_least, f_cut_piece, f_cut_pieces, f_need_piece, f_lay_piece, f_lay_back, f_is_spot, f_is_told, f_check_pieces, f__law_mixed, f__law_begun, f__law_take, f__law_runs, f__law_numbers, f__law_size, f__law_word, f__law_said, f__law_by_row, cc__law_by_row, f__law_by_order, cc__law_by_order, f__law_numbers_right, cc__law_numbers_right, f__law_papers_right, cc__law_papers_right, f__law_empty_right, cc__law_empty_right, f__law_long_right, f_law, cc_law, (PySem.W.fnOf "__init__" "BadPaper.__init__" (defArgs s_BadPaper___init__) (defBody s_BadPaper___init__) (defScope s_BadPaper___init__) .none kV_BadPaper___init__ doc_BadPaper___init__ pm_BadPaper___init__ an_BadPaper___init__ cd_BadPaper___init__ ct_BadPaper___init__), (PySem.W.fnOf "__init__" "BadKind.__init__" (defArgs s_BadKind___init__) (defBody s_BadKind___init__) (defScope s_BadKind___init__) .none kV_BadKind___init__ doc_BadKind___init__ pm_BadKind___init__ an_BadKind___init__ cd_BadKind___init__ ct_BadKind___init__), (PySem.W.fnOf "__init__" "BadNumber.__init__" (defArgs s_BadNumber___init__) (defBody s_BadNumber___init__) (defScope s_BadNumber___init__) .none kV_BadNumber___init__ doc_BadNumber___init__ pm_BadNumber___init__ an_BadNumber___init__ cd_BadNumber___init__ ct_BadNumber___init__), (PySem.W.fnOf "__init__" "TooMany.__init__" (defArgs s_TooMany___init__) (defBody s_TooMany___init__) (defScope s_TooMany___init__) .none kV_TooMany___init__ doc_TooMany___init__ pm_TooMany___init__ an_TooMany___init__ cd_TooMany___init__ ct_TooMany___init__), (PySem.W.fnOf "__init__" "Order.__init__" (defArgs s_Order___init__) (defBody s_Order___init__) (defScope s_Order___init__) .none kV_Order___init__ doc_Order___init__ pm_Order___init__ an_Order___init__ cd_Order___init__ ct_Order___init__), (PySem.W.fnOf "counted" "Order.counted" (defArgs s_Order_counted) (defBody s_Order_counted) (defScope s_Order_counted) .none kV_Order_counted doc_Order_counted pm_Order_counted an_Order_counted cd_Order_counted ct_Order_counted), (PySem.W.fnOf "ahead" "Order.ahead" (defArgs s_Order_ahead) (defBody s_Order_ahead) (defScope s_Order_ahead) .none kV_Order_ahead doc_Order_ahead pm_Order_ahead an_Order_ahead cd_Order_ahead ct_Order_ahead), (PySem.W.fnOf "many_asked" "Order.many_asked" (defArgs s_Order_many_asked) (defBody s_Order_many_asked) (defScope s_Order_many_asked) .none kV_Order_many_asked doc_Order_many_asked pm_Order_many_asked an_Order_many_asked cd_Order_many_asked ct_Order_many_asked), (PySem.W.fnOf "is_whole" "is_whole" (defArgs s_is_whole) (defBody s_is_whole) (defScope s_is_whole) .none (.ref D_is_whole) doc_is_whole pm_is_whole an_is_whole cd_is_whole ct_is_whole), (PySem.W.fnOf "need_row" "need_row" (defArgs s_need_row) (defBody s_need_row) (defScope s_need_row) .none kV_need_row doc_need_row pm_need_row an_need_row cd_need_row ct_need_row), (PySem.W.fnOf "need_order" "need_order" (defArgs s_need_order) (defBody s_need_order) (defScope s_need_order) .none kV_need_order doc_need_order pm_need_order an_need_order cd_need_order ct_need_order), (PySem.W.fnOf "least_run" "least_run" (defArgs s_least_run) (defBody s_least_run) (defScope s_least_run) .none kV_least_run doc_least_run pm_least_run an_least_run cd_least_run ct_least_run), (PySem.W.fnOf "need_end" "need_end" (defArgs s_need_end) (defBody s_need_end) (defScope s_need_end) .none (.ref D_need_end) doc_need_end pm_need_end an_need_end cd_need_end ct_need_end), (PySem.W.fnOf "run_at" "run_at" (defArgs s_run_at) (defBody s_run_at) (defScope s_run_at) (.ref DT_run_at) (.ref D_run_at) doc_run_at pm_run_at an_run_at cd_run_at ct_run_at), (PySem.W.fnOf "turn_run" "turn_run" (defArgs s_turn_run) (defBody s_turn_run) (defScope s_turn_run) .none kV_turn_run doc_turn_run pm_turn_run an_turn_run cd_turn_run ct_turn_run), (PySem.W.fnOf "are_spots" "are_spots" (defArgs s_are_spots) (defBody s_are_spots) (defScope s_are_spots) .none kV_are_spots doc_are_spots pm_are_spots an_are_spots cd_are_spots ct_are_spots), (PySem.W.fnOf "piece_fits" "piece_fits" (defArgs s_piece_fits) (defBody s_piece_fits) (defScope s_piece_fits) .none kV_piece_fits doc_piece_fits pm_piece_fits an_piece_fits cd_piece_fits ct_piece_fits), (PySem.W.fnOf "right_spot" "right_spot" (defArgs s_right_spot) (defBody s_right_spot) (defScope s_right_spot) .none (.ref D_right_spot) doc_right_spot pm_right_spot an_right_spot (.ref cc_right_spot) ct_right_spot), (PySem.W.fnOf "need_least" "need_least" (defArgs s_need_least) (defBody s_need_least) (defScope s_need_least) .none kV_need_least doc_need_least pm_need_least an_need_least cd_need_least ct_need_least), (PySem.W.fnOf "cut_piece" "cut_piece" (defArgs s_cut_piece) (defBody s_cut_piece) (defScope s_cut_piece) (.ref DT_cut_piece) (.ref D_cut_piece) doc_cut_piece pm_cut_piece an_cut_piece cd_cut_piece ct_cut_piece), (PySem.W.fnOf "cut_pieces" "cut_pieces" (defArgs s_cut_pieces) (defBody s_cut_pieces) (defScope s_cut_pieces) .none (.ref D_cut_pieces) doc_cut_pieces pm_cut_pieces an_cut_pieces cd_cut_pieces ct_cut_pieces), (PySem.W.fnOf "need_piece" "need_piece" (defArgs s_need_piece) (defBody s_need_piece) (defScope s_need_piece) .none kV_need_piece doc_need_piece pm_need_piece an_need_piece cd_need_piece ct_need_piece), (PySem.W.fnOf "lay_piece" "lay_piece" (defArgs s_lay_piece) (defBody s_lay_piece) (defScope s_lay_piece) .none kV_lay_piece doc_lay_piece pm_lay_piece an_lay_piece cd_lay_piece ct_lay_piece), (PySem.W.fnOf "lay_back" "lay_back" (defArgs s_lay_back) (defBody s_lay_back) (defScope s_lay_back) .none kV_lay_back doc_lay_back pm_lay_back an_lay_back cd_lay_back ct_lay_back), (PySem.W.fnOf "is_spot" "is_spot" (defArgs s_is_spot) (defBody s_is_spot) (defScope s_is_spot) .none kV_is_spot doc_is_spot pm_is_spot an_is_spot cd_is_spot ct_is_spot), (PySem.W.fnOf "is_told" "is_told" (defArgs s_is_told) (defBody s_is_told) (defScope s_is_told) .none kV_is_told doc_is_told pm_is_told an_is_told cd_is_told ct_is_told), (PySem.W.fnOf "check_pieces" "check_pieces" (defArgs s_check_pieces) (defBody s_check_pieces) (defScope s_check_pieces) .none (.ref D_check_pieces) doc_check_pieces pm_check_pieces an_check_pieces cd_check_pieces ct_check_pieces), (PySem.W.fnOf "_law_mixed" "_law_mixed" (defArgs s_l_mixed) (defBody s_l_mixed) (defScope s_l_mixed) .none kV__law_mixed doc__law_mixed pm__law_mixed an__law_mixed cd__law_mixed ct__law_mixed), (PySem.W.fnOf "_law_begun" "_law_begun" (defArgs s_l_begun) (defBody s_l_begun) (defScope s_l_begun) .none kV__law_begun doc__law_begun pm__law_begun an__law_begun cd__law_begun ct__law_begun), (PySem.W.fnOf "_law_take" "_law_take" (defArgs s_l_take) (defBody s_l_take) (defScope s_l_take) .none kV__law_take doc__law_take pm__law_take an__law_take cd__law_take ct__law_take), (PySem.W.fnOf "_law_runs" "_law_runs" (defArgs s_l_runs) (defBody s_l_runs) (defScope s_l_runs) .none kV__law_runs doc__law_runs pm__law_runs an__law_runs cd__law_runs ct__law_runs), (PySem.W.fnOf "_law_numbers" "_law_numbers" (defArgs s_l_numbers) (defBody s_l_numbers) (defScope s_l_numbers) .none kV__law_numbers doc__law_numbers pm__law_numbers an__law_numbers cd__law_numbers ct__law_numbers), (PySem.W.fnOf "_law_size" "_law_size" (defArgs s_l_size) (defBody s_l_size) (defScope s_l_size) .none kV__law_size doc__law_size pm__law_size an__law_size cd__law_size ct__law_size), (PySem.W.fnOf "_law_word" "_law_word" (defArgs s_l_word) (defBody s_l_word) (defScope s_l_word) .none kV__law_word doc__law_word pm__law_word an__law_word cd__law_word ct__law_word), (PySem.W.fnOf "_law_said" "_law_said" (defArgs s_l_said) (defBody s_l_said) (defScope s_l_said) .none kV__law_said doc__law_said pm__law_said an__law_said cd__law_said ct__law_said), (PySem.W.fnOf "_law_by_row" "_law_by_row" (defArgs s_l_by_row) (defBody s_l_by_row) (defScope s_l_by_row) .none kV__law_by_row doc__law_by_row pm__law_by_row an__law_by_row (.ref cc__law_by_row) ct__law_by_row), (PySem.W.fnOf "_law_by_order" "_law_by_order" (defArgs s_l_by_order) (defBody s_l_by_order) (defScope s_l_by_order) .none kV__law_by_order doc__law_by_order pm__law_by_order an__law_by_order (.ref cc__law_by_order) ct__law_by_order), (PySem.W.fnOf "_law_numbers_right" "_law_numbers_right" (defArgs s_l_numbers_right) (defBody s_l_numbers_right) (defScope s_l_numbers_right) .none kV__law_numbers_right doc__law_numbers_right pm__law_numbers_right an__law_numbers_right (.ref cc__law_numbers_right) ct__law_numbers_right), (PySem.W.fnOf "_law_papers_right" "_law_papers_right" (defArgs s_l_papers_right) (defBody s_l_papers_right) (defScope s_l_papers_right) .none kV__law_papers_right doc__law_papers_right pm__law_papers_right an__law_papers_right (.ref cc__law_papers_right) ct__law_papers_right), (PySem.W.fnOf "_law_empty_right" "_law_empty_right" (defArgs s_l_empty_right) (defBody s_l_empty_right) (defScope s_l_empty_right) .none kV__law_empty_right doc__law_empty_right pm__law_empty_right an__law_empty_right (.ref cc__law_empty_right) ct__law_empty_right), (PySem.W.fnOf "_law_long_right" "_law_long_right" (defArgs s_l_long_right) (defBody s_l_long_right) (defScope s_l_long_right) .none kV__law_long_right doc__law_long_right pm__law_long_right an__law_long_right cd__law_long_right ct__law_long_right), (PySem.W.fnOf "law" "law" (defArgs s_law) (defBody s_law) (defScope s_law) .none kV_law doc_law pm_law an_law (.ref cc_law) ct_law)⟩,
    { m_SortError := PySem.W.mg_of X G a_SortError
      q_SortError := ini_SortError
      p_SortError := kpc_SortError
      k_SortError := ⟨xcl_SortError, xga_SortError, xgg_SortError, bex_SortError, dic_SortError, xha_SortError, xhn_SortError, xht_SortError, xhm_SortError⟩
      r_SortError := ⟨rd_SortError, rg_SortError⟩
      m_BadPaper := PySem.W.mg_of X G a_BadPaper
      o_BadPaper := ⟨⟨_, Xc.XB.of PySem.F.excBase_Exception⟩, PySem.F.store_Exception, ini_BadPaper, ovr_BadPaper, dic_BadPaper, sav_BadPaper, bex_BadPaper, tyc_BadPaper, kpc_BadPaper⟩
      k_BadPaper := ⟨xcl_BadPaper, xga_BadPaper, xgg_BadPaper, bex_BadPaper, dic_BadPaper, xha_BadPaper, xhn_BadPaper, xht_BadPaper, xhm_BadPaper⟩
      t_BadPaper_at := tk_BadPaper_at
      na_BadPaper_at := na_BadPaper_at
      i_BadPaper := a_BadPaper___init__
      y_BadPaper := y_BadPaper___init__
      c_BadPaper___init__ := ⟨fun_mk l_BadPaper___init__ e_BadPaper___init__ k_BadPaper___init__, (fun_mk (st := s_BadPaper___init__) l_BadPaper___init__ e_BadPaper___init__ k_BadPaper___init__).binds (ps := ["self", "at"]) (fun _ _ _ _ _ _ us hl => match us, hl with | [_, _], _ => rfl)⟩
      v_BadPaper := v_BadPaper
      m_BadKind := PySem.W.mg_of X G a_BadKind
      o_BadKind := ⟨⟨_, Xc.XB.of PySem.F.excBase_TypeError⟩, PySem.F.store_TypeError, ini_BadKind, ovr_BadKind, dic_BadKind, sav_BadKind, bex_BadKind, tyc_BadKind, kpc_BadKind⟩
      k_BadKind := ⟨xcl_BadKind, xga_BadKind, xgg_BadKind, bex_BadKind, dic_BadKind, xha_BadKind, xhn_BadKind, xht_BadKind, xhm_BadKind⟩
      t_BadKind_wanted := tk_BadKind_wanted
      na_BadKind_wanted := na_BadKind_wanted
      i_BadKind := a_BadKind___init__
      y_BadKind := y_BadKind___init__
      c_BadKind___init__ := ⟨fun_mk l_BadKind___init__ e_BadKind___init__ k_BadKind___init__, (fun_mk (st := s_BadKind___init__) l_BadKind___init__ e_BadKind___init__ k_BadKind___init__).binds (ps := ["self", "wanted"]) (fun _ _ _ _ _ _ us hl => match us, hl with | [_, _], _ => rfl)⟩
      v_BadKind := v_BadKind
      m_BadNumber := PySem.W.mg_of X G a_BadNumber
      o_BadNumber := ⟨⟨_, Xc.XB.of PySem.F.excBase_IndexError⟩, PySem.F.store_IndexError, ini_BadNumber, ovr_BadNumber, dic_BadNumber, sav_BadNumber, bex_BadNumber, tyc_BadNumber, kpc_BadNumber⟩
      k_BadNumber := ⟨xcl_BadNumber, xga_BadNumber, xgg_BadNumber, bex_BadNumber, dic_BadNumber, xha_BadNumber, xhn_BadNumber, xht_BadNumber, xhm_BadNumber⟩
      t_BadNumber_at := tk_BadNumber_at
      na_BadNumber_at := na_BadNumber_at
      i_BadNumber := a_BadNumber___init__
      y_BadNumber := y_BadNumber___init__
      c_BadNumber___init__ := ⟨fun_mk l_BadNumber___init__ e_BadNumber___init__ k_BadNumber___init__, (fun_mk (st := s_BadNumber___init__) l_BadNumber___init__ e_BadNumber___init__ k_BadNumber___init__).binds (ps := ["self", "at"]) (fun _ _ _ _ _ _ us hl => match us, hl with | [_, _], _ => rfl)⟩
      v_BadNumber := v_BadNumber
      m_TooMany := PySem.W.mg_of X G a_TooMany
      o_TooMany := ⟨⟨_, Xc.XB.of PySem.F.excBase_OverflowError⟩, PySem.F.store_OverflowError, ini_TooMany, ovr_TooMany, dic_TooMany, sav_TooMany, bex_TooMany, tyc_TooMany, kpc_TooMany⟩
      k_TooMany := ⟨xcl_TooMany, xga_TooMany, xgg_TooMany, bex_TooMany, dic_TooMany, xha_TooMany, xhn_TooMany, xht_TooMany, xhm_TooMany⟩
      t_TooMany_most := tk_TooMany_most
      na_TooMany_most := na_TooMany_most
      i_TooMany := a_TooMany___init__
      y_TooMany := y_TooMany___init__
      c_TooMany___init__ := ⟨fun_mk l_TooMany___init__ e_TooMany___init__ k_TooMany___init__, (fun_mk (st := s_TooMany___init__) l_TooMany___init__ e_TooMany___init__ k_TooMany___init__).binds (ps := ["self", "most"]) (fun _ _ _ _ _ _ us hl => match us, hl with | [_, _], _ => rfl)⟩
      v_TooMany := v_TooMany
      m_BadText := PySem.W.mg_of X G a_BadText
      m_NoSuch := PySem.W.mg_of X G a_NoSuch
      m_BadAnswer := PySem.W.mg_of X G a_BadAnswer
      m_Stopped := PySem.W.mg_of X G a_Stopped
      m_Order := PySem.W.mg_of X G a_Order
      cl_Order := ⟨pg_Order, hd_Order, po_Order, sa_Order⟩
      na_Order_own_rule := na_Order_own_rule
      na_Order_times_asked := na_Order_times_asked
      i_Order := ⟨mk_Order, a_Order___init__, i_Order___init__, kc_Order⟩
      c_Order___init__ := ⟨fun_mk l_Order___init__ e_Order___init__ k_Order___init__, (fun_mk (st := s_Order___init__) l_Order___init__ e_Order___init__ k_Order___init__).binds (ps := ["self", "rule"]) (fun _ _ _ _ _ _ us hl => match us, hl with | [_, _], _ => rfl)⟩
      h_Order_counted := ⟨a_Order_counted, i_Order_counted, k_Order_counted⟩
      c_Order_counted := ⟨fun_mk l_Order_counted e_Order_counted k_Order_counted, (fun_mk (st := s_Order_counted) l_Order_counted e_Order_counted k_Order_counted).binds (ps := ["self"]) (fun _ _ _ _ _ _ us hl => match us, hl with | [_], _ => rfl)⟩
      h_Order_ahead := ⟨a_Order_ahead, i_Order_ahead, k_Order_ahead⟩
      c_Order_ahead := ⟨fun_mk l_Order_ahead e_Order_ahead k_Order_ahead, (fun_mk (st := s_Order_ahead) l_Order_ahead e_Order_ahead k_Order_ahead).binds (ps := ["self", "one", "other"]) (fun _ _ _ _ _ _ us hl => match us, hl with | [_, _, _], _ => rfl)⟩
      h_Order_many_asked := ⟨a_Order_many_asked, i_Order_many_asked, k_Order_many_asked⟩
      c_Order_many_asked := ⟨fun_mk l_Order_many_asked e_Order_many_asked k_Order_many_asked, (fun_mk (st := s_Order_many_asked) l_Order_many_asked e_Order_many_asked k_Order_many_asked).binds (ps := ["self"]) (fun _ _ _ _ _ _ us hl => match us, hl with | [_], _ => rfl)⟩
      r_Order := ⟨rd_Order, rg_Order⟩
      vi_Order := vi_Order
      c_is_whole := ⟨⟨⟨_, _, .none, .ref D_is_whole, _, _, _, _, _, _, rfl, l_is_whole, e_is_whole, Or.inl ⟨rfl, rfl⟩, Or.inr ⟨D_is_whole, rfl, dd_is_whole⟩⟩, k_is_whole⟩, PySem.W.mg_of X G a_is_whole⟩
      c_need_row := ⟨fun_mk l_need_row e_need_row k_need_row, (fun_mk (st := s_need_row) l_need_row e_need_row k_need_row).binds (ps := ["thing"]) (fun _ _ _ _ _ _ us hl => match us, hl with | [_], _ => rfl), PySem.W.mg_of X G a_need_row⟩
      c_need_order := ⟨fun_mk l_need_order e_need_order k_need_order, (fun_mk (st := s_need_order) l_need_order e_need_order k_need_order).binds (ps := ["thing"]) (fun _ _ _ _ _ _ us hl => match us, hl with | [_], _ => rfl), PySem.W.mg_of X G a_need_order⟩
      c_least_run := ⟨fun_mk l_least_run e_least_run k_least_run, (fun_mk (st := s_least_run) l_least_run e_least_run k_least_run).binds (ps := ["many"]) (fun _ _ _ _ _ _ us hl => match us, hl with | [_], _ => rfl), PySem.W.mg_of X G a_least_run⟩
      c_need_end := ⟨⟨⟨_, _, .none, .ref D_need_end, _, _, _, _, _, _, rfl, l_need_end, e_need_end, Or.inl ⟨rfl, rfl⟩, Or.inr ⟨D_need_end, rfl, dd_need_end⟩⟩, k_need_end⟩, PySem.W.mg_of X G a_need_end⟩
      c_run_at := ⟨⟨⟨_, _, .ref DT_run_at, .ref D_run_at, _, _, _, _, _, _, rfl, l_run_at, e_run_at, Or.inr ⟨by simp, DT_run_at, DO_run_at, DI_run_at, DN_run_at, rfl, dl_run_at, do_run_at, dr_run_at⟩, Or.inr ⟨D_run_at, rfl, dd_run_at⟩⟩, k_run_at⟩, PySem.W.mg_of X G a_run_at⟩
      c_turn_run := ⟨fun_mk l_turn_run e_turn_run k_turn_run, (fun_mk (st := s_turn_run) l_turn_run e_turn_run k_turn_run).binds (ps := ["row", "start", "end"]) (fun _ _ _ _ _ _ us hl => match us, hl with | [_, _, _], _ => rfl), PySem.W.mg_of X G a_turn_run⟩
      c_are_spots := ⟨fun_mk l_are_spots e_are_spots k_are_spots, (fun_mk (st := s_are_spots) l_are_spots e_are_spots k_are_spots).binds (ps := ["spots", "natural"]) (fun _ _ _ _ _ _ us hl => match us, hl with | [_, _], _ => rfl), PySem.W.mg_of X G a_are_spots⟩
      c_piece_fits := ⟨fun_mk l_piece_fits e_piece_fits k_piece_fits, (fun_mk (st := s_piece_fits) l_piece_fits e_piece_fits k_piece_fits).binds (ps := ["piece", "many"]) (fun _ _ _ _ _ _ us hl => match us, hl with | [_, _], _ => rfl), PySem.W.mg_of X G a_piece_fits⟩
      cx_right_spot := ⟨_, _, _, _, _, _, _, _, rfl, l_right_spot, e_right_spot⟩
      nt_right_spot := nt_right_spot
      ht_right_spot := ht_right_spot
      c_right_spot := ⟨⟨⟨_, _, .none, .ref D_right_spot, _, _, _, _, _, _, rfl, l_right_spot, e_right_spot, Or.inl ⟨rfl, rfl⟩, Or.inr ⟨D_right_spot, rfl, dd_right_spot⟩⟩, k_right_spot⟩, PySem.W.mg_of X G a_right_spot⟩
      c_need_least := ⟨fun_mk l_need_least e_need_least k_need_least, (fun_mk (st := s_need_least) l_need_least e_need_least k_need_least).binds (ps := ["least"]) (fun _ _ _ _ _ _ us hl => match us, hl with | [_], _ => rfl), PySem.W.mg_of X G a_need_least⟩
      c_cut_piece := ⟨⟨⟨_, _, .ref DT_cut_piece, .ref D_cut_piece, _, _, _, _, _, _, rfl, l_cut_piece, e_cut_piece, Or.inr ⟨by simp, DT_cut_piece, DO_cut_piece, DI_cut_piece, DN_cut_piece, rfl, dl_cut_piece, do_cut_piece, dr_cut_piece⟩, Or.inr ⟨D_cut_piece, rfl, dd_cut_piece⟩⟩, k_cut_piece⟩, PySem.W.mg_of X G a_cut_piece⟩
      c_cut_pieces := ⟨⟨⟨_, _, .none, .ref D_cut_pieces, _, _, _, _, _, _, rfl, l_cut_pieces, e_cut_pieces, Or.inl ⟨rfl, rfl⟩, Or.inr ⟨D_cut_pieces, rfl, dd_cut_pieces⟩⟩, k_cut_pieces⟩, PySem.W.mg_of X G a_cut_pieces⟩
      c_need_piece := ⟨fun_mk l_need_piece e_need_piece k_need_piece, (fun_mk (st := s_need_piece) l_need_piece e_need_piece k_need_piece).binds (ps := ["row", "piece"]) (fun _ _ _ _ _ _ us hl => match us, hl with | [_, _], _ => rfl), PySem.W.mg_of X G a_need_piece⟩
      c_lay_piece := ⟨fun_mk l_lay_piece e_lay_piece k_lay_piece, (fun_mk (st := s_lay_piece) l_lay_piece e_lay_piece k_lay_piece).binds (ps := ["row", "piece"]) (fun _ _ _ _ _ _ us hl => match us, hl with | [_, _], _ => rfl), PySem.W.mg_of X G a_lay_piece⟩
      c_lay_back := ⟨fun_mk l_lay_back e_lay_back k_lay_back, (fun_mk (st := s_lay_back) l_lay_back e_lay_back k_lay_back).binds (ps := ["row", "piece"]) (fun _ _ _ _ _ _ us hl => match us, hl with | [_, _], _ => rfl), PySem.W.mg_of X G a_lay_back⟩
      c_is_spot := ⟨fun_mk l_is_spot e_is_spot k_is_spot, (fun_mk (st := s_is_spot) l_is_spot e_is_spot k_is_spot).binds (ps := ["row", "order", "start", "end", "spot"]) (fun _ _ _ _ _ _ us hl => match us, hl with | [_, _, _, _, _], _ => rfl), PySem.W.mg_of X G a_is_spot⟩
      c_is_told := ⟨fun_mk l_is_told e_is_told k_is_told, (fun_mk (st := s_is_told) l_is_told e_is_told k_is_told).binds (ps := ["row", "order", "start", "piece", "least"]) (fun _ _ _ _ _ _ us hl => match us, hl with | [_, _, _, _, _], _ => rfl), PySem.W.mg_of X G a_is_told⟩
      c_check_pieces := ⟨⟨⟨_, _, .none, .ref D_check_pieces, _, _, _, _, _, _, rfl, l_check_pieces, e_check_pieces, Or.inl ⟨rfl, rfl⟩, Or.inr ⟨D_check_pieces, rfl, dd_check_pieces⟩⟩, k_check_pieces⟩, PySem.W.mg_of X G a_check_pieces⟩
      c__law_mixed := ⟨fun_mk l__law_mixed e__law_mixed k__law_mixed, (fun_mk (st := s_l_mixed) l__law_mixed e__law_mixed k__law_mixed).binds (ps := ["_law_cell", "_law_k"]) (fun _ _ _ _ _ _ us hl => match us, hl with | [_, _], _ => rfl), PySem.W.mg_of X G a__law_mixed⟩
      c__law_begun := ⟨fun_mk l__law_begun e__law_begun k__law_begun, (fun_mk (st := s_l_begun) l__law_begun e__law_begun k__law_begun).binds (ps := ["_law_script", "_law_k"]) (fun _ _ _ _ _ _ us hl => match us, hl with | [_, _], _ => rfl), PySem.W.mg_of X G a__law_begun⟩
      c__law_take := ⟨fun_mk l__law_take e__law_take k__law_take, (fun_mk (st := s_l_take) l__law_take e__law_take k__law_take).binds (ps := ["_law_state", "_law_count"]) (fun _ _ _ _ _ _ us hl => match us, hl with | [_, _], _ => rfl), PySem.W.mg_of X G a__law_take⟩
      c__law_runs := ⟨fun_mk l__law_runs e__law_runs k__law_runs, (fun_mk (st := s_l_runs) l__law_runs e__law_runs k__law_runs).binds (ps := ["_law_state", "_law_count"]) (fun _ _ _ _ _ _ us hl => match us, hl with | [_, _], _ => rfl), PySem.W.mg_of X G a__law_runs⟩
      c__law_numbers := ⟨fun_mk l__law_numbers e__law_numbers k__law_numbers, (fun_mk (st := s_l_numbers) l__law_numbers e__law_numbers k__law_numbers).binds (ps := ["_law_state", "_law_count"]) (fun _ _ _ _ _ _ us hl => match us, hl with | [_, _], _ => rfl), PySem.W.mg_of X G a__law_numbers⟩
      c__law_size := ⟨fun_mk l__law_size e__law_size k__law_size, (fun_mk (st := s_l_size) l__law_size e__law_size k__law_size).binds (ps := ["_law_state"]) (fun _ _ _ _ _ _ us hl => match us, hl with | [_], _ => rfl), PySem.W.mg_of X G a__law_size⟩
      c__law_word := ⟨fun_mk l__law_word e__law_word k__law_word, (fun_mk (st := s_l_word) l__law_word e__law_word k__law_word).binds (ps := ["_law_caught"]) (fun _ _ _ _ _ _ us hl => match us, hl with | [_], _ => rfl), PySem.W.mg_of X G a__law_word⟩
      c__law_said := ⟨fun_mk l__law_said e__law_said k__law_said, (fun_mk (st := s_l_said) l__law_said e__law_said k__law_said).binds (ps := ["_law_deed"]) (fun _ _ _ _ _ _ us hl => match us, hl with | [_], _ => rfl), PySem.W.mg_of X G a__law_said⟩
      cx__law_by_row := ⟨_, _, _, _, _, _, _, _, rfl, l__law_by_row, e__law_by_row⟩
      nt__law_by_row := nt__law_by_row
      ht__law_by_row := ht__law_by_row
      c__law_by_row := ⟨fun_mk l__law_by_row e__law_by_row k__law_by_row, (fun_mk (st := s_l_by_row) l__law_by_row e__law_by_row k__law_by_row).binds (ps := ["_law_bad", "_law_judge", "_law_odd"]) (fun _ _ _ _ _ _ us hl => match us, hl with | [_, _, _], _ => rfl), PySem.W.mg_of X G a__law_by_row⟩
      cx__law_by_order := ⟨_, _, _, _, _, _, _, _, rfl, l__law_by_order, e__law_by_order⟩
      nt__law_by_order := nt__law_by_order
      ht__law_by_order := ht__law_by_order
      c__law_by_order := ⟨fun_mk l__law_by_order e__law_by_order k__law_by_order, (fun_mk (st := s_l_by_order) l__law_by_order e__law_by_order k__law_by_order).binds (ps := ["_law_line", "_law_none", "_law_odd"]) (fun _ _ _ _ _ _ us hl => match us, hl with | [_, _, _], _ => rfl), PySem.W.mg_of X G a__law_by_order⟩
      cx__law_numbers_right := ⟨_, _, _, _, _, _, _, _, rfl, l__law_numbers_right, e__law_numbers_right⟩
      nt__law_numbers_right := nt__law_numbers_right
      ht__law_numbers_right := ht__law_numbers_right
      c__law_numbers_right := ⟨fun_mk l__law_numbers_right e__law_numbers_right k__law_numbers_right, (fun_mk (st := s_l_numbers_right) l__law_numbers_right e__law_numbers_right k__law_numbers_right).binds (ps := ["_law_line", "_law_judge", "_law_odd", "_law_low"]) (fun _ _ _ _ _ _ us hl => match us, hl with | [_, _, _, _], _ => rfl), PySem.W.mg_of X G a__law_numbers_right⟩
      cx__law_papers_right := ⟨_, _, _, _, _, _, _, _, rfl, l__law_papers_right, e__law_papers_right⟩
      nt__law_papers_right := nt__law_papers_right
      ht__law_papers_right := ht__law_papers_right
      c__law_papers_right := ⟨fun_mk l__law_papers_right e__law_papers_right k__law_papers_right, (fun_mk (st := s_l_papers_right) l__law_papers_right e__law_papers_right k__law_papers_right).binds (ps := ["_law_line", "_law_judge", "_law_odd"]) (fun _ _ _ _ _ _ us hl => match us, hl with | [_, _, _], _ => rfl), PySem.W.mg_of X G a__law_papers_right⟩
      cx__law_empty_right := ⟨_, _, _, _, _, _, _, _, rfl, l__law_empty_right, e__law_empty_right⟩
      nt__law_empty_right := nt__law_empty_right
      ht__law_empty_right := ht__law_empty_right
      c__law_empty_right := ⟨fun_mk l__law_empty_right e__law_empty_right k__law_empty_right, (fun_mk (st := s_l_empty_right) l__law_empty_right e__law_empty_right k__law_empty_right).binds (ps := ["_law_judge", "_law_none", "_law_odd", "_law_low"]) (fun _ _ _ _ _ _ us hl => match us, hl with | [_, _, _, _], _ => rfl), PySem.W.mg_of X G a__law_empty_right⟩
      c__law_long_right := ⟨fun_mk l__law_long_right e__law_long_right k__law_long_right, (fun_mk (st := s_l_long_right) l__law_long_right e__law_long_right k__law_long_right).binds (ps := ["_law_state", "_law_line", "_law_judge"]) (fun _ _ _ _ _ _ us hl => match us, hl with | [_, _, _], _ => rfl), PySem.W.mg_of X G a__law_long_right⟩
      cx_law := ⟨_, _, _, _, _, _, _, _, rfl, l_law, e_law⟩
      nt_law := nt_law
      ht_law := ht_law
      c_law := ⟨fun_mk l_law e_law k_law, (fun_mk (st := s_law) l_law e_law k_law).binds (ps := ["_law_script"]) (fun _ _ _ _ _ _ us hl => match us, hl with | [_], _ => rfl), PySem.W.mg_of X G a_law⟩
      g_MOST_THINGS := ⟨_, PySem.W.mg_of X G g_MOST_THINGS, r_MOST_THINGS⟩
      g_LEAST := ⟨_, PySem.W.mg_of X G g_LEAST, r_LEAST⟩
      g_MOST_LEAST := ⟨_, PySem.W.mg_of X G g_MOST_LEAST, r_MOST_LEAST⟩
      g_MOST_GROWN := ⟨_, PySem.W.mg_of X G g_MOST_GROWN, r_MOST_GROWN⟩
      x_stat := x_stat
      x_any_BadPaper := x_any_BadPaper
      x_kit_BadPaper := x_kit_BadPaper
      x_any_BadKind := x_any_BadKind
      x_kit_BadKind := x_kit_BadKind
      x_any_BadNumber := x_any_BadNumber
      x_kit_BadNumber := x_kit_BadNumber
      x_any_TooMany := x_any_TooMany
      x_kit_TooMany := x_kit_TooMany
      x_i_Order := x_i_Order
      x_il_Order := x_il_Order
      x_io_int := x_io_int
      x_io_bool := x_io_bool
      x_io_str := x_io_str
      x_io_non := x_io_non
      x_io_lst := x_io_lst
      x_io_tup := x_io_tup
      x_io_dct := x_io_dct
      x_io_fun := x_io_fun
      x_oha_Order := x_oha_Order
      x_ohm_Order := x_ohm_Order
      x_ohn := x_ohn
      x_oht := x_oht
      n_len := PySem.W.mg_none_of X G z_len
      n_min := PySem.W.mg_none_of X G z_min
      n_max := PySem.W.mg_none_of X G z_max
      n_range := PySem.W.mg_none_of X G z_range
      n_repr := PySem.W.mg_none_of X G z_repr
      n_isinstance := PySem.W.mg_none_of X G z_isinstance
      n_int := PySem.W.mg_none_of X G z_int
      n_bool := PySem.W.mg_none_of X G z_bool
      n_str := PySem.W.mg_none_of X G z_str
      n_tuple := PySem.W.mg_none_of X G z_tuple
      n_list := PySem.W.mg_none_of X G z_list
      n_enumerate := PySem.W.mg_none_of X G z_enumerate
      n_sum := PySem.W.mg_none_of X G z_sum
      n_zip := PySem.W.mg_none_of X G z_zip
      n_divmod := PySem.W.mg_none_of X G z_divmod
      n_all := PySem.W.mg_none_of X G z_all
      n_TypeError := PySem.W.mg_none_of X G z_TypeError
      n_IndexError := PySem.W.mg_none_of X G z_IndexError
      n_OverflowError := PySem.W.mg_none_of X G z_OverflowError
      n_RuntimeError := PySem.W.mg_none_of X G z_RuntimeError
      n_Exception := PySem.W.mg_none_of X G z_Exception }⟩

/-! what any thing is -/
inductive Odd (H : Hp) : V → Prop
  | int (i : Int) : Odd H (.int i)
  | bl (b : Bool) : Odd H (.bl b)
  | str (x : Str) : Odd H (.str x)
  | non : Odd H .non
  | lst (a : Addr) (xs : List V) (h : H a = some (.lst xs)) : Odd H (.ref a)
  | tup (a : Addr) (xs : List V) (h : H a = some (.tup xs)) : Odd H (.ref a)
  | dct (a : Addr) (kvs : List (Key × V)) (h : H a = some (.dK kvs)) : Odd H (.ref a)
theorem Odd.more {H H' : Hp} {v : V} (o : Odd H v) (k : Same H H') : Odd H' v := by
  cases o with
  | int i => exact .int i
  | bl b => exact .bl b
  | str x => exact .str x
  | non => exact .non
  | lst a xs h => exact .lst a xs (k _ _ h)
  | tup a xs h => exact .tup a xs (k _ _ h)
  | dct a kvs h => exact .dct a kvs (k _ _ h)
theorem Odd.kin {K : PySem.W.Frag} {H : Hp} {v : V} (o : Odd H v) : ∃ k, Kin K H v k ∧ (k = .tup → ∃ a xs, v = .ref a ∧ H a = some (.tup xs)) := by
  cases o with
  | int i => exact ⟨_, .int i, fun z => nomatch z⟩
  | bl b => exact ⟨_, .bl b, fun z => nomatch z⟩
  | str x => exact ⟨_, .str x, fun z => nomatch z⟩
  | non => exact ⟨_, .non, fun z => nomatch z⟩
  | lst a xs h => exact ⟨_, Kin.lst h, fun z => nomatch z⟩
  | tup a xs h => exact ⟨_, Kin.tup h, fun _ => ⟨a, xs, rfl, h⟩⟩
  | dct a kvs h => exact ⟨_, Kin.dK h, fun z => nomatch z⟩
theorem isWh_val {v : V} {l m : Int} (h : isWh v l m = true) : ∃ i : Int, v = .int i ∧ l ≤ i ∧ i ≤ m := by
  cases v with
  | int i =>
    rw [isWh_int, Bool.and_eq_true, decide_eq_true_eq, decide_eq_true_eq] at h
    exact ⟨i, rfl, h⟩
  | _ => exact Bool.noConfusion h
/-! orders -/
def flds (f : Addr) (n : Int) : List (Str × V) := [("own_rule", .ref f), ("times_asked", .int n)]
theorem fl_rule (f : Addr) (n : Int) : (flds f n).lookup ("own_rule" : Str) = some (.ref f) := by rfl
theorem fl_times (f : Addr) (n : Int) : (flds f n).lookup ("times_asked" : Str) = some (.int n) := by rfl
theorem fl_counted (f : Addr) (n : Int) : (flds f n).lookup ("counted" : Str) = none := by rfl
theorem fl_ahead (f : Addr) (n : Int) : (flds f n).lookup ("ahead" : Str) = none := by rfl
theorem fl_put (f : Addr) : putF "times_asked" (.int 0) (putF "own_rule" (.ref f) []) = flds f 0 := by rfl
theorem fl_up (f : Addr) (n m : Int) : putF "times_asked" (.int m) (flds f n) = flds f m := by rfl
local macro_rules | `(tactic| walk_at "fv") => `(tactic| first | exact K16.fl_rule _ _ | exact K16.fl_times _ _ | exact K16.fl_counted _ _ | exact K16.fl_ahead _ _)
/-! the promises -/
def sp_whole (K : PySem.W.Frag) : Sp := fun vs H Q _ => ∃ (x : V) (l m : Int), vs = [x, .int l, .int m] ∧ Odd H x ∧ Q (.bl (isWh x l m)) H
/-- what is no list -/
inductive NoL (A : Ad) (H : Hp) : V → Prop
  | odd {v : V} (o : Odd H v) (n : ∀ a xs, v = .ref a → H a ≠ some (.lst xs)) : NoL A H v
  | ins {a dx : Addr} {fs : List (Str × V)} (h : H a = some (.ins A.C_Order dx fs)) : NoL A H (.ref a)
/-- what is no order -/
inductive NoO (H : Hp) : V → Prop
  | odd {v : V} (o : Odd H v) : NoO H v
  | fn {f : Addr} {F : Xh.LF} (h : H f = some (Xh.LamO f F)) : NoO H (.ref f)
def Raise (C : Addr) (f : Str) (v : V) (H : Hp) (E : XK) : Prop := ∀ H' d, Same H H' → H' d = none → E (.ref C) (some d) (upd H' d (.xd [(f, v)]))
def sp_row (A : Ad) : Sp := fun vs H Q E => ∃ v : V, vs = [v] ∧ ((∃ a xs, v = .ref a ∧ H a = some (.lst xs) ∧ xs.length ≤ 4096 ∧ Q .non H) ∨ (NoL A H v ∧ Raise A.C_BadKind "wanted" (.str "list") H E) ∨ (∃ a xs, v = .ref a ∧ H a = some (.lst xs) ∧ 4096 < xs.length ∧ Raise A.C_TooMany "most" (.int 4096) H E))
def sp_norder (A : Ad) : Sp := fun vs H Q E => ∃ v : V, vs = [v] ∧ ((∃ a dx fs, v = .ref a ∧ H a = some (.ins A.C_Order dx fs) ∧ Q .non H) ∨ (NoO H v ∧ Raise A.C_BadKind "wanted" (.str "Order") H E))
def sp_oinit (C : Addr) : Sp := fun vs H Q _ => ∃ (x dx f : Addr), vs = [.ref x, .ref f] ∧ H x = some (.ins C dx []) ∧ ∀ H', H' x = some (.ins C dx (flds f 0)) → (∀ b o, H b = some o → b ≠ x → H' b = some o) → Q .non H'
def sp_counted (C : Addr) : Sp := fun vs H Q _ => ∃ (x dx f : Addr) (n : Int), vs = [.ref x] ∧ H x = some (.ins C dx (flds f n)) ∧ ∀ H', H' x = some (.ins C dx (flds f (n + 1))) → (∀ b o, H b = some o → b ≠ x → H' b = some o) → Q .non H'
/-- the order tells b of these two -/
def sp_ahead (P : Program) (w : World) (K : PySem.W.Frag) (mg : Str → Option Value) (base : Heap) (C : Addr) : Sp := fun vs H Q _ => ∃ (x dx f : Addr) (n : Int) (one other : V) (b : Bool), vs = [.ref x, one, other] ∧ H x = some (.ins C dx (flds f n)) ∧
  ∀ H', H' x = some (.ins C dx (flds f (n + 1))) → (∀ b o, H b = some o → b ≠ x → H' b = some o) → IsFn f H' ∧ (∀ Q', Q' (.bl b) H' → CallsTo P w K mg base CX0 1 f H' [one, other] Q' E0) ∧ Q (.bl b) H'
def sp_nend (C : Addr) : Sp := fun vs H Q E => ∃ (a : Addr) (s n : Int) (x : V) (xs : List V), vs = [.ref a, .int s, x, .int n] ∧ H a = some (.lst xs) ∧ xs.length ≤ 4096 ∧ Odd H x ∧
  (isWh x (s + n) xs.length = true → Q .non H) ∧ (isWh x (s + n) xs.length = false → ∀ H' d, Same H H' → H' d = none → E (.ref C) (some d) (upd H' d (.xd [("at", x)])))
section
variable {P : Program} {w : World} {K : PySem.W.Frag} {mg : Str → Option Value} {base : Heap} {A : Ad} {H H0 : Hp} {MM : List Addr} {L L' F : Led} {Q : VK} {E : XK}
local macro_rules | `(tactic| walk_at "rd1") => `(tactic| first
  | with_reducible refine Xc.rd_bi ?_
  | with_reducible refine Xc.rd_put1 ?_
  | with_reducible refine Xc.rd_tmk ?_
  | with_reducible refine Xc.rd_xv ?_
  | with_reducible refine Xh.rd_callF ?_)
theorem ok_xBadPaper (T : Txt K mg w A) : FnOk P w K mg base CX0 1 A.f_BadPaper___init__ A.d_BadPaper___init__ ["self", "at"] (Xc.spInit1 A.C_BadPaper "at") := by
  refine T.c_BadPaper___init__.F.ok sc_BadPaper___init__ (fun vs H Q E h => ?_) (fun cdv Ar outer s H vs Q E hr h => ?_)
  · obtain ⟨a, v, rfl, _⟩ := h; rfl
  · obtain ⟨a, v, rfl, ha, k⟩ := h
    refine ⟨_, (pss_cons (ps_expr (Xc.pe_binitS T.o_BadPaper rfl T.m_SortError T.r_SortError T.v_BadPaper rfl (pa_cons (pv 0) (pa_cons (pv 1) pa_nil))))
      (pss_one (Xc.ps_put T.o_BadPaper (pv 0) (pv 1) rfl))), ?_⟩
    walk_at "st"
    walk_at "rd"
    refine ⟨a, _, [v], rfl, by simp, T.o_BadPaper, ha, ?_⟩
    walk_at "rd"
    refine ⟨a, _, rfl, T.o_BadPaper, T.t_BadPaper_at, Or.inl ⟨ha, fun dx n1 n2 => ?_⟩⟩
    exact k dx n1 n2
theorem ok_xBadKind (T : Txt K mg w A) : FnOk P w K mg base CX0 1 A.f_BadKind___init__ A.d_BadKind___init__ ["self", "wanted"] (Xc.spInit1 A.C_BadKind "wanted") := by
  refine T.c_BadKind___init__.F.ok sc_BadKind___init__ (fun vs H Q E h => ?_) (fun cdv Ar outer s H vs Q E hr h => ?_)
  · obtain ⟨a, v, rfl, _⟩ := h; rfl
  · obtain ⟨a, v, rfl, ha, k⟩ := h
    refine ⟨_, (pss_cons (ps_expr (Xc.pe_binit T.o_BadKind rfl T.n_TypeError (by decide +kernel) (by kernel_rfl) (by decide +kernel) (by decide +kernel) T.v_BadKind (pa_cons (pv 0) (pa_cons (pv 1) pa_nil))))
      (pss_one (Xc.ps_put T.o_BadKind (pv 0) (pv 1) rfl))), ?_⟩
    walk_at "st"
    walk_at "rd"
    refine ⟨a, _, [v], rfl, by simp, T.o_BadKind, ha, ?_⟩
    walk_at "rd"
    refine ⟨a, _, rfl, T.o_BadKind, T.t_BadKind_wanted, Or.inl ⟨ha, fun dx n1 n2 => ?_⟩⟩
    exact k dx n1 n2
theorem ok_xBadNumber (T : Txt K mg w A) : FnOk P w K mg base CX0 1 A.f_BadNumber___init__ A.d_BadNumber___init__ ["self", "at"] (Xc.spInit1 A.C_BadNumber "at") := by
  refine T.c_BadNumber___init__.F.ok sc_BadNumber___init__ (fun vs H Q E h => ?_) (fun cdv Ar outer s H vs Q E hr h => ?_)
  · obtain ⟨a, v, rfl, _⟩ := h; rfl
  · obtain ⟨a, v, rfl, ha, k⟩ := h
    refine ⟨_, (pss_cons (ps_expr (Xc.pe_binit T.o_BadNumber rfl T.n_IndexError (by decide +kernel) (by kernel_rfl) (by decide +kernel) (by decide +kernel) T.v_BadNumber (pa_cons (pv 0) (pa_cons (pv 1) pa_nil))))
      (pss_one (Xc.ps_put T.o_BadNumber (pv 0) (pv 1) rfl))), ?_⟩
    walk_at "st"
    walk_at "rd"
    refine ⟨a, _, [v], rfl, by simp, T.o_BadNumber, ha, ?_⟩
    walk_at "rd"
    refine ⟨a, _, rfl, T.o_BadNumber, T.t_BadNumber_at, Or.inl ⟨ha, fun dx n1 n2 => ?_⟩⟩
    exact k dx n1 n2
theorem ok_xTooMany (T : Txt K mg w A) : FnOk P w K mg base CX0 1 A.f_TooMany___init__ A.d_TooMany___init__ ["self", "most"] (Xc.spInit1 A.C_TooMany "most") := by
  refine T.c_TooMany___init__.F.ok sc_TooMany___init__ (fun vs H Q E h => ?_) (fun cdv Ar outer s H vs Q E hr h => ?_)
  · obtain ⟨a, v, rfl, _⟩ := h; rfl
  · obtain ⟨a, v, rfl, ha, k⟩ := h
    refine ⟨_, (pss_cons (ps_expr (Xc.pe_binit T.o_TooMany rfl T.n_OverflowError (by decide +kernel) (by kernel_rfl) (by decide +kernel) (by decide +kernel) T.v_TooMany (pa_cons (pv 0) (pa_cons (pv 1) pa_nil))))
      (pss_one (Xc.ps_put T.o_TooMany (pv 0) (pv 1) rfl))), ?_⟩
    walk_at "st"
    walk_at "rd"
    refine ⟨a, _, [v], rfl, by simp, T.o_TooMany, ha, ?_⟩
    walk_at "rd"
    refine ⟨a, _, rfl, T.o_TooMany, T.t_TooMany_most, Or.inl ⟨ha, fun dx n1 n2 => ?_⟩⟩
    exact k dx n1 n2
theorem ok_is_whole (T : Txt K mg w A) : FnOk P w K mg base CX0 1 A.f_is_whole A.d_is_whole ["thing", "least", "most"] (sp_whole K) := by
  refine T.c_is_whole.F.ok sc_is_whole (fun vs H Q E h => ?_) (fun cdv Ar outer s H vs Q E hr h => ?_)
  · obtain ⟨x, l, m, rfl, _⟩ := h; rfl
  · obtain ⟨x, l, m, rfl, ho, q⟩ := h
    refine ⟨_, (pss_one (ps_ret (pe_and (pe_callB call_isi (by rfl) T.n_isinstance PyProof.Rows.boot_isinstance (pa_cons (pv 0) (pa_cons (pe_bltn (v := .ty "int") rfl T.n_int PyProof.Rows.boot_int rfl) pa_nil))) (pe_and (pe_not (pe_callB call_isi (by rfl) T.n_isinstance PyProof.Rows.boot_isinstance (pa_cons (pv 0) (pa_cons (pe_bltn (v := .ty "bool") rfl T.n_bool PyProof.Rows.boot_bool rfl) pa_nil)))) (pe_one (pe_chain op_le op_le (pv 1) (pv 0) (pv 2))))))), ?_⟩
    obtain ⟨k, hk, _⟩ := ho.kin (K := K)
    walk_at "st"
    walk_at "rd"
    refine rd_isi hk (kit_int _) ?_
    walk_at "rd"
    cases hk with
    | int i =>
      walk_at "if1"
      refine rd_isi (Kin.int i) (kit_bool _) ?_
      walk_at "rd"
      walk_at "if1"
      rw [isWh_int] at q
      refine rd_dec ?_ ?_ <;> intro h1
      · walk_at "rd"
        rw [decide_eq_true h1, Bool.true_and] at q
        exact q
      · rw [decide_eq_false h1, Bool.false_and] at q
        exact q
    | bl b =>
      walk_at "if1"
      refine rd_isi (Kin.bl b) (kit_bool _) ?_
      walk_at "rd"
      exact q
    | str x => exact q
    | non => exact q
    | ref h n => rcases n with rfl | rfl | rfl <;> exact q
theorem ok_row (T : Txt K mg w A) : FnOk P w K mg base (L2.CX P w) 3 A.f_need_row A.d_need_row ["thing"] (sp_row A) := by
  have G_BadKind : FnOk P w K mg base CX0 1 A.f_BadKind___init__ A.d_BadKind___init__ ["self", "wanted"] (Xc.spInit1 A.C_BadKind "wanted") := ok_xBadKind T
  have G_TooMany : FnOk P w K mg base CX0 1 A.f_TooMany___init__ A.d_TooMany___init__ ["self", "most"] (Xc.spInit1 A.C_TooMany "most") := ok_xTooMany T
  refine T.c_need_row.F.okX sc_need_row (fun vs H Q E h => ?_) (fun cdv Ar outer s H vs Q E hr h => ?_)
  · obtain ⟨v, rfl, _⟩ := h; rfl
  · obtain ⟨v, rfl, h⟩ := h
    refine ⟨_, (pss_cons (ps_if (pt_not (pt_val (pe_callB call_isi (by rfl) T.n_isinstance PyProof.Rows.boot_isinstance (pa_cons (pv 0) (pa_cons (pe_bltn (v := .ty "list") rfl T.n_list PyProof.Rows.boot_list rfl) pa_nil)))))
        (pss_one (ps_raise rfl (takes_of rfl rfl rfl rfl) (Xc.pmk_own T.o_BadKind T.i_BadKind T.y_BadKind G_BadKind (hr.mono (by decide)) T.c_BadKind___init__.b .nil pass0 rfl T.m_BadKind (pa_cons pe_str pa_nil))))
        pss_nil)
      (pss_one (ps_if (pt_cmpR op_gt (pe_callB call_len_seq (by rfl) T.n_len PySem.boot_len (pa_cons (pv 0) pa_nil)) (pe_gl rfl T.g_MOST_THINGS) (nomark _))
        (pss_one (ps_raise rfl (takes_of rfl rfl rfl rfl) (Xc.pmk_own T.o_TooMany T.i_TooMany T.y_TooMany G_TooMany (hr.mono (by decide)) T.c_TooMany___init__.b .nil pass0 rfl T.m_TooMany (pa_cons (pe_gl rfl T.g_MOST_THINGS) pa_nil))))
        pss_nil))), ?_⟩
    walk_at "st"
    walk_at "rd"
    rcases h with ⟨a, xs, rfl, ha, hl, q⟩ | ⟨n, r⟩ | ⟨a, xs, rfl, ha, hl, r⟩
    · have S := Hs.start1 ha [] (.inl rfl)
      refine rd_isi (Kin.lst ha) (kit_list _) ?_
      walk_at "rd"
      walk_at "if0"
      refine rd_decF (by omega) ?_
      walk_at "rd"
      exact q
    · cases n with
      | odd o n =>
        have fin := fun (H1 : Hp) (e : H1 = H) => Xc.rd_mk1 (H := H1) fun d hd => by subst e; exact r H1 d (fun _ _ e => e) hd
        cases o with
        | int i => refine rd_isi (Kin.int i) (kit_list _) ?_; walk_at "rd"; walk_at "if1"; exact fin _ rfl
        | bl i => refine rd_isi (Kin.bl i) (kit_list _) ?_; walk_at "rd"; walk_at "if1"; exact fin _ rfl
        | str i => refine rd_isi (Kin.str i) (kit_list _) ?_; walk_at "rd"; walk_at "if1"; exact fin _ rfl
        | non => refine rd_isi Kin.non (kit_list _) ?_; walk_at "rd"; walk_at "if1"; exact fin _ rfl
        | lst a xs h => exact absurd h (n a xs rfl)
        | tup a xs h => refine rd_isi (Kin.tup h) (kit_list _) ?_; walk_at "rd"; walk_at "if1"; exact fin _ rfl
        | dct a xs h => refine rd_isi (Kin.dK h) (kit_list _) ?_; walk_at "rd"; walk_at "if1"; exact fin _ rfl
      | ins h =>
        refine ⟨.ref _, .ty "list", .ref A.C_Order, .type "list", false, rfl, .ty _, .base (.ins h T.cl_Order T.x_oha_Order T.x_ohn T.x_oht T.x_ohm_Order), T.x_il_Order, ?_⟩
        walk_at "rd"
        walk_at "if1"
        exact Xc.rd_mk1 fun d hd => r H d (fun _ _ e => e) hd
    · have S := Hs.start1 ha [] (.inl rfl)
      refine rd_isi (Kin.lst ha) (kit_list _) ?_
      walk_at "rd"
      walk_at "if0"
      refine rd_decT (by omega) ?_
      walk_at "rd"
      exact Xc.rd_mk1 fun d hd => r H d (fun _ _ e => e) hd
theorem kb_lm (T : Txt K mg w A) : ∃ mv : List Value, KBn K A.d_is_whole ["thing", "least", "most"] 1 ["least", "most"] (fun us ws => us ++ ws ++ mv) (fun vs zs => vs ++ zs ++ []) := by
  refine T.c_is_whole.F.kbinds0 1 ["least", "most"] [] (fun us mv ws => us ++ ws ++ mv) (by simp) (by simp) (fun r1 r2 r3 => (r1.append r3).append r2) ?_
  intro D doc pm an cdv ct us mv ws h1 h2 h3
  match us, h1, mv, h2, ws, h3 with
  | [u], _, [], _, [y, z], _ => rfl
theorem kb_m (T : Txt K mg w A) : ∃ mv : List Value, KBn K A.d_is_whole ["thing", "least", "most"] 1 ["most"] (fun us ws => us ++ mv ++ ws) (fun vs zs => vs ++ [.int 0] ++ zs) := by
  refine T.c_is_whole.F.kbinds0 1 ["most"] [("least", .int 0)] (fun us mv ws => us ++ mv ++ ws) (by simp) (by simp) (fun r1 r2 r3 => (r1.append r2).append r3) ?_
  intro D doc pm an cdv ct us mv ws h1 h2 h3
  match us, h1, mv, h2, ws, h3 with
  | [u], _, [m], _, [y], _ => exact ⟨_, _, _, _, _, _, rfl, rfl, rfl⟩
theorem ok_norder (T : Txt K mg w A) : FnOk P w K mg base (L2.CX P w) 3 A.f_need_order A.d_need_order ["thing"] (sp_norder A) := by
  have G_BadKind : FnOk P w K mg base CX0 1 A.f_BadKind___init__ A.d_BadKind___init__ ["self", "wanted"] (Xc.spInit1 A.C_BadKind "wanted") := ok_xBadKind T
  refine T.c_need_order.F.okX sc_need_order (fun vs H Q E h => ?_) (fun cdv Ar outer s H vs Q E hr h => ?_)
  · obtain ⟨v, rfl, _⟩ := h; rfl
  · obtain ⟨v, rfl, h⟩ := h
    refine ⟨_, (pss_one (ps_if (pt_not (pt_val (pe_callB Xl.call_isiF (by rfl) T.n_isinstance PyProof.Rows.boot_isinstance (pa_cons (pv 0) (pa_cons (pe_glob (v := .ref A.C_Order) rfl T.m_Order rfl) pa_nil)))))
        (pss_one (ps_raise rfl (takes_of rfl rfl rfl rfl) (Xc.pmk_own T.o_BadKind T.i_BadKind T.y_BadKind G_BadKind (hr.mono (by decide)) T.c_BadKind___init__.b .nil pass0 rfl T.m_BadKind (pa_cons pe_str pa_nil))))
        pss_nil)), ?_⟩
    walk_at "st"
    walk_at "rd"
    rcases h with ⟨a, dx, fs, rfl, ha, q⟩ | ⟨n, r⟩
    · refine .inl ⟨.ref a, .ref A.C_Order, .ref A.C_Order, .ref A.C_Order, true, rfl, .own _, .base (.ins ha T.cl_Order T.x_oha_Order T.x_ohn T.x_oht T.x_ohm_Order), T.x_i_Order, ?_⟩
      walk_at "rd"
      walk_at "if0"
      exact q
    · have fin := fun (H1 : Hp) (e : H1 = H) => Xc.rd_mk1 (H := H1) fun d hd => by subst e; exact r H1 d (fun _ _ e => e) hd
      cases n with
      | odd o =>
        cases o with
        | int i => refine .inl ⟨.int i, .ref A.C_Order, _, .ref A.C_Order, false, rfl, .own _, .base (.int i), T.x_io_int, ?_⟩; walk_at "rd"; walk_at "if1"; exact fin _ rfl
        | bl i => refine .inl ⟨.bl i, .ref A.C_Order, _, .ref A.C_Order, false, rfl, .own _, .base (.bl i), T.x_io_bool, ?_⟩; walk_at "rd"; walk_at "if1"; exact fin _ rfl
        | str i => refine .inl ⟨.str i, .ref A.C_Order, _, .ref A.C_Order, false, rfl, .own _, .base (.str i), T.x_io_str, ?_⟩; walk_at "rd"; walk_at "if1"; exact fin _ rfl
        | non => refine .inl ⟨.non, .ref A.C_Order, _, .ref A.C_Order, false, rfl, .own _, .base .non, T.x_io_non, ?_⟩; walk_at "rd"; walk_at "if1"; exact fin _ rfl
        | lst a xs h => refine .inl ⟨.ref a, .ref A.C_Order, _, .ref A.C_Order, false, rfl, .own _, .base (.lst h), T.x_io_lst, ?_⟩; walk_at "rd"; walk_at "if1"; exact fin _ rfl
        | tup a xs h => refine .inl ⟨.ref a, .ref A.C_Order, _, .ref A.C_Order, false, rfl, .own _, .base (.tup h), T.x_io_tup, ?_⟩; walk_at "rd"; walk_at "if1"; exact fin _ rfl
        | dct a xs h => refine .inl ⟨.ref a, .ref A.C_Order, _, .ref A.C_Order, false, rfl, .own _, .base (.dK h), T.x_io_dct, ?_⟩; walk_at "rd"; walk_at "if1"; exact fin _ rfl
      | fn h =>
        refine .inr ⟨_, _, .ref A.C_Order, .ref A.C_Order, false, rfl, .own _, h, T.x_io_fun, ?_⟩
        walk_at "rd"; walk_at "if1"; exact fin _ rfl
theorem ok_oinit (T : Txt K mg w A) : FnOk P w K mg base CX0 1 A.f_Order___init__ A.d_Order___init__ ["self", "rule"] (sp_oinit A.C_Order) := by
  have hC := T.cl_Order
  have n1 := T.na_Order_own_rule
  have n2 := T.na_Order_times_asked
  refine T.c_Order___init__.F.ok sc_Order___init__ (fun vs H Q E h => ?_) (fun cdv Ar outer s H vs Q E hr h => ?_)
  · obtain ⟨x, dx, f, rfl, _⟩ := h; rfl
  · obtain ⟨x, dx, f, rfl, hx, k⟩ := h
    refine ⟨_, (pss_cons (ps_fld (pv 0) (pv 1) rfl)
      (pss_one (ps_fld (pv 0) pe_int rfl))), ?_⟩
    have S := Hs.start1 hx [x] (.inr rfl)
    walk_at "st"
    walk_at "rd"
    rename_i H1 S1 H2 S2
    exact k _ (S2.get (o := .ins A.C_Order dx (flds f 0)) (by rw [fl_put]; exact List.mem_cons_self)) (fun b o e hb => S2.old1 e hb)
theorem rd_fldaug {f : Str} {ta tv : TE} {rd : V → V → Hp → VK → Prop} {σ : L2.St} {nx : L2.St → Hp → Prop} {rt : VK} {bk ct : L2.St → Hp → Prop} (h : ta σ H fun x H1 => ∃ a C dx fs v, x = .ref a ∧ H1 a = some (.ins C dx fs) ∧ Cls K C ∧ NoAttr K C f ∧ fs.lookup f = some v ∧
  tv σ H1 fun y H2 => rd v y H2 fun z H3 => ∃ dx' fs', H3 a = some (.ins C dx' fs') ∧ fs'.length < 1000 ∧ nx σ (upd H3 a (.ins C dx' (putF f z fs')))) : sFldAug K ta tv rd f ⟨nx, rt, bk, ct⟩ σ H := h
theorem ok_counted (T : Txt K mg w A) : FnOk P w K mg base CX0 1 A.f_Order_counted A.d_Order_counted ["self"] (sp_counted A.C_Order) := by
  have hC := T.cl_Order
  have n2 := T.na_Order_times_asked
  refine T.c_Order_counted.F.ok sc_Order_counted (fun vs H Q E h => ?_) (fun cdv Ar outer s H vs Q E hr h => ?_)
  · obtain ⟨x, dx, f, n, rfl, _⟩ := h; rfl
  · obtain ⟨x, dx, f, n, rfl, hx, k⟩ := h
    refine ⟨_, (pss_one (ps_fldaug (pv 0) pe_int in_add)), ?_⟩
    have S := Hs.start1 hx [x] (.inr rfl)
    walk_at "st"
    walk_at "rd"
    refine rd_fldaug ?_
    walk_at "rd"
    refine ⟨x, _, dx, _, .int n, rfl, hx, hC, n2, fl_times f n, ?_⟩
    walk_at "rd"
    refine ⟨n, 1, rfl, rfl, ⟨dx, _, hx, Nat.le_of_ble_eq_true rfl, ?_⟩⟩
    have S1 := S.put (o' := .ins A.C_Order dx (flds f (n + 1))) .here (.inr (by simp))
    rw [fl_up]
    exact k _ (S1.get (by walk_at "mem")) (fun b o e hb => S1.old1 e hb)
theorem use_counted {C x dx f : Addr} {n : Int} {F : HO → Led} (S : Hs H0 MM H L) (ch : ∀ o', Chg x (.ins C dx (flds f n)) o' L (F o')) (own : H0 x = none ∨ x ∈ MM) (h : ∀ H', Hs H0 MM H' (F (.ins C dx (flds f (n + 1)))) → Q .non H') : sp_counted C [.ref x] H Q E :=
  ⟨x, dx, f, n, rfl, S.is _ (ch (.dK [])).mem, fun H' e k => h H' (S.one (ch _) own k e)⟩
theorem ok_ahead (T : Txt K mg w A) : FnOk P w K mg base CX0 2 A.f_Order_ahead A.d_Order_ahead ["self", "one", "other"] (sp_ahead P w K mg base A.C_Order) := by
  have G_Order_counted : FnOk P w K mg base CX0 1 A.f_Order_counted A.d_Order_counted ["self"] (sp_counted A.C_Order) := ok_counted T
  have hC := T.cl_Order
  have n1 := T.na_Order_own_rule
  refine T.c_Order_ahead.F.ok sc_Order_ahead (fun vs H Q E h => ?_) (fun cdv Ar outer s H vs Q E hr h => ?_)
  · obtain ⟨x, dx, f, n, one, other, b, rfl, _⟩ := h; rfl
  · obtain ⟨x, dx, f, n, one, other, b, rfl, hx, k⟩ := h
    refine ⟨_, (pss_cons (ps_expr (pe_meth0 (pv 0) T.cl_Order T.h_Order_counted G_Order_counted (hr.mono (by decide)) T.c_Order_counted.b .nil pass0))
      (pss_cons (ps_set (i := 3) sc_Order_ahead.nd rfl (Or.inl rfl) (Xh.pe_callF (CX := CX0) (E := E0) (k := 1) (pv 0) (pa_cons (pv 1) (pa_cons (pv 2) pa_nil)) hr (by decide) pass0))
      (pss_cons (ps_if (pt_not (pt_val (pe_callB call_isi (by rfl) T.n_isinstance PyProof.Rows.boot_isinstance (pa_cons (pv 3) (pa_cons (pe_bltn (v := .ty "bool") rfl T.n_bool PyProof.Rows.boot_bool rfl) pa_nil)))))
        (pss_one ps_never)
        pss_nil)
      (pss_one (ps_ret (pv 3)))))), ?_⟩
    have S := Hs.start1 hx [x] (.inr rfl)
    walk_at "st"
    walk_at "rd"
    refine use_counted S (by walk_at "chgF") (by walk_at "own") fun H1 S1 => ?_
    obtain ⟨k1, k2, k3⟩ := k H1 (S1.get (by walk_at "mem")) (fun b o e hb => S1.old1 e hb)
    walk_at "rd"
    refine rd_callFV S1 (by walk_at "mem") hC n1 (fl_rule _ _) k1 ?_
    walk_at "rd"
    refine k2 _ ?_
    walk_at "rd"
    refine rd_isi (Kin.bl b) (kit_bool _) ?_
    walk_at "rd"
    walk_at "if0"
    exact k3
end
end K16

namespace K16
open PySem L2 Rs Xc Xd Xh Xi Xj
/-! the draws -/
def drw (l o b a : Int) : List (Key × V) := [(.inr "left", .int l), (.inr "own", .int o), (.inr "behind", .int b), (.inr "at", .int a)]
theorem k_lo : ¬ (("left" : Str) = "own") := by decide +kernel
theorem k_lb : ¬ (("left" : Str) = "behind") := by decide +kernel
theorem k_la : ¬ (("left" : Str) = "at") := by decide +kernel
theorem k_ob : ¬ (("own" : Str) = "behind") := by decide +kernel
theorem k_oa : ¬ (("own" : Str) = "at") := by decide +kernel
theorem k_ba : ¬ (("behind" : Str) = "at") := by decide +kernel
theorem k_ne {a b : Str} (h : ¬ a = b) : ¬ ((Sum.inr a : Key) = Sum.inr b) := fun e => h (Sum.inr.inj e)
theorem drw_left (l o b a : Int) : valV (drw l o b a) (.inr "left") = some (.int l) := valV_pos rfl
theorem drw_own (l o b a : Int) : valV (drw l o b a) (.inr "own") = some (.int o) := (valV_neg (k_ne k_lo)).trans (valV_pos rfl)
theorem drw_behind (l o b a : Int) : valV (drw l o b a) (.inr "behind") = some (.int b) := (valV_neg (k_ne k_lb)).trans ((valV_neg (k_ne k_ob)).trans (valV_pos rfl))
theorem drw_at (l o b a : Int) : valV (drw l o b a) (.inr "at") = some (.int a) := (valV_neg (k_ne k_la)).trans ((valV_neg (k_ne k_oa)).trans ((valV_neg (k_ne k_ba)).trans (valV_pos rfl)))
theorem put_left (l o b a x : Int) : putK (drw l o b a) (.inr "left") (.int x) = drw x o b a := by
  unfold putK drw
  simp [show ¬ (("own" : Str) = "left") from fun e => k_lo e.symm, show ¬ (("behind" : Str) = "left") from fun e => k_lb e.symm, show ¬ (("at" : Str) = "left") from fun e => k_la e.symm]
theorem put_at (l o b a x : Int) : putK (drw l o b a) (.inr "at") (.int x) = drw l o b x := by
  unfold putK drw
  simp [k_la, k_oa, k_ba]
theorem merge_drw (l o b a : Int) : mergeK [] (toK [(.str "left", .int l), (.str "own", .int o), (.str "behind", .int b), (.str "at", .int a)]) = drw l o b a := by
  simp only [toK, mergeK, List.foldl_cons, List.foldl_nil]
  unfold putK drw
  simp [k_lo, k_lb, k_la, k_ob, k_oa, k_ba, show ¬ (("own" : Str) = "left") from fun e => k_lo e.symm, show ¬ (("behind" : Str) = "left") from fun e => k_lb e.symm, show ¬ (("at" : Str) = "left") from fun e => k_la e.symm, show ¬ (("behind" : Str) = "own") from fun e => k_ob e.symm, show ¬ (("at" : Str) = "own") from fun e => k_oa e.symm, show ¬ (("at" : Str) = "behind") from fun e => k_ba e.symm]
def R_mixed : SepM := fun vs Ch L post => ∃ c k : Int, vs = [.int c, .int k] ∧ L = [] ∧ Ch = [] ∧ 0 ≤ k ∧ k < 2 ^ 20 ∧ post = fun v N L' => ∃ r : Int, v = .int r ∧ 0 ≤ r ∧ r < 2147483629 ∧ N = [] ∧ L' = []
def sp_take : Sp := fun vs H Q _ => ∃ (d : Addr) (l o b a n : Int), vs = [.ref d, .int n] ∧ H d = some (.dK (drw l o b a)) ∧ 1 ≤ n ∧ n < 2 ^ 40 ∧ 0 ≤ a ∧ a < 2 ^ 19 ∧
  ∀ (r l' a' : Int) (H' : Hp), H' d = some (.dK (drw l' o b a')) → (∀ b o, H b = some o → b ≠ d → H' b = some o) → 0 ≤ r → r < n → a ≤ a' → a' ≤ a + 1 → Q (.int r) H'
def sp_begun (K : PySem.W.Frag) : Sp := fun vs H Q _ => ∃ (s : Addr) (ns : List Int) (k : Int), vs = [.ref s, .int k] ∧ SqL K H s (ns.map V.int) ∧ ns.length ≤ 63 ∧ 0 ≤ k ∧ k ≤ 100 ∧
  ∀ (d : Addr) (l o b : Int) (H' : Hp), H d = none → H' d = some (.dK (drw l o b (64 * k))) → Same H H' → Q (.ref d) H'
def sp_size : Sp := fun vs H Q _ => ∃ (d : Addr) (l o b a : Int), vs = [.ref d] ∧ H d = some (.dK (drw l o b a)) ∧ 0 ≤ a ∧ a < 2 ^ 18 ∧
  ∀ (n : Nat) (l' a' : Int) (H' : Hp), H' d = some (.dK (drw l' o b a')) → (∀ b o, H b = some o → b ≠ d → H' b = some o) → n ≤ 65 → a ≤ a' → a' ≤ a + 2 → Q (.int n) H'
def sp_runs : Sp := fun vs H Q _ => ∃ (d : Addr) (l o b a : Int) (m : Nat), vs = [.ref d, .int m] ∧ H d = some (.dK (drw l o b a)) ∧ 0 ≤ a ∧ a < 2 ^ 18 ∧ m ≤ 65 ∧
  ∀ (f : Addr) (ns : List Int) (l' a' : Int) (H' : Hp), H f = none → H' f = some (.lst (ns.map V.int)) → H' d = some (.dK (drw l' o b a')) → (∀ b o, H b = some o → b ≠ d → H' b = some o) → ns.length = m → a ≤ a' → a' ≤ a + 3 * m → Q (.ref f) H'
def sp_numbers : Sp := fun vs H Q _ => ∃ (d : Addr) (l o b a : Int) (m : Nat), vs = [.ref d, .int m] ∧ H d = some (.dK (drw l o b a)) ∧ 0 ≤ a ∧ a < 2 ^ 17 ∧ m ≤ 65 ∧
  ∀ (f : Addr) (ns : List Int) (l' a' : Int) (H' : Hp), H f = none → H' f = some (.lst (ns.map V.int)) → H' d = some (.dK (drw l' o b a')) → (∀ b o, H b = some o → b ≠ d → H' b = some o) → ns.length = m → a ≤ a' → a' ≤ a + 300 → Q (.ref f) H'
theorem two_of (ms : List Int) : ∃ x y : Int, cutV (ms.map V.int ++ [V.int 5, V.int 7]) none (some 2) = [V.int x, V.int y] := by
  unfold cutV
  rw [show (2 : Int) = ((2 : Nat) : Int) from rfl, HT.sIx_nat, HT.sIx_none]
  match ms with
  | [] => exact ⟨_, _, rfl⟩
  | [x] => exact ⟨_, _, rfl⟩
  | x :: y :: r => exact ⟨x, y, by simp⟩
section
variable {P : Program} {w : World} {K : PySem.W.Frag} {mg : Str → Option Value} {base : Heap} {A : Ad} {H H0 : Hp} {MM : List Addr} {L L' F : Led} {Q : VK} {E : XK}
local macro_rules | `(tactic| walk_at "val") => `(tactic| first | exact drw_left _ _ _ _ | exact drw_own _ _ _ _ | exact drw_behind _ _ _ _ | exact drw_at _ _ _ _)
local macro_rules | `(tactic| walk_at "put") => `(tactic| first | exact put_left _ _ _ _ _ | exact put_at _ _ _ _ _ | exact merge_drw _ _ _ _)
theorem ok_mixed (T : Txt K mg w A) : FnOk P w K mg base CX0 1 A.f__law_mixed A.d__law_mixed ["_law_cell", "_law_k"] (SepN R_mixed) := by
  refine T.c__law_mixed.F.ok sc_l_mixed (fun vs H Q E h => ?_) (fun cdv Ar outer s H vs Q E hr h => ?_)
  · obtain ⟨_, _, _, ⟨_, _, rfl, _⟩, _⟩ := h; rfl
  · obtain ⟨Ch, L, post, ⟨c, kk, rfl, rfl, rfl, hk0, hk1, rfl⟩, nd, is, hc, k⟩ := h
    refine ⟨_, (pss_cons (ps_set (i := 2) sc_l_mixed.nd rfl (Or.inl rfl) (pe_op op_add (pe_op op_add (pe_op op_mod (pv 0) (pe_ix ix_list (pe_lst (pa_cons pe_int (pa_cons pe_int (pa_cons pe_int pa_nil)))) (pe_op op_mod (pv 1) pe_int) (fun _ _ => rfl))) (pe_op op_mul pe_int (pv 1))) pe_int))
      (pss_one (ps_ret (pe_op op_mod (pe_op op_mul (pe_op op_mod (pe_op op_pow (pv 2) pe_int) pe_int) (pe_op op_add pe_int (pe_op op_mul pe_int (pv 1)))) pe_int)))), ?_⟩
    have S := Sep.led nd is hc
    walk_at "st"
    walk_at "rd"
    refine rd_ixAny (by assumption) (by walk_at "mem") (by assumption) (by simpa using (by assumption)) fun v hv _ => ?_
    obtain ⟨q, rfl, hq1, hq2⟩ : ∃ q, v = V.int q ∧ 0 < q ∧ q < 2 ^ 31 := by
      simp only [List.mem_cons, List.not_mem_nil, or_false] at hv
      rcases hv with rfl | rfl | rfl <;> exact ⟨_, rfl, by decide, by decide⟩
    walk_at "rd"
    exact k _ _ [] [] ⟨_, rfl, by assumption, by assumption, rfl, rfl⟩ (Hs.sub (by assumption) (List.nil_sublist _)) (fun q h => nomatch h) (fun q h => nomatch h)
theorem use_mixed {c kk : Int} (S : Hs H0 MM H L) (h0 : 0 ≤ kk) (h1 : kk < 2 ^ 20) (h : ∀ (r : Int) (H' : Hp), Hs H0 MM H' L → 0 ≤ r → r < 2147483629 → Q (.int r) H') : SepN R_mixed [.int c, .int kk] H Q E :=
  sepn_use (F := L) S ⟨c, kk, rfl, rfl, rfl, h0, h1, rfl⟩ (fun _ => Nat.le_refl _) (fun c hc => nomatch hc) fun v H' N L' ⟨r, e1, b0, b1, e2, e3⟩ _ S' => by subst e1 e2 e3; exact h r H' S' b0 b1
local macro_rules | `(tactic| walk_at "rd1") => `(tactic| ((with_reducible refine' use_mixed (by assumption) ?a ?b ?_); (case a => omega); (case b => omega); intro r H S h0 h1))
theorem ok_take (T : Txt K mg w A) : FnOk P w K mg base CX0 2 A.f__law_take A.d__law_take ["_law_state", "_law_count"] sp_take := by
  have G__law_mixed : FnOk P w K mg base CX0 1 A.f__law_mixed A.d__law_mixed ["_law_cell", "_law_k"] (SepN R_mixed) := ok_mixed T
  refine T.c__law_take.F.ok sc_l_take (fun vs H Q E h => ?_) (fun cdv Ar outer s H vs Q E hr h => ?_)
  · obtain ⟨_, _, _, _, _, _, rfl, _⟩ := h; rfl
  · obtain ⟨d, l, o, b, a, n, rfl, hd, hn1, hn2, ha1, ha2, k⟩ := h
    have hu := hu_of hr
    refine ⟨_, (pss_cons (ps_if (pt_cmpR op_gt (pe_dget hu (pv 0) pe_str (fun _ _ => rfl)) pe_int (nomark _))
        (pss_cons (ps_set (i := 2) sc_l_take.nd rfl (Or.inl rfl) (pe_op op_mod (pe_dget hu (pv 0) pe_str (fun _ _ => rfl)) (pv 1)))
        (pss_cons (ps_dput hu (pv 0) pe_str (pe_op op_fdivW (pe_dget hu (pv 0) pe_str (fun _ _ => rfl)) (pv 1)) rfl)
        (pss_one (ps_ret (pv 2)))))
        pss_nil)
      (pss_cons (ps_dput hu (pv 0) pe_str (pe_op op_add (pe_dget hu (pv 0) pe_str (fun _ _ => rfl)) pe_int) rfl)
      (pss_cons (ps_set (i := 3) sc_l_take.nd rfl (Or.inl rfl) (pe_op op_add (pe_op op_mul (pe_call G__law_mixed (hr.mono (by decide)) rfl T.c__law_mixed.m T.c__law_mixed.F.kp T.c__law_mixed.b .nil pass0 (pa_cons (pe_dget hu (pv 0) pe_str (fun _ _ => rfl)) (pa_cons (pe_dget hu (pv 0) pe_str (fun _ _ => rfl)) pa_nil))) pe_int) (pe_call G__law_mixed (hr.mono (by decide)) rfl T.c__law_mixed.m T.c__law_mixed.F.kp T.c__law_mixed.b .nil pass0 (pa_cons (pe_dget hu (pv 0) pe_str (fun _ _ => rfl)) (pa_cons (pe_op op_add (pe_dget hu (pv 0) pe_str (fun _ _ => rfl)) pe_int) pa_nil)))))
      (pss_one (ps_ret (pe_op op_mod (pe_op op_fdivW (pv 3) pe_int) (pv 1))))))), ?_⟩
    have S := Hs.start1 hd [d] (.inr rfl)
    have k2 : ∀ (x l' a' : Int) (H' : Hp), Hs H [d] H' [(d, .dK (drw l' o b a'))] → 0 ≤ x → x < n → a ≤ a' → a' ≤ a + 1 → Q (.int x) H' := fun x l' a' H' S h0 h1 h2 h3 =>
      k x l' a' H' (S.get (by walk_at "mem")) (fun b o e hb => S.old1 e hb) h0 h1 h2 h3
    walk_at "st"
    walk_at "rd"
    refine rd_dec ?_ ?_ <;> intro hb
    · walk_at "rd"
      exact k2 _ _ _ _ (by assumption) (by assumption) (by assumption) (by omega) (by omega)
    · walk_at "rd"
      exact k2 _ _ _ _ (by assumption) (by assumption) (by assumption) (by omega) (by omega)
theorem use_take {d : Addr} {l o b a n : Int} {F : HO → Led} (S : Hs H0 MM H L) (ch : ∀ o', Chg d (.dK (drw l o b a)) o' L (F o')) (own : H0 d = none ∨ d ∈ MM) (h1 : 1 ≤ n) (h2 : n < 2 ^ 40) (h3 : 0 ≤ a) (h4 : a < 2 ^ 19)
    (h : ∀ (r l' a' : Int) (H' : Hp), Hs H0 MM H' (F (.dK (drw l' o b a'))) → 0 ≤ r → r < n → a ≤ a' → a' ≤ a + 1 → Q (.int r) H') : sp_take [.ref d, .int n] H Q E :=
  ⟨d, l, o, b, a, n, rfl, S.is _ (ch (.dK [])).mem, h1, h2, h3, h4, fun r l' a' H' e k b1 b2 b3 b4 => h r l' a' H' (S.one (ch _) own k e) b1 b2 b3 b4⟩
theorem ok_begun (T : Txt K mg w A) : FnOk P w K mg base CX0 1 A.f__law_begun A.d__law_begun ["_law_script", "_law_k"] (sp_begun K) := by
  refine T.c__law_begun.F.ok sc_l_begun (fun vs H Q E h => ?_) (fun cdv Ar outer s H vs Q E hr h => ?_)
  · obtain ⟨x, ns, kk, rfl, _⟩ := h; rfl
  · obtain ⟨x, ns, kk, rfl, hs, hn, hk1, hk2, k⟩ := h
    refine ⟨_, (pss_cons (ps_asg (pe_slice sl_list (pe_op op_cat (pe_slice sl_list (pv 0) (po_some (pv 1)) (po_some (pe_op op_add (pv 1) pe_int))) (pe_lst (pa_cons pe_int (pa_cons pe_int pa_nil)))) po_none (po_some pe_int)) (pg_unl rfl (pgs_cons (pg_name (i := 2) sc_l_begun.nd rfl (Or.inl rfl)) (pgs_cons (pg_name (i := 3) sc_l_begun.nd rfl (Or.inl rfl)) pgs_nil))))
      (pss_one (ps_ret (pe_disp (pps_cons pe_str (pe_ifExp (pt_cmpR op_ge (pv 2) (pe_op op_pow pe_int pe_int) (nomark _)) (pv 2) pe_int) (pps_cons pe_str (pv 2) (pps_cons pe_str (pv 3) (pps_cons pe_str (pe_op op_mul pe_int (pv 1)) pps_nil)))) (by rfl) (by rfl) (fun z => by cases z) (by decide))))), ?_⟩
    have S := Hs.start0 H
    walk_at "st"
    walk_at "rd"
    refine ⟨x, _, rfl, S.sq hs (by simp), fun p hp => ?_⟩
    obtain ⟨hp0, S1⟩ := S.newAt (o := .lst (cutV (ns.map V.int) (some kk) (some (kk + 2)))) hp
    rw [cutV_map] at S1 ⊢
    have hz := cutI_le ns (some kk) (some (kk + 2))
    walk_at "rd"
    rename_i S2
    refine Xc.rd_slVx S2 (by walk_at "mem") fun q H3 hq S3 => ?_
    obtain ⟨c, b, e⟩ := two_of (cutI ns (some kk) (some (kk + 2)))
    rw [show cutV (List.map V.int (cutI ns (some kk) (some (kk + 2))) ++ [V.int 5, V.int 7]) none (some 2) = [V.int c, V.int b] from e] at S3
    clear S2 S1 S
    walk_at "rd"
    refine rd_dec ?_ ?_ <;> intro h9
    all_goals (walk_at "rd")
    all_goals (refine k _ _ _ _ _ (by assumption) (Hs.get (by assumption) (by walk_at "mem")) (Hs.same (by assumption)))
local macro_rules | `(tactic| walk_at "rd1") => `(tactic| ((with_reducible refine' K16.use_take (by assumption) ?c ?o ?b1 ?b2 ?b3 ?b4 ?_); (case c => walk_at "chgF"); (case o => walk_at "own"); (case b1 => omega); (case b2 => omega); (case b3 => omega); (case b4 => omega); intro r l a H S h0 h1 h2 h3))
local macro_rules | `(tactic| walk_at "rd1") => `(tactic| ((with_reducible refine' K16.use_take (by assumption) ?c ?o ?b1 ?b2 ?b3 ?b4 ?_); (case c => walk_at "chgF"); (case o => walk_at "own"); (case b1 => omega); (case b2 => omega); (case b3 => omega); (case b4 => omega); intro r l a H S h0 h1 h2 h3))
theorem ok_size (T : Txt K mg w A) : FnOk P w K mg base CX0 3 A.f__law_size A.d__law_size ["_law_state"] sp_size := by
  have G__law_take : FnOk P w K mg base CX0 2 A.f__law_take A.d__law_take ["_law_state", "_law_count"] sp_take := ok_take T
  refine T.c__law_size.F.ok sc_l_size (fun vs H Q E h => ?_) (fun cdv Ar outer s H vs Q E hr h => ?_)
  · obtain ⟨_, _, _, _, _, rfl, _⟩ := h; rfl
  · obtain ⟨d, l, o, b, a, rfl, hd, ha1, ha2, k⟩ := h
    refine ⟨_, (pss_cons (ps_par (i := 1) (j := 2) rfl sc_l_size.nd rfl rfl (by decide) rfl rfl (pa_cons (pe_call G__law_take (hr.mono (by decide)) rfl T.c__law_take.m T.c__law_take.F.kp T.c__law_take.b .nil pass0 (pa_cons (pv 0) (pa_cons pe_int pa_nil))) (pa_cons (pe_call G__law_take (hr.mono (by decide)) rfl T.c__law_take.m T.c__law_take.F.kp T.c__law_take.b .nil pass0 (pa_cons (pv 0) (pa_cons pe_int pa_nil))) pa_nil)) (by rfl))
      (pss_one (ps_ret (pe_ix ix_list (pe_lst (pa_cons pe_int (pa_cons pe_int (pa_cons pe_int (pa_cons pe_int (pa_cons pe_int (pa_cons pe_int (pa_cons pe_int (pa_cons pe_int (pa_cons pe_int (pa_cons pe_int (pa_cons pe_int (pa_cons pe_int (pa_cons pe_int (pa_cons pe_int (pa_cons (pv 2) (pa_cons (pv 2) pa_nil))))))))))))))))) (pv 1) (fun _ _ => rfl))))), ?_⟩
    have S := Hs.start1 hd [d] (.inr rfl)
    walk_at "st"
    walk_at "rd"
    rename_i r1 l1 a1 H1 S1 b0 b1 b2 b3 r2 l2 a2 H2 S2 c0 c1 c2 c3 p3 H3 hp3 S3
    refine rd_ixAny S3 (by walk_at "mem") b0 (by simpa using b1) fun v hv _ => ?_
    obtain ⟨n, rfl, hn2⟩ : ∃ n : Nat, v = V.int n ∧ n ≤ 65 := by
      simp only [List.mem_cons, List.not_mem_nil, or_false] at hv
      rcases hv with rfl | rfl | rfl | rfl | rfl | rfl | rfl | rfl | rfl | rfl | rfl | rfl | rfl | rfl | rfl | rfl
      · exact ⟨0, rfl, by omega⟩
      · exact ⟨1, rfl, by omega⟩
      · exact ⟨2, rfl, by omega⟩
      · exact ⟨3, rfl, by omega⟩
      · exact ⟨7, rfl, by omega⟩
      · exact ⟨8, rfl, by omega⟩
      · exact ⟨9, rfl, by omega⟩
      · exact ⟨15, rfl, by omega⟩
      · exact ⟨16, rfl, by omega⟩
      · exact ⟨17, rfl, by omega⟩
      · exact ⟨33, rfl, by omega⟩
      · exact ⟨63, rfl, by omega⟩
      · exact ⟨64, rfl, by omega⟩
      · exact ⟨65, rfl, by omega⟩
      · exact ⟨r2.toNat, by rw [show ((r2.toNat : Nat) : Int) = r2 by omega], by omega⟩
      · exact ⟨r2.toNat, by rw [show ((r2.toNat : Nat) : Int) = r2 by omega], by omega⟩
    exact k n l2 a2 H3 (S3.get (by walk_at "mem")) (fun b o e hb => S3.old1 e hb) hn2 (by omega) (by omega)
theorem snoc_int (ns : List Int) (x : Int) : ns.map V.int ++ [V.int x] = (ns ++ [x]).map V.int := by simp
theorem ok_runs (T : Txt K mg w A) : FnOk P w K mg base CX0 3 A.f__law_runs A.d__law_runs ["_law_state", "_law_count"] sp_runs := by
  have G__law_take : FnOk P w K mg base CX0 2 A.f__law_take A.d__law_take ["_law_state", "_law_count"] sp_take := ok_take T
  refine T.c__law_runs.F.ok sc_l_runs (fun vs H Q E h => ?_) (fun cdv Ar outer s H vs Q E hr h => ?_)
  · obtain ⟨_, _, _, _, _, _, rfl, _⟩ := h; rfl
  · obtain ⟨d, l, o, b, a, m, rfl, hd, ha1, ha2, hm, k⟩ := h
    refine ⟨_, (pss_cons (ps_set (i := 2) sc_l_runs.nd rfl (Or.inl rfl) (pe_lst pa_nil))
      (pss_cons (ps_while PassesOwn.never (pt_cmpR op_lt (pe_callB call_len_seq (by rfl) T.n_len PySem.boot_len (pa_cons (pv 2) pa_nil)) (pv 1) (nomark _))
        (pss_cons (ps_asg (pe_tup (pa_cons (pe_op op_add pe_int (pe_call G__law_take (hr.mono (by decide)) rfl T.c__law_take.m T.c__law_take.F.kp T.c__law_take.b .nil pass0 (pa_cons (pv 0) (pa_cons pe_int pa_nil)))) (pa_cons (pe_call G__law_take (hr.mono (by decide)) rfl T.c__law_take.m T.c__law_take.F.kp T.c__law_take.b .nil pass0 (pa_cons (pv 0) (pa_cons pe_int pa_nil))) (pa_cons (pe_call G__law_take (hr.mono (by decide)) rfl T.c__law_take.m T.c__law_take.F.kp T.c__law_take.b .nil pass0 (pa_cons (pv 0) (pa_cons pe_int pa_nil))) pa_nil)))) (pg_tup rfl (pgs_cons (pg_name (i := 3) sc_l_runs.nd rfl (Or.inl rfl)) (pgs_cons (pg_name (i := 4) sc_l_runs.nd rfl (Or.inr rfl)) (pgs_cons (pg_name (i := 5) sc_l_runs.nd rfl (Or.inr rfl)) pgs_nil)))))
        (pss_one (ps_set (i := 2) sc_l_runs.nd rfl (Or.inl rfl) (pe_op op_cat (pv 2) (pe_lc (own := [("_law_k", 6)]) (g := gName 6) (tt := tYes) rfl sc_l_runs.nd (pi_range1 rfl T.n_range (pa_cons (pv 3) pa_nil)) (blkOk_by (N := ["_law_state", "_law_count", "_law_found", "_law_size_here", "_law_way", "_law_last", "_law_k"]) (sc := defScope s_l_runs) (by decide +kernel)) (fun _ _ _ _ _ => (pg_name (i := 6) sc_l_runs.nd rfl (Or.inl rfl))) (fun _ _ _ _ _ => pts_nil) (fun _ _ _ _ _ => (pe_ix (show IxR _ (rIxL K) from ix_list) (pe_lst (pa_cons (pe_op op_add (pv 5) (pv 6)) (pa_cons (pe_op op_add (pv 5) (pe_op op_fdivW (pv 6) pe_int)) (pa_cons (pe_op op_sub (pv 5) (pv 6)) pa_nil)))) (pv 4) (fun _ _ => rfl)))))))))
      (pss_one (ps_ret (pe_slice sl_list (pv 2) po_none (po_some (pv 1))))))), ?_⟩
    have S := Hs.start1 hd [d] (.inr rfl)
    walk_at "st"
    walk_at "rd"
    rename_i f0 H1 hf0 S1
    refine rd_while (fun n σ H' => ∃ (f : Addr) (ns : List Int) (l' a' : Int) (o1 o2 o3 : Option V), σ = [some (.ref d), some (.int m), some (.ref f), o1, o2, o3, none] ∧ H f = none ∧ Hs H [d] H' [(f, .lst (ns.map V.int)), (d, .dK (drw l' o b a'))] ∧ a ≤ a' ∧ n = m + 12 - ns.length ∧ ns.length ≤ m + 12 ∧ a' ≤ a + 3 * ns.length ∧ a' ≤ a + 3 * m) (m + 12)
      ⟨f0, [], l, a, none, none, none, rfl, hf0, S1, by omega, by simp, by simp, by simp, by omega⟩ ?_
    clear S1 S
    rintro n σ H2 ⟨f, ns, l', a', o1, o2, o3, rfl, hf, S2, b1, b2, b3, b4, b5⟩
    walk_at "rd"
    refine rd_dec ?_ ?_ <;> intro hc
    · rw [List.length_map] at hc
      walk_at "rd"
      rename_i r1 l1 a1 H3 S3 x0 x1 y0 y1 r2 l2 a2 H4 S4 x20 x21 y20 y21 r3 l3 a3 H5 S5 x30 x31 y30 y31 p H6 hp S6
      have S7 : Hs H [d] H6 [(f, .lst (ns.map V.int)), (d, .dK (drw l3 o b a3))] := S6.sub (by walk_at "sub")
      clear S6 S5 S4 S3 S2
      refine lcw_range S7 (fun i acc => ∃ zs : List Int, acc = zs.map V.int ∧ zs.length = i) ⟨[], rfl, rfl⟩ ?_ ?_
      · rintro D i acc H7 hi ⟨zs, rfl, hz⟩ hD S8
        walk_at "lc"
        rename_i q H8 hq S9
        refine rd_ixAny S9 (by walk_at "mem") x20 (by simpa using x21) fun v hv _ => ?_
        obtain ⟨z, rfl⟩ : ∃ z : Int, v = V.int z := by
          simp only [List.mem_cons, List.not_mem_nil, or_false] at hv
          rcases hv with rfl | rfl | rfl <;> exact ⟨_, rfl⟩
        refine rd_lcPut S9 (by walk_at "chg") hD (Rs.sz' (by rw [List.length_map]; omega)) (by walk_at "sub") ⟨zs ++ [z], by simp, by simp [hz]⟩
      · rintro D acc H7 ⟨zs, rfl, hz⟩ hD S8
        walk_at "rd"
        rename_i q H8 hq S9
        rw [← List.map_append] at S9
        have hl : (ns ++ zs).length = ns.length + (1 + r1).toNat := by rw [List.length_append, hz]
        exact ⟨m + 12 - (ns ++ zs).length, by omega, q, ns ++ zs, l3, a3, _, _, _, rfl, hq, S9.sub (by walk_at "sub"), by omega, rfl, by omega, by omega, by omega⟩
    · rw [List.length_map] at hc
      walk_at "rd"
      rename_i q H8 hq S9
      have hl : (cutI ns none (some (m : Int))).length = m := by
        unfold cutI
        rw [HT.sIx_nat, HT.sIx_none]
        simp
        omega
      exact k q _ l' a' H8 hq (S9.get (by walk_at "mem")) (S9.get (by walk_at "mem")) (fun b o e hb => S9.old1 e hb) hl (by omega) (by omega)
theorem use_runs {d : Addr} {l o b a : Int} {m : Nat} {F : HO → Led} (S : Hs H0 MM H L) (ch : ∀ o', Chg d (.dK (drw l o b a)) o' L (F o')) (own : H0 d = none ∨ d ∈ MM) (h3 : 0 ≤ a) (h4 : a < 2 ^ 18) (hm : m ≤ 65)
    (h : ∀ (f : Addr) (ns : List Int) (l' a' : Int) (H' : Hp), H0 f = none → Hs H0 MM H' ((f, .lst (ns.map V.int)) :: F (.dK (drw l' o b a'))) → ns.length = m → a ≤ a' → a' ≤ a + 3 * m → Q (.ref f) H') : sp_runs [.ref d, .int m] H Q E :=
  ⟨d, l, o, b, a, m, rfl, S.is _ (ch (.dK [])).mem, h3, h4, hm, fun f ns l' a' H' hf e1 e2 k b1 b2 b3 => by
    obtain ⟨h0, S'⟩ := S.one1 (ch _) own k e2 hf e1
    exact h f ns l' a' H' h0 S' b1 b2 b3⟩
theorem if_via {b : Bool} {te1 te2 : TE} {σ : L2.St} {C : VK} (Post : Int → Hp → Prop) (h1 : b = true → ∀ C' : VK, (∀ i H', Post i H' → C' (.int i) H') → te1 σ H C') (h2 : b = false → ∀ C' : VK, (∀ i H', Post i H' → C' (.int i) H') → te2 σ H C') (k : ∀ i H', Post i H' → C (.int i) H') : if b = true then te1 σ H C else te2 σ H C := by
  cases b with
  | true => exact h1 rfl C k
  | false => exact h2 rfl C k
theorem seq_via {t u : TS} {σ : L2.St} {nx : L2.St → Hp → Prop} {rt : VK} {bk ct : L2.St → Hp → Prop} (R : L2.St → Hp → Prop) (h : ∀ nx : L2.St → Hp → Prop, (∀ σ' H', R σ' H' → nx σ' H') → t ⟨nx, rt, bk, ct⟩ σ H) (k : ∀ σ' H', R σ' H' → u ⟨nx, rt, bk, ct⟩ σ' H') : tSeq t u ⟨nx, rt, bk, ct⟩ σ H := h _ k
theorem ixN_set {n : Nat} {i : Int} (h0 : 0 ≤ i) (h1 : i < n) : ixN n i = some i.toNat := by
  unfold ixN
  rw [if_pos h0, if_pos (by omega)]
theorem rep_one (m : Nat) (z : Int) : (List.replicate m [V.int z]).flatten = (List.replicate m z).map V.int := by
  induction m with
  | zero => rfl
  | succ m ih => rw [List.replicate_succ, List.flatten_cons, ih, List.replicate_succ, List.map_cons]; rfl
theorem set_ints (ns : List Int) (j : Nat) (z : Int) : (ns.map V.int).set j (.int z) = (ns.set j z).map V.int := by rw [List.map_set]
theorem ok_numbers (T : Txt K mg w A) : FnOk P w K mg base CX0 4 A.f__law_numbers A.d__law_numbers ["_law_state", "_law_count"] sp_numbers := by
  have G__law_take : FnOk P w K mg base CX0 2 A.f__law_take A.d__law_take ["_law_state", "_law_count"] sp_take := ok_take T
  have G__law_runs : FnOk P w K mg base CX0 3 A.f__law_runs A.d__law_runs ["_law_state", "_law_count"] sp_runs := ok_runs T
  refine T.c__law_numbers.F.ok sc_l_numbers (fun vs H Q E h => ?_) (fun cdv Ar outer s H vs Q E hr h => ?_)
  · obtain ⟨_, _, _, _, _, _, rfl, _⟩ := h; rfl
  · obtain ⟨d, l, o, b, a, m, rfl, hd, ha1, ha2, hm, k⟩ := h
    refine ⟨_, (pss_cons (ps_asg (pe_tup (pa_cons (pe_call G__law_take (hr.mono (by decide)) rfl T.c__law_take.m T.c__law_take.F.kp T.c__law_take.b .nil pass0 (pa_cons (pv 0) (pa_cons pe_int pa_nil))) (pa_cons (pe_op op_add pe_int (pe_call G__law_take (hr.mono (by decide)) rfl T.c__law_take.m T.c__law_take.F.kp T.c__law_take.b .nil pass0 (pa_cons (pv 0) (pa_cons pe_int pa_nil)))) (pa_cons (pe_call G__law_take (hr.mono (by decide)) rfl T.c__law_take.m T.c__law_take.F.kp T.c__law_take.b .nil pass0 (pa_cons (pv 0) (pa_cons pe_int pa_nil))) pa_nil)))) (pg_tup rfl (pgs_cons (pg_name (i := 2) sc_l_numbers.nd rfl (Or.inl rfl)) (pgs_cons (pg_name (i := 3) sc_l_numbers.nd rfl (Or.inr rfl)) (pgs_cons (pg_name (i := 4) sc_l_numbers.nd rfl (Or.inr rfl)) pgs_nil)))))
      (pss_cons (ps_set (i := 5) sc_l_numbers.nd rfl (Or.inl rfl) (pe_ifExp (pt_cmpR op_gt (pv 1) pe_int (nomark _)) (pe_ix ix_list (pe_lst (pa_cons pe_int (pa_cons pe_int (pa_cons pe_int (pa_cons pe_int pa_nil))))) (pe_call G__law_take (hr.mono (by decide)) rfl T.c__law_take.m T.c__law_take.F.kp T.c__law_take.b .nil pass0 (pa_cons (pv 0) (pa_cons pe_int pa_nil))) (fun _ _ => rfl)) pe_int))
      (pss_cons (ps_if (pt_cmpR op_eq (pv 2) pe_int (nomark _))
        (pss_one (ps_setLc (i := 6) (own := [("_law_k", 8)]) (g := gName 8) (tt := tYes) rfl sc_l_numbers.nd rfl rfl (by rfl) (pi_range1 rfl T.n_range (pa_cons (pv 1) pa_nil)) (blkOk_by (N := ["_law_state", "_law_count", "_law_way", "_law_step", "_law_base", "_law_others", "_law_found", "_law_turn", "_law_k"]) (sc := defScope s_l_numbers) (by decide +kernel)) (fun _ _ _ _ _ => (pg_name (i := 8) sc_l_numbers.nd rfl (Or.inl rfl))) (fun _ _ _ _ _ => pts_nil) (fun _ _ _ _ _ => (pe_call G__law_take (hr.mono (by decide)) rfl T.c__law_take.m T.c__law_take.F.kp T.c__law_take.b .nil pass0 (pa_cons (pv 0) (pa_cons (pe_op op_add pe_int (pv 3)) pa_nil))))))
        (pss_one (ps_if (pt_cmpR op_eq (pv 2) pe_int (nomark _))
          (pss_one (ps_setLc (i := 6) (own := [("_law_k", 8)]) (g := gName 8) (tt := tYes) rfl sc_l_numbers.nd rfl rfl (by rfl) (pi_range1 rfl T.n_range (pa_cons (pv 1) pa_nil)) (blkOk_by (N := ["_law_state", "_law_count", "_law_way", "_law_step", "_law_base", "_law_others", "_law_found", "_law_turn", "_law_k"]) (sc := defScope s_l_numbers) (by decide +kernel)) (fun _ _ _ _ _ => (pg_name (i := 8) sc_l_numbers.nd rfl (Or.inl rfl))) (fun _ _ _ _ _ => pts_nil) (fun _ _ _ _ _ => (pe_op op_fdivW (pv 8) (pv 3)))))
          (pss_one (ps_if (pt_cmpR op_eq (pv 2) pe_int (nomark _))
            (pss_one (ps_setLc (i := 6) (own := [("_law_k", 8)]) (g := gName 8) (tt := tYes) rfl sc_l_numbers.nd rfl rfl (by rfl) (pi_range1 rfl T.n_range (pa_cons (pv 1) pa_nil)) (blkOk_by (N := ["_law_state", "_law_count", "_law_way", "_law_step", "_law_base", "_law_others", "_law_found", "_law_turn", "_law_k"]) (sc := defScope s_l_numbers) (by decide +kernel)) (fun _ _ _ _ _ => (pg_name (i := 8) sc_l_numbers.nd rfl (Or.inl rfl))) (fun _ _ _ _ _ => pts_nil) (fun _ _ _ _ _ => (pe_op op_sub (pv 4) (pe_op op_mul (pv 3) (pv 8))))))
            (pss_one (ps_if (pt_cmpR op_eq (pv 2) pe_int (nomark _))
              (pss_one (ps_setLc (i := 6) (own := [("_law_k", 8)]) (g := gName 8) (tt := tYes) rfl sc_l_numbers.nd rfl rfl (by rfl) (pi_range1 rfl T.n_range (pa_cons (pv 1) pa_nil)) (blkOk_by (N := ["_law_state", "_law_count", "_law_way", "_law_step", "_law_base", "_law_others", "_law_found", "_law_turn", "_law_k"]) (sc := defScope s_l_numbers) (by decide +kernel)) (fun _ _ _ _ _ => (pg_name (i := 8) sc_l_numbers.nd rfl (Or.inl rfl))) (fun _ _ _ _ _ => pts_nil) (fun _ _ _ _ _ => (pe_op op_mod (pe_ix (show IxR _ (rIxL K) from ix_list) (pe_lst (pa_cons (pv 8) (pa_cons (pe_op op_sub pe_int (pv 8)) pa_nil))) (pe_op op_mod (pv 4) pe_int) (fun _ _ => rfl)) (pe_op op_add pe_int (pv 3))))))
              (pss_one (ps_if (pt_cmpR op_eq (pv 2) pe_int (nomark _))
                (pss_one (ps_set (i := 6) sc_l_numbers.nd rfl (Or.inl rfl) (pe_op op_rep (pe_lst (pa_cons (pv 4) pa_nil)) (pv 1))))
                (pss_one (ps_if (pt_cmpR op_eq (pv 2) pe_int (nomark _))
                  (pss_one (ps_setLc (i := 6) (own := [("_law_k", 8)]) (g := gName 8) (tt := tYes) rfl sc_l_numbers.nd rfl rfl (by rfl) (pi_range1 rfl T.n_range (pa_cons (pv 1) pa_nil)) (blkOk_by (N := ["_law_state", "_law_count", "_law_way", "_law_step", "_law_base", "_law_others", "_law_found", "_law_turn", "_law_k"]) (sc := defScope s_l_numbers) (by decide +kernel)) (fun _ _ _ _ _ => (pg_name (i := 8) sc_l_numbers.nd rfl (Or.inl rfl))) (fun _ _ _ _ _ => pts_nil) (fun _ _ _ _ _ => (pe_call G__law_take (hr.mono (by decide)) rfl T.c__law_take.m T.c__law_take.F.kp T.c__law_take.b .nil pass0 (pa_cons (pv 0) (pa_cons pe_int pa_nil))))))
                  (pss_one (ps_set (i := 6) sc_l_numbers.nd rfl (Or.inl rfl) (pe_call G__law_runs (hr.mono (by decide)) rfl T.c__law_runs.m T.c__law_runs.F.kp T.c__law_runs.b .nil pass0 (pa_cons (pv 0) (pa_cons (pv 1) pa_nil))))))))))))))))
      (pss_cons (ps_for PassesOwn.never rfl (pi_range1 rfl T.n_range (pa_cons (pv 5) pa_nil)) (pg_name (i := 7) sc_l_numbers.nd rfl (Or.inl rfl))
        (pss_one (ps_asg (pe_call G__law_take (hr.mono (by decide)) rfl T.c__law_take.m T.c__law_take.F.kp T.c__law_take.b .nil pass0 (pa_cons (pv 0) (pa_cons pe_int pa_nil))) (pg_sub (pv 6) (pe_call G__law_take (hr.mono (by decide)) rfl T.c__law_take.m T.c__law_take.F.kp T.c__law_take.b .nil pass0 (pa_cons (pv 0) (pa_cons (pv 1) pa_nil))) set_list))))
      (pss_one (ps_ret (pv 6))))))), ?_⟩
    have S := Hs.start1 hd [d] (.inr rfl)
    walk_at "st"
    walk_at "rd"
    rename_i r1 l1 a1 H1 S1 x0 x1 y0 y1 r2 l2 a2 H2 S2 x20 x21 y20 y21 r3 l3 a3 H3 S3 x30 x31 y30 y31 p H4 hp S4
    have S5 : Hs H [d] H4 [(d, .dK (drw l3 o b a3))] := S4.sub (by walk_at "sub")
    clear S4 S3 S2 S1 S
    refine if_via (fun i H' => ∃ l' a', Hs H [d] H' [(d, .dK (drw l' o b a'))] ∧ a ≤ a' ∧ a' ≤ a + 4 ∧ 0 ≤ i ∧ i ≤ 3 ∧ (0 < i → 0 < m)) ?_ ?_ ?_
    · intro hb C hC
      have hb := of_decide_eq_true hb
      walk_at "rd"
      rename_i q H5 hq S6 r4 l4 a4 H6 S7 x40 x41 y40 y41
      refine rd_ixAny S7 (by walk_at "mem") x40 (by simpa using x41) fun v hv _ => ?_
      obtain ⟨i, rfl, i0, i1⟩ : ∃ i : Int, v = .int i ∧ 0 ≤ i ∧ i ≤ 3 := by
        simp only [List.mem_cons, List.not_mem_nil, or_false] at hv
        rcases hv with rfl | rfl | rfl | rfl <;> exact ⟨_, rfl, by omega, by omega⟩
      exact hC i H6 ⟨l4, a4, S7.sub (by walk_at "sub"), by omega, by omega, i0, i1, fun _ => by omega⟩
    · intro hb C hC
      exact hC 0 H4 ⟨l3, a3, S5, by omega, by omega, by omega, by omega, fun z => by omega⟩
    · rintro ot H5 ⟨l4, a4, S6, b1, b2, b3, b4, b5⟩
      clear S5
      show tSeq _ _ _ _ _
      refine seq_via (fun σ H' => ∃ (f : Addr) (ns : List Int) (l' a' : Int), σ = [some (.ref d), some (.int m), some (.int r1), some (.int (1 + r2)), some (.int r3), some (.int ot), some (.ref f), none, none] ∧ H f = none ∧ Hs H [d] H' [(f, .lst (List.map V.int ns)), (d, .dK (drw l' o b a'))] ∧ ns.length = m ∧ a ≤ a' ∧ a' ≤ a + 250) ?_ ?_
      · intro nx hk
        have fin : ∀ (zs : List Int) (D : Addr) (L9 : Led) (l9 a9 : Int) (H9 : Hp), H D = none → Hs H [d] H9 L9 → (∀ x, cn x [(D, HO.lst (zs.map V.int)), (d, .dK (drw l9 o b a9))] ≤ cn x L9) → zs.length = m → a ≤ a9 → a9 ≤ a + 250 → nx [some (.ref d), some (.int m), some (.int r1), some (.int (1 + r2)), some (.int r3), some (.int ot), some (.ref D), none, none] H9 :=
          fun zs D L9 l9 a9 H9 hD S9 pm hz c1 c2 => hk _ _ ⟨D, zs, l9, a9, rfl, hD, S9.re pm, hz, c1, c2⟩
        have tn : ((m : Int)).toNat = m := by omega
        walk_at "rd"
        refine rd_dec ?_ ?_ <;> intro hc
        · walk_at "rd"
          rw [tn]
          refine Xg.lcv_range S6 (fun j acc L' => ∃ (zs : List Int) (l' a' : Int), acc = zs.map V.int ∧ zs.length = j ∧ L' = [(d, .dK (drw l' o b a'))] ∧ a4 ≤ a' ∧ a' ≤ a4 + j) ⟨[], l4, a4, rfl, rfl, rfl, by omega, by omega⟩ ?_ ?_
          · rintro D j acc L' H' hj ⟨zs, l', a', rfl, hz, rfl, c3, c4⟩ hD S
            clear S6
            walk_at "lc"
            rename_i r9 l9 a9 H9 S9 z0 z1 z2 z3
            refine Xg.rd_lvPut (acc := zs.map V.int) (L1 := [(d, .dK (drw l9 o b a9))]) S9 (by walk_at "led") hD (Rs.sz' (by rw [List.length_map]; omega)) ⟨zs ++ [r9], l9, a9, by simp, by simp [hz], rfl, by omega, by omega⟩
          · rintro D acc L' H' ⟨zs, l', a', rfl, hz, rfl, c3, c4⟩ hD S
            clear S6
            walk_at "rd"
            exact fin zs D _ l' a' _ hD (by assumption) (by walk_at "led") hz (by omega) (by omega)
        · walk_at "rd"
          refine rd_dec ?_ ?_ <;> intro hc2
          · walk_at "rd"
            rw [tn]
            refine lcw_range S6 (fun i acc => ∃ zs : List Int, acc = zs.map V.int ∧ zs.length = i) ⟨[], rfl, rfl⟩ ?_ ?_
            · rintro D i acc H7 hi ⟨zs, rfl, hz⟩ hD S8
              walk_at "lc"
              refine rd_lcPut S8 (by walk_at "chg") hD (Rs.sz' (by rw [List.length_map]; omega)) (by walk_at "sub") ⟨zs ++ [_], snoc_int zs _, by simp [hz]⟩
            · rintro D acc H7 ⟨zs, rfl, hz⟩ hD S8
              walk_at "rd"
              exact fin zs D _ l4 a4 _ hD (by assumption) (by walk_at "led") hz (by omega) (by omega)
          · walk_at "rd"
            refine rd_dec ?_ ?_ <;> intro hc3
            · walk_at "rd"
              rw [tn]
              refine lcw_range S6 (fun i acc => ∃ zs : List Int, acc = zs.map V.int ∧ zs.length = i) ⟨[], rfl, rfl⟩ ?_ ?_
              · rintro D i acc H7 hi ⟨zs, rfl, hz⟩ hD S8
                walk_at "lc"
                refine rd_lcPut S8 (by walk_at "chg") hD (Rs.sz' (by rw [List.length_map]; omega)) (by walk_at "sub") ⟨zs ++ [_], snoc_int zs _, by simp [hz]⟩
              · rintro D acc H7 ⟨zs, rfl, hz⟩ hD S8
                walk_at "rd"
                exact fin zs D _ l4 a4 _ hD (by assumption) (by walk_at "led") hz (by omega) (by omega)
            · walk_at "rd"
              refine rd_dec ?_ ?_ <;> intro hc4
              · walk_at "rd"
                rw [tn]
                refine lcw_range S6 (fun i acc => ∃ zs : List Int, acc = zs.map V.int ∧ zs.length = i) ⟨[], rfl, rfl⟩ ?_ ?_
                · rintro D i acc H7 hi ⟨zs, rfl, hz⟩ hD S8
                  walk_at "lc"
                  rename_i q H8 hq S9 q2 e2 q20 q21
                  refine rd_ixAny S9 (by walk_at "mem") q20 (by simpa using q21) fun v hv _ => ?_
                  obtain ⟨z, rfl⟩ : ∃ z : Int, v = V.int z := by
                    simp only [List.mem_cons, List.not_mem_nil, or_false] at hv
                    rcases hv with rfl | rfl <;> exact ⟨_, rfl⟩
                  walk_at "rd"
                  refine rd_lcPut S9 (by walk_at "chg") hD (Rs.sz' (by rw [List.length_map]; omega)) (by walk_at "sub") ⟨zs ++ [_], snoc_int zs _, by simp [hz]⟩
                · rintro D acc H7 ⟨zs, rfl, hz⟩ hD S8
                  walk_at "rd"
                  exact fin zs D _ l4 a4 _ hD (by assumption) (by walk_at "led") hz (by omega) (by omega)
              · walk_at "rd"
                refine rd_dec ?_ ?_ <;> intro hc5
                · walk_at "rd"
                  rename_i q H8 hq S9
                  refine rd_repL S9 (by walk_at "mem") (by omega) (by omega) (by rw [tn]; exact Nat.le_of_lt (Rs.sz' (by simp; omega))) fun D H9 hD S10 => ?_
                  rw [tn, rep_one] at S10
                  walk_at "rd"
                  exact fin (List.replicate m r3) D _ l4 a4 _ hD S10 (by walk_at "led") (by simp) (by omega) (by omega)
                · walk_at "rd"
                  refine rd_dec ?_ ?_ <;> intro hc6
                  · walk_at "rd"
                    rw [tn]
                    refine Xg.lcv_range S6 (fun j acc L' => ∃ (zs : List Int) (l' a' : Int), acc = zs.map V.int ∧ zs.length = j ∧ L' = [(d, .dK (drw l' o b a'))] ∧ a4 ≤ a' ∧ a' ≤ a4 + j) ⟨[], l4, a4, rfl, rfl, rfl, by omega, by omega⟩ ?_ ?_
                    · rintro D j acc L' H' hj ⟨zs, l', a', rfl, hz, rfl, c3, c4⟩ hD S
                      clear S6
                      walk_at "lc"
                      rename_i r9 l9 a9 H9 S9 z0 z1 z2 z3
                      refine Xg.rd_lvPut (acc := zs.map V.int) (L1 := [(d, .dK (drw l9 o b a9))]) S9 (by walk_at "led") hD (Rs.sz' (by rw [List.length_map]; omega)) ⟨zs ++ [r9], l9, a9, by simp, by simp [hz], rfl, by omega, by omega⟩
                    · rintro D acc L' H' ⟨zs, l', a', rfl, hz, rfl, c3, c4⟩ hD S
                      clear S6
                      walk_at "rd"
                      exact fin zs D _ l' a' _ hD (by assumption) (by walk_at "led") hz (by omega) (by omega)
                  · walk_at "rd"
                    refine use_runs S6 (by walk_at "chgF") (by walk_at "own") (by omega) (by omega) hm fun f ns l' a' H' hf S7 e1 e2 e3 => ?_
                    walk_at "rd"
                    exact fin ns f _ l' a' _ hf (by assumption) (by walk_at "led") e1 (by omega) (by omega)
      · rintro σ H6 ⟨f, ns, l5, a5, rfl, hf, S7, e1, e2, e3⟩
        clear S6
        walk_at "rd"
        refine fw_range (fun i σ H' => ∃ (o7 : Option V) (ns : List Int) (l' a' : Int), σ = [some (.ref d), some (.int m), some (.int r1), some (.int (1 + r2)), some (.int r3), some (.int ot), some (.ref f), o7, none] ∧ Hs H [d] H' [(f, .lst (List.map V.int ns)), (d, .dK (drw l' o b a'))] ∧ ns.length = m ∧ a ≤ a' ∧ a' ≤ a + 250 + 2 * i) ⟨none, ns, l5, a5, rfl, S7, e1, e2, by omega⟩ ?_ ?_
        · clear S7 e1 e2 e3
          rintro i σ H7 hi ⟨o7, ns, l6, a6, rfl, S7, e1, e2, e3⟩
          have hm0 : 0 < m := b5 (by omega)
          walk_at "rd"
          rename_i ra la aa Ha Sa za0 za1 za2 za3 rb lb ab Hb Sb zb0 zb1 zb2 zb3
          refine gt_setL (xs := ns.map V.int) (j := rb.toNat) Sb (by walk_at "chg") (.inl hf) (ixN_set zb0 (by rw [List.length_map]; omega)) fun H9 S9 => ?_
          rw [set_ints] at S9
          exact ⟨_, ns.set rb.toNat ra, lb, ab, rfl, S9, by rw [List.length_set]; exact e1, by omega, by omega⟩
        · rintro σ H7 ⟨o7, ns, l6, a6, rfl, S8, e1, e2, e3⟩
          walk_at "rd"
          exact k f ns l6 a6 H7 hf (S8.get (by walk_at "mem")) (S8.get (by walk_at "mem")) (fun b o e hb => S8.old1 e hb) e1 (by omega) (by omega)
end
end K16

namespace K16
open PySem L2 Rs Xc Xd Xg Xh Xi Xj Xk Xl
/-! the order's rule -/
def forB : Stmt → List Stmt
  | .For (body := b) .. => b
  | _ => []
def asgV : Stmt → Expr
  | .Assign (value := v) .. => v
  | _ => .Constant .none 0 ⟨0, 0, 0, 0⟩
def argE : Expr → Expr
  | .Call _ (e :: _) _ _ => e
  | e => e
def lamP : Expr → Arguments
  | .Lambda p _ _ _ => p
  | _ => ⟨[], [], none, [], [], none, []⟩
def lamB : Expr → Expr
  | .Lambda _ b _ _ => b
  | e => e
def lamS : Expr → Scope
  | .Lambda _ _ s _ => s
  | _ => defScope s_l_mixed
def ifT : Stmt → Expr
  | .If (test := t) .. => t
  | _ => .Constant .none 0 ⟨0, 0, 0, 0⟩
def unE : Expr → Expr
  | .UnaryOp _ e _ => e
  | e => e
def arg3 : Expr → Expr
  | .Call _ (_ :: _ :: e :: _) _ _ => e
  | e => e
abbrev ruleE : Expr := argE (arg3 (unE (ifT ((forB ((defBody s_law).getD 0 (.Pass ⟨0, 0, 0, 0⟩))).getD 4 (.Pass ⟨0, 0, 0, 0⟩)))))
abbrev lamQ : Str := (("law" : Str) ++ ".<locals>.") ++ "<lambda>"
abbrev ruleF (c' : Addr) : LF := ⟨lamQ, lamP ruleE, lamB ruleE, lamS ruleE, [], c'⟩
theorem rule_scope : NdefX.NScope ["_law_one", "_law_other"] ["_law_one", "_law_other"] [] (lamS ruleE) := NdefX.nscope_by (by decide +kernel)
/-- the rule's function as it stands -/
def RuleAt (H : Hp) (f : Addr) : Prop := ∃ c', H f = some (LamO f (ruleF c')) ∧ H c' = some (LamX.CodeO c' lamQ)
/-- a thing and its number -/
def Key (H : Hp) (v : V) (z : Int) : Prop := ∃ (a : Addr) (rest : List V), v = .ref a ∧ H a = some (.tup (.int z :: rest))
def Keys (H : Hp) (xs : List V) (ks : List Int) : Prop := xs.length = ks.length ∧ ∀ (i : Nat) (v : V) (z : Int), xs[i]? = some v → ks[i]? = some z → Key H v z
theorem Key.but {H H' : Hp} {v : V} {z : Int} {j C dx : Addr} {fs : List (Str × V)} (k : Key H v z) (hj : H j = some (.ins C dx fs)) (o : ∀ b o, H b = some o → b ≠ j → H' b = some o) : Key H' v z := by
  obtain ⟨a, r, rfl, h⟩ := k
  exact ⟨a, r, rfl, o _ _ h (ne_of h hj (fun z => by cases z))⟩
theorem RuleAt.but {H H' : Hp} {f j C dx : Addr} {fs : List (Str × V)} (k : RuleAt H f) (hj : H j = some (.ins C dx fs)) (o : ∀ b o, H b = some o → b ≠ j → H' b = some o) : RuleAt H' f := by
  obtain ⟨c', h, h2⟩ := k
  exact ⟨c', o _ _ h (ne_of h hj (fun z => by cases z)), o _ _ h2 (ne_of h2 hj (fun z => by cases z))⟩
theorem Keys.but {H H' : Hp} {xs : List V} {ks : List Int} {j C dx : Addr} {fs : List (Str × V)} (k : Keys H xs ks) (hj : H j = some (.ins C dx fs)) (o : ∀ b o, H b = some o → b ≠ j → H' b = some o) : Keys H' xs ks :=
  ⟨k.1, fun i v z h1 h2 => (k.2 i v z h1 h2).but hj o⟩
/-! runs -/
def lt (ks : List Int) (i : Nat) : Bool := decide (ks.getD i 0 < ks.getD (i - 1) 0)
def RunP (ks : List Int) (st last m : Nat) (f : Bool) : Prop := 1 ≤ m ∧ st + m ≤ last ∧ (∀ i, st < i → i < st + m → lt ks i = f) ∧ (st + m = last ∨ lt ks (st + m) ≠ f) ∧ (m = 1 → f = false)
def lastOf (e : V) (n : Nat) : Int := match e with
  | .int i => i
  | _ => n
def iv : V → Int
  | .int i => i
  | _ => 0
def BadR (A : Ad) (H : Hp) (v : V) (E : XK) : Prop := (NoL A H v ∧ Raise A.C_BadKind "wanted" (.str "list") H E) ∨ (∃ a xs, v = .ref a ∧ H a = some (.lst xs) ∧ 4096 < xs.length ∧ Raise A.C_TooMany "most" (.int 4096) H E)
theorem BadR.row {A : Ad} {H : Hp} {v : V} {Q : VK} {E : XK} (h : BadR A H v E) : sp_row A [v] H Q E := ⟨v, rfl, .inr (h.imp_left fun z => z)⟩
def BadO (A : Ad) (H : Hp) (j : V) (E : XK) : Prop := NoO H j ∧ Raise A.C_BadKind "wanted" (.str "Order") H E
def sp_run (A : Ad) : Sp := fun vs H Q E => ∃ (r j s e : V), vs = [r, j, s, e] ∧ (BadR A H r E ∨ ∃ (a : Addr) (xs : List V), r = .ref a ∧ H a = some (.lst xs) ∧ xs.length ≤ 4096 ∧ (BadO A H j E ∨ ∃ (x dx : Addr) (fs : List (Str × V)), j = .ref x ∧ H x = some (.ins A.C_Order dx fs) ∧ Odd H s ∧ Odd H e ∧
  ((isWh s 0 ((xs.length : Int) - 1) = false ∧ Raise A.C_BadNumber "at" s H E) ∨
   (isWh s 0 ((xs.length : Int) - 1) = true ∧ e ≠ .non ∧ isWh e (iv s + 1) xs.length = false ∧ Raise A.C_BadNumber "at" e H E) ∨
   ∃ (st last : Nat) (f : Addr) (n : Int) (ks : List Int), s = .int st ∧ (e = .non ∧ last = xs.length ∨ e = .int last) ∧ st < last ∧ last ≤ xs.length ∧ fs = flds f n ∧ RuleAt H f ∧ Keys H xs ks ∧
     ∀ (t : Addr) (m : Nat) (fl : Bool) (n' : Int) (H' : Hp), H t = none → H' t = some (.tup [.int m, .bl fl]) → H' x = some (.ins A.C_Order dx (flds f n')) → (∀ b o, H b = some o → b ≠ x → H' b = some o) → RunP ks st last m fl → Q (.ref t) H')))
def turned (xs : List V) (st sp : Nat) : List V := xs.take st ++ ((xs.drop st).take (sp - st)).reverse ++ xs.drop sp
def sp_turn (A : Ad) : Sp := fun vs H Q E => ∃ (r s e : V), vs = [r, s, e] ∧ (BadR A H r E ∨ ∃ (a : Addr) (xs : List V), r = .ref a ∧ H a = some (.lst xs) ∧ xs.length ≤ 4096 ∧ Odd H s ∧ Odd H e ∧
  ((isWh s 0 (xs.length : Int) = false ∧ Raise A.C_BadNumber "at" s H E) ∨
   (isWh s 0 (xs.length : Int) = true ∧ isWh e (iv s + 0) xs.length = false ∧ Raise A.C_BadNumber "at" e H E) ∨
   ∃ (st sp : Nat), s = .int st ∧ e = .int sp ∧ st ≤ sp ∧ sp ≤ xs.length ∧ ∀ H', H' a = some (.lst (turned xs st sp)) → (∀ b o, H b = some o → b ≠ a → H' b = some o) → Q .non H'))
section
variable {P : Program} {w : World} {K : PySem.W.Frag} {mg : Str → Option Value} {base : Heap} {A : Ad} {H H0 : Hp} {MM : List Addr} {L L' F : Led} {Q : VK} {E : XK}
local macro_rules | `(tactic| walk_at "rd1") => `(tactic| first
  | with_reducible refine Xc.rd_bi ?_
  | with_reducible refine Xc.rd_put1 ?_
  | with_reducible refine Xc.rd_tmk ?_
  | with_reducible refine Xc.rd_xv ?_
  | with_reducible refine Xh.rd_callF ?_)
theorem at_key {z : Int} {rest : List V} : atI (V.int z :: rest) 0 = some (.int z) := by
  unfold atI
  simp [ixN]
theorem rule_calls {f : Addr} {one other : V} {z1 z2 : Int} (hr : RuleAt H f) (k1 : Key H one z1) (k2 : Key H other z2) (hQ : Q (.bl (decide (z1 < z2))) H) : CallsTo P w K mg base CX0 1 f H [one, other] Q E0 := by
  obtain ⟨c', hf, hc⟩ := hr
  obtain ⟨a1, r1, rfl, h1⟩ := k1
  obtain ⟨a2, r2, rfl, h2⟩ := k2
  refine calls_lam (F := ruleF c') rule_scope rfl (fun pm ctv us hl => match us, hl with | [_, _], _ => rfl) rfl hf hc (fun A outer s hr => (pe_cmpR op_lt (pe_ix (show IxR _ (rIxT K) from ix_tup) (pv 0) pe_int (fun _ _ => rfl)) (pe_ix (show IxR _ (rIxT K) from ix_tup) (pv 1) pe_int (fun _ _ => rfl)) (nomark _))) ?_
  have S1 := Hs.start1 h1 [] (.inl rfl)
  have S2 := Hs.start1 h2 [] (.inl rfl)
  show tOp _ _ _ [some (.ref a1), some (.ref a2)] H Q
  walk_at "rd"
  refine rd_ixT S1 (by walk_at "mem") at_key ?_
  walk_at "rd"
  refine rd_ixT S2 (by walk_at "mem") at_key ?_
  walk_at "rd"
  exact hQ
theorem rule_fn {f : Addr} (hr : RuleAt H f) : IsFn f H := by
  obtain ⟨c', hf, hc⟩ := hr
  exact isFn_lam hf
theorem use_ahead {CO j dx f : Addr} {n : Int} {one other : V} {z1 z2 : Int} {F : HO → Led} (S : Hs H0 MM H L) (ch : ∀ o', Chg j (.ins CO dx (flds f n)) o' L (F o')) (own : H0 j = none ∨ j ∈ MM) (hr : RuleAt H f) (k1 : Key H one z1) (k2 : Key H other z2)
    (h : ∀ H', Hs H0 MM H' (F (.ins CO dx (flds f (n + 1)))) → (∀ b o, H b = some o → b ≠ j → H' b = some o) → Q (.bl (decide (z1 < z2))) H') : sp_ahead P w K mg base CO [.ref j, one, other] H Q E := by
  have hj := S.is _ (ch (.dK [])).mem
  refine ⟨j, dx, f, n, one, other, _, rfl, hj, fun H' e o => ⟨rule_fn (hr.but hj o), fun Q' hQ => rule_calls (hr.but hj o) (k1.but hj o) (k2.but hj o) hQ, h H' (S.one (ch _) own o e) o⟩⟩
theorem ok_nend (T : Txt K mg w A) : FnOk P w K mg base (L2.CX P w) 4 A.f_need_end A.d_need_end ["row", "start", "end", "nearest"] (sp_nend A.C_BadNumber) := by
  have G_is_whole : FnOk P w K mg base CX0 1 A.f_is_whole A.d_is_whole ["thing", "least", "most"] (sp_whole K) := ok_is_whole T
  have G_BadNumber : FnOk P w K mg base CX0 1 A.f_BadNumber___init__ A.d_BadNumber___init__ ["self", "at"] (Xc.spInit1 A.C_BadNumber "at") := ok_xBadNumber T
  obtain ⟨mv, kb_is_whole_least_most⟩ := kb_lm T
  refine T.c_need_end.F.ok sc_need_end (fun vs H Q E h => ?_) (fun cdv Ar outer s H vs Q E hr h => ?_)
  · obtain ⟨a, s, n, x, xs, rfl, _⟩ := h; rfl
  · obtain ⟨a, s, n, x, xs, rfl, ha, hl, hx, k1, k2⟩ := h
    refine ⟨_, (pss_one (ps_if (pt_not (pt_val (pe_callN G_is_whole (hr.mono (by decide)) rfl T.c_is_whole.m T.c_is_whole.F.kp kb_is_whole_least_most pass0 (pa_cons (pv 2) pa_nil) (pk_cons (pe_op op_add (pv 1) (pv 3)) (pk_cons (pe_callB call_len_seq (by rfl) T.n_len PySem.boot_len (pa_cons (pv 0) pa_nil)) pk_nil)))))
        (pss_one (ps_raise rfl (takes_of rfl rfl rfl rfl) (Xc.pmk_own T.o_BadNumber T.i_BadNumber T.y_BadNumber G_BadNumber (hr.mono (by decide)) T.c_BadNumber___init__.b .nil pass0 rfl T.m_BadNumber (pa_cons (pv 2) pa_nil))))
        pss_nil)), ?_⟩
    have S := Hs.start1 ha [] (.inl rfl)
    walk_at "st"
    walk_at "rd"
    refine ⟨rfl, rfl, x, _, _, rfl, hx, ?_⟩
    walk_at "rd"
    cases h : isWh x (s + n) xs.length with
    | true =>
      walk_at "if0"
      exact k1 h
    | false =>
      walk_at "if1"
      exact Xc.rd_mk1 fun d hd => k2 h H d (fun _ _ e => e) hd
theorem kb_need (T : Txt K mg w A) : ∃ mv : List Value, KBn K A.d_need_end ["row", "start", "end", "nearest"] 3 ["nearest"] (fun us ws => us ++ ws ++ mv) (fun vs zs => vs ++ zs ++ []) := by
  refine T.c_need_end.F.kbinds0 3 ["nearest"] [] (fun us mv ws => us ++ ws ++ mv) (by simp) (by simp) (fun r1 r2 r3 => (r1.append r3).append r2) ?_
  intro D doc pm an cdv ct us mv ws h1 h2 h3
  match us, h1, mv, h2, ws, h3 with
  | [u, v, x], _, [], _, [y], _ => rfl
theorem b_need (T : Txt K mg w A) : ∃ ds : List Value, Vals [V.int 0] ds ∧ Binds K A.d_need_end ["row", "start", "end", "nearest"] ds := by
  refine T.c_need_end.F.binds0 3 (by simp) (by simp) ?_
  intro D doc pm an cdv ct us ks h1 h2
  match us, h1, ks, h2 with
  | [u, v, x], _, [m], _ => exact ⟨_, _, _, _, _, _, rfl, rfl, rfl⟩
theorem ok_turn (T : Txt K mg w A) : FnOk P w K mg base (L2.CX P w) 5 A.f_turn_run A.d_turn_run ["row", "start", "end"] (sp_turn A) := by
  have G_need_row : FnOk P w K mg base (L2.CX P w) 3 A.f_need_row A.d_need_row ["thing"] (sp_row A) := ok_row T
  have G_is_whole : FnOk P w K mg base CX0 1 A.f_is_whole A.d_is_whole ["thing", "least", "most"] (sp_whole K) := ok_is_whole T
  have G_need_end : FnOk P w K mg base (L2.CX P w) 4 A.f_need_end A.d_need_end ["row", "start", "end", "nearest"] (sp_nend A.C_BadNumber) := ok_nend T
  have G_BadNumber : FnOk P w K mg base CX0 1 A.f_BadNumber___init__ A.d_BadNumber___init__ ["self", "at"] (Xc.spInit1 A.C_BadNumber "at") := ok_xBadNumber T
  obtain ⟨mv, kb_is_whole_most⟩ := kb_m T
  obtain ⟨_, d_need_end, b_need_end⟩ := b_need T
  refine T.c_turn_run.F.okX sc_turn_run (fun vs H Q E h => ?_) (fun cdv Ar outer s H vs Q E hr h => ?_)
  · obtain ⟨r, s, e, rfl, _⟩ := h; rfl
  · obtain ⟨r, s, e, rfl, h⟩ := h
    refine ⟨_, (pss_cons (ps_expr (pe_call G_need_row (hr.mono (by decide)) rfl T.c_need_row.m T.c_need_row.F.kp T.c_need_row.b .nil (passes_call (takes_of rfl rfl rfl rfl) fun _ _ _ _ z => z) (pa_cons (pv 0) pa_nil)))
      (pss_cons (ps_if (pt_not (pt_val (pe_callN G_is_whole (hr.mono (by decide)) rfl T.c_is_whole.m T.c_is_whole.F.kp kb_is_whole_most pass0 (pa_cons (pv 1) pa_nil) (pk_cons (pe_callB call_len_seq (by rfl) T.n_len PySem.boot_len (pa_cons (pv 0) pa_nil)) pk_nil))))
        (pss_one (ps_raise rfl (takes_of rfl rfl rfl rfl) (Xc.pmk_own T.o_BadNumber T.i_BadNumber T.y_BadNumber G_BadNumber (hr.mono (by decide)) T.c_BadNumber___init__.b .nil pass0 rfl T.m_BadNumber (pa_cons (pv 1) pa_nil))))
        pss_nil)
      (pss_cons (ps_expr (pe_call G_need_end (hr.mono (by decide)) rfl T.c_need_end.m T.c_need_end.F.kp b_need_end d_need_end (passes_call (takes_of rfl rfl rfl rfl) fun _ _ _ _ z => z) (pa_cons (pv 0) (pa_cons (pv 1) (pa_cons (pv 2) pa_nil)))))
      (pss_one (ps_asg (pe_revL (pe_slice sl_list (pv 0) (po_some (pv 1)) (po_some (pv 2)))) (pg_slc (pv 0) (po_some (pv 1)) (po_some (pv 2)))))))), ?_⟩
    walk_at "st"
    walk_at "rd"
    rcases h with h | ⟨a, xs, rfl, ha, hl, os, oe, h⟩
    · exact h.row
    have S := Hs.start1 ha [a] (.inr rfl)
    refine ⟨_, rfl, .inl ⟨a, xs, rfl, ha, hl, ?_⟩⟩
    walk_at "rd"
    refine ⟨rfl, rfl, s, _, _, rfl, os, ?_⟩
    walk_at "rd"
    rcases h with ⟨h1, k⟩ | ⟨h1, h2, k⟩ | ⟨st, sp, rfl, rfl, hs1, hs2, k⟩
    · rw [h1]
      walk_at "if1"
      exact Xc.rd_mk1 fun d hd => k H d (fun _ _ e => e) hd
    · rw [h1]
      walk_at "if0"
      obtain ⟨i, rfl, i0, i1⟩ := isWh_val h1
      refine ⟨a, i, 0, e, xs, rfl, ha, hl, oe, fun z => ?_, fun _ H' d sm hd => k H' d sm hd⟩
      rw [show isWh e (i + 0) xs.length = false from h2] at z
      cases z
    · rw [isWh_int, decide_eq_true (show (0 : Int) ≤ st by omega), decide_eq_true (show (st : Int) ≤ xs.length by omega)]
      walk_at "if0"
      refine ⟨a, st, 0, .int sp, xs, rfl, ha, hl, oe, fun _ => ?_, fun z => ?_⟩
      · walk_at "rd"
        refine rd_slVx S (by walk_at "mem") fun p H1 hp S1 => ?_
        rw [show (sp : Int) = ((st + (sp - st) : Nat) : Int) by omega, cut_run] at S1
        walk_at "rd"
        rename_i q H2 hq S2
        refine gt_slcV (zs := turned xs st sp) S2 (by walk_at "chg") (by walk_at "mem") (fun z => by rw [z, hq] at ha; cases ha) (.inr (by simp)) (by omega) (by omega) (by omega) (Nat.le_of_lt (Rs.sz' (by simp; omega))) (by rw [show ((st : Int)).toNat = st by omega, show ((sp : Int)).toNat = sp by omega]; rfl) fun H3 S3 => ?_
        exact k H3 (S3.get (by walk_at "mem")) (fun b o e hb => S3.old1 e hb)
      · rw [isWh_int, decide_eq_true (show (st : Int) + 0 ≤ sp by omega), decide_eq_true (show (sp : Int) ≤ xs.length by omega)] at z
        cases z
theorem ifs_via {b : Bool} {t u : TS} {σ : L2.St} {nx : L2.St → Hp → Prop} {rt : VK} {bk ct : L2.St → Hp → Prop} (h : ∀ nx' : L2.St → Hp → Prop, nx' σ H → if b = true then t ⟨nx', rt, bk, ct⟩ σ H else u ⟨nx', rt, bk, ct⟩ σ H) (k : nx σ H) : if b = true then t ⟨nx, rt, bk, ct⟩ σ H else u ⟨nx, rt, bk, ct⟩ σ H := h nx k
theorem getD_some {ks : List Int} {i : Nat} {z : Int} (h : ks[i]? = some z) : ks.getD i 0 = z := by
  rw [List.getD_eq_getElem?_getD, h]; rfl
theorem at_nat {xs : List V} {i : Nat} {v : V} (h : xs[i]? = some v) : atI xs (i : Int) = some v := by
  have hl := (List.getElem?_eq_some_iff.mp h).1
  unfold atI
  unfold ixN
  rw [if_pos (by omega), if_pos (by omega)]
  simpa using h
theorem Keys.at_ {xs : List V} {ks : List Int} (k : Keys H xs ks) {i : Nat} (hi : i < xs.length) : ∃ v, xs[i]? = some v ∧ Key H v (ks.getD i 0) := by
  obtain ⟨v, hv⟩ : ∃ v, xs[i]? = some v := ⟨xs[i], List.getElem?_eq_getElem hi⟩
  obtain ⟨z, hz⟩ : ∃ z, ks[i]? = some z := ⟨ks[i]'(by rw [← k.1]; exact hi), List.getElem?_eq_getElem _⟩
  exact ⟨v, hv, by rw [getD_some hz]; exact k.2 i v z hv hz⟩
theorem b_run (T : Txt K mg w A) : ∃ ds : List Value, Vals [V.non] ds ∧ Binds K A.d_run_at ["row", "order", "start", "end"] ds := by
  obtain ⟨ds, h⟩ := T.c_run_at.F.binds (ps := ["row", "order", "start", "end"]) 3 1 (by simp) (by simp) (by
    intro T D doc pm an cdv ct us its ks h1 h2 h3
    match us, h1, its, h2, ks, h3 with
    | [u, v, x], _, [i], _, [m], _ => exact ⟨_, rfl, _, _, _, _, _, _, rfl, rfl, rfl⟩) (by simp)
  exact ⟨ds, h⟩
theorem ok_run (T : Txt K mg w A) : FnOk P w K mg base (L2.CX P w) 5 A.f_run_at A.d_run_at ["row", "order", "start", "end"] (sp_run A) := by
  have G_need_row : FnOk P w K mg base (L2.CX P w) 3 A.f_need_row A.d_need_row ["thing"] (sp_row A) := ok_row T
  have G_need_order : FnOk P w K mg base (L2.CX P w) 3 A.f_need_order A.d_need_order ["thing"] (sp_norder A) := ok_norder T
  have G_is_whole : FnOk P w K mg base CX0 1 A.f_is_whole A.d_is_whole ["thing", "least", "most"] (sp_whole K) := ok_is_whole T
  have G_need_end : FnOk P w K mg base (L2.CX P w) 4 A.f_need_end A.d_need_end ["row", "start", "end", "nearest"] (sp_nend A.C_BadNumber) := ok_nend T
  have G_BadNumber : FnOk P w K mg base CX0 1 A.f_BadNumber___init__ A.d_BadNumber___init__ ["self", "at"] (Xc.spInit1 A.C_BadNumber "at") := ok_xBadNumber T
  have G_Order_ahead : FnOk P w K mg base CX0 2 A.f_Order_ahead A.d_Order_ahead ["self", "one", "other"] (sp_ahead P w K mg base A.C_Order) := ok_ahead T
  obtain ⟨mv, kb_is_whole_most⟩ := kb_m T
  obtain ⟨mv2, kb_need_end_nearest⟩ := kb_need T
  refine T.c_run_at.F.ok sc_run_at (fun vs H Q E h => ?_) (fun cdv Ar outer s H vs Q E hr h => ?_)
  · obtain ⟨r, j, s, e, rfl, _⟩ := h; rfl
  · obtain ⟨r, jv, s, e, rfl, h⟩ := h
    refine ⟨_, (pss_cons (ps_expr (pe_call G_need_row (hr.mono (by decide)) rfl T.c_need_row.m T.c_need_row.F.kp T.c_need_row.b .nil (passes_call (takes_of rfl rfl rfl rfl) fun _ _ _ _ z => z) (pa_cons (pv 0) pa_nil)))
      (pss_cons (ps_expr (pe_call G_need_order (hr.mono (by decide)) rfl T.c_need_order.m T.c_need_order.F.kp T.c_need_order.b .nil (passes_call (takes_of rfl rfl rfl rfl) fun _ _ _ _ z => z) (pa_cons (pv 1) pa_nil)))
      (pss_cons (ps_if (pt_not (pt_val (pe_callN G_is_whole (hr.mono (by decide)) rfl T.c_is_whole.m T.c_is_whole.F.kp kb_is_whole_most pass0 (pa_cons (pv 2) pa_nil) (pk_cons (pe_op op_sub (pe_callB call_len_seq (by rfl) T.n_len PySem.boot_len (pa_cons (pv 0) pa_nil)) pe_int) pk_nil))))
        (pss_one (ps_raise rfl (takes_of rfl rfl rfl rfl) (Xc.pmk_own T.o_BadNumber T.i_BadNumber T.y_BadNumber G_BadNumber (hr.mono (by decide)) T.c_BadNumber___init__.b .nil pass0 rfl T.m_BadNumber (pa_cons (pv 2) pa_nil))))
        pss_nil)
      (pss_cons (ps_if (pt_cmpR op_notN (pv 3) pe_non (nomark _))
        (pss_one (ps_expr (pe_callN G_need_end (hr.mono (by decide)) rfl T.c_need_end.m T.c_need_end.F.kp kb_need_end_nearest (passes_call (takes_of rfl rfl rfl rfl) fun _ _ _ _ z => z) (pa_cons (pv 0) (pa_cons (pv 2) (pa_cons (pv 3) pa_nil))) (pk_cons pe_int pk_nil))))
        pss_nil)
      (pss_cons (ps_set (i := 4) sc_run_at.nd rfl (Or.inl rfl) (pe_ifExp (pt_cmpR op_isN (pv 3) pe_non (nomark _)) (pe_callB call_len_seq (by rfl) T.n_len PySem.boot_len (pa_cons (pv 0) pa_nil)) (pv 3)))
      (pss_cons (ps_if (pt_cmpR op_eq (pv 4) (pe_op op_add (pv 2) pe_int) (nomark _))
        (pss_one (ps_ret (pe_tup (pa_cons pe_int (pa_cons pe_bl pa_nil)))))
        pss_nil)
      (pss_cons (ps_par (i := 5) (j := 6) rfl sc_run_at.nd rfl rfl (by decide) rfl rfl (pa_cons (pe_meth (pv 1) T.cl_Order T.h_Order_ahead G_Order_ahead (hr.mono (by decide)) T.c_Order_ahead.b .nil pass0 (pa_cons (pe_ix ix_list (pv 0) (pe_op op_add (pv 2) pe_int) (fun _ _ => rfl)) (pa_cons (pe_ix ix_list (pv 0) (pv 2) (fun _ _ => rfl)) pa_nil))) (pa_cons (pe_op op_add (pv 2) pe_int) pa_nil)) (by rfl))
      (pss_cons (ps_while (passes_of rfl) (PW.pt (pw_and (pt_cmpR op_lt (pv 6) (pv 4) (nomark _)) (pw_and1 (pt_cmpR op_eq (pe_meth (pv 1) T.cl_Order T.h_Order_ahead G_Order_ahead (hr.mono (by decide)) T.c_Order_ahead.b .nil pass0 (pa_cons (pe_ix ix_list (pv 0) (pv 6) (fun _ _ => rfl)) (pa_cons (pe_ix ix_list (pv 0) (pe_op op_sub (pv 6) pe_int) (fun _ _ => rfl)) pa_nil))) (pv 5) (nomark _)))))
        (pss_one (ps_aug (i := 6) sc_run_at.nd rfl (Or.inl rfl) pe_int ip_add)))
      (pss_one (ps_ret (pe_tup (pa_cons (pe_op op_sub (pv 6) (pv 2)) (pa_cons (pv 5) pa_nil))))))))))))), ?_⟩
    walk_at "st"
    walk_at "rd"
    rcases h with h | ⟨a, xs, rfl, ha, hl, h⟩
    · exact h.row
    have S0 := Hs.start1 ha [] (.inl rfl)
    refine ⟨_, rfl, .inl ⟨a, xs, rfl, ha, hl, ?_⟩⟩
    walk_at "rd"
    rcases h with h | ⟨j, dx, fs, rfl, hj, os, oe, h⟩
    · exact ⟨_, rfl, .inr h⟩
    refine ⟨_, rfl, .inl ⟨j, dx, fs, rfl, hj, ?_⟩⟩
    walk_at "rd"
    refine ⟨rfl, rfl, s, _, _, rfl, os, ?_⟩
    walk_at "rd"
    rcases h with ⟨h1, k⟩ | ⟨h1, h2, h3, k⟩ | ⟨st, last, f, n, ks, rfl, he, hs1, hs2, rfl, hr9, hk, k⟩
    · rw [h1]
      walk_at "if1"
      exact Xc.rd_mk1 fun d hd => k H d (fun _ _ e => e) hd
    · rw [h1]
      walk_at "if0"
      obtain ⟨i, rfl, i0, i1⟩ := isWh_val h1
      rw [decide_eq_false h2]
      walk_at "if1"
      refine ⟨rfl, rfl, a, i, 1, e, xs, rfl, ha, hl, oe, fun z => ?_, fun _ H' d sm hd => k H' d sm hd⟩
      rw [show isWh e (i + 1) xs.length = false from h3] at z
      cases z
    · rw [isWh_int, decide_eq_true (show (0 : Int) ≤ st by omega), decide_eq_true (show (st : Int) ≤ xs.length - 1 by omega)]
      walk_at "if0"
      refine ifs_via (fun nx' hk' => ?_) ?_
      · rcases he with ⟨rfl, rfl⟩ | rfl
        · rw [decide_eq_true rfl]
          walk_at "if0"
          exact hk'
        · rw [decide_eq_false (fun z => by cases z)]
          walk_at "if1"
          refine ⟨rfl, rfl, a, st, 1, .int last, xs, rfl, ha, hl, oe, fun _ => ?_, fun z => ?_⟩
          · walk_at "rd"
            exact hk'
          · rw [isWh_int, decide_eq_true (show (st : Int) + 1 ≤ last by omega), decide_eq_true (show (last : Int) ≤ xs.length by omega)] at z
            cases z
      · walk_at "rd"
        refine if_via (fun i H' => i = last ∧ H' = H) (fun hb C hC => ?_) (fun hb C hC => ?_) ?_
        · have hb := of_decide_eq_true hb
          rcases he with ⟨rfl, rfl⟩ | rfl
          · walk_at "rd"
            exact hC _ _ ⟨rfl, rfl⟩
          · cases hb
        · have hb := of_decide_eq_false hb
          rcases he with ⟨rfl, rfl⟩ | rfl
          · exact absurd rfl hb
          · walk_at "rd"
            exact hC _ _ ⟨rfl, rfl⟩
        · rintro i H' ⟨rfl, rfl⟩
          have S := Hs.start H' [j] [(j, .ins A.C_Order dx (flds f n)), (a, .lst xs)] (by simpa using (ne_of hj ha (fun z => by cases z))) (by
            intro q hq
            simp only [List.mem_cons, List.not_mem_nil, or_false] at hq
            rcases hq with rfl | rfl
            · exact hj
            · exact ha) (by
            intro b hb
            simp only [List.mem_cons, List.not_mem_nil, or_false] at hb
            subst hb
            rw [hj]; simp)
          clear S0
          walk_at "rd"
          refine rd_dec ?_ ?_ <;> intro hc
          · walk_at "rd"
            rename_i p H1 hp S1
            exact k p 1 false n H1 hp (show H1 p = some (.tup [.int ((1 : Nat) : Int), .bl false]) from S1.get List.mem_cons_self) (S1.get (by walk_at "mem")) (fun b o e hb => S1.old1 e hb) ⟨by omega, by omega, fun i h1 h2 => by omega, .inl (by omega), fun _ => rfl⟩
          · obtain ⟨v1, hv1, kv1⟩ := hk.at_ (i := st + 1) (by omega)
            obtain ⟨v0, hv0, kv0⟩ := hk.at_ (i := st) (by omega)
            walk_at "rd"
            refine rd_ixL S (by walk_at "mem") (by rw [show (st : Int) + 1 = ((st + 1 : Nat) : Int) by omega]; exact at_nat hv1) ?_
            walk_at "rd"
            refine rd_ixL S (by walk_at "mem") (at_nat hv0) ?_
            walk_at "rd"
            refine use_ahead (F := fun o => [(j, o), (a, .lst xs)]) S (fun o' => .here) (.inr (by simp)) hr9 kv1 kv0 fun H1 S1 o1 => ?_
            walk_at "rd"
            refine rd_while (fun m σ H2 => ∃ (at_ : Nat) (n' : Int), σ = [some (.ref a), some (.ref j), some (.int st), some e, some (.int last), some (.bl (lt ks (st + 1))), some (.int at_)] ∧ Hs H' [j] H2 [(j, .ins A.C_Order dx (flds f n')), (a, .lst xs)] ∧ (∀ b o, H' b = some o → b ≠ j → H2 b = some o) ∧ st + 2 ≤ at_ ∧ at_ ≤ last ∧ (∀ i, st < i → i < at_ → lt ks i = lt ks (st + 1)) ∧ m = last - at_) (last - (st + 2)) ⟨st + 2, n + 1, rfl, S1, o1, by omega, by omega, fun i h1 h2 => by rw [show i = st + 1 by omega], rfl⟩ ?_
            rintro m σ H2 ⟨at_, n', rfl, S2, o2, c1, c2, c3, rfl⟩
            clear S1 S
            walk_at "rd"
            refine rd_dec ?_ ?_ <;> intro hc2
            · obtain ⟨w1, hw1, kw1⟩ := hk.at_ (i := at_) (by omega)
              obtain ⟨w0, hw0, kw0⟩ := hk.at_ (i := at_ - 1) (by omega)
              walk_at "rd"
              refine rd_ixL S2 (by walk_at "mem") (at_nat hw1) ?_
              walk_at "rd"
              refine rd_ixL S2 (by walk_at "mem") (by rw [show (at_ : Int) - 1 = ((at_ - 1 : Nat) : Int) by omega]; exact at_nat hw0) ?_
              walk_at "rd"
              refine use_ahead (F := fun o => [(j, o), (a, .lst xs)]) S2 (fun o' => .here) (.inr (by simp)) (hr9.but hj o2) (kw1.but hj o2) (kw0.but hj o2) fun H3 S3 o3 => ?_
              have o4 : ∀ b o, H' b = some o → b ≠ j → H3 b = some o := fun b o e hb => o3 b o (o2 b o e hb) hb
              walk_at "rd"
              refine rd_dec ?_ ?_ <;> intro hc3
              · walk_at "rd"
                exact ⟨last - (at_ + 1), by omega, at_ + 1, n' + 1, rfl, by assumption, o4, by omega, by omega, fun i h1 h2 => (if h : i < at_ then c3 i h1 h else by rw [show i = at_ by omega]; exact hc3), rfl⟩
              · walk_at "rd"
                rename_i p H4 hp S4
                rw [show (at_ : Int) - st = ((at_ - st : Nat) : Int) by omega] at S4
                exact k p (at_ - st) (lt ks (st + 1)) (n' + 1) H4 hp (S4.get (by walk_at "mem")) (S4.get (by walk_at "mem")) (fun b o e hb => S4.old1 e hb) ⟨by omega, by omega, fun i h1 h2 => c3 i h1 (by omega), .inr (by rw [show st + (at_ - st) = at_ by omega]; exact hc3), fun z => by omega⟩
            · walk_at "rd"
              rename_i p H4 hp S4
              rw [show (at_ : Int) - st = ((at_ - st : Nat) : Int) by omega] at S4
              exact k p (at_ - st) (lt ks (st + 1)) n' H4 hp (S4.get (by walk_at "mem")) (S4.get (by walk_at "mem")) (fun b o e hb => S4.old1 e hb) ⟨by omega, by omega, fun i h1 h2 => c3 i h1 (by omega), .inl (by omega), fun z => by omega⟩
end
end K16

namespace K16
open PySem L2 Rs Xc Xd Xg Xh Xi Xj Xk Xl
/-- what stands in the place of spots -/
inductive Spt (H : Hp) : V → Option (List V) → Prop
  | no (x : V) (o : Odd H x) (n : ∀ a xs, x = .ref a → H a ≠ some (.tup xs)) : Spt H x none
  | tup (q : Addr) (ys : List V) (h : H q = some (.tup ys)) (hk : ∀ y ∈ ys, Odd H y) (hl : ys.length ≤ 4096) : Spt H (.ref q) (some ys)
/-- what stands in the place of a paper -/
inductive Ppr (H : Hp) : V → Option (V × V × V × Option (List V)) → Prop
  | no (x : V) (o : Odd H x) (n : ∀ a xs, x = .ref a → H a ≠ some (.tup xs)) : Ppr H x none
  | len (p : Addr) (vs : List V) (h : H p = some (.tup vs)) (n : vs.length ≠ 4) : Ppr H (.ref p) none
  | four (p : Addr) (a b c e : V) (so : Option (List V)) (h : H p = some (.tup [a, b, c, e])) (ha : Odd H a) (hb : Odd H b) (hc : Odd H c) (he : Spt H e so) (hne : e ≠ .ref p) : Ppr H (.ref p) (some (a, b, c, so))
def isB : V → Bool
  | .bl _ => true
  | _ => false
def spOk (n : Int) : List V → Bool
  | [] => true
  | y :: ys => isWh y 0 n && spOk (n + 1) ys
def spFit (n : Int) : Option (List V) → Bool
  | none => false
  | some ys => spOk n ys
def soLen : Option (List V) → Int
  | none => 0
  | some ys => ys.length
def fits (m : Int) : Option (V × V × V × Option (List V)) → Bool
  | none => false
  | some (a, b, c, so) => isWh a 0 m && isWh b 1 m && isB c && (spFit (iv b) so && decide (iv a + iv b + soLen so ≤ m))
theorem isB_val {v : V} (h : isB v = true) : ∃ b, v = .bl b := by
  cases v with
  | bl b => exact ⟨b, rfl⟩
  | _ => exact Bool.noConfusion h
def spV (sp : List Nat) : List V := sp.map fun (x : Nat) => V.int (x : Int)
/-- a paper as it stands -/
def PapAt (H : Hp) (v : V) (P : Pp) : Prop := ∃ p q, v = .ref p ∧ H p = some (.tup [.int P.s, .int P.n, .bl P.f, .ref q]) ∧ H q = some (.tup (spV P.sp))
theorem spOk_sp : ∀ (ys : List V) (n : Nat), spOk n ys = true → ∃ sp : List Nat, ys = spV sp ∧ ∀ i p, sp[i]? = some p → p ≤ n + i
  | [], n, _ => ⟨[], rfl, fun i p h => by simp at h⟩
  | y :: ys, n, h => by
    rw [spOk, Bool.and_eq_true] at h
    obtain ⟨i, rfl, h0, h1⟩ := isWh_val h.1
    obtain ⟨sp, rfl, hs⟩ := spOk_sp ys (n + 1) (by rw [show ((n + 1 : Nat) : Int) = (n : Int) + 1 by omega]; exact h.2)
    refine ⟨i.toNat :: sp, ?_, fun j p hj => ?_⟩
    · unfold spV
      rw [List.map_cons, show ((i.toNat : Nat) : Int) = i by omega]
    · cases j with
      | zero => simp at hj; omega
      | succ j => have := hs j p (by simpa using hj); omega
theorem spOk_of : ∀ (sp : List Nat) (n : Nat), (∀ i p, sp[i]? = some p → p ≤ n + i) → spOk n (spV sp) = true
  | [], n, _ => rfl
  | x :: sp, n, h => by
    show (isWh (.int (x : Int)) 0 n && spOk ((n : Int) + 1) (spV sp)) = true
    have h0 := h 0 x rfl
    rw [isWh_int, decide_eq_true (show (0 : Int) ≤ x by omega), decide_eq_true (show (x : Int) ≤ n by omega), show (n : Int) + 1 = ((n + 1 : Nat) : Int) by omega,
      spOk_of sp (n + 1) fun i p hi => by have := h (i + 1) p (by simpa using hi); omega]
    rfl
/-- what fits is a paper -/
theorem fits_pap {H : Hp} {v : V} {r : Option (V × V × V × Option (List V))} {m : Nat} (R : Ppr H v r) (h : fits m r = true) : ∃ P, PapAt H v P ∧ Fit P m := by
  cases R with
  | no x o n => exact Bool.noConfusion h
  | len p vs hp n => exact Bool.noConfusion h
  | four p a b c e so hp ha hb hc he hne =>
    simp only [fits, Bool.and_eq_true, decide_eq_true_eq] at h
    obtain ⟨⟨⟨h1, h2⟩, h3⟩, h4, h5⟩ := h
    obtain ⟨i, rfl, i0, i1⟩ := isWh_val h1
    obtain ⟨j, rfl, j0, j1⟩ := isWh_val h2
    obtain ⟨f, rfl⟩ := isB_val h3
    cases he with
    | no x o n => exact Bool.noConfusion h4
    | tup q ys hq hk hl =>
      obtain ⟨n, rfl⟩ := Int.eq_ofNat_of_zero_le (show 0 ≤ j by omega)
      obtain ⟨s, rfl⟩ := Int.eq_ofNat_of_zero_le i0
      obtain ⟨sp, rfl, hs⟩ := spOk_sp ys n h4
      refine ⟨⟨s, n, f, sp⟩, ⟨p, q, rfl, hp, hq⟩, by show 1 ≤ n; omega, ?_, hs⟩
      simp only [iv, soLen, spV, List.length_map] at h5
      show s + n + sp.length ≤ m
      omega
theorem pap_fits {H : Hp} {v : V} {P : Pp} {m : Nat} (h : PapAt H v P) (hl : P.sp.length ≤ 4096) : ∃ r, Ppr H v r ∧ (Fit P m → fits m r = true) := by
  obtain ⟨p, q, rfl, hp, hq⟩ := h
  refine ⟨_, .four p _ _ _ _ _ hp (.int _) (.int _) (.bl _) (.tup q _ hq (fun y hy => ?_) (by unfold spV; rw [List.length_map]; exact hl)) (fun z => by
    rw [V.ref.inj z, hp] at hq
    injection hq with hq
    injection hq with hq
    have := congrArg (fun l => l[2]?) hq
    unfold spV at this
    simp only [List.getElem?_map] at this
    cases hx : P.sp[2]? <;> simp [hx] at this), fun F => ?_⟩
  · obtain ⟨x, _, rfl⟩ := List.mem_map.mp hy
    exact .int _
  · have := F.le
    have := F.n1
    have hz : (spV P.sp).length = P.sp.length := by unfold spV; rw [List.length_map]
    simp only [fits, isWh_int, isB, spFit, iv, soLen, spOk_of P.sp P.n F.at_, hz, Bool.and_true, Bool.true_and, Bool.and_eq_true, decide_eq_true_eq]
    refine ⟨⟨⟨?_, ?_⟩, ⟨?_, ?_⟩⟩, ?_⟩ <;> omega
def sp_spots : Sp := fun vs H Q _ => ∃ (x : V) (so : Option (List V)) (n : Int), vs = [x, .int n] ∧ 0 ≤ n ∧ n ≤ 4096 ∧ Spt H x so ∧ ∀ H', Same H H' → Q (.bl (spFit n so)) H'
def sp_fits : Sp := fun vs H Q _ => ∃ (x : V) (r : Option (V × V × V × Option (List V))) (m : Nat), vs = [x, .int m] ∧ m ≤ 4096 ∧ Ppr H x r ∧ ∀ H', Same H H' → Q (.bl (fits m r)) H'
def sp_np (A : Ad) : Sp := fun vs H Q E => ∃ (v x : V), vs = [v, x] ∧ (BadR A H v E ∨ ∃ (a : Addr) (xs : List V) (r : Option (V × V × V × Option (List V))), v = .ref a ∧ H a = some (.lst xs) ∧ xs.length ≤ 4096 ∧ Ppr H x r ∧
  (fits xs.length r = true → ∀ H', Same H H' → Q .non H') ∧ (fits xs.length r = false → Raise A.C_BadPaper "at" (.str "piece") H E))
section
variable {P : Program} {w : World} {K : PySem.W.Frag} {mg : Str → Option Value} {base : Heap} {A : Ad} {H H0 : Hp} {MM : List Addr} {L L' F : Led} {Q : VK} {E : XK}
local macro_rules | `(tactic| walk_at "rd1") => `(tactic| first
  | with_reducible refine Xc.rd_bi ?_
  | with_reducible refine Xc.rd_put1 ?_
  | with_reducible refine Xc.rd_tmk ?_
  | with_reducible refine Xc.rd_xv ?_)
theorem spOk_take : ∀ (ys : List V) (n : Int), ∃ bs : List Bool, bs.length = ys.length ∧ (∀ (i : Nat) (y : V), ys[i]? = some y → bs[i]? = some (isWh y 0 (n + (i : Int)))) ∧ bs.all id = spOk n ys
  | [], n => ⟨[], rfl, fun i y h => by simp at h, rfl⟩
  | y :: ys, n => by
    obtain ⟨bs, h1, h2, h3⟩ := spOk_take ys (n + 1)
    refine ⟨isWh y 0 n :: bs, by simp [h1], fun i z hi => ?_, by simp [spOk, h3]⟩
    cases i with
    | zero => simp at hi; subst hi; simp
    | succ i =>
      have := h2 i z (by simpa using hi)
      rw [show n + ((i + 1 : Nat) : Int) = n + 1 + (i : Int) by omega]
      simpa using this
theorem ok_spots (T : Txt K mg w A) : FnOk P w K mg base CX0 2 A.f_are_spots A.d_are_spots ["spots", "natural"] sp_spots := by
  have G_is_whole : FnOk P w K mg base CX0 1 A.f_is_whole A.d_is_whole ["thing", "least", "most"] (sp_whole K) := ok_is_whole T
  obtain ⟨mv, kb_is_whole_most⟩ := kb_m T
  refine T.c_are_spots.F.ok sc_are_spots (fun vs H Q E h => ?_) (fun cdv Ar outer s H vs Q E hr h => ?_)
  · obtain ⟨x, so, n, rfl, _⟩ := h; rfl
  · obtain ⟨x, so, n, rfl, n0, n1, R, k⟩ := h
    refine ⟨_, (pss_one (ps_ret (pe_and (pe_callB call_isi (by rfl) T.n_isinstance PyProof.Rows.boot_isinstance (pa_cons (pv 0) (pa_cons (pe_bltn (v := .ty "tuple") rfl T.n_tuple PyProof.Rows.boot_tuple rfl) pa_nil))) (pe_one (pe_callB (cr_all rfl) (by rfl) T.n_all PyProof.Rows.boot_all (pa_cons (pe_lc (own := [("at", 2), ("spot", 3)]) (g := gTup K 2 (gCons (gName 2) (gCons (gName 3) gNil))) (tt := tYes) rfl sc_are_spots.nd (Xg.pi_enS true (by rfl) T.n_enumerate (pa_cons (pv 0) pa_nil) (pk_cons (pv 1) pk_nil)) (blkOk_by (N := ["spots", "natural", "at", "spot"]) (sc := defScope s_are_spots) (by decide +kernel)) (fun _ _ _ _ _ => (show PG _ _ (gTup K 2 (gCons (gName 2) (gCons (gName 3) gNil))) from (pg_tup rfl (pgs_cons (pg_name (i := 2) sc_are_spots.nd rfl (Or.inl rfl)) (pgs_cons (pg_name (i := 3) sc_are_spots.nd rfl (Or.inl rfl)) pgs_nil))))) (fun _ _ _ _ _ => pts_nil) (fun _ _ _ _ _ => (pe_callN G_is_whole (hr.mono (by decide)) rfl T.c_is_whole.m T.c_is_whole.F.kp kb_is_whole_most pass0 (pa_cons (pv 3) pa_nil) (pk_cons (pv 2) pk_nil)))) pa_nil)))))), ?_⟩
    walk_at "st"
    walk_at "rd"
    cases R with
    | no x o nt =>
      obtain ⟨kd, hk, ht⟩ := o.kin (K := K)
      refine rd_isi hk (kit_tuple _) ?_
      have : (kd == Kn.tup) = false := by
        cases kd <;> first | rfl | (obtain ⟨a, xs, e, h⟩ := ht rfl; exact absurd h (nt a xs e))
      rw [this]
      walk_at "rd"
      exact k H (fun _ _ e => e)
    | tup q ys hq hk hl =>
      have S := Hs.start1 hq [] (.inl rfl)
      refine rd_isi (Kin.tup hq) (kit_tuple _) ?_
      walk_at "rd"
      walk_at "if1"
      obtain ⟨bs, b1, b2, b3⟩ := spOk_take ys n
      refine Xg.rd_enS ?_
      walk_at "rd"
      refine Xg.rd_enST S (by walk_at "mem") (by omega) (by omega) ?_
      refine Xg.lcw_enS (xs := ys) S (fun i acc => acc = (bs.take i).map V.bl) (by simp) (fun H' acc D S => S.tup (by walk_at "mem")) ?_ ?_
      · rintro D i y acc H1 U hi rfl hD S1 hU
        obtain ⟨_, S2⟩ := S1.new hU (.tup [.int (n + i), y])
        have hil : i < ys.length := (List.getElem?_eq_some_iff.mp hi).1
        walk_at "lc"
        refine ⟨rfl, rfl, y, 0, n + i, rfl, (hk y (List.mem_of_getElem? hi)).more (fun b o e => S2.old b o e (by simp)), ?_⟩
        refine rd_lcPut S2 (by walk_at "chg") hD (Rs.sz' (by simp only [List.length_map, List.length_take]; omega)) (by walk_at "sub") ?_
        rw [List.take_succ, b2 i y hi]
        simp
      · rintro D acc H1 rfl hD S1
        walk_at "rd"
        rw [← b1, List.take_length] at S1
        refine rd_all S1 (by walk_at "mem") rfl ?_
        rw [b3]
        exact k H1 S1.same
theorem ok_fits (T : Txt K mg w A) : FnOk P w K mg base CX0 3 A.f_piece_fits A.d_piece_fits ["piece", "many"] sp_fits := by
  have G_is_whole : FnOk P w K mg base CX0 1 A.f_is_whole A.d_is_whole ["thing", "least", "most"] (sp_whole K) := ok_is_whole T
  have G_are_spots : FnOk P w K mg base CX0 2 A.f_are_spots A.d_are_spots ["spots", "natural"] sp_spots := ok_spots T
  obtain ⟨mv, kb_is_whole_least_most⟩ := kb_lm T
  obtain ⟨mv2, kb_is_whole_most⟩ := kb_m T
  refine T.c_piece_fits.F.ok sc_piece_fits (fun vs H Q E h => ?_) (fun cdv Ar outer s H vs Q E hr h => ?_)
  · obtain ⟨x, r, m, rfl, _⟩ := h; rfl
  · obtain ⟨x, r, m, rfl, hm, R, k⟩ := h
    refine ⟨_, (pss_cons (ps_if (PW.pt (pw_or (pt_not (pt_val (pe_callB call_isi (by rfl) T.n_isinstance PyProof.Rows.boot_isinstance (pa_cons (pv 0) (pa_cons (pe_bltn (v := .ty "tuple") rfl T.n_tuple PyProof.Rows.boot_tuple rfl) pa_nil))))) (pw_or1 (pt_cmpR op_ne (pe_callB call_len_seq (by rfl) T.n_len PySem.boot_len (pa_cons (pv 0) pa_nil)) pe_int (nomark _)))))
        (pss_one (ps_ret pe_bl))
        pss_nil)
      (pss_cons (ps_asg (pv 0) (pg_tup rfl (pgs_cons (pg_name (i := 2) sc_piece_fits.nd rfl (Or.inl rfl)) (pgs_cons (pg_name (i := 3) sc_piece_fits.nd rfl (Or.inl rfl)) (pgs_cons (pg_name (i := 4) sc_piece_fits.nd rfl (Or.inl rfl)) (pgs_cons (pg_name (i := 5) sc_piece_fits.nd rfl (Or.inl rfl)) pgs_nil))))))
      (pss_cons (ps_if (PW.pt (pw_or (pt_not (pt_val (pe_callN G_is_whole (hr.mono (by decide)) rfl T.c_is_whole.m T.c_is_whole.F.kp kb_is_whole_most pass0 (pa_cons (pv 2) pa_nil) (pk_cons (pv 1) pk_nil)))) (pw_or (pt_not (pt_val (pe_callN G_is_whole (hr.mono (by decide)) rfl T.c_is_whole.m T.c_is_whole.F.kp kb_is_whole_least_most pass0 (pa_cons (pv 3) pa_nil) (pk_cons pe_int (pk_cons (pv 1) pk_nil))))) (pw_or1 (pt_not (pt_val (pe_callB call_isi (by rfl) T.n_isinstance PyProof.Rows.boot_isinstance (pa_cons (pv 4) (pa_cons (pe_bltn (v := .ty "bool") rfl T.n_bool PyProof.Rows.boot_bool rfl) pa_nil)))))))))
        (pss_one (ps_ret pe_bl))
        pss_nil)
      (pss_one (ps_ret (pe_and (pe_call G_are_spots (hr.mono (by decide)) rfl T.c_are_spots.m T.c_are_spots.F.kp T.c_are_spots.b .nil pass0 (pa_cons (pv 5) (pa_cons (pv 3) pa_nil))) (pe_one (pe_cmpR op_le (pe_op op_add (pe_op op_add (pv 2) (pv 3)) (pe_callB call_len_seq (by rfl) T.n_len PySem.boot_len (pa_cons (pv 5) pa_nil))) (pv 1) (nomark _))))))))), ?_⟩
    walk_at "st"
    walk_at "rd"
    cases R with
    | no x o nt =>
      obtain ⟨kd, hk, ht⟩ := o.kin (K := K)
      refine rd_isi hk (kit_tuple _) ?_
      have : (kd == Kn.tup) = false := by
        cases kd <;> first | rfl | (obtain ⟨a, xs, e, h⟩ := ht rfl; exact absurd h (nt a xs e))
      rw [this]
      walk_at "rd"
      exact k H (fun _ _ e => e)
    | len p vs hp hl =>
      have S := Hs.start1 hp [] (.inl rfl)
      refine rd_isi (Kin.tup hp) (kit_tuple _) ?_
      walk_at "rd"
      walk_at "if0"
      refine rd_decT (by omega) ?_
      walk_at "rd"
      exact k H (fun _ _ e => e)
    | four p a b c e so hp ha hb hc he hne =>
      have S := Hs.start1 hp [] (.inl rfl)
      refine rd_isi (Kin.tup hp) (kit_tuple _) ?_
      walk_at "rd"
      walk_at "if0"
      refine rd_decF (by simp) ?_
      walk_at "rd"
      refine ⟨rfl, rfl, a, 0, m, rfl, ha, ?_⟩
      cases h1 : isWh a 0 m with
      | false =>
        walk_at "rd"
        have := k H (fun _ _ e => e)
        simp only [fits, h1, Bool.false_and] at this
        exact this
      | true =>
        walk_at "rd"
        walk_at "if0"
        refine ⟨rfl, rfl, b, 1, m, rfl, hb, ?_⟩
        cases h2 : isWh b 1 m with
        | false =>
          walk_at "rd"
          have := k H (fun _ _ e => e)
          simp only [fits, h1, h2, Bool.false_and, Bool.and_false] at this
          exact this
        | true =>
          obtain ⟨i, rfl, i0, i1⟩ := isWh_val h1
          obtain ⟨j, rfl, j0, j1⟩ := isWh_val h2
          walk_at "rd"
          walk_at "if0"
          obtain ⟨kd, hk, _⟩ := hc.kin (K := K)
          refine rd_isi hk (kit_bool _) ?_
          cases h3 : isB c with
          | false =>
            have hkd : (kd == Kn.bool) = false := by cases hk <;> first | rfl | exact Bool.noConfusion h3 | (rename_i n; rcases n with rfl | rfl | rfl <;> rfl)
            rw [hkd]
            walk_at "rd"
            have := k H (fun _ _ e => e)
            simp only [fits, h1, h2, h3, Bool.false_and, Bool.and_false] at this
            exact this
          | true =>
            obtain ⟨f, rfl⟩ := isB_val h3
            cases hk
            walk_at "rd"
            walk_at "if0"
            refine ⟨e, so, j, rfl, by omega, by omega, he, fun H1 sm => ?_⟩
            have S1 := S.more sm
            cases h4 : spFit j so with
            | false =>
              walk_at "rd"
              have := k H1 sm
              simp only [fits, h1, h2, h3, iv, h4, Bool.false_and, Bool.and_false] at this
              exact this
            | true =>
              cases he with
              | no x o n => exact Bool.noConfusion h4
              | tup q ys hq hy hl =>
                obtain ⟨_, S2⟩ : H q ≠ none ∧ Hs H [] H1 [(q, .tup ys), (p, .tup [V.int i, V.int j, V.bl f, V.ref q])] := by
                  refine ⟨by rw [hq]; simp, ⟨?_, fun z hz => ?_, fun b o e hb => sm _ _ e, fun b hb => nomatch hb⟩⟩
                  · have ne : q ≠ p := fun z => by
                      rw [z, hp] at hq
                      injection hq with hq
                      injection hq with hq
                      subst hq
                      simp [spFit, spOk, isWh] at h4
                    simp [ne]
                  · simp only [List.mem_cons, List.not_mem_nil, or_false] at hz
                    rcases hz with rfl | rfl
                    · exact sm _ _ hq
                    · exact sm _ _ hp
                clear S S1
                walk_at "rd"
                have := k H1 sm
                simp only [fits, h1, h2, h3, iv, h4, soLen, Bool.true_and] at this
                exact this
theorem ok_np (T : Txt K mg w A) : FnOk P w K mg base (L2.CX P w) 4 A.f_need_piece A.d_need_piece ["row", "piece"] (sp_np A) := by
  have G_need_row : FnOk P w K mg base (L2.CX P w) 3 A.f_need_row A.d_need_row ["thing"] (sp_row A) := ok_row T
  have G_piece_fits : FnOk P w K mg base CX0 3 A.f_piece_fits A.d_piece_fits ["piece", "many"] sp_fits := ok_fits T
  have G_BadPaper : FnOk P w K mg base CX0 1 A.f_BadPaper___init__ A.d_BadPaper___init__ ["self", "at"] (Xc.spInit1 A.C_BadPaper "at") := ok_xBadPaper T
  refine T.c_need_piece.F.okX sc_need_piece (fun vs H Q E h => ?_) (fun cdv Ar outer s H vs Q E hr h => ?_)
  · obtain ⟨v, x, rfl, _⟩ := h; rfl
  · obtain ⟨v, x, rfl, h⟩ := h
    refine ⟨_, (pss_cons (ps_expr (pe_call G_need_row (hr.mono (by decide)) rfl T.c_need_row.m T.c_need_row.F.kp T.c_need_row.b .nil (passes_call (takes_of rfl rfl rfl rfl) fun _ _ _ _ z => z) (pa_cons (pv 0) pa_nil)))
      (pss_one (ps_if (pt_not (pt_val (pe_call G_piece_fits (hr.mono (by decide)) rfl T.c_piece_fits.m T.c_piece_fits.F.kp T.c_piece_fits.b .nil pass0 (pa_cons (pv 1) (pa_cons (pe_callB call_len_seq (by rfl) T.n_len PySem.boot_len (pa_cons (pv 0) pa_nil)) pa_nil)))))
        (pss_one (ps_raise rfl (takes_of rfl rfl rfl rfl) (Xc.pmk_own T.o_BadPaper T.i_BadPaper T.y_BadPaper G_BadPaper (hr.mono (by decide)) T.c_BadPaper___init__.b .nil pass0 rfl T.m_BadPaper (pa_cons pe_str pa_nil))))
        pss_nil))), ?_⟩
    walk_at "st"
    walk_at "rd"
    rcases h with h | ⟨a, xs, r, rfl, ha, hl, R, k1, k2⟩
    · exact h.row
    have S := Hs.start1 ha [] (.inl rfl)
    refine ⟨_, rfl, .inl ⟨a, xs, rfl, ha, hl, ?_⟩⟩
    walk_at "rd"
    refine ⟨x, r, xs.length, rfl, hl, R, fun H1 sm => ?_⟩
    cases h : fits xs.length r with
    | true =>
      walk_at "rd"
      walk_at "if0"
      exact k1 h H1 sm
    | false =>
      walk_at "rd"
      walk_at "if1"
      exact Xc.rd_mk1 fun d hd => k2 h H1 d sm hd
end
end K16

namespace K16
open PySem L2 Rs Xc Xd Xg Xh Xi Xj Xk Xl
theorem spV_at {sp : List Nat} {i : Nat} {v : V} (h : (spV sp)[i]? = some v) : ∃ p, sp[i]? = some p ∧ v = .int (p : Int) := by
  unfold spV at h
  rw [List.getElem?_map] at h
  cases e : sp[i]? with
  | none => rw [e] at h; cases h
  | some p => rw [e] at h; exact ⟨p, rfl, (Option.some.inj h).symm⟩
theorem spV_len (sp : List Nat) : (spV sp).length = sp.length := by unfold spV; rw [List.length_map]
theorem pap_led {H : Hp} {a p q : Addr} {xs : List V} {P : Pp} (ha : H a = some (.lst xs)) (hp : H p = some (.tup [.int P.s, .int P.n, .bl P.f, .ref q])) (hq : H q = some (.tup (spV P.sp))) :
    Hs H [a] H [(a, .lst xs), (p, .tup [.int P.s, .int P.n, .bl P.f, .ref q]), (q, .tup (spV P.sp))] := by
  have n1 : a ≠ p := ne_of ha hp (by intro z; cases z)
  have n2 : a ≠ q := ne_of ha hq (by intro z; cases z)
  have n3 : p ≠ q := ne_of hp hq (by
    intro z
    injection z with z
    have := congrArg (fun l => l[2]?) z
    unfold spV at this
    simp only [List.getElem?_map] at this
    cases hx : P.sp[2]? <;> simp [hx] at this)
  refine Hs.start H [a] _ (by simp [n1, n2, n3]) (fun z hz => ?_) (fun b hb => ?_)
  · simp only [List.mem_cons, List.not_mem_nil, or_false] at hz
    rcases hz with rfl | rfl | rfl
    · exact ha
    · exact hp
    · exact hq
  · obtain rfl : b = a := by simpa using hb
    rw [ha]; simp
def sp_lay (A : Ad) : Sp := fun vs H Q E => ∃ (v x : V), vs = [v, x] ∧ (BadR A H v E ∨ ∃ (a : Addr) (xs : List V), v = .ref a ∧ H a = some (.lst xs) ∧ xs.length ≤ 4096 ∧
  ((∃ P, PapAt H x P ∧ Fit P xs.length ∧ ∀ H', H' a = some (.lst (lay P xs)) → (∀ b o, H b = some o → b ≠ a → H' b = some o) → Q .non H') ∨
   (∃ r, Ppr H x r ∧ fits xs.length r = false ∧ Raise A.C_BadPaper "at" (.str "piece") H E)))
def sp_bck (A : Ad) : Sp := fun vs H Q E => ∃ (v x : V), vs = [v, x] ∧ (BadR A H v E ∨ ∃ (a : Addr) (xs : List V), v = .ref a ∧ H a = some (.lst xs) ∧ xs.length ≤ 4096 ∧
  ((∃ P ys, PapAt H x P ∧ Fit P xs.length ∧ ys.length = xs.length ∧ lay P ys = xs ∧ ∀ H', H' a = some (.lst ys) → (∀ b o, H b = some o → b ≠ a → H' b = some o) → Q .non H') ∨
   (∃ r, Ppr H x r ∧ fits xs.length r = false ∧ Raise A.C_BadPaper "at" (.str "piece") H E)))
section
variable {P : Program} {w : World} {K : PySem.W.Frag} {mg : Str → Option Value} {base : Heap} {A : Ad} {H H0 : Hp} {MM : List Addr} {L L' F : Led} {Q : VK} {E : XK}
theorem if_rev {f : Bool} {j : Nat} {t : Addr} {xs : List V} {σ : L2.St} {L3 : Led} {C : VK} (S : Hs H0 MM H ((t, .lst xs) :: L3)) (ht : H0 t = none) (e : σ[j]? = some (some (.ref t)))
    (h : ∀ u H', H0 u = none → Hs H0 MM H' ((u, .lst (if f = true then xs.reverse else xs)) :: L3) → C (.ref u) H') : if f = true then tRevL K (tVar j) σ H C else tVar j σ H C := by
  cases f with
  | true =>
    refine rd_iteT ?_
    refine rd_revL ?_
    refine rd_var e ?_
    exact rd_revV S (by walk_at "mem") fun p H' hp S' => h p H' hp (S'.sub (by rw [if_pos rfl]; exact .cons_cons _ (.cons _ (.refl _))))
  | false =>
    refine rd_iteF ?_
    refine rd_var e ?_
    exact h t H ht S
theorem if_rev2 {f : Bool} {te : TE} {ys : List V} {σ : L2.St} {L3 : Led} {C : VK} (ht : ∀ C' : VK, (∀ t H', H0 t = none → Hs H0 MM H' ((t, .lst ys) :: L3) → C' (.ref t) H') → te σ H C')
    (h : ∀ u H', H0 u = none → Hs H0 MM H' ((u, .lst (if f = true then ys.reverse else ys)) :: L3) → C (.ref u) H') : if f = true then tRevL K te σ H C else te σ H C := by
  cases f with
  | true =>
    refine rd_iteT ?_
    refine rd_revL ?_
    refine ht _ fun t H1 ht1 S1 => ?_
    exact rd_revV S1 (by walk_at "mem") fun p H' hp S' => h p H' hp (S'.sub (by rw [if_pos rfl]; exact .cons_cons _ (.cons _ (.refl _))))
  | false =>
    refine rd_iteF ?_
    exact ht _ h
theorem zsc_at {P : Pp} {xs : List V} {i : Nat} {v : V} {p : Nat} (h1 : (xs.drop (P.s + P.n))[i]? = some v) (h2 : P.sp[i]? = some p) : (zsc P xs).take (i + 1) = (zsc P xs).take i ++ [(v, p)] := by
  rw [List.take_succ]
  have : (zsc P xs)[i]? = some (v, p) := by
    unfold zsc
    rw [List.getElem?_zip_eq_some]
    exact ⟨h1, h2⟩
  rw [this]
  rfl
theorem rd_insert {a : Addr} {xs : List V} {y : V} {p : Nat} (S : Hs H0 MM H L) (c : Chg a (.lst xs) (.lst (put xs (y, p))) L L') (own : H0 a = none ∨ a ∈ MM) (hl : xs.length < 5000) (hp : p < 5000) (h : ∀ H', Hs H0 MM H' L' → Q .non H') :
    ∃ (l : Addr) (zs : List V) (i : Int) (z : V), V.ref a = .ref l ∧ [V.int (p : Int), y] = [.int i, z] ∧ H l = some (.lst zs) ∧ zs.length < sizeLine ∧ 0 ≤ i ∧ i < 2 ^ 63 ∧ Q .non (upd H l (.lst (zs.take i.toNat ++ [z] ++ zs.drop i.toNat))) :=
  ⟨a, xs, p, y, rfl, rfl, S.is _ c.mem, Rs.sz' (by omega), by omega, by omega, h _ (S.put c own)⟩
theorem ok_lay (T : Txt K mg w A) : FnOk P w K mg base (L2.CX P w) 5 A.f_lay_piece A.d_lay_piece ["row", "piece"] (sp_lay A) := by
  have G_need_piece : FnOk P w K mg base (L2.CX P w) 4 A.f_need_piece A.d_need_piece ["row", "piece"] (sp_np A) := ok_np T
  refine T.c_lay_piece.F.okX sc_lay_piece (fun vs H Q E h => ?_) (fun cdv Ar outer s H vs Q E hr h => ?_)
  · obtain ⟨v, x, rfl, _⟩ := h; rfl
  · obtain ⟨v, x, rfl, h⟩ := h
    refine ⟨_, (pss_cons (ps_expr (pe_call G_need_piece (hr.mono (by decide)) rfl T.c_need_piece.m T.c_need_piece.F.kp T.c_need_piece.b .nil (passes_call (takes_of rfl rfl rfl rfl) fun _ _ _ _ z => z) (pa_cons (pv 0) (pa_cons (pv 1) pa_nil))))
      (pss_cons (ps_asg (pv 1) (pg_tup rfl (pgs_cons (pg_name (i := 2) sc_lay_piece.nd rfl (Or.inl rfl)) (pgs_cons (pg_name (i := 3) sc_lay_piece.nd rfl (Or.inl rfl)) (pgs_cons (pg_name (i := 4) sc_lay_piece.nd rfl (Or.inl rfl)) (pgs_cons (pg_name (i := 5) sc_lay_piece.nd rfl (Or.inl rfl)) pgs_nil))))))
      (pss_cons (ps_set (i := 6) sc_lay_piece.nd rfl (Or.inl rfl) (pe_slice sl_list (pv 0) (po_some (pv 2)) (po_some (pe_op op_add (pv 2) (pv 3)))))
      (pss_cons (ps_set (i := 7) sc_lay_piece.nd rfl (Or.inl rfl) (pe_ifExp (pt_val (pv 4)) (pe_revL (pv 6)) (pv 6)))
      (pss_cons (ps_for (passes_of rfl) rfl (Xg.pi_zpS false true (by rfl) T.n_zip (pa_cons (pe_slice sl_list (pv 0) (po_some (pe_op op_add (pv 2) (pv 3))) po_none) (pa_cons (pv 5) pa_nil))) (pg_tup rfl (pgs_cons (pg_name (i := 8) sc_lay_piece.nd rfl (Or.inl rfl)) (pgs_cons (pg_name (i := 9) sc_lay_piece.nd rfl (Or.inl rfl)) pgs_nil)))
        (pss_one (ps_expr (pe_bm PySem.F.plainAttrs_list PySem.F.slot_list_insert PySem.F.type_list_insert mt_insert (pv 7) (pa_cons (pv 9) (pa_cons (pv 8) pa_nil))))))
      (pss_one (ps_asg (pv 7) (pg_slc (pv 0) (po_some (pv 2)) (po_some (pe_op op_add (pv 2) (pe_callB call_len_seq (by rfl) T.n_len PySem.boot_len (pa_cons (pv 7) pa_nil)))))))))))), ?_⟩
    walk_at "st"
    walk_at "rd"
    rcases h with h | ⟨a, xs, rfl, ha, hl, h⟩
    · exact ⟨_, _, rfl, .inl h⟩
    rcases h with ⟨P, ⟨p, q, rfl, hp, hq⟩, F, k⟩ | ⟨r, R, hf, k⟩
    · obtain ⟨r, R, hf⟩ := pap_fits (m := xs.length) ⟨p, q, rfl, hp, hq⟩ (by have := F.le; omega)
      refine ⟨_, _, rfl, .inr ⟨a, xs, r, rfl, ha, by omega, R, fun _ H1 sm => ?_, fun z => ?_⟩⟩
      · have S : Hs H [a] H1 _ := (pap_led ha hp hq).more sm
        have hle := F.le
        have hn1 := F.n1
        walk_at "rd"
        refine rd_slVx S (by walk_at "mem") fun t H2 ht S2 => ?_
        rw [show ((P.s : Int) + P.n) = ((P.s + P.n : Nat) : Int) by omega, show cutV xs (some (P.s : Int)) (some ((P.s + P.n : Nat) : Int)) = cut P xs from cut_run xs P.s P.n] at S2
        clear S
        walk_at "rd"
        refine if_rev S2 ht rfl fun u H3 hu S3 => ?_
        have es : (if P.f = true then (cut P xs).reverse else cut P xs) = stc P xs := rfl
        rw [es] at S3
        clear S2
        have hz := zsc_len F
        have hst := stc_len F
        walk_at "rd"
        refine Xg.rd_zpS ?_
        walk_at "rd"
        refine rd_slVx S3 (by walk_at "mem") fun t2 H4 ht2 S4 => ?_
        rw [show ((P.s : Int) + P.n) = ((P.s + P.n : Nat) : Int) by omega, cut_from] at S4
        walk_at "rd"
        refine Xg.rd_zpSI (S4.lst (xs := xs.drop (P.s + P.n)) (by walk_at "mem")) (S4.tup (xs := spV P.sp) (by walk_at "mem")) ?_
        refine Xg.fw_zpS (xs := xs.drop (P.s + P.n)) (ys := spV P.sp) (fun i σ H' => ∃ o8 o9, σ = [some (.ref a), some (.ref p), some (.int P.s), some (.int P.n), some (.bl P.f), some (.ref q), some (.ref t), some (.ref u), o8, o9] ∧
          Hs H [a] H' [(t2, .lst (xs.drop (P.s + P.n))), (u, .lst (ins (stc P xs) ((zsc P xs).take i))), (a, .lst xs), (p, .tup [.int P.s, .int P.n, .bl P.f, .ref q]), (q, .tup (spV P.sp))]) ⟨_, _, rfl, S4⟩ (fun i σ H' _ h => by
            obtain ⟨_, _, _, S⟩ := h
            exact ⟨S.lst (by walk_at "mem"), S.tup (by walk_at "mem")⟩) ?_ ?_
        · rintro i v y σ H5 U e1 e2 ⟨o8, o9, rfl, S⟩ hU
          obtain ⟨sp, e3, rfl⟩ := spV_at e2
          obtain ⟨_, S5⟩ := S.new hU (.tup [v, .int (sp : Int)])
          clear S
          have hil : i < P.sp.length := (List.getElem?_eq_some_iff.mp e3).1
          have hsp := F.at_ _ _ e3
          walk_at "rd"
          refine ⟨u, ins (stc P xs) ((zsc P xs).take i), sp, v, rfl, rfl, S5.is (u, .lst (ins (stc P xs) ((zsc P xs).take i))) (by walk_at "mem"), Rs.sz' (by rw [ins_len, List.length_take]; omega), by omega, by omega, _, _, rfl, ?_⟩
          have S6 := S5.put (a := u) (o' := .lst (put (ins (stc P xs) ((zsc P xs).take i)) (v, sp))) (by walk_at "chg") (Or.inl hu)
          rw [zsc_at e1 e3, ins_snoc]
          exact S6.sub (by walk_at "sub")
        · rintro σ H5 ⟨o8, o9, rfl, S⟩
          have em : min (xs.drop (P.s + P.n)).length (spV P.sp).length = (zsc P xs).length := by rw [hz, List.length_drop, spV_len]; omega
          rw [em, List.take_length] at S
          have hil := ins_len (zsc P xs) (stc P xs)
          clear S4 S3
          walk_at "rd"
          have lf := lay_len F
          refine gt_slcV S (zs := lay P xs) (by walk_at "chg") (by walk_at "mem") (fun z => by
            have := S.nd
            simp [z] at this) (by walk_at "own") (by omega) (by omega) (by omega) (Rs.sz (by omega)) ?_ fun H6 S6 => ?_
          · unfold lay
            rw [show ((P.s : Int) + (ins (stc P xs) (zsc P xs)).length).toNat = P.s + P.n + P.sp.length by omega]
            rfl
          · walk_at "rd"
            exact k H6 (S6.get (by walk_at "mem")) fun b o e hb => S6.old1 e hb
      · rw [hf F] at z; cases z
    · refine ⟨_, _, rfl, .inr ⟨a, xs, r, rfl, ha, by omega, R, fun z => ?_, fun _ H1 d sm hd => ?_⟩⟩
      · rw [hf] at z; cases z
      · exact k H1 d sm hd
theorem fm_range {α : Type} : ∀ xs : List α, (List.range xs.length).filterMap (fun i => xs[i]?) = xs
  | [] => rfl
  | x :: xs => by
    rw [List.length_cons, List.range_succ_eq_map, List.filterMap_cons, List.filterMap_map]
    show x :: List.filterMap (fun i => xs[i]?) (List.range xs.length) = _
    rw [fm_range xs]
theorem ixT_rev (n : Nat) : ixT n none none (-1) = (List.range n).map fun k => n - 1 - k := by
  have e : (Builtin.Slice.slicePlaces (Builtin.Slice.sliceAdjust none none (-1) n).1 (Builtin.Slice.sliceAdjust none none (-1) n).2 (-1)) = n := by
    simp [Builtin.Slice.sliceAdjust, Builtin.Slice.slicePlaces]
    omega
  unfold ixT
  rw [e]
  refine List.map_congr_left fun k hk => ?_
  have hk : k < n := by simpa using hk
  simp [Builtin.Slice.sliceAdjust]
  omega
theorem fm_congr {α β : Type} {f g : α → Option β} : ∀ l : List α, (∀ x ∈ l, f x = g x) → l.filterMap f = l.filterMap g
  | [], _ => rfl
  | x :: l, h => by
    rw [List.filterMap_cons, List.filterMap_cons, h x List.mem_cons_self, fm_congr l fun y hy => h y (List.mem_cons_of_mem _ hy)]
theorem pick_rev (ns : List Int) : pickI ns none none (-1) = ns.reverse := by
  unfold pickI
  rw [ixT_rev, List.filterMap_map]
  have e := fm_range ns.reverse
  rw [List.length_reverse] at e
  rw [← e]
  refine fm_congr _ fun k hk => ?_
  have hk : k < ns.length := by simpa using hk
  show ns[ns.length - 1 - k]? = ns.reverse[k]?
  rw [List.getElem?_reverse hk]
theorem ok_bck (T : Txt K mg w A) : FnOk P w K mg base (L2.CX P w) 5 A.f_lay_back A.d_lay_back ["row", "piece"] (sp_bck A) := by
  have G_need_piece : FnOk P w K mg base (L2.CX P w) 4 A.f_need_piece A.d_need_piece ["row", "piece"] (sp_np A) := ok_np T
  refine T.c_lay_back.F.okX sc_lay_back (fun vs H Q E h => ?_) (fun cdv Ar outer s H vs Q E hr h => ?_)
  · obtain ⟨v, x, rfl, _⟩ := h; rfl
  · obtain ⟨v, x, rfl, h⟩ := h
    refine ⟨_, (pss_cons (ps_expr (pe_call G_need_piece (hr.mono (by decide)) rfl T.c_need_piece.m T.c_need_piece.F.kp T.c_need_piece.b .nil (passes_call (takes_of rfl rfl rfl rfl) fun _ _ _ _ z => z) (pa_cons (pv 0) (pa_cons (pv 1) pa_nil))))
      (pss_cons (ps_asg (pv 1) (pg_tup rfl (pgs_cons (pg_name (i := 2) sc_lay_back.nd rfl (Or.inl rfl)) (pgs_cons (pg_name (i := 3) sc_lay_back.nd rfl (Or.inl rfl)) (pgs_cons (pg_name (i := 4) sc_lay_back.nd rfl (Or.inl rfl)) (pgs_cons (pg_name (i := 5) sc_lay_back.nd rfl (Or.inl rfl)) pgs_nil))))))
      (pss_cons (ps_par (i := 6) (j := 7) rfl sc_lay_back.nd rfl rfl (by decide) rfl rfl (pa_cons (pe_slice sl_list (pv 0) (po_some (pv 2)) (po_some (pe_op op_add (pe_op op_add (pv 2) (pv 3)) (pe_callB call_len_seq (by rfl) T.n_len PySem.boot_len (pa_cons (pv 5) pa_nil))))) (pa_cons (pe_lst pa_nil) pa_nil)) (by rfl))
      (pss_cons (ps_for (passes_of rfl) rfl (pi_tup (pe_slT3 (pv 5) po_none po_none (po_some (pe_un un_neg pe_int)))) (pg_name (i := 8) sc_lay_back.nd rfl (Or.inl rfl))
        (pss_one (ps_expr (pe_bm PySem.F.plainAttrs_list PySem.F.slot_list_append PySem.F.type_list_append mt_append (pv 7) (pa_cons (pe_bm PySem.F.plainAttrs_list PySem.F.slot_list_pop PySem.F.type_list_pop mt_popAt (pv 6) (pa_cons (pv 8) pa_nil)) pa_nil)))))
      (pss_cons (ps_set (i := 9) sc_lay_back.nd rfl (Or.inl rfl) (pe_ifExp (pt_val (pv 4)) (pe_revL (pv 6)) (pv 6)))
      (pss_one (ps_asg (pe_op op_cat (pv 9) (pe_revL (pv 7))) (pg_slc (pv 0) (po_some (pv 2)) (po_some (pe_op op_add (pe_op op_add (pv 2) (pe_callB call_len_seq (by rfl) T.n_len PySem.boot_len (pa_cons (pv 9) pa_nil))) (pe_callB call_len_seq (by rfl) T.n_len PySem.boot_len (pa_cons (pv 7) pa_nil)))))))))))), ?_⟩
    walk_at "st"
    walk_at "rd"
    rcases h with h | ⟨a, xs, rfl, ha, hl, h⟩
    · exact ⟨_, _, rfl, .inl h⟩
    rcases h with ⟨P, ys, ⟨p, q, rfl, hp, hq⟩, F, yl, ey, k⟩ | ⟨r, R, hf, k⟩
    · obtain ⟨r, R, hf⟩ := pap_fits (m := xs.length) ⟨p, q, rfl, hp, hq⟩ (by have := F.le; omega)
      refine ⟨_, _, rfl, .inr ⟨a, xs, r, rfl, ha, by omega, R, fun _ H1 sm => ?_, fun z => ?_⟩⟩
      · have S : Hs H [a] H1 _ := (pap_led ha hp hq).more sm
        have hle := F.le
        have hn1 := F.n1
        have F2 : Fit P ys.length := by rw [yl]; exact F
        obtain ⟨pa1, pa2, pa3⟩ := lay_parts F2
        rw [ey] at pa1 pa2 pa3
        have hz := zsc_len F2
        have hst := stc_len F2
        walk_at "rd"
        refine rd_slVx S (by walk_at "mem") fun u H2 hu S2 => ?_
        rw [spV_len, show ((P.s : Int) + P.n + P.sp.length) = ((P.s + (P.n + P.sp.length) : Nat) : Int) by omega, cut_run, pa2] at S2
        clear S
        walk_at "rd"
        rename_i g H3 hg S3
        clear S2
        have hzs : (zsc P ys).map (·.2) = P.sp := by
          unfold zsc
          exact zip_snd _ _ (by rw [List.length_drop]; omega)
        refine rd_slR3 (ns := P.sp.map fun (x : Nat) => (x : Int)) S3 (by walk_at "mem") (by unfold spV; rw [List.map_map]; rfl) (by decide) (by decide) (by rw [pick_rev]; exact Rs.sz (by rw [List.length_reverse, List.length_map]; omega)) fun v H4 hv S4 => ?_
        have er : (pickI (P.sp.map fun (x : Nat) => (x : Int)) none none (-1)).map V.int = spV P.sp.reverse := by
          rw [pick_rev, ← List.map_reverse, List.map_map]
          rfl
        rw [er] at S4
        clear S3
        walk_at "rd"
        refine fw_tup (xs := spV P.sp.reverse) (fun i σ H' => ∃ o8, σ = [some (.ref a), some (.ref p), some (.int P.s), some (.int P.n), some (.bl P.f), some (.ref q), some (.ref u), some (.ref g), o8, none] ∧
          Hs H [a] H' [(v, .tup (spV P.sp.reverse)), (g, .lst (((zsc P ys).map (·.1)).reverse.take i)), (u, .lst (ins (stc P ys) ((zsc P ys).take ((zsc P ys).length - i)))), (a, .lst xs), (p, .tup [.int P.s, .int P.n, .bl P.f, .ref q]), (q, .tup (spV P.sp))]) ⟨_, rfl, by
            rw [Nat.sub_zero, List.take_length, List.take_zero]; exact S4⟩ (fun i σ H' _ h => by
            obtain ⟨_, _, S⟩ := h
            exact S.tup (by walk_at "mem")) ?_ ?_
        · rintro i y σ H5 e1 ⟨o8, rfl, S⟩
          obtain ⟨sp, e2, rfl⟩ := spV_at e1
          obtain ⟨m, hm⟩ : ∃ m, (zsc P ys).length = i + 1 + m := by
            have := (List.getElem?_eq_some_iff.mp e2).1
            rw [List.length_reverse] at this
            exact ⟨(zsc P ys).length - (i + 1), by omega⟩
          have e3 : P.sp[m]? = some sp := by
            rw [List.getElem?_reverse (by omega)] at e2
            rw [show m = P.sp.length - 1 - i by omega]; exact e2
          obtain ⟨x, hx⟩ : ∃ x, (zsc P ys)[m]? = some (x, sp) := by
            have hl : m < (zsc P ys).length := by omega
            refine ⟨((zsc P ys)[m]).1, ?_⟩
            rw [List.getElem?_eq_getElem hl]
            have : ((zsc P ys).map (·.2))[m]? = some sp := by rw [hzs]; exact e3
            rw [List.getElem?_map, List.getElem?_eq_getElem hl] at this
            rw [← Option.some.inj this]
          have hsp := F.at_ _ _ e3
          have et : (zsc P ys).take ((zsc P ys).length - i) = (zsc P ys).take m ++ [(x, sp)] := by
            rw [show (zsc P ys).length - i = m + 1 by omega, List.take_succ, hx]; rfl
          have eg : ((zsc P ys).map (·.1)).reverse.take (i + 1) = ((zsc P ys).map (·.1)).reverse.take i ++ [x] := by
            rw [List.take_succ, List.getElem?_reverse (by rw [List.length_map]; omega), List.length_map, show (zsc P ys).length - 1 - i = m by omega, List.getElem?_map, hx]; rfl
          rw [et, ins_snoc] at S
          have hil := ins_len ((zsc P ys).take m) (stc P ys)
          rw [List.length_take] at hil
          walk_at "rd"
          refine ⟨u, put (ins (stc P ys) ((zsc P ys).take m)) (x, sp), sp, sp, x, rfl, rfl, S.is (u, .lst (put (ins (stc P ys) ((zsc P ys).take m)) (x, sp))) (by walk_at "mem"), by omega, by omega, ?_, put_get (s := ins (stc P ys) ((zsc P ys).take m)) (by omega), ?_⟩
          · exact (ixN_seq (j := sp) (by unfold ixN; rw [put_len, if_pos (by omega)]; simp; omega)).1
          · rw [put_erase (by omega)]
            have S5 := S.put (a := u) (o' := .lst (ins (stc P ys) ((zsc P ys).take m))) (by walk_at "chg") (Or.inl hu)
            revert S5
            generalize upd H5 u (.lst (ins (stc P ys) ((zsc P ys).take m))) = H6
            intro S5
            clear S S4
            walk_at "rd"
            rename_i H7 S7
            refine ⟨_, rfl, ?_⟩
            rw [eg, show (zsc P ys).length - (i + 1) = m by omega]
            exact S7
        · rintro σ H5 ⟨o8, rfl, S⟩
          have el : (spV P.sp.reverse).length = (zsc P ys).length := by rw [spV_len, List.length_reverse, hz]
          have el2 : (spV P.sp.reverse).length = (((zsc P ys).map (·.1)).reverse).length := by rw [el, List.length_reverse, List.length_map]
          rw [el2, List.take_length, List.length_reverse, List.length_map, Nat.sub_self, List.take_zero] at S
          have e0 : ins (stc P ys) [] = stc P ys := rfl
          rw [e0] at S
          have S : Hs H [a] H5 [(u, .lst (stc P ys)), (v, .tup (spV P.sp.reverse)), (g, .lst ((zsc P ys).map (·.1)).reverse), (a, .lst xs), (p, .tup [.int P.s, .int P.n, .bl P.f, .ref q]), (q, .tup (spV P.sp))] := S.re (by walk_at "led")
          clear S4
          walk_at "rd"
          refine if_rev S hu rfl fun t H6 ht S6 => ?_
          have ec : (if P.f = true then (stc P ys).reverse else stc P ys) = cut P ys := by
            unfold stc
            split <;> simp
          rw [ec] at S6
          clear S
          have hc := cut_len F2
          have hrp := row_parts F2
          walk_at "rd"
          rename_i g2 H7 hg2 S7 m2 H8 hm2 S8
          clear S6 S7
          refine gt_slcV S8 (zs := ys) (by walk_at "chg") (by walk_at "mem") (fun z => by
            have := S8.nd
            simp [z] at this) (by walk_at "own") (by omega) (by rw [List.length_reverse, List.length_map]; omega) (by rw [List.length_reverse, List.length_map]; omega) (Rs.sz (by rw [List.length_append, List.reverse_reverse, List.length_map]; omega)) ?_ fun H9 S9 => ?_
          · rw [List.reverse_reverse, List.length_reverse, List.length_map, show ((P.s : Int) + (cut P ys).length + (zsc P ys).length).toNat = P.s + P.n + P.sp.length by omega, Int.toNat_natCast, pa1, pa3]
            exact row_parts F2
          · walk_at "rd"
            exact k H9 (S9.get (by walk_at "mem")) fun b o e hb => S9.old1 e hb
      · rw [hf F] at z; cases z
    · refine ⟨_, _, rfl, .inr ⟨a, xs, r, rfl, ha, by omega, R, fun z => ?_, fun _ H1 d sm hd => ?_⟩⟩
      · rw [hf] at z; cases z
      · exact k H1 d sm hd
end
end K16

namespace K16
open PySem L2 Rs Xc Xd Xg Xh Xi Xj Xk Xl
def LeastR (n c : Nat) : Prop := ∃ j, At n j ∧ c = ceilP n j
theorem LeastR.uniq {n c d : Nat} (h : LeastR n c) (k : LeastR n d) : c = d := by
  obtain ⟨i, h1, rfl⟩ := h
  obtain ⟨j, k1, rfl⟩ := k
  rw [h1.uniq k1]
theorem LeastR.le {n c : Nat} (h : LeastR n c) : c ≤ 8 := by
  obtain ⟨j, h1, rfl⟩ := h
  by_cases c : 8 ≤ n
  · exact (ceil_big c h1).2
  · rw [ceil_small (by omega) h1]; omega
theorem LeastR.pos {n c : Nat} (h : LeastR n c) (h1 : 1 ≤ n) : 1 ≤ c := by
  obtain ⟨j, k1, rfl⟩ := h
  by_cases c : 8 ≤ n
  · have := (ceil_big c k1).1; omega
  · rw [ceil_small (by omega) k1]; omega
def sp_least : Sp := fun vs H Q _ => ∃ n : Nat, vs = [.int n] ∧ n ≤ 4096 ∧ ∀ (H' : Hp) (c : Nat), Same H H' → LeastR n c → Q (.int c) H'
def sp_nleast (A : Ad) : Sp := fun vs H Q E => ∃ x : V, vs = [x] ∧ Odd H x ∧ ((isWh x 1 64 = true ∧ Q .non H) ∨ (isWh x 1 64 = false ∧ Raise A.C_BadNumber "at" x H E))
def sp_piece (A : Ad) : Sp := fun vs H Q E => ∃ (r j s l : V), vs = [r, j, s, l] ∧ (BadR A H r E ∨ ∃ (a : Addr) (xs : List V), r = .ref a ∧ H a = some (.lst xs) ∧ xs.length ≤ 4096 ∧ (BadO A H j E ∨ ∃ (x dx : Addr) (fs : List (Str × V)), j = .ref x ∧ H x = some (.ins A.C_Order dx fs) ∧ Odd H s ∧ Odd H l ∧
  ((isWh s 0 ((xs.length : Int) - 1) = false ∧ Raise A.C_BadNumber "at" s H E) ∨
   (isWh s 0 ((xs.length : Int) - 1) = true ∧ isWh l 1 64 = false ∧ Raise A.C_BadNumber "at" l H E) ∨
   ∃ (st least : Nat) (f : Addr) (n : Int) (ks : List Int), s = .int st ∧ l = .int least ∧ 1 ≤ least ∧ least ≤ 64 ∧ st + least ≤ xs.length ∧ fs = flds f n ∧ RuleAt H f ∧ Keys H xs ks ∧ (∀ i, st < i → i < xs.length → lt ks i = false) ∧
     ∀ (p q : Addr) (n' : Int) (H' : Hp), H' p = some (.tup [.int st, .int (xs.length - st : Nat), .bl false, .ref q]) → H' q = some (.tup []) → H' a = some (.lst xs) → H' x = some (.ins A.C_Order dx (flds f n')) → (∀ b o, H b = some o → b ≠ x → b ≠ a → H' b = some o) → Q (.ref p) H')))
def sp_pieces (A : Ad) : Sp := fun vs H Q E => ∃ (r j l : V), vs = [r, j, l] ∧ (BadR A H r E ∨ ∃ (a : Addr) (xs : List V), r = .ref a ∧ H a = some (.lst xs) ∧ xs.length ≤ 4096 ∧ (BadO A H j E ∨ ∃ (x dx : Addr) (fs : List (Str × V)), j = .ref x ∧ H x = some (.ins A.C_Order dx fs) ∧ Odd H l ∧ l ≠ .non ∧
  ((isWh l 1 64 = false ∧ Raise A.C_BadNumber "at" l H E) ∨ (isWh l 1 64 = true ∧ xs = [] ∧ ∀ p H', H p = none → H' p = some (.lst []) → Same H H' → Q (.ref p) H'))))
section
variable {P : Program} {w : World} {K : PySem.W.Frag} {mg : Str → Option Value} {base : Heap} {A : Ad} {H H0 : Hp} {MM : List Addr} {L L' F : Led} {Q : VK} {E : XK}
local macro_rules | `(tactic| walk_at "rd1") => `(tactic| first
  | with_reducible refine Xc.rd_bi ?_
  | with_reducible refine Xc.rd_put1 ?_
  | with_reducible refine Xc.rd_tmk ?_
  | with_reducible refine Xc.rd_xv ?_
  | with_reducible refine Xh.rd_callF ?_)
theorem cutV_nn (xs : List V) (i j : Nat) : cutV xs (some (i : Int)) (some (j : Int)) = (xs.drop i).take (j - i) := by
  unfold cutV
  rw [HT.sIx_nat, HT.sIx_nat]
  by_cases h : i ≤ xs.length
  · rw [Nat.min_eq_left h]
    by_cases h2 : j ≤ xs.length
    · rw [Nat.min_eq_left h2]
    · rw [Nat.min_eq_right (by omega), List.take_of_length_le (by simp), List.take_of_length_le (by simp; omega)]
  · rw [show min i xs.length = xs.length by omega, List.drop_of_length_le (Nat.le_refl _), List.drop_of_length_le (show xs.length ≤ i by omega)]
    simp
theorem kb_1 (T : Txt K mg w A) : ∃ ds : List Value, Vals [V.int 0, V.int 4096] ds ∧ Binds K A.d_is_whole ["thing", "least", "most"] ds := by
  refine T.c_is_whole.F.binds0 1 (by simp) (by simp) ?_
  intro D doc pm an cdv ct us ks h1 h2
  match us, h1, ks, h2 with
  | [u], _, [m, n], _ => exact ⟨_, _, _, _, _, _, rfl, rfl, _, _, _, _, _, _, rfl, rfl, rfl⟩
theorem ok_least (T : Txt K mg w A) : FnOk P w K mg base CX0 3 A.f_least_run A.d_least_run ["many"] sp_least := by
  have G_is_whole : FnOk P w K mg base CX0 1 A.f_is_whole A.d_is_whole ["thing", "least", "most"] (sp_whole K) := ok_is_whole T
  obtain ⟨ds, d_is_whole, b_is_whole⟩ := kb_1 T
  refine T.c_least_run.F.ok sc_least_run (fun vs H Q E h => ?_) (fun cdv Ar outer s H vs Q E hr h => ?_)
  · obtain ⟨x, rfl, _⟩ := h; rfl
  · obtain ⟨n, rfl, hn, k⟩ := h
    refine ⟨_, (pss_cons (ps_if (pt_not (pt_val (pe_call G_is_whole (hr.mono (by decide)) rfl T.c_is_whole.m T.c_is_whole.F.kp b_is_whole d_is_whole pass0 (pa_cons (pv 0) pa_nil))))
        (pss_one ps_never)
        pss_nil)
      (pss_cons (ps_par (i := 1) (j := 2) rfl sc_least_run.nd rfl rfl (by decide) rfl rfl (pa_cons (pv 0) (pa_cons pe_int pa_nil)) (by rfl))
      (pss_cons (ps_while PassesOwn.never (pt_cmpR op_ge (pv 1) (pe_gl rfl T.g_LEAST) (nomark _))
        (pss_cons (ps_asg (pe_callB Xc.call_dm (by rfl) T.n_divmod PyProof.Rows.boot_divmod (pa_cons (pv 1) (pa_cons pe_int pa_nil))) (pg_tup rfl (pgs_cons (pg_name (i := 1) sc_least_run.nd rfl (Or.inl rfl)) (pgs_cons (pg_name (i := 3) sc_least_run.nd rfl (Or.inl rfl)) pgs_nil))))
        (pss_one (ps_aug (i := 2) sc_least_run.nd rfl (Or.inl rfl) (pv 3) Xc.ip_or))))
      (pss_one (ps_ret (pe_op op_add (pv 1) (pv 2))))))), ?_⟩
    have S := Hs.start0 H
    walk_at "st"
    walk_at "rd"
    refine ⟨.int n, _, _, rfl, .int _, ?_⟩
    walk_at "rd"
    rw [isWh_int, decide_eq_true (show (0 : Int) ≤ n by omega), decide_eq_true (show (n : Int) ≤ 4096 by omega)]
    walk_at "if0"
    refine rd_while (fun m σ H' => ∃ (j : Nat) (o4 : Option V), σ = [some (.int (n : Nat)), some (.int ((n / 2 ^ j : Nat) : Int)), some (.int (if n % 2 ^ j = 0 then 0 else 1)), o4] ∧ Hs H [] H' [] ∧ m = n / 2 ^ j ∧ (j = 0 ∨ 8 ≤ n / 2 ^ (j - 1))) _
      ⟨0, none, by simp [Nat.mod_one], S, rfl, Or.inl rfl⟩ ?_
    rintro m σ H' ⟨j, o4, rfl, S1, rfl, hj⟩
    have hle : n / 2 ^ j ≤ n := Nat.div_le_self _ _
    walk_at "rd"
    refine rd_dec ?_ ?_ <;> intro hc
    · walk_at "rd"
      refine Xc.rd_dm S1 (by decide) (by decide) (by omega) (by omega) fun p H2 hp S2 => ?_
      walk_at "rd"
      have e1 : ((n / 2 ^ j : Nat) : Int) / 2 = ((n / 2 ^ (j + 1) : Nat) : Int) := by rw [← half_div]; omega
      have e2 : ((n / 2 ^ j : Nat) : Int) % 2 = ((n / 2 ^ j % 2 : Nat) : Int) := by omega
      have e3 : Builtin.bitOr (if n % 2 ^ j = 0 then 0 else 1) ((n / 2 ^ j % 2 : Nat) : Int) = (if n % 2 ^ (j + 1) = 0 then 0 else 1) := by
        have hm := half_more n j
        rcases Nat.mod_two_eq_zero_or_one (n / 2 ^ j) with z | z <;> by_cases h0 : n % 2 ^ j = 0
        · rw [if_pos h0, z, if_pos (hm.mpr ⟨h0, z⟩)]; decide
        · rw [if_neg h0, z, if_neg (fun q => h0 (hm.mp q).1)]; decide
        · rw [if_pos h0, z, if_neg (fun q => by have := (hm.mp q).2; omega)]; decide
        · rw [if_neg h0, z, if_neg (fun q => h0 (hm.mp q).1)]; decide
      rw [e1, e2, e3]
      refine ⟨n / 2 ^ (j + 1), ?_, j + 1, some (.int ((n / 2 ^ j % 2 : Nat) : Int)), rfl, S2.sub (by walk_at "sub"), rfl, Or.inr ?_⟩
      · rw [← half_div]; omega
      · rw [Nat.add_sub_cancel]; omega
    · walk_at "rd"
      have e4 : (((n / 2 ^ j : Nat) : Int) + (if n % 2 ^ j = 0 then (0 : Int) else 1)) = ((ceilP n j : Nat) : Int) := by
        unfold ceilP
        split <;> simp
      rw [e4]
      exact k _ _ (fun b o e => S1.old _ _ e (by simp)) ⟨j, at_end (by omega) hj, rfl⟩
theorem ok_nleast (T : Txt K mg w A) : FnOk P w K mg base (L2.CX P w) 3 A.f_need_least A.d_need_least ["least"] (sp_nleast A) := by
  have G_is_whole : FnOk P w K mg base CX0 1 A.f_is_whole A.d_is_whole ["thing", "least", "most"] (sp_whole K) := ok_is_whole T
  have G_BadNumber : FnOk P w K mg base CX0 1 A.f_BadNumber___init__ A.d_BadNumber___init__ ["self", "at"] (Xc.spInit1 A.C_BadNumber "at") := ok_xBadNumber T
  obtain ⟨mv, kb_is_whole_least_most⟩ := kb_lm T
  refine T.c_need_least.F.okX sc_need_least (fun vs H Q E h => ?_) (fun cdv Ar outer s H vs Q E hr h => ?_)
  · obtain ⟨x, rfl, _⟩ := h; rfl
  · obtain ⟨x, rfl, ox, h⟩ := h
    refine ⟨_, (pss_one (ps_if (pt_not (pt_val (pe_callN G_is_whole (hr.mono (by decide)) rfl T.c_is_whole.m T.c_is_whole.F.kp kb_is_whole_least_most pass0 (pa_cons (pv 0) pa_nil) (pk_cons pe_int (pk_cons (pe_gl rfl T.g_MOST_LEAST) pk_nil)))))
        (pss_one (ps_raise rfl (takes_of rfl rfl rfl rfl) (Xc.pmk_own T.o_BadNumber T.i_BadNumber T.y_BadNumber G_BadNumber (hr.mono (by decide)) T.c_BadNumber___init__.b .nil pass0 rfl T.m_BadNumber (pa_cons (pv 0) pa_nil))))
        pss_nil)), ?_⟩
    walk_at "st"
    walk_at "rd"
    refine ⟨rfl, rfl, x, _, _, rfl, ox, ?_⟩
    walk_at "rd"
    rcases h with ⟨h1, q⟩ | ⟨h1, r⟩
    · rw [h1]
      walk_at "if0"
      exact q
    · rw [h1]
      walk_at "if1"
      exact Xc.rd_mk1 fun d hd => r H d (fun _ _ e => e) hd
theorem b_rspot (T : Txt K mg w A) : ∃ ds : List Value, Vals [V.int 0, V.non] ds ∧ Binds K A.d_right_spot ["row", "order", "thing", "start", "end"] ds := by
  refine T.c_right_spot.F.binds0 3 (by simp) (by simp) ?_
  intro D doc pm an cdv ct us ks h1 h2
  match us, h1, ks, h2 with
  | [u, v, x], _, [m, n], _ => exact ⟨_, _, _, _, _, _, rfl, rfl, _, _, _, _, _, _, rfl, rfl, rfl⟩
theorem b_run3 (T : Txt K mg w A) : ∃ ds : List Value, Vals [V.non] ds ∧ Binds K A.d_run_at ["row", "order", "start", "end"] ds := b_run T
theorem ok_piece (T : Txt K mg w A) : FnOk P w K mg base (L2.CX P w) 6 A.f_cut_piece A.d_cut_piece ["row", "order", "start", "least"] (sp_piece A) := by
  have G_need_row : FnOk P w K mg base (L2.CX P w) 3 A.f_need_row A.d_need_row ["thing"] (sp_row A) := ok_row T
  have G_need_order : FnOk P w K mg base (L2.CX P w) 3 A.f_need_order A.d_need_order ["thing"] (sp_norder A) := ok_norder T
  have G_is_whole : FnOk P w K mg base CX0 1 A.f_is_whole A.d_is_whole ["thing", "least", "most"] (sp_whole K) := ok_is_whole T
  have G_need_least : FnOk P w K mg base (L2.CX P w) 3 A.f_need_least A.d_need_least ["least"] (sp_nleast A) := ok_nleast T
  have G_run_at : FnOk P w K mg base (L2.CX P w) 5 A.f_run_at A.d_run_at ["row", "order", "start", "end"] (sp_run A) := ok_run T
  have G_right_spot : FnOk P w K mg base (L2.CX P w) 2 A.f_right_spot A.d_right_spot ["row", "order", "thing", "start", "end"] (fun _ _ _ _ => False) := Xc.FunC.okX T.cx_right_spot sc_right_spot (fun vs H Q E h => h.elim) (fun Ar outer s H vs Q E hr h => h.elim)
  have G_BadNumber : FnOk P w K mg base CX0 1 A.f_BadNumber___init__ A.d_BadNumber___init__ ["self", "at"] (Xc.spInit1 A.C_BadNumber "at") := ok_xBadNumber T
  obtain ⟨mv, kb_is_whole_most⟩ := kb_m T
  obtain ⟨ds, d_run_at, b_run_at⟩ := b_run T
  obtain ⟨ds2, d_right_spot, b_right_spot⟩ := b_rspot T
  refine T.c_cut_piece.F.ok sc_cut_piece (fun vs H Q E h => ?_) (fun cdv Ar outer s H vs Q E hr h => ?_)
  · obtain ⟨_, _, _, _, rfl, _⟩ := h; rfl
  · obtain ⟨r, jv, s, l, rfl, h⟩ := h
    refine ⟨_, (pss_cons (ps_expr (pe_call G_need_row (hr.mono (by decide)) rfl T.c_need_row.m T.c_need_row.F.kp T.c_need_row.b .nil (passes_call (takes_of rfl rfl rfl rfl) fun _ _ _ _ z => z) (pa_cons (pv 0) pa_nil)))
      (pss_cons (ps_expr (pe_call G_need_order (hr.mono (by decide)) rfl T.c_need_order.m T.c_need_order.F.kp T.c_need_order.b .nil (passes_call (takes_of rfl rfl rfl rfl) fun _ _ _ _ z => z) (pa_cons (pv 1) pa_nil)))
      (pss_cons (ps_if (pt_not (pt_val (pe_callN G_is_whole (hr.mono (by decide)) rfl T.c_is_whole.m T.c_is_whole.F.kp kb_is_whole_most pass0 (pa_cons (pv 2) pa_nil) (pk_cons (pe_op op_sub (pe_callB call_len_seq (by rfl) T.n_len PySem.boot_len (pa_cons (pv 0) pa_nil)) pe_int) pk_nil))))
        (pss_one (ps_raise rfl (takes_of rfl rfl rfl rfl) (Xc.pmk_own T.o_BadNumber T.i_BadNumber T.y_BadNumber G_BadNumber (hr.mono (by decide)) T.c_BadNumber___init__.b .nil pass0 rfl T.m_BadNumber (pa_cons (pv 2) pa_nil))))
        pss_nil)
      (pss_cons (ps_expr (pe_call G_need_least (hr.mono (by decide)) rfl T.c_need_least.m T.c_need_least.F.kp T.c_need_least.b .nil (passes_call (takes_of rfl rfl rfl rfl) fun _ _ _ _ z => z) (pa_cons (pv 3) pa_nil)))
      (pss_cons (ps_asg (pe_call G_run_at (hr.mono (by decide)) rfl T.c_run_at.m T.c_run_at.F.kp b_run_at d_run_at (passes_call (takes_of rfl rfl rfl rfl) fun _ _ _ _ z => z) (pa_cons (pv 0) (pa_cons (pv 1) (pa_cons (pv 2) pa_nil)))) (pg_tup rfl (pgs_cons (pg_name (i := 4) sc_cut_piece.nd rfl (Or.inl rfl)) (pgs_cons (pg_name (i := 5) sc_cut_piece.nd rfl (Or.inl rfl)) pgs_nil))))
      (pss_cons (ps_set (i := 6) sc_cut_piece.nd rfl (Or.inl rfl) (pe_slice sl_list (pv 0) (po_some (pv 2)) (po_some (pe_op op_add (pv 2) (pv 4)))))
      (pss_cons (ps_par (i := 7) (j := 8) rfl sc_cut_piece.nd rfl rfl (by decide) rfl rfl (pa_cons (pe_ifExp (pt_val (pv 5)) (pe_revL (pv 6)) (pv 6)) (pa_cons (pe_lst pa_nil) pa_nil)) (by rfl))
      (pss_cons (ps_for (passes_of rfl) rfl (pi_list (pe_slice sl_list (pv 0) (po_some (pe_op op_add (pv 2) (pv 4))) (po_some (pe_op op_add (pv 2) (pe_callB (call_max2 rfl) (by rfl) T.n_max PyProof.Rows.boot_max (pa_cons (pv 4) (pa_cons (pv 3) pa_nil))))))) (pg_name (i := 9) sc_cut_piece.nd rfl (Or.inl rfl))
        (pss_cons (ps_set (i := 10) sc_cut_piece.nd rfl (Or.inl rfl) (pe_call G_right_spot (hr.mono (by decide)) rfl T.c_right_spot.m T.c_right_spot.F.kp b_right_spot d_right_spot (passes_call (takes_of rfl rfl rfl rfl) fun _ _ _ _ z => z) (pa_cons (pv 7) (pa_cons (pv 1) (pa_cons (pv 9) pa_nil)))))
        (pss_cons (ps_expr (pe_bm PySem.F.plainAttrs_list PySem.F.slot_list_insert PySem.F.type_list_insert mt_insert (pv 7) (pa_cons (pv 10) (pa_cons (pv 9) pa_nil))))
        (pss_one (ps_expr (pe_bm PySem.F.plainAttrs_list PySem.F.slot_list_append PySem.F.type_list_append mt_append (pv 8) (pa_cons (pv 10) pa_nil)))))))
      (pss_cons (ps_asg (pv 7) (pg_slc (pv 0) (po_some (pv 2)) (po_some (pe_op op_add (pv 2) (pe_callB call_len_seq (by rfl) T.n_len PySem.boot_len (pa_cons (pv 7) pa_nil))))))
      (pss_one (ps_ret (pe_tup (pa_cons (pv 2) (pa_cons (pv 4) (pa_cons (pv 5) (pa_cons (pe_callTy call_tuple_of (by rfl) T.n_tuple (by decide +kernel) (pa_cons (pv 8) pa_nil)) pa_nil)))))))))))))))), ?_⟩
    walk_at "st"
    walk_at "rd"
    rcases h with h | ⟨a, xs, rfl, ha, hl, h⟩
    · exact h.row
    have S0 := Hs.start1 ha [] (.inl rfl)
    refine ⟨_, rfl, .inl ⟨a, xs, rfl, ha, hl, ?_⟩⟩
    walk_at "rd"
    rcases h with h | ⟨j, dx, fs, rfl, hj, os, oe, h⟩
    · exact ⟨_, rfl, .inr h⟩
    refine ⟨_, rfl, .inl ⟨j, dx, fs, rfl, hj, ?_⟩⟩
    walk_at "rd"
    refine ⟨rfl, rfl, s, _, _, rfl, os, ?_⟩
    walk_at "rd"
    rcases h with ⟨h1, k⟩ | ⟨h1, h2, k⟩ | ⟨st, least, f, n, ks, rfl, rfl, l1, l2, l3, rfl, hr9, hk, eq, k⟩
    · rw [h1]
      walk_at "if1"
      exact Xc.rd_mk1 fun d hd => k H d (fun _ _ e => e) hd
    · rw [h1]
      walk_at "if0"
      exact ⟨_, rfl, oe, .inr ⟨h2, k⟩⟩
    · rw [isWh_int, decide_eq_true (show (0 : Int) ≤ st by omega), decide_eq_true (show (st : Int) ≤ xs.length - 1 by omega)]
      walk_at "if0"
      refine ⟨_, rfl, oe, .inl ⟨by rw [isWh_int, decide_eq_true (show (1 : Int) ≤ least by omega), decide_eq_true (show (least : Int) ≤ 64 by omega)]; rfl, ?_⟩⟩
      walk_at "rd"
      refine ⟨_, _, _, _, rfl, .inr ⟨a, xs, rfl, ha, hl, .inr ⟨j, dx, _, rfl, hj, os, .non, .inr (.inr ⟨st, xs.length, f, n, ks, rfl, .inl ⟨rfl, rfl⟩, by omega, Nat.le_refl _, rfl, hr9, hk, fun t m fl n' H1 ht et ej old rp => ?_⟩)⟩⟩⟩
      obtain ⟨r1, r2, r3, r4, r5⟩ := rp
      have hf : fl = false := by
        by_cases c : m = 1
        · exact r5 c
        · rw [← r3 (st + 1) (by omega) (by omega)]
          exact eq (st + 1) (by omega) (by omega)
      subst hf
      have hm : m = xs.length - st := by
        rcases r4 with r4 | r4
        · omega
        · by_cases c : st + m < xs.length
          · exact absurd (eq _ (by omega) c) r4
          · omega
      subst hm
      have ha1 : H1 a = some (.lst xs) := old _ _ ha (ne_of ha hj (fun z => by cases z))
      have S : Hs H1 [a] H1 [(t, .tup [.int (xs.length - st : Nat), .bl false]), (a, .lst xs)] := Hs.start H1 [a] _ (by simpa using ne_of et ha1 (fun z => by cases z)) (by
        intro q hq
        simp only [List.mem_cons, List.not_mem_nil, or_false] at hq
        rcases hq with rfl | rfl
        · exact et
        · exact ha1) (by
        intro b hb
        simp only [List.mem_cons, List.not_mem_nil, or_false] at hb
        subst hb
        rw [ha1]; simp)
      clear S0
      walk_at "rd"
      refine Xc.rd_slVx S (by walk_at "mem") fun t1 H3 ht1 S3 => ?_
      clear S
      walk_at "if0"
      rename_i p4 H4 hp4 S4
      have ec : (st : Int) + (xs.length - st : Nat) = ((xs.length : Nat) : Int) := by omega
      rw [if_neg (by omega), ec]
      have e1 : cutV xs (some (st : Int)) (some ((xs.length : Nat) : Int)) = xs.drop st := by rw [cutV_nn, List.take_of_length_le (by simp)]
      rw [ec, e1] at S4
      refine Xc.rd_slVx S4 (by walk_at "mem") fun t2 H5 ht2 S5 => ?_
      have e2 : cutV xs (some ((xs.length : Nat) : Int)) (some ((xs.length : Nat) : Int)) = [] := by rw [cutV_nn]; simp
      rw [e2] at S5
      clear S4 S3
      refine ⟨t2, rfl, ⟨_, S5.lst (by walk_at "mem")⟩, ?_⟩
      refine fw_list (xs := []) (fun i σ H' => σ = [some (.ref a), some (.ref j), some (.int st), some (.int least), some (.int (xs.length - st : Nat)), some (.bl false), some (.ref t1), some (.ref t1), some (.ref p4), none, none] ∧ Hs H1 [a] H' [(t2, .lst []), (p4, .lst []), (t1, .lst (xs.drop st)), (t, .tup [.int (xs.length - st : Nat), .bl false]), (a, .lst xs)]) ⟨rfl, S5⟩ (fun i σ H' _ ⟨_, S⟩ => S.lst (by walk_at "mem")) (fun i x σ H' hx _ => by simp at hx) ?_
      clear S5
      rintro σ H' ⟨rfl, S⟩
      have dl : (xs.drop st).length = xs.length - st := by simp
      walk_at "rd"
      refine gt_slcV (zs := xs) S (by walk_at "chg") (by walk_at "mem") (fun z => by rw [← z, ha1] at ht1; cases ht1) (.inr (by simp)) (by omega) (by omega) (by omega) (by refine Rs.sz ?_; omega) ?_ fun H8 S8 => ?_
      · rw [show ((st : Int)).toNat = st by omega, show ((st : Int) + ((xs.drop st).length : Nat)).toNat = xs.length by simp; omega, List.drop_length, List.append_nil, List.take_append_drop]
      clear S
      walk_at "rd"
      refine ⟨p4, [], rfl, .inl ⟨S8.lst (by walk_at "mem"), fun l hl => ?_⟩⟩
      have S9 := (S8.new hl (.tup [])).2
      walk_at "rd"
      rename_i p9 H10 hp9 S10
      refine k p9 l n' H10 (S10.get (by walk_at "mem")) (S10.get (by walk_at "mem")) (S10.get (by walk_at "mem")) (S10.old1 ej (fun z => by rw [z, ha1] at ej; cases ej)) fun b o e n1 n2 => S10.old1 (old _ _ e n1) n2
end
end K16

namespace K16
open PySem L2 Rs Xc Xd Xg Xh Xi Xj Xk Xl
def sp_told : Sp := fun vs H Q _ => ∃ (a : Addr) (j l x : V) (st : Nat) (xs : List V), vs = [.ref a, j, .int st, x, l] ∧ H a = some (.lst xs) ∧ xs.length ≤ 4096 ∧ Ppr H x none ∧ ∀ H', Same H H' → Q (.bl false) H'
section
variable {P : Program} {w : World} {K : PySem.W.Frag} {mg : Str → Option Value} {base : Heap} {A : Ad} {H H0 : Hp} {MM : List Addr} {L L' F : Led} {Q : VK} {E : XK}
local macro_rules | `(tactic| walk_at "rd1") => `(tactic| first
  | with_reducible refine Xc.rd_bi ?_
  | with_reducible refine Xc.rd_put1 ?_
  | with_reducible refine Xc.rd_tmk ?_
  | with_reducible refine Xc.rd_xv ?_
  | with_reducible refine Xh.rd_callF ?_)
theorem kb_piece3 (T : Txt K mg w A) : ∃ (its mv : List Value), KBn K A.d_cut_piece ["row", "order", "start", "least"] 3 ["least"] (fun us ws => us ++ ws) (fun vs zs => vs ++ zs) := by
  obtain ⟨its, mv, h⟩ := T.c_cut_piece.F.kbinds (ps := ["row", "order", "start", "least"]) 3 ["least"] [] (fun us its mv ws => us ++ ws) (by simp) (by simp) (by simp) (fun r1 r2 r3 r4 => r1.append r4) (by
    intro T D doc pm an cdv ct us its mv ws h1 h2 h3 h4
    match us, h1, its, h2, mv, h3, ws, h4 with
    | [u, v, x], _, [i], _, [], _, [y], _ => exact ⟨_, rfl, rfl⟩)
  exact ⟨its, mv, h⟩
theorem kb_run3 (T : Txt K mg w A) : ∃ (its mv : List Value), KBn K A.d_run_at ["row", "order", "start", "end"] 3 ["end"] (fun us ws => us ++ ws) (fun vs zs => vs ++ zs) := by
  obtain ⟨its, mv, h⟩ := T.c_run_at.F.kbinds (ps := ["row", "order", "start", "end"]) 3 ["end"] [] (fun us its mv ws => us ++ ws) (by simp) (by simp) (by simp) (fun r1 r2 r3 r4 => r1.append r4) (by
    intro T D doc pm an cdv ct us its mv ws h1 h2 h3 h4
    match us, h1, its, h2, mv, h3, ws, h4 with
    | [u, v, x], _, [i], _, [], _, [y], _ => exact ⟨_, rfl, rfl⟩)
  exact ⟨its, mv, h⟩
theorem ok_pieces (T : Txt K mg w A) : FnOk P w K mg base (L2.CX P w) 7 A.f_cut_pieces A.d_cut_pieces ["row", "order", "least"] (sp_pieces A) := by
  have G_need_row : FnOk P w K mg base (L2.CX P w) 3 A.f_need_row A.d_need_row ["thing"] (sp_row A) := ok_row T
  have G_need_order : FnOk P w K mg base (L2.CX P w) 3 A.f_need_order A.d_need_order ["thing"] (sp_norder A) := ok_norder T
  have G_least_run : FnOk P w K mg base CX0 3 A.f_least_run A.d_least_run ["many"] sp_least := ok_least T
  have G_need_least : FnOk P w K mg base (L2.CX P w) 3 A.f_need_least A.d_need_least ["least"] (sp_nleast A) := ok_nleast T
  have G_cut_piece : FnOk P w K mg base (L2.CX P w) 6 A.f_cut_piece A.d_cut_piece ["row", "order", "start", "least"] (sp_piece A) := ok_piece T
  obtain ⟨its, mv, kb_cut_piece_least⟩ := kb_piece3 T
  refine T.c_cut_pieces.F.ok sc_cut_pieces (fun vs H Q E h => ?_) (fun cdv Ar outer s H vs Q E hr h => ?_)
  · obtain ⟨_, _, _, rfl, _⟩ := h; rfl
  · obtain ⟨r, jv, l, rfl, h⟩ := h
    refine ⟨_, (pss_cons (ps_expr (pe_call G_need_row (hr.mono (by decide)) rfl T.c_need_row.m T.c_need_row.F.kp T.c_need_row.b .nil (passes_call (takes_of rfl rfl rfl rfl) fun _ _ _ _ z => z) (pa_cons (pv 0) pa_nil)))
      (pss_cons (ps_expr (pe_call G_need_order (hr.mono (by decide)) rfl T.c_need_order.m T.c_need_order.F.kp T.c_need_order.b .nil (passes_call (takes_of rfl rfl rfl rfl) fun _ _ _ _ z => z) (pa_cons (pv 1) pa_nil)))
      (pss_cons (ps_if (pt_cmpR op_isN (pv 2) pe_non (nomark _))
        (pss_one (ps_set (i := 2) sc_cut_pieces.nd rfl (Or.inl rfl) (pe_callB (call_max2 rfl) (by rfl) T.n_max PyProof.Rows.boot_max (pa_cons pe_int (pa_cons (pe_call G_least_run (hr.mono (by decide)) rfl T.c_least_run.m T.c_least_run.F.kp T.c_least_run.b .nil pass0 (pa_cons (pe_callB call_len_seq (by rfl) T.n_len PySem.boot_len (pa_cons (pv 0) pa_nil)) pa_nil)) pa_nil)))))
        pss_nil)
      (pss_cons (ps_expr (pe_call G_need_least (hr.mono (by decide)) rfl T.c_need_least.m T.c_need_least.F.kp T.c_need_least.b .nil (passes_call (takes_of rfl rfl rfl rfl) fun _ _ _ _ z => z) (pa_cons (pv 2) pa_nil)))
      (pss_cons (ps_par (i := 3) (j := 4) rfl sc_cut_pieces.nd rfl rfl (by decide) rfl rfl (pa_cons (pe_lst pa_nil) (pa_cons pe_int pa_nil)) (by rfl))
      (pss_cons (ps_while (passes_of rfl) (pt_cmpR op_lt (pv 4) (pe_callB call_len_seq (by rfl) T.n_len PySem.boot_len (pa_cons (pv 0) pa_nil)) (nomark _))
        (pss_cons (ps_set (i := 5) sc_cut_pieces.nd rfl (Or.inl rfl) (pe_callN G_cut_piece (hr.mono (by decide)) rfl T.c_cut_piece.m T.c_cut_piece.F.kp kb_cut_piece_least (passes_call (takes_of rfl rfl rfl rfl) fun _ _ _ _ z => z) (pa_cons (pv 0) (pa_cons (pv 1) (pa_cons (pv 4) pa_nil))) (pk_cons (pv 2) pk_nil)))
        (pss_cons (ps_expr (pe_bm PySem.F.plainAttrs_list PySem.F.slot_list_append PySem.F.type_list_append mt_append (pv 3) (pa_cons (pv 5) pa_nil)))
        (pss_one (ps_aug (i := 4) sc_cut_pieces.nd rfl (Or.inl rfl) (pe_op op_add (pe_ix ix_tup (pv 5) pe_int (fun _ _ => rfl)) (pe_callB call_len_seq (by rfl) T.n_len PySem.boot_len (pa_cons (pe_ix ix_tup (pv 5) pe_int (fun _ _ => rfl)) pa_nil))) ip_add)))))
      (pss_one (ps_ret (pv 3))))))))), ?_⟩
    walk_at "st"
    walk_at "rd"
    rcases h with h | ⟨a, xs, rfl, ha, hl, h⟩
    · exact h.row
    have S0 := Hs.start1 ha [] (.inl rfl)
    refine ⟨_, rfl, .inl ⟨a, xs, rfl, ha, hl, ?_⟩⟩
    walk_at "rd"
    rcases h with h | ⟨j, dx, fs, rfl, hj, ol, nn, h⟩
    · exact ⟨_, rfl, .inr h⟩
    refine ⟨_, rfl, .inl ⟨j, dx, fs, rfl, hj, ?_⟩⟩
    walk_at "rd"
    rw [decide_eq_false nn]
    walk_at "if0"
    rcases h with ⟨h1, k⟩ | ⟨h1, rfl, k⟩
    · exact ⟨_, rfl, ol, .inr ⟨h1, k⟩⟩
    refine ⟨_, rfl, ol, .inl ⟨h1, ?_⟩⟩
    walk_at "rd"
    rename_i p H1 hp S1
    refine rd_while (fun m σ H' => H' = H1 ∧ ∃ o5 : Option V, σ = [some (.ref a), some (.ref j), some l, some (.ref p), some (.int 0), o5]) 0 ⟨rfl, _, rfl⟩ ?_
    rintro m σ H' ⟨rfl, o5, rfl⟩
    walk_at "rd"
    refine rd_decF (by simp) ?_
    walk_at "rd"
    exact k p _ hp (S1.get (by walk_at "mem")) S1.same
theorem ok_told (T : Txt K mg w A) : FnOk P w K mg base (L2.CX P w) 7 A.f_is_told A.d_is_told ["row", "order", "start", "piece", "least"] sp_told := by
  have G_piece_fits : FnOk P w K mg base CX0 3 A.f_piece_fits A.d_piece_fits ["piece", "many"] sp_fits := ok_fits T
  have G_run_at : FnOk P w K mg base (L2.CX P w) 5 A.f_run_at A.d_run_at ["row", "order", "start", "end"] (sp_run A) := ok_run T
  have G_turn_run : FnOk P w K mg base (L2.CX P w) 5 A.f_turn_run A.d_turn_run ["row", "start", "end"] (sp_turn A) := ok_turn T
  have G_is_spot : FnOk P w K mg base (L2.CX P w) 2 A.f_is_spot A.d_is_spot ["row", "order", "start", "end", "spot"] (fun _ _ _ _ => False) := T.c_is_spot.F.okX sc_is_spot (fun vs H Q E h => h.elim) (fun cdv Ar outer s H vs Q E hr h => h.elim)
  obtain ⟨its, mv, kb_run_at_end⟩ := kb_run3 T
  refine T.c_is_told.F.okX sc_is_told (fun vs H Q E h => ?_) (fun cdv Ar outer s H vs Q E hr h => ?_)
  · obtain ⟨_, _, _, _, _, _, rfl, _⟩ := h; rfl
  · obtain ⟨a, j, l, x, st, xs, rfl, ha, hl, R, k⟩ := h
    refine ⟨_, (pss_cons (ps_if (PW.pt (pw_or (pt_not (pt_val (pe_call G_piece_fits (hr.mono (by decide)) rfl T.c_piece_fits.m T.c_piece_fits.F.kp T.c_piece_fits.b .nil pass0 (pa_cons (pv 3) (pa_cons (pe_callB call_len_seq (by rfl) T.n_len PySem.boot_len (pa_cons (pv 0) pa_nil)) pa_nil))))) (pw_or1 (pt_cmpR op_ne (pe_ix ix_tup (pv 3) pe_int (fun _ _ => rfl)) (pv 2) (nomark _)))))
        (pss_one (ps_ret pe_bl))
        pss_nil)
      (pss_cons (ps_asg (pe_slice sl_tupA (pv 3) (po_some pe_int) po_none) (pg_tup rfl (pgs_cons (pg_name (i := 5) sc_is_told.nd rfl (Or.inl rfl)) (pgs_cons (pg_name (i := 6) sc_is_told.nd rfl (Or.inl rfl)) (pgs_cons (pg_name (i := 7) sc_is_told.nd rfl (Or.inl rfl)) pgs_nil)))))
      (pss_cons (ps_set (i := 8) sc_is_told.nd rfl (Or.inl rfl) (pe_op op_add (pv 2) (pv 5)))
      (pss_cons (ps_if (pt_cmpR op_ne (pe_callB call_len_seq (by rfl) T.n_len PySem.boot_len (pa_cons (pv 7) pa_nil)) (pe_callB (call_max2 rfl) (by rfl) T.n_max PyProof.Rows.boot_max (pa_cons pe_int (pa_cons (pe_op op_sub (pe_callB (call_min2 rfl) (by rfl) T.n_min PyProof.Rows.boot_min (pa_cons (pv 4) (pa_cons (pe_op op_sub (pe_callB call_len_seq (by rfl) T.n_len PySem.boot_len (pa_cons (pv 0) pa_nil)) (pv 2)) pa_nil))) (pv 5)) pa_nil))) (nomark _))
        (pss_one (ps_ret pe_bl))
        pss_nil)
      (pss_cons (ps_if (pt_cmpR (op_neD hr.units) (pe_callN G_run_at (hr.mono (by decide)) rfl T.c_run_at.m T.c_run_at.F.kp kb_run_at_end (passes_call (takes_of rfl rfl rfl rfl) fun _ _ _ _ z => z) (pa_cons (pv 0) (pa_cons (pv 1) (pa_cons (pv 2) pa_nil))) (pk_cons (pe_callB (call_min2 rfl) (by rfl) T.n_min PyProof.Rows.boot_min (pa_cons (pe_callB call_len_seq (by rfl) T.n_len PySem.boot_len (pa_cons (pv 0) pa_nil)) (pa_cons (pe_op op_add (pv 8) pe_int) pa_nil))) pk_nil)) (pe_tup (pa_cons (pv 5) (pa_cons (pv 6) pa_nil))) (nomark _))
        (pss_one (ps_ret pe_bl))
        pss_nil)
      (pss_cons (ps_if (pt_val (pv 6))
        (pss_one (ps_expr (pe_call G_turn_run (hr.mono (by decide)) rfl T.c_turn_run.m T.c_turn_run.F.kp T.c_turn_run.b .nil (passes_call (takes_of rfl rfl rfl rfl) fun _ _ _ _ z => z) (pa_cons (pv 0) (pa_cons (pv 2) (pa_cons (pv 8) pa_nil))))))
        pss_nil)
      (pss_cons (ps_for (passes_of rfl) rfl (Xg.pi_enS true (by rfl) T.n_enumerate (pa_cons (pv 7) pa_nil) (pk_cons (pv 8) pk_nil)) (pg_tup rfl (pgs_cons (pg_name (i := 9) sc_is_told.nd rfl (Or.inl rfl)) (pgs_cons (pg_name (i := 10) sc_is_told.nd rfl (Or.inl rfl)) pgs_nil)))
        (pss_cons (ps_if (pt_not (pt_val (pe_call G_is_spot (hr.mono (by decide)) rfl T.c_is_spot.m T.c_is_spot.F.kp T.c_is_spot.b .nil (passes_call (takes_of rfl rfl rfl rfl) fun _ _ _ _ z => z) (pa_cons (pv 0) (pa_cons (pv 1) (pa_cons (pv 2) (pa_cons (pv 9) (pa_cons (pv 10) pa_nil))))))))
          (pss_one (ps_ret pe_bl))
          pss_nil)
        (pss_one (ps_expr (pe_bm PySem.F.plainAttrs_list PySem.F.slot_list_insert PySem.F.type_list_insert mt_insert (pv 0) (pa_cons (pe_op op_add (pv 2) (pv 10)) (pa_cons (pe_bm PySem.F.plainAttrs_list PySem.F.slot_list_pop PySem.F.type_list_pop mt_popAt (pv 0) (pa_cons (pv 9) pa_nil)) pa_nil)))))))
      (pss_one (ps_ret pe_bl))))))))), ?_⟩
    have S0 := Hs.start1 ha [] (.inl rfl)
    walk_at "st"
    walk_at "rd"
    refine ⟨x, none, xs.length, rfl, hl, R, fun H1 sm => ?_⟩
    walk_at "if1"
    exact k H1 sm
end
end K16

namespace K16
open PySem L2 Rs Xc Xd Xg Xh Xi Xj Xk Xl
def sp_check (A : Ad) : Sp := fun vs H Q E => ∃ (r j ps l : V), vs = [r, j, ps, l] ∧ (BadR A H r E ∨ ∃ (a : Addr) (xs : List V), r = .ref a ∧ H a = some (.lst xs) ∧ xs.length ≤ 4096 ∧ (BadO A H j E ∨ ∃ (x dx : Addr) (fs : List (Str × V)), j = .ref x ∧ H x = some (.ins A.C_Order dx fs) ∧ Odd H l ∧
  ((l ≠ .non ∧ isWh l 1 64 = false ∧ Raise A.C_BadNumber "at" l H E) ∨ ((l = .non ∨ isWh l 1 64 = true) ∧
   (((∃ i, ps = .int i) ∧ Raise A.C_BadPaper "at" .non H E) ∨
    (∃ b vs, ps = .ref b ∧ H b = some (.lst vs) ∧ vs.length ≤ 100 ∧ ((vs = [] ∧ xs ≠ [] ∧ Raise A.C_BadPaper "at" (.int 0) H E) ∨ ∃ v vs', vs = v :: vs' ∧ (xs = [] ∨ Ppr H v none) ∧ Raise A.C_BadPaper "at" (.int 0) H E)) ∨
    (∃ b, ps = .ref b ∧ H b = some (.tup []) ∧ xs = [] ∧ ∀ H', Same H H' → Q .non H'))))))
theorem Raise.same {C : Addr} {f : Str} {v : V} {H H1 : Hp} {E : XK} (r : Raise C f v H E) (s : Same H H1) : Raise C f v H1 E := fun H' d sm hd => r H' d (fun b o e => sm b o (s b o e)) hd
theorem Ppr.more {H H' : Hp} {v : V} (h : Ppr H v none) (k : Same H H') : Ppr H' v none := by
  cases h with
  | no x o n =>
    refine .no _ (o.more k) fun a xs e1 e2 => ?_
    cases o with
    | int i => cases e1
    | bl i => cases e1
    | str i => cases e1
    | non => cases e1
    | lst a' ys h => cases e1; rw [k _ _ h] at e2; cases e2
    | tup a' ys h => exact n _ _ rfl h
    | dct a' ys h => cases e1; rw [k _ _ h] at e2; cases e2
  | len p vs h n => exact .len p vs (k _ _ h) n
section
variable {P : Program} {w : World} {K : PySem.W.Frag} {mg : Str → Option Value} {base : Heap} {A : Ad} {H H0 : Hp} {MM : List Addr} {L L' F : Led} {Q : VK} {E : XK}
local macro_rules | `(tactic| walk_at "rd1") => `(tactic| first
  | with_reducible refine Xc.rd_bi ?_
  | with_reducible refine Xc.rd_put1 ?_
  | with_reducible refine Xc.rd_tmk ?_
  | with_reducible refine Xc.rd_xv ?_
  | with_reducible refine Xh.rd_callF ?_)
theorem kan_list : PySem.W.kitAny K (.type "list") [.type "list", .type "tuple"] = some true := by first | rfl | kernel_rfl
theorem kan_tup : PySem.W.kitAny K (.type "tuple") [.type "list", .type "tuple"] = some true := by first | rfl | kernel_rfl
theorem kan_int : PySem.W.kitAny K (.type "int") [.type "list", .type "tuple"] = some false := by first | rfl | kernel_rfl
theorem ok_check (T : Txt K mg w A) : FnOk P w K mg base (L2.CX P w) 8 A.f_check_pieces A.d_check_pieces ["row", "order", "pieces", "least"] (sp_check A) := by
  have G_need_row : FnOk P w K mg base (L2.CX P w) 3 A.f_need_row A.d_need_row ["thing"] (sp_row A) := ok_row T
  have G_need_order : FnOk P w K mg base (L2.CX P w) 3 A.f_need_order A.d_need_order ["thing"] (sp_norder A) := ok_norder T
  have G_is_whole : FnOk P w K mg base CX0 1 A.f_is_whole A.d_is_whole ["thing", "least", "most"] (sp_whole K) := ok_is_whole T
  have G_least_run : FnOk P w K mg base CX0 3 A.f_least_run A.d_least_run ["many"] sp_least := ok_least T
  have G_is_told : FnOk P w K mg base (L2.CX P w) 7 A.f_is_told A.d_is_told ["row", "order", "start", "piece", "least"] sp_told := ok_told T
  have G_BadNumber : FnOk P w K mg base CX0 1 A.f_BadNumber___init__ A.d_BadNumber___init__ ["self", "at"] (Xc.spInit1 A.C_BadNumber "at") := ok_xBadNumber T
  have G_BadPaper : FnOk P w K mg base CX0 1 A.f_BadPaper___init__ A.d_BadPaper___init__ ["self", "at"] (Xc.spInit1 A.C_BadPaper "at") := ok_xBadPaper T
  obtain ⟨mv, kb_is_whole_least_most⟩ := kb_lm T
  refine T.c_check_pieces.F.ok sc_check_pieces (fun vs H Q E h => ?_) (fun cdv Ar outer s H vs Q E hr h => ?_)
  · obtain ⟨_, _, _, _, rfl, _⟩ := h; rfl
  · obtain ⟨r, jv, ps, l, rfl, h⟩ := h
    by_cases ct : ∃ b, ps = .ref b ∧ H b = some (.tup [])
    · obtain ⟨b, rfl, hb⟩ := ct
      refine ⟨_, (pss_cons (ps_expr (pe_call G_need_row (hr.mono (by decide)) rfl T.c_need_row.m T.c_need_row.F.kp T.c_need_row.b .nil (passes_call (takes_of rfl rfl rfl rfl) fun _ _ _ _ z => z) (pa_cons (pv 0) pa_nil)))
      (pss_cons (ps_expr (pe_call G_need_order (hr.mono (by decide)) rfl T.c_need_order.m T.c_need_order.F.kp T.c_need_order.b .nil (passes_call (takes_of rfl rfl rfl rfl) fun _ _ _ _ z => z) (pa_cons (pv 1) pa_nil)))
      (pss_cons (ps_if (PW.pt (pw_and (pt_cmpR op_notN (pv 3) pe_non (nomark _)) (pw_and1 (pt_not (pt_val (pe_callN G_is_whole (hr.mono (by decide)) rfl T.c_is_whole.m T.c_is_whole.F.kp kb_is_whole_least_most pass0 (pa_cons (pv 3) pa_nil) (pk_cons pe_int (pk_cons (pe_gl rfl T.g_MOST_GROWN) pk_nil))))))))
        (pss_one (ps_raise rfl (takes_of rfl rfl rfl rfl) (Xc.pmk_own T.o_BadNumber T.i_BadNumber T.y_BadNumber G_BadNumber (hr.mono (by decide)) T.c_BadNumber___init__.b .nil pass0 rfl T.m_BadNumber (pa_cons (pv 3) pa_nil))))
        pss_nil)
      (pss_cons (ps_if (pt_not (pt_val (pe_callB call_isiT (by rfl) T.n_isinstance PyProof.Rows.boot_isinstance (pa_cons (pv 2) (pa_cons (pe_tup (pa_cons (pe_bltn (v := .ty "list") rfl T.n_list PyProof.Rows.boot_list rfl) (pa_cons (pe_bltn (v := .ty "tuple") rfl T.n_tuple PyProof.Rows.boot_tuple rfl) pa_nil))) pa_nil)))))
        (pss_one (ps_raise rfl (takes_of rfl rfl rfl rfl) (Xc.pmk_own T.o_BadPaper T.i_BadPaper T.y_BadPaper G_BadPaper (hr.mono (by decide)) T.c_BadPaper___init__.b .nil pass0 rfl T.m_BadPaper (pa_cons pe_non pa_nil))))
        pss_nil)
      (pss_cons (ps_set (i := 3) sc_check_pieces.nd rfl (Or.inl rfl) (pe_ifExp (pt_cmpR op_isN (pv 3) pe_non (nomark _)) (pe_call G_least_run (hr.mono (by decide)) rfl T.c_least_run.m T.c_least_run.F.kp T.c_least_run.b .nil pass0 (pa_cons (pe_callB call_len_seq (by rfl) T.n_len PySem.boot_len (pa_cons (pv 0) pa_nil)) pa_nil)) (pv 3)))
      (pss_cons (ps_par (i := 4) (j := 5) rfl sc_check_pieces.nd rfl rfl (by decide) rfl rfl (pa_cons (pe_callTy call_list_of (by rfl) T.n_list (by decide +kernel) (pa_cons (pv 0) pa_nil)) (pa_cons pe_int pa_nil)) (by rfl))
      (pss_cons (ps_for (passes_of rfl) rfl (Xd.pi_enT (by rfl) T.n_enumerate (pa_cons (pv 2) pa_nil)) (pg_tup rfl (pgs_cons (pg_name (i := 6) sc_check_pieces.nd rfl (Or.inl rfl)) (pgs_cons (pg_name (i := 7) sc_check_pieces.nd rfl (Or.inl rfl)) pgs_nil)))
        (pss_cons (ps_if (PW.pt (pw_or (pt_cmpR op_eq (pv 5) (pe_callB call_len_seq (by rfl) T.n_len PySem.boot_len (pa_cons (pv 4) pa_nil)) (nomark _)) (pw_or1 (pt_not (pt_val (pe_call G_is_told (hr.mono (by decide)) rfl T.c_is_told.m T.c_is_told.F.kp T.c_is_told.b .nil (passes_call (takes_of rfl rfl rfl rfl) fun _ _ _ _ z => z) (pa_cons (pv 4) (pa_cons (pv 1) (pa_cons (pv 5) (pa_cons (pv 7) (pa_cons (pv 3) pa_nil)))))))))))
          (pss_one (ps_raise rfl (takes_of rfl rfl rfl rfl) (Xc.pmk_own T.o_BadPaper T.i_BadPaper T.y_BadPaper G_BadPaper (hr.mono (by decide)) T.c_BadPaper___init__.b .nil pass0 rfl T.m_BadPaper (pa_cons (pv 6) pa_nil))))
          pss_nil)
        (pss_one (ps_aug (i := 5) sc_check_pieces.nd rfl (Or.inl rfl) (pe_op op_add (pe_ix ix_tup (pv 7) pe_int (fun _ _ => rfl)) (pe_callB call_len_seq (by rfl) T.n_len PySem.boot_len (pa_cons (pe_ix ix_tup (pv 7) pe_int (fun _ _ => rfl)) pa_nil))) ip_add))))
      (pss_one (ps_if (pt_cmpR op_lt (pv 5) (pe_callB call_len_seq (by rfl) T.n_len PySem.boot_len (pa_cons (pv 4) pa_nil)) (nomark _))
        (pss_one (ps_raise rfl (takes_of rfl rfl rfl rfl) (Xc.pmk_own T.o_BadPaper T.i_BadPaper T.y_BadPaper G_BadPaper (hr.mono (by decide)) T.c_BadPaper___init__.b .nil pass0 rfl T.m_BadPaper (pa_cons (pe_callB call_len_seq (by rfl) T.n_len PySem.boot_len (pa_cons (pv 2) pa_nil)) pa_nil))))
        pss_nil))))))))), ?_⟩
      walk_at "st"
      walk_at "rd"
      rcases h with h | ⟨a, xs, rfl, ha, hl, h⟩
      · exact h.row
      have S0 := Hs.start1 ha [] (.inl rfl)
      refine ⟨_, rfl, .inl ⟨a, xs, rfl, ha, hl, ?_⟩⟩
      walk_at "rd"
      rcases h with h | ⟨j, dx, fs, rfl, hj, ol, h⟩
      · exact ⟨_, rfl, .inr h⟩
      refine ⟨_, rfl, .inl ⟨j, dx, fs, rfl, hj, ?_⟩⟩
      walk_at "rd"
      rcases h with ⟨n1, n2, k⟩ | ⟨hl2, h⟩
      · rw [decide_eq_false n1]
        walk_at "if1"
        refine ⟨rfl, rfl, l, _, _, rfl, ol, ?_⟩
        rw [n2]
        walk_at "if1"
        exact Xc.rd_mk1 fun d hd => k H d (fun _ _ e => e) hd
      have hl3 : l = .non ∨ (l ≠ .non ∧ isWh l 1 64 = true) := by
        by_cases c : l = .non
        · exact .inl c
        · exact .inr ⟨c, hl2.resolve_left c⟩
      rcases h with ⟨⟨i, e⟩, _⟩ | ⟨b2, vs, e, e2, _⟩ | ⟨b2, e, e2, ex, k⟩
      · cases e
      · cases e
        rw [hb] at e2; cases e2
      clear e2 e
      rcases hl3 with rfl | ⟨n1, n2⟩
      case' inl =>
        rw [decide_eq_true rfl]
        walk_at "if0"
      case' inr =>
        rw [decide_eq_false n1]
        walk_at "if1"
        refine ⟨rfl, rfl, l, _, _, rfl, ol, ?_⟩
        rw [n2]
        walk_at "if0"
      all_goals
        rename_i p5 H5 hp5 S5
        refine ⟨.ref b, p5, [.ty "list", .ty "tuple"], .type "tuple", [.type "list", .type "tuple"], true, rfl, S5.get (by walk_at "mem"), .cons (.ty _) (.cons (.ty _) .nil), .base (.tup (S5.same _ _ hb)), kan_tup, ?_⟩
        refine ⟨true, rfl, ?_⟩
        walk_at "if0"
        refine if_viaV (fun v H' => Same H5 H') (fun hb C hC => ?_) (fun hb C hC => ?_) ?_
        · walk_at "rd"
          refine ⟨xs.length, rfl, hl, fun H' c sm _ => hC _ _ sm⟩
        · walk_at "rd"
          exact hC _ _ (fun _ _ e => e)
        rintro v H6 sm6
        have s6 : Same H H6 := fun b o e => sm6 _ _ (S5.same _ _ e)
        have S6 := Hs.start1 (s6 _ _ ha) [] (.inl rfl)
        clear S5 S0
        walk_at "rd"
        intro la hla0
        obtain ⟨hla, S7⟩ := S6.new hla0 (.lst xs)
        revert S7
        generalize upd H6 la (.lst xs) = H7
        intro S7
        clear S6
        walk_at "rd"
        have s7 : Same H H7 := fun b o e => S7.same _ _ (s6 _ _ e)
        subst ex
        refine Xd.rd_enT ?_
        walk_at "rd"
        refine ⟨b, [], rfl, SqT.of (s7 _ _ hb), ?_⟩
        refine Xd.fw_enT (xs := []) (fun i σ H' => σ = [some (.ref a), some (.ref j), some (.ref b), some v, some (.ref la), some (.int 0), none, none] ∧ H' = H7) ⟨rfl, rfl⟩ (fun i σ H' _ ⟨_, e⟩ => by subst e; exact SqT.of (s7 _ _ hb)) (fun i x σ H' U hx => by simp at hx) ?_
        rintro σ H' ⟨rfl, rfl⟩
        walk_at "rd"
        refine rd_decF (by simp) ?_
        walk_at "rd"
        exact k _ s7
    · refine ⟨_, (pss_cons (ps_expr (pe_call G_need_row (hr.mono (by decide)) rfl T.c_need_row.m T.c_need_row.F.kp T.c_need_row.b .nil (passes_call (takes_of rfl rfl rfl rfl) fun _ _ _ _ z => z) (pa_cons (pv 0) pa_nil)))
      (pss_cons (ps_expr (pe_call G_need_order (hr.mono (by decide)) rfl T.c_need_order.m T.c_need_order.F.kp T.c_need_order.b .nil (passes_call (takes_of rfl rfl rfl rfl) fun _ _ _ _ z => z) (pa_cons (pv 1) pa_nil)))
      (pss_cons (ps_if (PW.pt (pw_and (pt_cmpR op_notN (pv 3) pe_non (nomark _)) (pw_and1 (pt_not (pt_val (pe_callN G_is_whole (hr.mono (by decide)) rfl T.c_is_whole.m T.c_is_whole.F.kp kb_is_whole_least_most pass0 (pa_cons (pv 3) pa_nil) (pk_cons pe_int (pk_cons (pe_gl rfl T.g_MOST_GROWN) pk_nil))))))))
        (pss_one (ps_raise rfl (takes_of rfl rfl rfl rfl) (Xc.pmk_own T.o_BadNumber T.i_BadNumber T.y_BadNumber G_BadNumber (hr.mono (by decide)) T.c_BadNumber___init__.b .nil pass0 rfl T.m_BadNumber (pa_cons (pv 3) pa_nil))))
        pss_nil)
      (pss_cons (ps_if (pt_not (pt_val (pe_callB call_isiT (by rfl) T.n_isinstance PyProof.Rows.boot_isinstance (pa_cons (pv 2) (pa_cons (pe_tup (pa_cons (pe_bltn (v := .ty "list") rfl T.n_list PyProof.Rows.boot_list rfl) (pa_cons (pe_bltn (v := .ty "tuple") rfl T.n_tuple PyProof.Rows.boot_tuple rfl) pa_nil))) pa_nil)))))
        (pss_one (ps_raise rfl (takes_of rfl rfl rfl rfl) (Xc.pmk_own T.o_BadPaper T.i_BadPaper T.y_BadPaper G_BadPaper (hr.mono (by decide)) T.c_BadPaper___init__.b .nil pass0 rfl T.m_BadPaper (pa_cons pe_non pa_nil))))
        pss_nil)
      (pss_cons (ps_set (i := 3) sc_check_pieces.nd rfl (Or.inl rfl) (pe_ifExp (pt_cmpR op_isN (pv 3) pe_non (nomark _)) (pe_call G_least_run (hr.mono (by decide)) rfl T.c_least_run.m T.c_least_run.F.kp T.c_least_run.b .nil pass0 (pa_cons (pe_callB call_len_seq (by rfl) T.n_len PySem.boot_len (pa_cons (pv 0) pa_nil)) pa_nil)) (pv 3)))
      (pss_cons (ps_par (i := 4) (j := 5) rfl sc_check_pieces.nd rfl rfl (by decide) rfl rfl (pa_cons (pe_callTy call_list_of (by rfl) T.n_list (by decide +kernel) (pa_cons (pv 0) pa_nil)) (pa_cons pe_int pa_nil)) (by rfl))
      (pss_cons (ps_for (passes_of rfl) rfl (pi_enum (by rfl) T.n_enumerate (pa_cons (pv 2) pa_nil)) (pg_tup rfl (pgs_cons (pg_name (i := 6) sc_check_pieces.nd rfl (Or.inl rfl)) (pgs_cons (pg_name (i := 7) sc_check_pieces.nd rfl (Or.inl rfl)) pgs_nil)))
        (pss_cons (ps_if (PW.pt (pw_or (pt_cmpR op_eq (pv 5) (pe_callB call_len_seq (by rfl) T.n_len PySem.boot_len (pa_cons (pv 4) pa_nil)) (nomark _)) (pw_or1 (pt_not (pt_val (pe_call G_is_told (hr.mono (by decide)) rfl T.c_is_told.m T.c_is_told.F.kp T.c_is_told.b .nil (passes_call (takes_of rfl rfl rfl rfl) fun _ _ _ _ z => z) (pa_cons (pv 4) (pa_cons (pv 1) (pa_cons (pv 5) (pa_cons (pv 7) (pa_cons (pv 3) pa_nil)))))))))))
          (pss_one (ps_raise rfl (takes_of rfl rfl rfl rfl) (Xc.pmk_own T.o_BadPaper T.i_BadPaper T.y_BadPaper G_BadPaper (hr.mono (by decide)) T.c_BadPaper___init__.b .nil pass0 rfl T.m_BadPaper (pa_cons (pv 6) pa_nil))))
          pss_nil)
        (pss_one (ps_aug (i := 5) sc_check_pieces.nd rfl (Or.inl rfl) (pe_op op_add (pe_ix ix_tup (pv 7) pe_int (fun _ _ => rfl)) (pe_callB call_len_seq (by rfl) T.n_len PySem.boot_len (pa_cons (pe_ix ix_tup (pv 7) pe_int (fun _ _ => rfl)) pa_nil))) ip_add))))
      (pss_one (ps_if (pt_cmpR op_lt (pv 5) (pe_callB call_len_seq (by rfl) T.n_len PySem.boot_len (pa_cons (pv 4) pa_nil)) (nomark _))
        (pss_one (ps_raise rfl (takes_of rfl rfl rfl rfl) (Xc.pmk_own T.o_BadPaper T.i_BadPaper T.y_BadPaper G_BadPaper (hr.mono (by decide)) T.c_BadPaper___init__.b .nil pass0 rfl T.m_BadPaper (pa_cons (pe_callB call_len_seq (by rfl) T.n_len PySem.boot_len (pa_cons (pv 2) pa_nil)) pa_nil))))
        pss_nil))))))))), ?_⟩
      walk_at "st"
      walk_at "rd"
      rcases h with h | ⟨a, xs, rfl, ha, hl, h⟩
      · exact h.row
      have S0 := Hs.start1 ha [] (.inl rfl)
      refine ⟨_, rfl, .inl ⟨a, xs, rfl, ha, hl, ?_⟩⟩
      walk_at "rd"
      rcases h with h | ⟨j, dx, fs, rfl, hj, ol, h⟩
      · exact ⟨_, rfl, .inr h⟩
      refine ⟨_, rfl, .inl ⟨j, dx, fs, rfl, hj, ?_⟩⟩
      walk_at "rd"
      rcases h with ⟨n1, n2, k⟩ | ⟨hl2, h⟩
      · rw [decide_eq_false n1]
        walk_at "if1"
        refine ⟨rfl, rfl, l, _, _, rfl, ol, ?_⟩
        rw [n2]
        walk_at "if1"
        exact Xc.rd_mk1 fun d hd => k H d (fun _ _ e => e) hd
      have hl3 : l = .non ∨ (l ≠ .non ∧ isWh l 1 64 = true) := by
        by_cases c : l = .non
        · exact .inl c
        · exact .inr ⟨c, hl2.resolve_left c⟩
      have h : (∃ i, ps = .int i ∧ Raise A.C_BadPaper "at" .non H E) ∨ ∃ b vs, ps = .ref b ∧ H b = some (.lst vs) ∧ vs.length ≤ 100 ∧ ((vs = [] ∧ xs ≠ [] ∧ Raise A.C_BadPaper "at" (.int 0) H E) ∨ ∃ v vs', vs = v :: vs' ∧ (xs = [] ∨ Ppr H v none) ∧ Raise A.C_BadPaper "at" (.int 0) H E) := by
        rcases h with ⟨⟨i, e⟩, k⟩ | h | ⟨b2, e, e2, _⟩
        · exact .inl ⟨i, e, k⟩
        · exact .inr h
        · exact absurd ⟨b2, e, e2⟩ ct
      rcases hl3 with rfl | ⟨n1, n2⟩
      case' inl =>
        rw [decide_eq_true rfl]
        walk_at "if0"
      case' inr =>
        rw [decide_eq_false n1]
        walk_at "if1"
        refine ⟨rfl, rfl, l, _, _, rfl, ol, ?_⟩
        rw [n2]
        walk_at "if0"
      all_goals
        rename_i p5 H5 hp5 S5
        rcases h with ⟨i, rfl, k⟩ | ⟨b, vs, rfl, hb, hvl, h⟩
        · refine ⟨.int i, p5, [.ty "list", .ty "tuple"], .type "int", [.type "list", .type "tuple"], false, rfl, S5.get (by walk_at "mem"), .cons (.ty _) (.cons (.ty _) .nil), .base (.int i), kan_int, ?_⟩
          refine ⟨false, rfl, ?_⟩
          walk_at "if1"
          exact Xc.rd_mk1 fun d hd => (k.same S5.same) H5 d (fun _ _ e => e) hd
        refine ⟨.ref b, p5, [.ty "list", .ty "tuple"], .type "list", [.type "list", .type "tuple"], true, rfl, S5.get (by walk_at "mem"), .cons (.ty _) (.cons (.ty _) .nil), .base (.lst (S5.same _ _ hb)), kan_list, ?_⟩
        refine ⟨true, rfl, ?_⟩
        walk_at "if0"
        refine if_viaV (fun v H' => Same H5 H') (fun hb C hC => ?_) (fun hb C hC => ?_) ?_
        · walk_at "rd"
          refine ⟨xs.length, rfl, hl, fun H' c sm _ => hC _ _ sm⟩
        · walk_at "rd"
          exact hC _ _ (fun _ _ e => e)
        rintro v H6 sm6
        have s6 : Same H H6 := fun b o e => sm6 _ _ (S5.same _ _ e)
        have S6 := Hs.start1 (s6 _ _ ha) [] (.inl rfl)
        clear S5 S0
        walk_at "rd"
        intro la hla0
        obtain ⟨hla, S7⟩ := S6.new hla0 (.lst xs)
        revert S7
        generalize upd H6 la (.lst xs) = H7
        intro S7
        clear S6
        have s7 : Same H H7 := fun b o e => S7.same _ _ (s6 _ _ e)
        walk_at "rd"
        refine ⟨b, vs, rfl, SqL.of (s7 _ _ hb), ?_⟩
        have rs := fun (H' : Hp) (sm : Same H H') (r : Raise A.C_BadPaper "at" (.int 0) H E) => r.same sm
        rcases h with ⟨rfl, hx, k⟩ | ⟨w0, vs', rfl, hx, k⟩
        · refine fw_enum (xs := []) (fun i σ H' => σ = [some (.ref a), some (.ref j), some (.ref b), some v, some (.ref la), some (.int 0), none, none] ∧ H' = H7) ⟨rfl, rfl⟩ (fun i σ H' _ ⟨_, e⟩ => by subst e; exact SqL.of (s7 _ _ hb)) (fun i x σ H' U hx => by simp at hx) ?_
          rintro σ H' ⟨rfl, rfl⟩
          walk_at "rd"
          have : 0 < xs.length := List.length_pos_iff.mpr hx
          refine rd_decT (by omega) ?_
          walk_at "rd"
          refine ⟨b, [], rfl, .inl (SqL.of (s7 _ _ hb)), ?_⟩
          walk_at "rd"
          exact Xc.rd_mk1 fun d hd => (k.same s7) _ d (fun _ _ e => e) hd
        · refine fw_enum (xs := w0 :: vs') (fun i σ H' => i = 0 ∧ σ = [some (.ref a), some (.ref j), some (.ref b), some v, some (.ref la), some (.int 0), none, none] ∧ H' = H7) ⟨rfl, rfl, rfl⟩ (fun i σ H' _ ⟨_, _, e⟩ => by subst e; exact SqL.of (s7 _ _ hb)) ?_ (fun σ H' ⟨e, _⟩ => by simp at e)
          rintro i x σ H' U hxi ⟨rfl, rfl, rfl⟩ hU
          cases hxi
          have S8 := (S7.new hU (.tup [.int (0 : Nat), w0])).2
          have s8 : Same H (upd H' U (.tup [.int (0 : Nat), w0])) := fun b o e => S8.same _ _ (s6 _ _ e)
          walk_at "rd"
          by_cases hxe : xs = []
          · subst hxe
            refine rd_decT (by simp) ?_
            walk_at "rd"
            exact Xc.rd_mk1 fun d hd => (k.same s8) _ d (fun _ _ e => e) hd
          · have R := hx.resolve_left hxe
            have : 0 < xs.length := List.length_pos_iff.mpr hxe
            refine rd_decF (by omega) ?_
            walk_at "rd"
            refine ⟨la, .ref j, v, w0, 0, xs, rfl, S8.get (by walk_at "mem"), hl, R.more s8, fun H9 sm9 => ?_⟩
            walk_at "rd"
            walk_at "if1"
            exact Xc.rd_mk1 fun d hd => (k.same fun b o e => sm9 _ _ (s8 _ _ e)) _ d (fun _ _ e => e) hd
end
end K16

namespace K16
open PySem L2 Rs Xc Xd Xg Xh Xi Xj Xk Xl
/-! a refusal -/
inductive Rf (A : Ad) : Addr → Str → Str → Prop where
  | rBadPaper : Rf A A.C_BadPaper "at" "paper"
  | rBadKind : Rf A A.C_BadKind "wanted" "kind"
  | rBadNumber : Rf A A.C_BadNumber "at" "number"
  | rTooMany : Rf A A.C_TooMany "most" "many"
def R_word (A : Ad) : SepM := fun vs Ch L post => ∃ (a dx C : Addr) (f wd : Str) (v : V), Rf A C f wd ∧ vs = [.ref a] ∧ L = [(a, Xc.Exv a (.ref C) (some dx)), (dx, .xd [(f, v)])] ∧ Ch = [] ∧ post = fun u N L' => ∃ t, u = .ref t ∧ N = [(t, .tup [.str wd, v])] ∧ L' = L
theorem kx {l : List Value} {f : Value → Option Bool} {r : List (Option Bool)} (h : l.map f = r) (i : Nat) {c : Value} {b : Option Bool} (hc : l[i]? = some c) (hb : r[i]? = some b) : f c = b := by
  have e := congrArg (fun l => l[i]?) h
  simp only [List.getElem?_map, hc, hb, Option.map_some, Option.some.injEq] at e
  exact e
section
variable {P : Program} {w : World} {K : PySem.W.Frag} {mg : Str → Option Value} {base : Heap} {A : Ad} {H H0 : Hp} {MM : List Addr} {L L' F : Led} {Q : VK} {E : XK}
theorem ok_word (T : Txt K mg w A) : FnOk P w K mg base CX0 1 A.f__law_word A.d__law_word ["_law_caught"] (SepN (R_word A)) := by
  refine T.c__law_word.F.ok sc_l_word (fun vs H Q E h => ?_) (fun cdv Ar outer s H vs Q E hr h => ?_)
  · obtain ⟨_, _, _, ⟨_, _, _, _, _, _, _, rfl, _⟩, _⟩ := h; rfl
  · obtain ⟨Ch, L, post, ⟨a, dx, C, f, wd, v, hrf, rfl, rfl, rfl, rfl⟩, nd, is, hc, k⟩ := h
    refine ⟨_, (pss_cons (ps_set (i := 1) sc_l_word.nd rfl (Or.inl rfl) (pe_lst pa_nil))
      (pss_cons (ps_if (PW.pt (pw_and (pt_val (pe_callB Xc.call_isX (by rfl) T.n_isinstance PyProof.Rows.boot_isinstance (pa_cons (pv 0) (pa_cons (pe_glob (v := .ref A.C_BadPaper) rfl T.m_BadPaper rfl) pa_nil)))) (pw_and1 (pt_val (pe_callB Xc.call_isX (by rfl) T.n_isinstance PyProof.Rows.boot_isinstance (pa_cons (pv 0) (pa_cons (pe_glob (v := .ref A.C_SortError) rfl T.m_SortError rfl) pa_nil)))))))
        (pss_one (ps_expr (pe_bm PySem.F.plainAttrs_list PySem.F.slot_list_append PySem.F.type_list_append mt_append (pv 1) (pa_cons (pe_tup (pa_cons pe_str (pa_cons (Xc.pe_xv (pv 0)) pa_nil))) pa_nil))))
        pss_nil)
      (pss_cons (ps_if (PW.pt (pw_and (pt_val (pe_callB Xc.call_isX (by rfl) T.n_isinstance PyProof.Rows.boot_isinstance (pa_cons (pv 0) (pa_cons (pe_glob (v := .ref A.C_BadKind) rfl T.m_BadKind rfl) pa_nil)))) (pw_and1 (pt_val (pe_callB Xc.call_isX (by rfl) T.n_isinstance PyProof.Rows.boot_isinstance (pa_cons (pv 0) (pa_cons (pe_bltn (v := .ty "TypeError") rfl T.n_TypeError (by decide +kernel) rfl) pa_nil)))))))
        (pss_one (ps_expr (pe_bm PySem.F.plainAttrs_list PySem.F.slot_list_append PySem.F.type_list_append mt_append (pv 1) (pa_cons (pe_tup (pa_cons pe_str (pa_cons (Xc.pe_xv (pv 0)) pa_nil))) pa_nil))))
        pss_nil)
      (pss_cons (ps_if (PW.pt (pw_and (pt_val (pe_callB Xc.call_isX (by rfl) T.n_isinstance PyProof.Rows.boot_isinstance (pa_cons (pv 0) (pa_cons (pe_glob (v := .ref A.C_BadNumber) rfl T.m_BadNumber rfl) pa_nil)))) (pw_and1 (pt_val (pe_callB Xc.call_isX (by rfl) T.n_isinstance PyProof.Rows.boot_isinstance (pa_cons (pv 0) (pa_cons (pe_bltn (v := .ty "IndexError") rfl T.n_IndexError (by decide +kernel) rfl) pa_nil)))))))
        (pss_one (ps_expr (pe_bm PySem.F.plainAttrs_list PySem.F.slot_list_append PySem.F.type_list_append mt_append (pv 1) (pa_cons (pe_tup (pa_cons pe_str (pa_cons (Xc.pe_xv (pv 0)) pa_nil))) pa_nil))))
        pss_nil)
      (pss_cons (ps_if (PW.pt (pw_and (pt_val (pe_callB Xc.call_isX (by rfl) T.n_isinstance PyProof.Rows.boot_isinstance (pa_cons (pv 0) (pa_cons (pe_glob (v := .ref A.C_TooMany) rfl T.m_TooMany rfl) pa_nil)))) (pw_and1 (pt_val (pe_callB Xc.call_isX (by rfl) T.n_isinstance PyProof.Rows.boot_isinstance (pa_cons (pv 0) (pa_cons (pe_bltn (v := .ty "OverflowError") rfl T.n_OverflowError (by decide +kernel) rfl) pa_nil)))))))
        (pss_one (ps_expr (pe_bm PySem.F.plainAttrs_list PySem.F.slot_list_append PySem.F.type_list_append mt_append (pv 1) (pa_cons (pe_tup (pa_cons pe_str (pa_cons (Xc.pe_xv (pv 0)) pa_nil))) pa_nil))))
        pss_nil)
      (pss_cons (ps_if (PW.pt (pw_and (pt_val (pe_callB Xc.call_isX (by rfl) T.n_isinstance PyProof.Rows.boot_isinstance (pa_cons (pv 0) (pa_cons (pe_glob (v := .ref A.C_Stopped) rfl T.m_Stopped rfl) pa_nil)))) (pw_and1 (pt_val (pe_callB Xc.call_isX (by rfl) T.n_isinstance PyProof.Rows.boot_isinstance (pa_cons (pv 0) (pa_cons (pe_bltn (v := .ty "RuntimeError") rfl T.n_RuntimeError (by decide +kernel) rfl) pa_nil)))))))
        (pss_one (ps_expr (pe_bm PySem.F.plainAttrs_list PySem.F.slot_list_append PySem.F.type_list_append mt_append (pv 1) (pa_cons (pe_tup (pa_cons pe_str (pa_cons (Xc.pe_xv (pv 0)) pa_nil))) pa_nil))))
        pss_nil)
      (pss_one (ps_ret (pe_ifExp (pt_cmpR op_eq (pe_callB call_len_seq (by rfl) T.n_len PySem.boot_len (pa_cons (pv 1) pa_nil)) pe_int (nomark _)) (pe_ix ix_list (pv 1) pe_int (fun _ _ => rfl)) (pe_tup (pa_cons pe_str (pa_cons (pe_callB call_len_seq (by rfl) T.n_len PySem.boot_len (pa_cons (pv 1) pa_nil)) pa_nil)))))))))))), ?_⟩
    have S := Sep.led nd is hc
    walk_at "st"
    walk_at "rd"
    rename_i f0 H1 hf S1
    cases hrf with
    | rBadPaper =>
      refine Xc.rd_isX S1 (by walk_at "mem") (by walk_at "mem") T.k_BadPaper (.own _) (kx T.x_kit_BadPaper 0 rfl rfl) ?_
      walk_at "rd"
      walk_at "if1"
      refine Xc.rd_isX S1 (by walk_at "mem") (by walk_at "mem") T.k_BadPaper (.own _) (kx T.x_kit_BadPaper 5 rfl rfl) ?_
      walk_at "rd"
      walk_at "if1"
      refine Xc.rd_xv ?_
      walk_at "rd"
      refine Xc.rd_xvV S1 (by walk_at "mem") (by walk_at "mem") T.k_BadPaper T.na_BadPaper_at rfl ?_
      walk_at "rd"
      rename_i t H2 ht S2 H3 S3
      refine Xc.rd_isX S3 (by walk_at "mem") (by walk_at "mem") T.k_BadPaper (.own _) (kx T.x_kit_BadPaper 1 rfl rfl) ?_
      walk_at "rd"
      walk_at "if0"
      refine Xc.rd_isX S3 (by walk_at "mem") (by walk_at "mem") T.k_BadPaper (.own _) (kx T.x_kit_BadPaper 2 rfl rfl) ?_
      walk_at "rd"
      walk_at "if0"
      refine Xc.rd_isX S3 (by walk_at "mem") (by walk_at "mem") T.k_BadPaper (.own _) (kx T.x_kit_BadPaper 3 rfl rfl) ?_
      walk_at "rd"
      walk_at "if0"
      refine Xc.rd_isX S3 (by walk_at "mem") (by walk_at "mem") T.k_BadPaper (.own _) (kx T.x_kit_BadPaper 4 rfl rfl) ?_
      walk_at "rd"
      walk_at "if0"
      refine rd_decT rfl ?_
      walk_at "rd"
      exact k _ _ [_] _ ⟨t, rfl, rfl, rfl⟩ (S3.re (by walk_at "led")) (fun q hq => List.mem_map_of_mem (f := (·.1)) hq) (by simpa using ht)
    | rBadKind =>
      refine Xc.rd_isX S1 (by walk_at "mem") (by walk_at "mem") T.k_BadKind (.own _) (kx T.x_kit_BadKind 0 rfl rfl) ?_
      walk_at "rd"
      walk_at "if0"
      refine Xc.rd_isX S1 (by walk_at "mem") (by walk_at "mem") T.k_BadKind (.own _) (kx T.x_kit_BadKind 1 rfl rfl) ?_
      walk_at "rd"
      walk_at "if1"
      refine Xc.rd_isX S1 (by walk_at "mem") (by walk_at "mem") T.k_BadKind (.ty _) (kx T.x_kit_BadKind 5 rfl rfl) ?_
      walk_at "rd"
      walk_at "if1"
      refine Xc.rd_xv ?_
      walk_at "rd"
      refine Xc.rd_xvV S1 (by walk_at "mem") (by walk_at "mem") T.k_BadKind T.na_BadKind_wanted rfl ?_
      walk_at "rd"
      rename_i t H2 ht S2 H3 S3
      refine Xc.rd_isX S3 (by walk_at "mem") (by walk_at "mem") T.k_BadKind (.own _) (kx T.x_kit_BadKind 2 rfl rfl) ?_
      walk_at "rd"
      walk_at "if0"
      refine Xc.rd_isX S3 (by walk_at "mem") (by walk_at "mem") T.k_BadKind (.own _) (kx T.x_kit_BadKind 3 rfl rfl) ?_
      walk_at "rd"
      walk_at "if0"
      refine Xc.rd_isX S3 (by walk_at "mem") (by walk_at "mem") T.k_BadKind (.own _) (kx T.x_kit_BadKind 4 rfl rfl) ?_
      walk_at "rd"
      walk_at "if0"
      refine rd_decT rfl ?_
      walk_at "rd"
      exact k _ _ [_] _ ⟨t, rfl, rfl, rfl⟩ (S3.re (by walk_at "led")) (fun q hq => List.mem_map_of_mem (f := (·.1)) hq) (by simpa using ht)
    | rBadNumber =>
      refine Xc.rd_isX S1 (by walk_at "mem") (by walk_at "mem") T.k_BadNumber (.own _) (kx T.x_kit_BadNumber 0 rfl rfl) ?_
      walk_at "rd"
      walk_at "if0"
      refine Xc.rd_isX S1 (by walk_at "mem") (by walk_at "mem") T.k_BadNumber (.own _) (kx T.x_kit_BadNumber 1 rfl rfl) ?_
      walk_at "rd"
      walk_at "if0"
      refine Xc.rd_isX S1 (by walk_at "mem") (by walk_at "mem") T.k_BadNumber (.own _) (kx T.x_kit_BadNumber 2 rfl rfl) ?_
      walk_at "rd"
      walk_at "if1"
      refine Xc.rd_isX S1 (by walk_at "mem") (by walk_at "mem") T.k_BadNumber (.ty _) (kx T.x_kit_BadNumber 5 rfl rfl) ?_
      walk_at "rd"
      walk_at "if1"
      refine Xc.rd_xv ?_
      walk_at "rd"
      refine Xc.rd_xvV S1 (by walk_at "mem") (by walk_at "mem") T.k_BadNumber T.na_BadNumber_at rfl ?_
      walk_at "rd"
      rename_i t H2 ht S2 H3 S3
      refine Xc.rd_isX S3 (by walk_at "mem") (by walk_at "mem") T.k_BadNumber (.own _) (kx T.x_kit_BadNumber 3 rfl rfl) ?_
      walk_at "rd"
      walk_at "if0"
      refine Xc.rd_isX S3 (by walk_at "mem") (by walk_at "mem") T.k_BadNumber (.own _) (kx T.x_kit_BadNumber 4 rfl rfl) ?_
      walk_at "rd"
      walk_at "if0"
      refine rd_decT rfl ?_
      walk_at "rd"
      exact k _ _ [_] _ ⟨t, rfl, rfl, rfl⟩ (S3.re (by walk_at "led")) (fun q hq => List.mem_map_of_mem (f := (·.1)) hq) (by simpa using ht)
    | rTooMany =>
      refine Xc.rd_isX S1 (by walk_at "mem") (by walk_at "mem") T.k_TooMany (.own _) (kx T.x_kit_TooMany 0 rfl rfl) ?_
      walk_at "rd"
      walk_at "if0"
      refine Xc.rd_isX S1 (by walk_at "mem") (by walk_at "mem") T.k_TooMany (.own _) (kx T.x_kit_TooMany 1 rfl rfl) ?_
      walk_at "rd"
      walk_at "if0"
      refine Xc.rd_isX S1 (by walk_at "mem") (by walk_at "mem") T.k_TooMany (.own _) (kx T.x_kit_TooMany 2 rfl rfl) ?_
      walk_at "rd"
      walk_at "if0"
      refine Xc.rd_isX S1 (by walk_at "mem") (by walk_at "mem") T.k_TooMany (.own _) (kx T.x_kit_TooMany 3 rfl rfl) ?_
      walk_at "rd"
      walk_at "if1"
      refine Xc.rd_isX S1 (by walk_at "mem") (by walk_at "mem") T.k_TooMany (.ty _) (kx T.x_kit_TooMany 5 rfl rfl) ?_
      walk_at "rd"
      walk_at "if1"
      refine Xc.rd_xv ?_
      walk_at "rd"
      refine Xc.rd_xvV S1 (by walk_at "mem") (by walk_at "mem") T.k_TooMany T.na_TooMany_most rfl ?_
      walk_at "rd"
      rename_i t H2 ht S2 H3 S3
      refine Xc.rd_isX S3 (by walk_at "mem") (by walk_at "mem") T.k_TooMany (.own _) (kx T.x_kit_TooMany 4 rfl rfl) ?_
      walk_at "rd"
      walk_at "if0"
      refine rd_decT rfl ?_
      walk_at "rd"
      exact k _ _ [_] _ ⟨t, rfl, rfl, rfl⟩ (S3.re (by walk_at "led")) (fun q hq => List.mem_map_of_mem (f := (·.1)) hq) (by simpa using ht)
theorem any_rf (T : Txt K mg w A) {C : Addr} {f wd : Str} (h : Rf A C f wd) : PySem.W.exmAny K (.ref C) [.ref A.C_SortError, .ref A.C_BadAnswer, .ref A.C_BadKind, .ref A.C_BadNumber, .ref A.C_BadText, .ref A.C_NoSuch, .ref A.C_Stopped, .ref A.C_TooMany] = some true := by
  cases h with
  | rBadPaper => exact T.x_any_BadPaper
  | rBadKind => exact T.x_any_BadKind
  | rBadNumber => exact T.x_any_BadNumber
  | rTooMany => exact T.x_any_TooMany
end
/-! a lambda handed to _law_said -/
def csA (A : Ad) : List Value := [.ref A.C_SortError, .ref A.C_BadAnswer, .ref A.C_BadKind, .ref A.C_BadNumber, .ref A.C_BadText, .ref A.C_NoSuch, .ref A.C_Stopped, .ref A.C_TooMany]
def TSaid (K : PySem.W.Frag) (A : Ad) : (XK → Hp → VK → Prop) → Hp → VK → Prop := fun tl H Q =>
  ∀ (H1 : Hp) (R : VK), Same H H1 → (∀ v H', (∀ t, H' t = none → Q (.ref t) (upd H' t (.tup [.str "told", v]))) → R v H') → tl (fun cls d H' => PySem.W.exmAny K cls (csA A) = some true ∧ ∀ a, H' a = none → SepN (R_word A) [.ref a] (upd H' a (Xc.Exv a cls d)) Q E0) H1 R
section
variable {X : Cx} {A : Ad} {c P : Addr} {TT : List (Addr × Str)}
theorem said_gives (T : Txt X.K X.mg w A) (hr0 : Room 10 X.A) (Gw : FnOk X.prog X.w X.K X.mg X.base CX0 1 A.f__law_word A.d__law_word ["_law_caught"] (SepN (R_word A))) {q : Str} {cdv : Value} :
    LamX.GivesTo X ["_law_deed", "_law_told", "_law_caught", "e"] "_law_said" (defScope s_l_said) A.f__law_said cdv (defBody s_l_said) "_law_deed" q (TSaid X.K A) := by
  intro f c' s H Q tl act hc' h
  have hr := hr0.deeper (PyProof.Rows.envOfC "_law_said" (defScope s_l_said) s.heap.objs.size A.f__law_said cdv)
  have G__law_word := Gw
  refine ⟨_, pss_cons (ps_asg (pe_tup (pa_cons pe_non (pa_cons pe_non pa_nil))) (pg_tup rfl (pgs_cons (pg_name (i := 1) sc_l_said.nd rfl (Or.inl rfl)) (pgs_cons (pg_name (i := 2) sc_l_said.nd rfl (Or.inl rfl)) pgs_nil))))
    (pss_cons (Xc.ps_try_keep (i := 3) (X := (cxOf C8.CX0 X.prog X.w X.K X.mg X.base ["_law_deed", "_law_told", "_law_caught", "e"] "_law_said" (defScope s_l_said) A.f__law_said cdv X.A X.stack s H C8.E0).nox)
      (cs := csA A)
      (tb := fun W D σ H => ∃ Ech : XK, (∀ cls d σ' H', Ech cls d H' → σ'.length = 4 → W cls d σ' H') ∧ σ[0]? = some (some (.ref f)) ∧ H c' = some (LamX.CodeO c' q) ∧ tl Ech H (fun v H' => D.nx (σ.set 1 (some v)) H'))
      rfl rfl sc_l_said.nd rfl rfl (.cons ⟨rfl, by decide, .inl T.m_SortError⟩ (.cons ⟨rfl, by decide, .inl T.m_BadAnswer⟩ (.cons ⟨rfl, by decide, .inl T.m_BadKind⟩ (.cons ⟨rfl, by decide, .inl T.m_BadNumber⟩ (.cons ⟨rfl, by decide, .inl T.m_BadText⟩ (.cons ⟨rfl, by decide, .inl T.m_NoSuch⟩ (.cons ⟨rfl, by decide, .inl T.m_Stopped⟩ (.cons ⟨rfl, by decide, .inl T.m_TooMany⟩ .nil)))))))) (by simp [csA]) LamX.takes0
      (fun W pn xe tk _ => ⟨fun pins s1 σ1 H1 D I ⟨Ech, hW, h1, h2, h3⟩ => (pss_one (ps_set (i := 1) sc_l_said.nd rfl (Or.inl rfl) (act _ pn xe Ech _ _ (Xc.takes_len tk) fun cls d σ' H' z l => hW cls d σ' H' z l))).run pins s1 σ1 H1 D I ⟨h1, h2, h3⟩⟩)
      (fun a oe cls d pn _ _ => pss_one (ps_set (i := 2) sc_l_said.nd rfl (Or.inl rfl) (pv 3))))
    (pss_one (ps_ret (pe_ifExp (pt_cmpR op_isN (pv 2) pe_non (nomark _)) (pe_tup (pa_cons pe_str (pa_cons (pv 1) pa_nil))) (pe_call G__law_word (hr.mono (by decide)) rfl T.c__law_word.m T.c__law_word.F.kp T.c__law_word.b .nil pass0 (pa_cons (pv 2) pa_nil)))))), ?_⟩
  have S := Hs.start0 H
  walk_at "st"
  walk_at "rd"
  rename_i t0 H1 ht0 S1
  have sm : Same H H1 := S1.same
  refine ⟨fun cls d H' => PySem.W.exmAny X.K cls (csA A) = some true ∧ ∀ a, H' a = none → SepN (R_word A) [.ref a] (upd H' a (Xc.Exv a cls d)) Q E0, ?_, rfl, sm _ _ hc', ?_⟩
  · rintro cls d σ' H' ⟨e1, e2⟩ hl
    obtain ⟨x0, x1, x2, x3, rfl⟩ : ∃ x0 x1 x2 x3, σ' = [x0, x1, x2, x3] := by
      match σ', hl with
      | [x0, x1, x2, x3], _ => exact ⟨_, _, _, _, rfl⟩
    refine ⟨true, e1, fun _ a ha => ?_, fun z => Bool.noConfusion z⟩
    dsimp only [List.set]
    walk_at "rd"
    dsimp only [List.set]
    walk_at "rd"
    refine rd_decF (by simp) ?_
    walk_at "rd"
    exact e2 a ha
  · refine h H1 _ sm fun v H' kk => ?_
    dsimp only [List.set]
    walk_at "rd"
    refine rd_decT rfl ?_
    walk_at "rd"
    exact ⟨by rw [sizeLine_eq]; simp, fun t ht => kk t ht⟩
theorem pe_said {params : Arguments} {body : Expr} {scope : Scope} {t : XK → TE} {p lpos pos : Pos} (T : Txt X.K X.mg X.w A) (TB : LamX.TabB X.base X.mg c P) (hm : (P, X.env.qual ++ "<lambda>") ∈ TT) (hu : ∀ p ∈ TT, p.1 = P → p.2 = X.env.qual ++ "<lambda>")
    (Gw : FnOk X.prog X.w X.K X.mg X.base CX0 1 A.f__law_word A.d__law_word ["_law_caught"] (SepN (R_word A)))
    (hg : Gl X "_law_said") (hcode : X.env.code = .ref c) (hr : Room 10 X.A) (L : LamX.LamS X.env.scope scope) (hdef : defaultsOf params X.env = ([], []))
    (hbind : ∀ (q : Str) (cl : List (Str × Addr)) (pm cv ctv : Value), bindArgs (PySem.W.kla_fn "<lambda>" q params body scope cl pm cv ctv) ⟨[], []⟩ = pure [])
    (hbody : ∀ (A : Around) (outer : List Env) (s : Shared) (H : Hp) (E : XK) (f c' : Addr), Room 8 (A.deeper (LamX.lamEnv X scope s.heap.objs.size f c')) → PE (LamX.lamCx X A outer s H E scope f c') body (t E)) :
    PE X (.Call (.Name "_law_said" p) [.Lambda params body scope lpos] [] pos) (LamX.tLam TT (TSaid X.K A) t) := by
  obtain ⟨oc, od, kV, doc, pm, an, cdv, ct, osl, e, lk, hcd⟩ := T.c__law_said.F.ex
  have b := T.c__law_said.b
  rw [e] at lk b
  exact LamX.pe_lamcall (k := 8) hg T.c__law_said.m T.c__law_said.F.kp lk hcd b sc_l_said rfl (Or.inl rfl) (said_gives T hr Gw) TB hcode hm hu hr L hdef hbind hbody
end
end K16

namespace K16
open PySem PySem.Spec PyProof.Rows L2 Rs Xc Xd Xg Xh Xi Xj Xk Xl
abbrev qN (d : Str) : Str := (d ++ ".<locals>.") ++ "<lambda>"
def TT : List (Addr × Str) := [(469, qN "_law_empty_right"), (462, qN "_law_papers_right"), (457, qN "_law_numbers_right"), (450, qN "_law_by_order"), (317, qN "right_spot"), (443, qN "_law_by_row"), (481, qN "law")]
theorem extN_same {H H' : Hp} (s : Same H H') : LamX.ExtN H H' := fun b o e _ => s b o e
/-- a row that is refused, and how -/
inductive BadK (A : Ad) (H : Hp) : V → Addr → Str → Str → V → Prop
  | no {v : V} (h : NoL A H v) : BadK A H v A.C_BadKind "wanted" "kind" (.str "list")
  | long {a : Addr} {xs : List V} (h : H a = some (.lst xs)) (n : 4096 < xs.length) : BadK A H (.ref a) A.C_TooMany "most" "many" (.int 4096)
theorem BadK.rf {A : Ad} {H : Hp} {v v0 : V} {C : Addr} {f wd : Str} (b : BadK A H v C f wd v0) : Rf A C f wd := by
  cases b with
  | no h => exact .rBadKind
  | long h n => exact .rTooMany
theorem BadK.r {A : Ad} {H : Hp} {v v0 : V} {C : Addr} {f wd : Str} {E : XK} (b : BadK A H v C f wd v0) (r : Raise C f v0 H E) : BadR A H v E := by
  cases b with
  | no h => exact .inl ⟨h, r⟩
  | long h n => exact .inr ⟨_, _, rfl, h, n, r⟩
theorem Odd.ext {H H' : Hp} {v : V} (o : Odd H v) (k : LamX.ExtN H H') : Odd H' v := by
  cases o with
  | int i => exact .int i
  | bl b => exact .bl b
  | str x => exact .str x
  | non => exact .non
  | lst a xs h => exact .lst a xs (k _ _ h (fun _ z => by cases z))
  | tup a xs h => exact .tup a xs (k _ _ h (fun _ z => by cases z))
  | dct a kvs h => exact .dct a kvs (k _ _ h (fun _ z => by cases z))
theorem NoL.ext {A : Ad} {H H' : Hp} {v : V} (o : NoL A H v) (k : LamX.ExtN H H') : NoL A H' v := by
  cases o with
  | odd o n =>
    refine .odd (o.ext k) fun a xs e1 e2 => ?_
    cases o with
    | int i => cases e1
    | bl i => cases e1
    | str i => cases e1
    | non => cases e1
    | lst a' ys h => exact n _ _ rfl h
    | tup a' ys h => cases e1; rw [k _ _ h (fun _ z => by cases z)] at e2; cases e2
    | dct a' ys h => cases e1; rw [k _ _ h (fun _ z => by cases z)] at e2; cases e2
  | ins h => exact .ins (k _ _ h (fun _ z => by cases z))
theorem NoO.ext {H H' : Hp} {v : V} (o : NoO H v) (k : LamX.ExtN H H') : NoO H' v := by
  cases o with
  | odd o => exact .odd (o.ext k)
  | fn h => exact .fn (k _ _ h (fun ps => Xh.lamO_ne ps))
theorem BadK.ext {A : Ad} {H H' : Hp} {v v0 : V} {C : Addr} {f wd : Str} (b : BadK A H v C f wd v0) (k : LamX.ExtN H H') : BadK A H' v C f wd v0 := by
  cases b with
  | no h => exact .no (h.ext k)
  | long h n => exact .long (k _ _ h (fun _ z => by cases z)) n
section
variable {P : Program} {w : World} {K : PySem.W.Frag} {mg : Str → Option Value} {base : Heap} {A : Ad} {G H H0 : Hp} {MM : List Addr} {L L' F : Led} {Q : VK} {E : XK}
/-- _law_said(lambda: ..) of what is refused at once -/
theorem use_ref {σ : L2.St} {t : XK → TE} {D : VK} {C : Addr} {f wd : Str} {v : V} (T : Txt K mg w A) (tb : LamX.Tabs TT G) (hc : Rf A C f wd) (ht : ∀ (E : XK) (H5 : Hp) (R : VK), LamX.ExtN G H5 → Raise C f v H5 E → t E σ H5 R)
    (h2 : ∀ (t5 : Addr) (G' : Hp), LamX.ExtN G G' → LamX.Tabs TT G' → G' t5 = some (.tup [.str wd, v]) → D (.ref t5) G') : LamX.tLam TT (TSaid K A) t σ G D := by
  refine ⟨tb, fun H4 eN tb4 => ?_⟩
  intro H5 R5 sm5 hR
  have k5 : LamX.ExtN G H5 := eN.trans (extN_same sm5)
  have tb5 := tb4.ext sm5
  refine ht _ H5 R5 k5 fun H2 dd sm2 hdd => ?_
  refine ⟨any_rf T hc, fun ea hea => ?_⟩
  have S6 := Hs.start0 H2
  obtain ⟨_, S7⟩ := S6.newAt (o := .xd [(f, v)]) hdd
  obtain ⟨_, S8⟩ := S7.newAt (o := Xc.Exv ea (.ref C) (some dd)) hea
  refine sepn_use (F := []) S8 ⟨ea, dd, C, f, wd, v, hc, rfl, rfl, rfl, rfl⟩ (by walk_at "led") (fun c hc => nomatch hc) fun v' H7 N7 L' ⟨t5, e1, e2, e3⟩ hN S9 => ?_
  subst e1 e2 e3
  have s7 : Same H5 H7 := fun b o e => S9.same _ _ (sm2 _ _ e)
  exact h2 t5 H7 (k5.trans (extN_same s7)) (tb5.ext s7) (S9.is (t5, .tup [.str wd, v]) (by walk_at "mem"))
end
end K16

namespace K16
open PySem PySem.Spec PyProof.Rows L2 Rs Xc Xd Xg Xh Xi Xj Xk Xl
def AllT (H : Hp) (ts : List V) (wd : Str) (v : V) : Prop := ∀ t ∈ ts, ∃ a, t = V.ref a ∧ H a = some (.tup [.str wd, v])
theorem AllT.ext {H H' : Hp} {ts : List V} {wd : Str} {v : V} (h : AllT H ts wd v) (k : LamX.ExtN H H') : AllT H' ts wd v := fun t ht => let ⟨a, e, x⟩ := h t ht; ⟨a, e, k _ _ x (fun _ z => by cases z)⟩
theorem AllT.snoc {H : Hp} {ts : List V} {wd : Str} {v : V} {a : Addr} (h : AllT H ts wd v) (e : H a = some (.tup [.str wd, v])) : AllT H (ts ++ [.ref a]) wd v := fun t ht => by
  rcases List.mem_append.mp ht with z | z
  · exact h t z
  · exact ⟨a, List.mem_singleton.mp z, e⟩
theorem AllT.but {H H' : Hp} {ts xs : List V} {wd : Str} {v : V} {p : Addr} (h : AllT H ts wd v) (hp : H p = some (.lst xs)) (k : ∀ b u, H b = some u → b ≠ p → H' b = some u) : AllT H' ts wd v := fun t ht => let ⟨a, e, x⟩ := h t ht; ⟨a, e, k _ _ x (ne_of x hp (fun z => by cases z))⟩
theorem tabs_lst' {TT : List (Addr × Str)} {H H' : Hp} (h : LamX.Tabs TT H) (k : ∀ b o, H b = some o → (∀ xs, o ≠ .lst xs) → H' b = some o) : LamX.Tabs TT H' := fun p hp => by
  obtain ⟨ps, h1, h2, h3⟩ := h p hp
  refine ⟨ps, k _ _ h1 (fun _ z => by cases z), h2, fun pos cv hc => ?_⟩
  obtain ⟨c, e1, e2⟩ := h3 pos cv hc
  exact ⟨c, e1, k _ _ e2 (fun _ z => by unfold LamX.CodeO at z; cases z)⟩
def sp_byrow (A : Ad) : Sp := fun vs H Q _ => ∃ (bad second odd : V) (C : Addr) (f wd : Str) (v0 : V), vs = [bad, second, odd] ∧ BadK A H bad C f wd v0 ∧ LamX.Tabs TT H ∧ ∀ p ts H', LamX.ExtN H H' → LamX.Tabs TT H' → H' p = some (.lst ts) → ts.length = 7 → AllT H' ts wd v0 → Q (.ref p) H'
section
variable {P : Program} {w : World} {K : PySem.W.Frag} {mg : Str → Option Value} {base : Heap} {A : Ad} {H H0 : Hp} {MM : List Addr} {L L' F : Led} {Q : VK} {E : XK}
theorem kb_pieces2 (T : Txt K mg w A) : ∃ mv : List Value, KBn K A.d_cut_pieces ["row", "order", "least"] 2 ["least"] (fun us ws => us ++ ws) (fun vs zs => vs ++ zs) := by
  obtain ⟨mv, h⟩ := T.c_cut_pieces.F.kbinds0 (ps := ["row", "order", "least"]) 2 ["least"] [] (fun us mv ws => us ++ ws) (by simp) (by simp) (fun r1 r2 r3 => r1.append r3) (by
    intro D doc pm an cdv ct us mv ws h1 h2 h3
    match us, h1, mv, h2, ws, h3 with
    | [u, v], _, [], _, [y], _ => exact rfl)
  exact ⟨mv, h⟩
theorem kb_check (T : Txt K mg w A) : ∃ mv : List Value, KBn K A.d_check_pieces ["row", "order", "pieces", "least"] 3 ["least"] (fun us ws => us ++ ws) (fun vs zs => vs ++ zs) := by
  obtain ⟨mv, h⟩ := T.c_check_pieces.F.kbinds0 (ps := ["row", "order", "pieces", "least"]) 3 ["least"] [] (fun us mv ws => us ++ ws) (by simp) (by simp) (fun r1 r2 r3 => r1.append r3) (by
    intro D doc pm an cdv ct us mv ws h1 h2 h3
    match us, h1, mv, h2, ws, h3 with
    | [u, v, x], _, [], _, [y], _ => exact rfl)
  exact ⟨mv, h⟩
theorem ok_byrow (T : Txt K mg w A) (TB : LamX.TabB base mg A.cc__law_by_row 443) : FnG P w K mg base 11 A.f__law_by_row A.d__law_by_row ["_law_bad", "_law_judge", "_law_odd"] (sp_byrow A) := by
  have hmem : ((443 : Addr), qN "_law_by_row") ∈ TT := by simp [TT]
  have huni : ∀ p ∈ TT, p.1 = 443 → p.2 = qN "_law_by_row" := by
    intro p hp e
    simp only [TT, List.mem_cons, List.not_mem_nil, or_false] at hp
    rcases hp with rfl | rfl | rfl | rfl | rfl | rfl | rfl <;> first | exact absurd e (by decide) | rfl
  have G__law_word : FnOk P w K mg base CX0 1 A.f__law_word A.d__law_word ["_law_caught"] (SepN (R_word A)) := ok_word T
  have G_run_at : FnOk P w K mg base (L2.CX P w) 5 A.f_run_at A.d_run_at ["row", "order", "start", "end"] (sp_run A) := ok_run T
  have G_turn_run : FnOk P w K mg base (L2.CX P w) 5 A.f_turn_run A.d_turn_run ["row", "start", "end"] (sp_turn A) := ok_turn T
  have G_cut_piece : FnOk P w K mg base (L2.CX P w) 6 A.f_cut_piece A.d_cut_piece ["row", "order", "start", "least"] (sp_piece A) := ok_piece T
  have G_cut_pieces : FnOk P w K mg base (L2.CX P w) 7 A.f_cut_pieces A.d_cut_pieces ["row", "order", "least"] (sp_pieces A) := ok_pieces T
  have G_lay_piece : FnOk P w K mg base (L2.CX P w) 5 A.f_lay_piece A.d_lay_piece ["row", "piece"] (sp_lay A) := ok_lay T
  have G_lay_back : FnOk P w K mg base (L2.CX P w) 5 A.f_lay_back A.d_lay_back ["row", "piece"] (sp_bck A) := ok_bck T
  have G_check_pieces : FnOk P w K mg base (L2.CX P w) 8 A.f_check_pieces A.d_check_pieces ["row", "order", "pieces", "least"] (sp_check A) := ok_check T
  obtain ⟨its1, mv1, kb_run_at_end⟩ := kb_run3 T
  obtain ⟨its2, mv2, kb_cut_piece_least⟩ := kb_piece3 T
  obtain ⟨mv3, kb_cut_pieces_least⟩ := kb_pieces2 T
  obtain ⟨mv4, kb_check_pieces_least⟩ := kb_check T
  refine Xc.defGC T.cx__law_by_row sc_l_by_row (fun vs H Q E h => ?_) (fun Ar outer s H vs Q E cl hr h => ?_)
  · obtain ⟨_, _, _, _, _, _, _, rfl, _⟩ := h; rfl
  · obtain ⟨bad, second, odd, C, f, wd, v0, rfl, b, tb, k⟩ := h
    have hu := hu_of hr
    refine ⟨_, (pss_cons (ps_set (i := 3) sc_l_by_row.nd rfl (Or.inl rfl) (pe_lst (pa_cons (pe_said T TB hmem huni G__law_word rfl rfl (hr.mono (by decide)) (LamX.lamS_by (by first | rfl | kernel_rfl)) rfl (fun _ _ _ _ _ => rfl) (fun _ _ _ _ _ _ _ hr2 => pe_callN G_run_at (hr2.mono (by decide)) rfl T.c_run_at.m T.c_run_at.F.kp kb_run_at_end (passes_call (takes_of rfl rfl rfl rfl) fun _ _ _ _ z => z) (pa_cons (pv 0) (pa_cons (pv 1) (pa_cons (pv 2) pa_nil))) (pk_cons (pv 2) pk_nil))) pa_nil)))
      (pss_cons (ps_expr (pe_bm PySem.F.plainAttrs_list PySem.F.slot_list_append PySem.F.type_list_append mt_append (pv 3) (pa_cons (pe_said T TB hmem huni G__law_word rfl rfl (hr.mono (by decide)) (LamX.lamS_by (by first | rfl | kernel_rfl)) rfl (fun _ _ _ _ _ => rfl) (fun _ _ _ _ _ _ _ hr2 => pe_call G_turn_run (hr2.mono (by decide)) rfl T.c_turn_run.m T.c_turn_run.F.kp T.c_turn_run.b .nil (passes_call (takes_of rfl rfl rfl rfl) fun _ _ _ _ z => z) (pa_cons (pv 0) (pa_cons (pv 2) (pa_cons (pv 2) pa_nil))))) pa_nil)))
      (pss_cons (ps_expr (pe_bm PySem.F.plainAttrs_list PySem.F.slot_list_append PySem.F.type_list_append mt_append (pv 3) (pa_cons (pe_said T TB hmem huni G__law_word rfl rfl (hr.mono (by decide)) (LamX.lamS_by (by first | rfl | kernel_rfl)) rfl (fun _ _ _ _ _ => rfl) (fun _ _ _ _ _ _ _ hr2 => pe_callN G_cut_piece (hr2.mono (by decide)) rfl T.c_cut_piece.m T.c_cut_piece.F.kp kb_cut_piece_least (passes_call (takes_of rfl rfl rfl rfl) fun _ _ _ _ z => z) (pa_cons (pv 0) (pa_cons (pv 1) (pa_cons (pv 2) pa_nil))) (pk_cons (pv 2) pk_nil))) pa_nil)))
      (pss_cons (ps_expr (pe_bm PySem.F.plainAttrs_list PySem.F.slot_list_append PySem.F.type_list_append mt_append (pv 3) (pa_cons (pe_said T TB hmem huni G__law_word rfl rfl (hr.mono (by decide)) (LamX.lamS_by (by first | rfl | kernel_rfl)) rfl (fun _ _ _ _ _ => rfl) (fun _ _ _ _ _ _ _ hr2 => pe_callN G_cut_pieces (hr2.mono (by decide)) rfl T.c_cut_pieces.m T.c_cut_pieces.F.kp kb_cut_pieces_least (passes_call (takes_of rfl rfl rfl rfl) fun _ _ _ _ z => z) (pa_cons (pv 0) (pa_cons (pv 1) pa_nil)) (pk_cons (pv 2) pk_nil))) pa_nil)))
      (pss_cons (ps_expr (pe_bm PySem.F.plainAttrs_list PySem.F.slot_list_append PySem.F.type_list_append mt_append (pv 3) (pa_cons (pe_said T TB hmem huni G__law_word rfl rfl (hr.mono (by decide)) (LamX.lamS_by (by first | rfl | kernel_rfl)) rfl (fun _ _ _ _ _ => rfl) (fun _ _ _ _ _ _ _ hr2 => pe_call G_lay_piece (hr2.mono (by decide)) rfl T.c_lay_piece.m T.c_lay_piece.F.kp T.c_lay_piece.b .nil (passes_call (takes_of rfl rfl rfl rfl) fun _ _ _ _ z => z) (pa_cons (pv 0) (pa_cons (pv 2) pa_nil)))) pa_nil)))
      (pss_cons (ps_expr (pe_bm PySem.F.plainAttrs_list PySem.F.slot_list_append PySem.F.type_list_append mt_append (pv 3) (pa_cons (pe_said T TB hmem huni G__law_word rfl rfl (hr.mono (by decide)) (LamX.lamS_by (by first | rfl | kernel_rfl)) rfl (fun _ _ _ _ _ => rfl) (fun _ _ _ _ _ _ _ hr2 => pe_call G_lay_back (hr2.mono (by decide)) rfl T.c_lay_back.m T.c_lay_back.F.kp T.c_lay_back.b .nil (passes_call (takes_of rfl rfl rfl rfl) fun _ _ _ _ z => z) (pa_cons (pv 0) (pa_cons (pv 2) pa_nil)))) pa_nil)))
      (pss_cons (ps_expr (pe_bm PySem.F.plainAttrs_list PySem.F.slot_list_append PySem.F.type_list_append mt_append (pv 3) (pa_cons (pe_said T TB hmem huni G__law_word rfl rfl (hr.mono (by decide)) (LamX.lamS_by (by first | rfl | kernel_rfl)) rfl (fun _ _ _ _ _ => rfl) (fun _ _ _ _ _ _ _ hr2 => pe_callN G_check_pieces (hr2.mono (by decide)) rfl T.c_check_pieces.m T.c_check_pieces.F.kp kb_check_pieces_least (passes_call (takes_of rfl rfl rfl rfl) fun _ _ _ _ z => z) (pa_cons (pv 0) (pa_cons (pv 1) (pa_cons (pv 2) pa_nil))) (pk_cons (pv 2) pk_nil))) pa_nil)))
      (pss_one (ps_ret (pv 3)))))))))), ?_⟩
    walk_at "st"
    walk_at "rd"
    refine use_ref (v := v0) T tb b.rf (fun E5 H5 R5 k5 r => ?_) (fun t1 G1 k1 tb1 e1 => ?_)
    · walk_at "rd"
      exact ⟨rfl, rfl, _, _, _, _, rfl, .inl ((b.ext k5).r r)⟩
    have S0 := Hs.start0 G1
    walk_at "rd"
    rename_i p H1 hp S1
    have h1 : LamX.ExtN H H1 := k1.trans (extN_same S1.same)
    have tbl1 := tb1.ext S1.same
    have pe1 := S1.get (a := p) (o := .lst [.ref t1]) (by walk_at "mem")
    have al1 : AllT H1 [.ref t1] wd v0 := fun t ht => ⟨t1, List.mem_singleton.mp ht, S1.same _ _ e1⟩
    clear S1 S0
    have hpn : ∀ u, H p = some u → (∀ ps, u ≠ .tbl ps) → False := fun u e n => by rw [k1 _ _ e n] at hp; cases hp
    refine use_ref (v := v0) T tbl1 b.rf (fun E5 H5 R5 k5 r => ?_) (fun t2 G2 k2 tb2 e2 => ?_)
    · walk_at "rd"
      exact ⟨_, _, _, rfl, .inl ((b.ext (h1.trans k5)).r r)⟩
    have pg2 := k2 _ _ pe1 (fun _ z => by cases z)
    have S0 := Hs.start1 pg2 [p] (.inr rfl)
    walk_at "rd"
    rename_i H2 S2
    have pe2 := S2.is (p, _) List.mem_cons_self
    have kp2 : ∀ b u, G2 b = some u → b ≠ p → H2 b = some u := fun b u e n => S2.old1 e n
    have h2 : LamX.ExtN H H2 := fun b u e n => kp2 _ _ (k2 _ _ (h1 _ _ e n) n) fun z => hpn u (by rw [← z]; exact e) n
    have tbl2 : LamX.Tabs TT H2 := tabs_lst' tb2 fun b u e n => kp2 _ _ e fun z => by rw [z, pg2] at e; exact n _ (Option.some.inj e).symm
    have al2 := ((al1.ext k2).snoc e2).but pg2 kp2
    clear S2 S0
    refine use_ref (v := v0) T tbl2 b.rf (fun E5 H5 R5 k5 r => ?_) (fun t3 G3 k3 tb3 e3 => ?_)
    · walk_at "rd"
      exact ⟨rfl, rfl, _, _, _, _, rfl, .inl ((b.ext (h2.trans k5)).r r)⟩
    have pg3 := k3 _ _ pe2 (fun _ z => by cases z)
    have S0 := Hs.start1 pg3 [p] (.inr rfl)
    walk_at "rd"
    rename_i H3 S3
    have pe3 := S3.is (p, _) List.mem_cons_self
    have kp3 : ∀ b u, G3 b = some u → b ≠ p → H3 b = some u := fun b u e n => S3.old1 e n
    have h3 : LamX.ExtN H H3 := fun b u e n => kp3 _ _ (k3 _ _ (h2 _ _ e n) n) fun z => hpn u (by rw [← z]; exact e) n
    have tbl3 : LamX.Tabs TT H3 := tabs_lst' tb3 fun b u e n => kp3 _ _ e fun z => by rw [z, pg3] at e; exact n _ (Option.some.inj e).symm
    have al3 := ((al2.ext k3).snoc e3).but pg3 kp3
    clear S3 S0
    refine use_ref (v := v0) T tbl3 b.rf (fun E5 H5 R5 k5 r => ?_) (fun t4 G4 k4 tb4 e4 => ?_)
    · walk_at "rd"
      exact ⟨rfl, rfl, _, _, _, rfl, .inl ((b.ext (h3.trans k5)).r r)⟩
    have pg4 := k4 _ _ pe3 (fun _ z => by cases z)
    have S0 := Hs.start1 pg4 [p] (.inr rfl)
    walk_at "rd"
    rename_i H4 S4
    have pe4 := S4.is (p, _) List.mem_cons_self
    have kp4 : ∀ b u, G4 b = some u → b ≠ p → H4 b = some u := fun b u e n => S4.old1 e n
    have h4 : LamX.ExtN H H4 := fun b u e n => kp4 _ _ (k4 _ _ (h3 _ _ e n) n) fun z => hpn u (by rw [← z]; exact e) n
    have tbl4 : LamX.Tabs TT H4 := tabs_lst' tb4 fun b u e n => kp4 _ _ e fun z => by rw [z, pg4] at e; exact n _ (Option.some.inj e).symm
    have al4 := ((al3.ext k4).snoc e4).but pg4 kp4
    clear S4 S0
    refine use_ref (v := v0) T tbl4 b.rf (fun E5 H5 R5 k5 r => ?_) (fun t5 G5 k5 tb5 e5 => ?_)
    · walk_at "rd"
      exact ⟨_, _, rfl, .inl ((b.ext (h4.trans k5)).r r)⟩
    have pg5 := k5 _ _ pe4 (fun _ z => by cases z)
    have S0 := Hs.start1 pg5 [p] (.inr rfl)
    walk_at "rd"
    rename_i H5 S5
    have pe5 := S5.is (p, _) List.mem_cons_self
    have kp5 : ∀ b u, G5 b = some u → b ≠ p → H5 b = some u := fun b u e n => S5.old1 e n
    have h5 : LamX.ExtN H H5 := fun b u e n => kp5 _ _ (k5 _ _ (h4 _ _ e n) n) fun z => hpn u (by rw [← z]; exact e) n
    have tbl5 : LamX.Tabs TT H5 := tabs_lst' tb5 fun b u e n => kp5 _ _ e fun z => by rw [z, pg5] at e; exact n _ (Option.some.inj e).symm
    have al5 := ((al4.ext k5).snoc e5).but pg5 kp5
    clear S5 S0
    refine use_ref (v := v0) T tbl5 b.rf (fun E5 H5 R5 k5 r => ?_) (fun t6 G6 k6 tb6 e6 => ?_)
    · walk_at "rd"
      exact ⟨_, _, rfl, .inl ((b.ext (h5.trans k5)).r r)⟩
    have pg6 := k6 _ _ pe5 (fun _ z => by cases z)
    have S0 := Hs.start1 pg6 [p] (.inr rfl)
    walk_at "rd"
    rename_i H6 S6
    have pe6 := S6.is (p, _) List.mem_cons_self
    have kp6 : ∀ b u, G6 b = some u → b ≠ p → H6 b = some u := fun b u e n => S6.old1 e n
    have h6 : LamX.ExtN H H6 := fun b u e n => kp6 _ _ (k6 _ _ (h5 _ _ e n) n) fun z => hpn u (by rw [← z]; exact e) n
    have tbl6 : LamX.Tabs TT H6 := tabs_lst' tb6 fun b u e n => kp6 _ _ e fun z => by rw [z, pg6] at e; exact n _ (Option.some.inj e).symm
    have al6 := ((al5.ext k6).snoc e6).but pg6 kp6
    clear S6 S0
    refine use_ref (v := v0) T tbl6 b.rf (fun E5 H5 R5 k5 r => ?_) (fun t7 G7 k7 tb7 e7 => ?_)
    · walk_at "rd"
      exact ⟨rfl, rfl, _, _, _, _, rfl, .inl ((b.ext (h6.trans k5)).r r)⟩
    have pg7 := k7 _ _ pe6 (fun _ z => by cases z)
    have S0 := Hs.start1 pg7 [p] (.inr rfl)
    walk_at "rd"
    rename_i H7 S7
    have pe7 := S7.is (p, _) List.mem_cons_self
    have kp7 : ∀ b u, G7 b = some u → b ≠ p → H7 b = some u := fun b u e n => S7.old1 e n
    have h7 : LamX.ExtN H H7 := fun b u e n => kp7 _ _ (k7 _ _ (h6 _ _ e n) n) fun z => hpn u (by rw [← z]; exact e) n
    have tbl7 : LamX.Tabs TT H7 := tabs_lst' tb7 fun b u e n => kp7 _ _ e fun z => by rw [z, pg7] at e; exact n _ (Option.some.inj e).symm
    have al7 := ((al6.ext k7).snoc e7).but pg7 kp7
    clear S7 S0
    walk_at "rd"
    exact k p _ H7 h7 tbl7 pe7 rfl al7
end
end K16

namespace K16
open PySem PySem.Spec PyProof.Rows L2 Rs Xc Xd Xg Xh Xi Xj Xk Xl
def sp_byord (A : Ad) : Sp := fun vs H Q _ => ∃ (a : Addr) (none odd : V) (xs : List V), vs = [.ref a, none, odd] ∧ H a = some (.lst xs) ∧ xs.length ≤ 4096 ∧ NoO H none ∧ LamX.Tabs TT H ∧ ∀ p ts H', LamX.ExtN H H' → LamX.Tabs TT H' → H' p = some (.lst ts) → ts.length = 4 → AllT H' ts "kind" (.str "Order") → Q (.ref p) H'
section
variable {P : Program} {w : World} {K : PySem.W.Frag} {mg : Str → Option Value} {base : Heap} {A : Ad} {H H0 : Hp} {MM : List Addr} {L L' F : Led} {Q : VK} {E : XK}
theorem ok_byord (T : Txt K mg w A) (TB : LamX.TabB base mg A.cc__law_by_order 450) : FnG P w K mg base 11 A.f__law_by_order A.d__law_by_order ["_law_line", "_law_none", "_law_odd"] (sp_byord A) := by
  have hmem : ((450 : Addr), qN "_law_by_order") ∈ TT := by simp [TT]
  have huni : ∀ p ∈ TT, p.1 = 450 → p.2 = qN "_law_by_order" := by
    intro p hp e
    simp only [TT, List.mem_cons, List.not_mem_nil, or_false] at hp
    rcases hp with rfl | rfl | rfl | rfl | rfl | rfl | rfl <;> first | exact absurd e (by decide) | rfl
  have G__law_word : FnOk P w K mg base CX0 1 A.f__law_word A.d__law_word ["_law_caught"] (SepN (R_word A)) := ok_word T
  have G_run_at : FnOk P w K mg base (L2.CX P w) 5 A.f_run_at A.d_run_at ["row", "order", "start", "end"] (sp_run A) := ok_run T
  have G_turn_run : FnOk P w K mg base (L2.CX P w) 5 A.f_turn_run A.d_turn_run ["row", "start", "end"] (sp_turn A) := ok_turn T
  have G_cut_piece : FnOk P w K mg base (L2.CX P w) 6 A.f_cut_piece A.d_cut_piece ["row", "order", "start", "least"] (sp_piece A) := ok_piece T
  have G_cut_pieces : FnOk P w K mg base (L2.CX P w) 7 A.f_cut_pieces A.d_cut_pieces ["row", "order", "least"] (sp_pieces A) := ok_pieces T
  have G_lay_piece : FnOk P w K mg base (L2.CX P w) 5 A.f_lay_piece A.d_lay_piece ["row", "piece"] (sp_lay A) := ok_lay T
  have G_lay_back : FnOk P w K mg base (L2.CX P w) 5 A.f_lay_back A.d_lay_back ["row", "piece"] (sp_bck A) := ok_bck T
  have G_check_pieces : FnOk P w K mg base (L2.CX P w) 8 A.f_check_pieces A.d_check_pieces ["row", "order", "pieces", "least"] (sp_check A) := ok_check T
  obtain ⟨its1, mv1, kb_run_at_end⟩ := kb_run3 T
  obtain ⟨its2, mv2, kb_cut_piece_least⟩ := kb_piece3 T
  obtain ⟨mv3, kb_cut_pieces_least⟩ := kb_pieces2 T
  obtain ⟨mv4, kb_check_pieces_least⟩ := kb_check T
  refine Xc.defGC T.cx__law_by_order sc_l_by_order (fun vs H Q E h => ?_) (fun Ar outer s H vs Q E cl hr h => ?_)
  · obtain ⟨_, _, _, _, rfl, _⟩ := h; rfl
  · obtain ⟨a, none, odd, xs, rfl, ha, hl, no, tb, k⟩ := h
    have hu := hu_of hr
    refine ⟨_, (pss_cons (ps_set (i := 3) sc_l_by_order.nd rfl (Or.inl rfl) (pe_lst (pa_cons (pe_said T TB hmem huni G__law_word rfl rfl (hr.mono (by decide)) (LamX.lamS_by (by first | rfl | kernel_rfl)) rfl (fun _ _ _ _ _ => rfl) (fun _ _ _ _ _ _ _ hr2 => pe_callN G_run_at (hr2.mono (by decide)) rfl T.c_run_at.m T.c_run_at.F.kp kb_run_at_end (passes_call (takes_of rfl rfl rfl rfl) fun _ _ _ _ z => z) (pa_cons (pv 0) (pa_cons (pv 1) (pa_cons (pv 2) pa_nil))) (pk_cons (pv 2) pk_nil))) pa_nil)))
      (pss_cons (ps_expr (pe_bm PySem.F.plainAttrs_list PySem.F.slot_list_append PySem.F.type_list_append mt_append (pv 3) (pa_cons (pe_said T TB hmem huni G__law_word rfl rfl (hr.mono (by decide)) (LamX.lamS_by (by first | rfl | kernel_rfl)) rfl (fun _ _ _ _ _ => rfl) (fun _ _ _ _ _ _ _ hr2 => pe_callN G_cut_piece (hr2.mono (by decide)) rfl T.c_cut_piece.m T.c_cut_piece.F.kp kb_cut_piece_least (passes_call (takes_of rfl rfl rfl rfl) fun _ _ _ _ z => z) (pa_cons (pv 0) (pa_cons (pv 1) (pa_cons (pv 2) pa_nil))) (pk_cons (pv 2) pk_nil))) pa_nil)))
      (pss_cons (ps_expr (pe_bm PySem.F.plainAttrs_list PySem.F.slot_list_append PySem.F.type_list_append mt_append (pv 3) (pa_cons (pe_said T TB hmem huni G__law_word rfl rfl (hr.mono (by decide)) (LamX.lamS_by (by first | rfl | kernel_rfl)) rfl (fun _ _ _ _ _ => rfl) (fun _ _ _ _ _ _ _ hr2 => pe_callN G_cut_pieces (hr2.mono (by decide)) rfl T.c_cut_pieces.m T.c_cut_pieces.F.kp kb_cut_pieces_least (passes_call (takes_of rfl rfl rfl rfl) fun _ _ _ _ z => z) (pa_cons (pv 0) (pa_cons (pv 1) pa_nil)) (pk_cons (pv 2) pk_nil))) pa_nil)))
      (pss_cons (ps_expr (pe_bm PySem.F.plainAttrs_list PySem.F.slot_list_append PySem.F.type_list_append mt_append (pv 3) (pa_cons (pe_said T TB hmem huni G__law_word rfl rfl (hr.mono (by decide)) (LamX.lamS_by (by first | rfl | kernel_rfl)) rfl (fun _ _ _ _ _ => rfl) (fun _ _ _ _ _ _ _ hr2 => pe_callN G_check_pieces (hr2.mono (by decide)) rfl T.c_check_pieces.m T.c_check_pieces.F.kp kb_check_pieces_least (passes_call (takes_of rfl rfl rfl rfl) fun _ _ _ _ z => z) (pa_cons (pv 0) (pa_cons (pv 1) (pa_cons (pv 2) pa_nil))) (pk_cons (pv 2) pk_nil))) pa_nil)))
      (pss_one (ps_ret (pv 3))))))), ?_⟩
    walk_at "st"
    walk_at "rd"
    refine use_ref (v := .str "Order") T tb .rBadKind (fun E5 H5 R5 k5 r => ?_) (fun t1 G1 k1 tb1 e1 => ?_)
    · walk_at "rd"
      exact ⟨rfl, rfl, _, _, _, _, rfl, .inr ⟨a, xs, rfl, k5 _ _ ha (fun _ z => by cases z), hl, .inl ⟨no.ext k5, r⟩⟩⟩
    have S0 := Hs.start0 G1
    walk_at "rd"
    rename_i p H1 hp S1
    have h1 : LamX.ExtN H H1 := k1.trans (extN_same S1.same)
    have tbl1 := tb1.ext S1.same
    have pe1 := S1.get (a := p) (o := .lst [.ref t1]) (by walk_at "mem")
    have al1 : AllT H1 [.ref t1] "kind" (.str "Order") := fun t ht => ⟨t1, List.mem_singleton.mp ht, S1.same _ _ e1⟩
    clear S1 S0
    have hpn : ∀ u, H p = some u → (∀ ps, u ≠ .tbl ps) → False := fun u e n => by rw [k1 _ _ e n] at hp; cases hp
    refine use_ref (v := .str "Order") T tbl1 .rBadKind (fun E5 H5 R5 k5 r => ?_) (fun t2 G2 k2 tb2 e2 => ?_)
    · walk_at "rd"
      exact ⟨rfl, rfl, _, _, _, _, rfl, .inr ⟨a, xs, rfl, (h1.trans k5) _ _ ha (fun _ z => by cases z), hl, .inl ⟨no.ext (h1.trans k5), r⟩⟩⟩
    have pg2 := k2 _ _ pe1 (fun _ z => by cases z)
    have S0 := Hs.start1 pg2 [p] (.inr rfl)
    walk_at "rd"
    rename_i H2 S2
    have pe2 := S2.is (p, _) List.mem_cons_self
    have kp2 : ∀ b u, G2 b = some u → b ≠ p → H2 b = some u := fun b u e n => S2.old1 e n
    have h2 : LamX.ExtN H H2 := fun b u e n => kp2 _ _ (k2 _ _ (h1 _ _ e n) n) fun z => hpn u (by rw [← z]; exact e) n
    have tbl2 : LamX.Tabs TT H2 := tabs_lst' tb2 fun b u e n => kp2 _ _ e fun z => by rw [z, pg2] at e; exact n _ (Option.some.inj e).symm
    have al2 := ((al1.ext k2).snoc e2).but pg2 kp2
    clear S2 S0
    refine use_ref (v := .str "Order") T tbl2 .rBadKind (fun E5 H5 R5 k5 r => ?_) (fun t3 G3 k3 tb3 e3 => ?_)
    · walk_at "rd"
      exact ⟨rfl, rfl, _, _, _, rfl, .inr ⟨a, xs, rfl, (h2.trans k5) _ _ ha (fun _ z => by cases z), hl, .inl ⟨no.ext (h2.trans k5), r⟩⟩⟩
    have pg3 := k3 _ _ pe2 (fun _ z => by cases z)
    have S0 := Hs.start1 pg3 [p] (.inr rfl)
    walk_at "rd"
    rename_i H3 S3
    have pe3 := S3.is (p, _) List.mem_cons_self
    have kp3 : ∀ b u, G3 b = some u → b ≠ p → H3 b = some u := fun b u e n => S3.old1 e n
    have h3 : LamX.ExtN H H3 := fun b u e n => kp3 _ _ (k3 _ _ (h2 _ _ e n) n) fun z => hpn u (by rw [← z]; exact e) n
    have tbl3 : LamX.Tabs TT H3 := tabs_lst' tb3 fun b u e n => kp3 _ _ e fun z => by rw [z, pg3] at e; exact n _ (Option.some.inj e).symm
    have al3 := ((al2.ext k3).snoc e3).but pg3 kp3
    clear S3 S0
    refine use_ref (v := .str "Order") T tbl3 .rBadKind (fun E5 H5 R5 k5 r => ?_) (fun t4 G4 k4 tb4 e4 => ?_)
    · walk_at "rd"
      exact ⟨rfl, rfl, _, _, _, _, rfl, .inr ⟨a, xs, rfl, (h3.trans k5) _ _ ha (fun _ z => by cases z), hl, .inl ⟨no.ext (h3.trans k5), r⟩⟩⟩
    have pg4 := k4 _ _ pe3 (fun _ z => by cases z)
    have S0 := Hs.start1 pg4 [p] (.inr rfl)
    walk_at "rd"
    rename_i H4 S4
    have pe4 := S4.is (p, _) List.mem_cons_self
    have kp4 : ∀ b u, G4 b = some u → b ≠ p → H4 b = some u := fun b u e n => S4.old1 e n
    have h4 : LamX.ExtN H H4 := fun b u e n => kp4 _ _ (k4 _ _ (h3 _ _ e n) n) fun z => hpn u (by rw [← z]; exact e) n
    have tbl4 : LamX.Tabs TT H4 := tabs_lst' tb4 fun b u e n => kp4 _ _ e fun z => by rw [z, pg4] at e; exact n _ (Option.some.inj e).symm
    have al4 := ((al3.ext k4).snoc e4).but pg4 kp4
    clear S4 S0
    walk_at "rd"
    exact k p _ H4 h4 tbl4 pe4 rfl al4
end
end K16

namespace K16
open PySem PySem.Spec PyProof.Rows L2 Rs Xc Xd Xg Xh Xi Xj Xk Xl
/-! what is found grows -/
inductive AllP (H : Hp) : List V → List (Str × V) → Prop
  | nil : AllP H [] []
  | cons {a : Addr} {ts : List V} {wd : Str} {v : V} {its : List (Str × V)} (e : H a = some (.tup [.str wd, v])) (h : AllP H ts its) : AllP H (.ref a :: ts) ((wd, v) :: its)
theorem AllP.ext {H H' : Hp} {ts : List V} {its : List (Str × V)} (h : AllP H ts its) (k : LamX.ExtN H H') : AllP H' ts its := by
  induction h with
  | nil => exact .nil
  | cons e _ ih => exact .cons (k _ _ e (fun _ z => by cases z)) ih
theorem AllP.but {H H' : Hp} {ts xs : List V} {its : List (Str × V)} {p : Addr} (h : AllP H ts its) (hp : H p = some (.lst xs)) (k : ∀ b u, H b = some u → b ≠ p → H' b = some u) : AllP H' ts its := by
  induction h with
  | nil => exact .nil
  | cons e _ ih => exact .cons (k _ _ e (ne_of e hp (fun z => by cases z))) ih
theorem AllP.snoc {H : Hp} {ts : List V} {its : List (Str × V)} {a : Addr} {wd : Str} {v : V} (h : AllP H ts its) (e : H a = some (.tup [.str wd, v])) : AllP H (ts ++ [.ref a]) (its ++ [(wd, v)]) := by
  induction h with
  | nil => exact .cons e .nil
  | cons e' _ ih => exact .cons e' ih
theorem AllP.len {H : Hp} {ts : List V} {its : List (Str × V)} (h : AllP H ts its) : ts.length = its.length := by
  induction h with
  | nil => rfl
  | cons _ _ ih => simp [ih]
/-- p: a new list, of all that was found -/
def Fnd (G0 H : Hp) (p : Addr) (its : List (Str × V)) : Prop := LamX.ExtN G0 H ∧ LamX.Tabs TT H ∧ (∀ u, G0 p = some u → (∀ ps, u ≠ .tbl ps) → False) ∧ ∃ ts, H p = some (.lst ts) ∧ AllP H ts its
/-- what is handed in -/
inductive BV (H : Hp) : V → PyData → Prop
  | int (i : Int) (h : i.natAbs ≤ 10 ^ 30) : BV H (.int i) (.int i)
  | bl (b : Bool) : BV H (.bl b) (.bool b)
  | non : BV H .non .none
  | str (x : Str) (h : x = "0" ∨ x = "8") : BV H (.str x) (.str x)
  | lst (a : Addr) (i : Int) (h : i = 0 ∨ i = 8) (e : H a = some (.lst [.int i])) : BV H (.ref a) (.list [.int i])
  | tup (a : Addr) (i : Int) (h : i = 0 ∨ i = 8) (e : H a = some (.tup [.int i])) : BV H (.ref a) (.tuple [.int i])
  | dct (a : Addr) (e : H a = some (.dK [])) : BV H (.ref a) (.dict [])
theorem BV.odd {H : Hp} {v : V} {d : PyData} (b : BV H v d) : Odd H v := by
  cases b with
  | int i h => exact .int i
  | bl b => exact .bl b
  | non => exact .non
  | str x h => exact .str x
  | lst a i h e => exact .lst a _ e
  | tup a i h e => exact .tup a _ e
  | dct a e => exact .dct a _ e
theorem BV.ext {H H' : Hp} {v : V} {d : PyData} (b : BV H v d) (k : LamX.ExtN H H') : BV H' v d := by
  cases b with
  | int i h => exact .int i h
  | bl b => exact .bl b
  | non => exact .non
  | str x h => exact .str x h
  | lst a i h e => exact .lst a i h (k _ _ e fun _ z => by cases z)
  | tup a i h e => exact .tup a i h (k _ _ e fun _ z => by cases z)
  | dct a e => exact .dct a (k _ _ e fun _ z => by cases z)
theorem int_ok {i : Int} (h : i.natAbs ≤ 10 ^ 30) : (PyData.int i).showable = true ∧ (PyData.shown (.int i)).length ≤ 40 := by
  constructor
  · have h2 : i.natAbs.log2 < 1920 := by
      by_cases z : i.natAbs = 0
      · rw [z]; decide
      · have := (Nat.log2_lt z (k := 120)).mpr (by omega)
        omega
    simp only [PyData.showable, decide_eq_true_eq]
    exact h2
  · have e := int_text_length_le10 (k := 31) (by decide) (show i.natAbs < 10 ^ 31 by omega)
    rw [PyData.shown_int]
    have e2 : ((toString i : String) : Str).length = (toString i).length := PySem.ofString_length _
    omega
theorem BV.tz {K : PySem.W.Frag} {H : Hp} {v : V} {d : PyData} (b : BV H v d) : Tz K H v d := by
  cases b with
  | int i h => exact .dp (.int i) (int_ok h).1
  | bl b => exact .dp (.bl b) rfl
  | non => exact .dp .non rfl
  | str x h => exact .dp (.str x) rfl
  | lst a i h e => exact .dp (.lst (SqL.of e) (.cons (.int i) .nil)) (by rcases h with rfl | rfl <;> decide +kernel)
  | tup a i h e => exact .dp (.tup (SqT.of e) (.cons (.int i) .nil)) (by rcases h with rfl | rfl <;> decide +kernel)
  | dct a e => exact .dk e .nil (by decide +kernel)
theorem BV.small {H : Hp} {v : V} {d : PyData} (b : BV H v d) : d.shown.length ≤ 100 ∧ d.depth ≤ 2 := by
  cases b with
  | int i h => exact ⟨Nat.le_trans (int_ok h).2 (by omega), by simp [PyData.depth]⟩
  | bl b => exact ⟨by cases b <;> decide +kernel, by simp [PyData.depth]⟩
  | non => exact ⟨by decide +kernel, by simp [PyData.depth]⟩
  | str x h => exact ⟨by rcases h with rfl | rfl <;> decide +kernel, by simp [PyData.depth]⟩
  | lst a i h e => exact ⟨by rcases h with rfl | rfl <;> decide +kernel, by simp [PyData.depth, PyData.depthAll]⟩
  | tup a i h e => exact ⟨by rcases h with rfl | rfl <;> decide +kernel, by simp [PyData.depth, PyData.depthAll]⟩
  | dct a e => exact ⟨by decide +kernel, by simp [PyData.depth, PyData.depthKv]⟩
/-- nothing whole from l to m -/
def NW (v : V) (l m : Int) : Prop := ∀ l' m', l ≤ l' → m' ≤ m → isWh v l' m' = false
theorem nw_int {i l m : Int} (h : i < l ∨ m < i) : NW (.int i) l m := fun l' m' h1 h2 => by
  rw [isWh_int]
  rcases h with h | h
  · rw [decide_eq_false (by omega)]; rfl
  · rw [decide_eq_false (show ¬ i ≤ m' by omega), Bool.and_false]
inductive BVs (H : Hp) : List (Str × V) → List PyData → Prop
  | nil : BVs H [] []
  | cons {wd : Str} {v : V} {d : PyData} {its : List (Str × V)} {ds : List PyData} (hw : (reprText wd).length ≤ 20) (b : BV H v d) (h : BVs H its ds) : BVs H ((wd, v) :: its) (.tuple [.str wd, d] :: ds)
theorem BVs.ext {H H' : Hp} {its : List (Str × V)} {ds : List PyData} (h : BVs H its ds) (k : LamX.ExtN H H') : BVs H' its ds := by
  induction h with
  | nil => exact .nil
  | cons hw b _ ih => exact .cons hw (b.ext k) ih
theorem BVs.len {H : Hp} {its : List (Str × V)} {ds : List PyData} (h : BVs H its ds) : its.length = ds.length := by
  induction h with
  | nil => rfl
  | cons hw b _ ih => simp [ih]
theorem BVs.sum {H : Hp} {its : List (Str × V)} {ds : List PyData} (h : BVs H its ds) : ((PyData.shownAll ds).map (·.length)).sum ≤ 200 * its.length ∧ (PyData.shownAll ds).length = its.length ∧ PyData.depthAll ds ≤ 3 := by
  induction h with
  | nil => exact ⟨by simp [PyData.shownAll], by simp [PyData.shownAll], by simp [PyData.depthAll]⟩
  | @cons wd v d its ds hw b _ ih =>
    obtain ⟨s1, s2⟩ := b.small
    have es : (PyData.tuple [.str wd, d]).shown.length ≤ 200 := by
      have : (PyData.tuple [.str wd, d]).shown = tupleText [reprText wd, d.shown] := by simp [PyData.shown, PyData.shownAll]
      rw [this]
      have h1 := tupleText_len_le [reprText wd, d.shown]
      simp only [List.map_cons, List.map_nil, List.sum_cons, List.sum_nil, List.length_cons, List.length_nil] at h1
      omega
    have ed : (PyData.tuple [.str wd, d]).depth ≤ 3 := by
      simp only [PyData.depth, PyData.depthAll]
      omega
    refine ⟨?_, ?_, ?_⟩
    · simp only [PyData.shownAll, List.map_cons, List.sum_cons, List.length_cons]; omega
    · simp only [PyData.shownAll, List.length_cons]; omega
    · simp only [PyData.depthAll]; omega
section
variable {P : Program} {w : World} {K : PySem.W.Frag} {mg : Str → Option Value} {base : Heap} {A : Ad} {H H0 : Hp} {MM : List Addr} {L L' F : Led} {Q : VK} {E : XK}
theorem Fnd.app {G0 G : Hp} {p t : Addr} {its : List (Str × V)} {wd : Str} {v : V} (F : Fnd G0 H p its) (k : LamX.ExtN H G) (tb : LamX.Tabs TT G) (e : G t = some (.tup [.str wd, v])) (hl : its.length ≤ 100)
    (h : ∀ H' ts', Fnd G0 H' p (its ++ [(wd, v)]) → Hs H' [] H' [(p, .lst ts')] → Q .non H') : rAppend (.ref p) [.ref t] G Q := by
  obtain ⟨f1, f2, f3, ts, f4, f5⟩ := F
  have pg := k _ _ f4 (fun _ z => by cases z)
  have S := Hs.start1 pg [p] (.inr rfl)
  have hz := f5.len
  refine rd_app S .here (.inr (by simp)) (Rs.sz' (by omega)) fun H' S' => ?_
  have kp : ∀ b u, G b = some u → b ≠ p → H' b = some u := fun b u e n => S'.old1 e n
  refine h H' (ts ++ [.ref t]) ⟨fun b u e n => kp _ _ (k _ _ (f1 _ _ e n) n) fun z => f3 u (by rw [← z]; exact e) n, tabs_lst' tb fun b u e n => kp _ _ e fun z => by rw [z, pg] at e; exact n _ (Option.some.inj e).symm, f3, _, S'.is (p, _) List.mem_cons_self, ?_⟩ ?_
  · exact ((f5.ext k).snoc e).but pg kp
  · exact Hs.start1 (S'.is (p, _) List.mem_cons_self) [] (.inl rfl)
theorem Fnd.new {G0 G : Hp} {p t : Addr} {wd : Str} {v : V} {L : Led} (k : LamX.ExtN G0 G) (tb : LamX.Tabs TT G) (e : G t = some (.tup [.str wd, v])) (hp : G p = none) (S : Hs G [] H ((p, .lst [.ref t]) :: L)) : Fnd G0 H p [(wd, v)] :=
  ⟨k.trans (extN_same S.same), tb.ext S.same, (fun u e n => by rw [k _ _ e n] at hp; cases hp), _, S.is (p, _) List.mem_cons_self, .cons (S.same _ _ e) .nil⟩
theorem Fnd.more {G0 : Hp} {p : Addr} {its : List (Str × V)} {H' : Hp} (F : Fnd G0 H p its) (s : Same H H') : Fnd G0 H' p its := by
  obtain ⟨f1, f2, f3, ts, f4, f5⟩ := F
  exact ⟨f1.trans (extN_same s), f2.ext s, f3, ts, s _ _ f4, f5.ext (extN_same s)⟩
theorem rd_reprF {p : Addr} {ts : List V} {its : List (Str × V)} {ds : List PyData} (hp : H p = some (.lst ts)) (ha : AllP H ts its) (hb : BVs H its ds) (hl : its.length ≤ 100) (hn : its ≠ []) (h : Q (.str (PyData.list ds).shown) H) : Xh.rReprP K [.ref p] H Q := by
  have ta : TpA K H ts ds := by
    clear hp hl hn h
    induction ha generalizing ds with
    | nil => cases hb; exact .nil
    | cons e _ ih =>
      cases hb with
      | cons hw b hb => exact .cons (.pr (SqT.of e) b.tz) (ih hb)
  obtain ⟨s1, s2, s3⟩ := hb.sum
  refine ⟨p, ts, _, rfl, SqL.of hp, ta, fun z => ?_, ?_, ?_, h⟩
  · have := ha.len
    rw [z] at this
    exact hn (List.eq_nil_of_length_eq_zero (by simpa using this.symm))
  · have h1 := listText_len_le (PyData.shownAll ds)
    simp only [PyData.shown]
    rw [sizeLine_eq]
    omega
  · omega
theorem allP_of {wd : Str} : ∀ (as : List Addr) (xs : List V), as.length = xs.length → (∀ (j : Nat) (a : Addr) (x : V), as[j]? = some a → xs[j]? = some x → H a = some (.tup [.str wd, x])) → AllP H (as.map V.ref) (xs.map fun v => (wd, v))
  | [], [], _, _ => .nil
  | [], _ :: _, h, _ => by simp at h
  | _ :: _, [], h, _ => by simp at h
  | a :: as, x :: xs, h, k => .cons (k 0 a x rfl rfl) (allP_of as xs (by simpa using h) fun j a x h1 h2 => k (j + 1) a x (by simpa using h1) (by simpa using h2))
/-- [(wd, x) for x in xs], xs a list -/
theorem lc_pairs {a : Addr} {xs : List V} {wd : Str} {i : Nat} {vs : List Nat} {σ : L2.St} (S : Hs H0 MM H L) (hz : xs.length ≤ 100) (hx0 : ∀ H', Same H H' → SqL K H' a xs)
    (hi : ∀ x : V, wipe ((wipe σ vs).set i (some x)) vs = wipe σ vs) (hg : ∀ x : V, ((wipe σ vs).set i (some x))[i]? = some (some x))
    (hd : ∀ D H' ts, H0 D = none → Same H H' → Hs H0 MM H' ((D, .lst ts) :: L) → AllP H' ts (xs.map fun v => (wd, v)) → Q (.ref D) H') : lcW (Itl K a) (gName i) tYes (tTup (tCons (tC (.str wd)) (tCons (tVar i) tNil))) vs σ H Q := by
  have S0 := Hs.start0 H
  refine Xg.lcv_list S0 (fun n acc L' => ∃ as : List Addr, acc = as.map V.ref ∧ as.length = n ∧ ∀ (j : Nat) (b : Addr) (x : V), as[j]? = some b → xs[j]? = some x → (b, HO.tup [.str wd, x]) ∈ L') ⟨[], rfl, rfl, fun j b x h _ => by simp at h⟩ (fun n H' acc D L' _ S' => hx0 _ S'.same) ?_ ?_
  · rintro D n x acc L' H' hxn ⟨as, rfl, hl, hmem⟩ hD S'
    clear S S0
    have hn : n < xs.length := (List.getElem?_eq_some_iff.mp hxn).1
    refine rd_name rfl ?_
    refine ⟨hi x, ?_⟩
    walk_at "rd"
    refine rd_var (hg x) ?_
    walk_at "rd"
    rename_i t H2 ht S2
    refine Xg.rd_lvPut (acc := as.map V.ref) (L1 := (t, .tup [.str wd, x]) :: L') S2 (by walk_at "led") hD (Rs.sz' (by rw [List.length_map]; omega)) ⟨as ++ [t], by simp, by simp [hl], fun j b y h1 h2 => ?_⟩
    by_cases hj : j < as.length
    · rw [List.getElem?_append_left hj] at h1
      exact List.mem_cons_of_mem _ (hmem j b y h1 h2)
    · rw [List.getElem?_append_right (by omega)] at h1
      have e0 : j - as.length = 0 := by
        have := (List.getElem?_eq_some_iff.mp h1).1
        simp at this
        omega
      rw [e0] at h1
      cases h1
      rw [show j = n by omega, hxn] at h2
      cases h2
      exact List.mem_cons_self
  · rintro D acc L' H' ⟨as, rfl, hl, hmem⟩ hD S'
    have q := S.more1 S'.same hD (S'.is (D, .lst (as.map V.ref)) List.mem_cons_self)
    refine hd D H' _ q.1 S'.same q.2 ?_
    exact allP_of as xs hl fun j b x h1 h2 => S'.is (b, .tup [.str wd, x]) (List.mem_cons_of_mem _ (hmem j b x h1 h2))
end
end K16

namespace K16
open PySem PySem.Spec PyProof.Rows L2 Rs Xc Xd Xg Xh Xi Xj Xk Xl
theorem Ppr.ext {H H' : Hp} {v : V} (h : Ppr H v none) (k : LamX.ExtN H H') : Ppr H' v none := by
  cases h with
  | no x o n =>
    refine .no v (o.ext k) fun a xs e1 e2 => ?_
    cases o with
    | int i => cases e1
    | bl i => cases e1
    | str i => cases e1
    | non => cases e1
    | lst a' ys h => cases e1; rw [k _ _ h (fun _ z => by cases z)] at e2; cases e2
    | tup a' ys h => exact n _ _ rfl h
    | dct a' ys h => cases e1; rw [k _ _ h (fun _ z => by cases z)] at e2; cases e2
  | len p vs h n => exact .len p vs (k _ _ h (fun _ z => by cases z)) n
def plainV : V → Bool
  | .int _ => true
  | .str _ => true
  | .non => true
  | .bl _ => true
  | _ => false
def dOf : V → PyData
  | .int i => .int i
  | .str x => .str x
  | .bl b => .bool b
  | _ => .none
def dPs (its : List (Str × V)) : List PyData := its.map fun q => .tuple [.str q.1, dOf q.2]
def sp_numr (A : Ad) : Sp := fun vs H Q _ => ∃ (a x dx : Addr) (odd low : V) (d1 d2 : PyData) (xs : List V) (fs : List (Str × V)), vs = [.ref a, .ref x, odd, low] ∧ H a = some (.lst xs) ∧ 1 ≤ xs.length ∧ xs.length ≤ 65 ∧ H x = some (.ins A.C_Order dx fs) ∧ BV H odd d1 ∧ NW odd 0 4096 ∧ BV H low d2 ∧ NW low 1 64 ∧ low ≠ .non ∧ LamX.Tabs TT H ∧ ∀ H', LamX.ExtN H H' → LamX.Tabs TT H' → Q (.bl true) H'
def sp_papr (A : Ad) : Sp := fun vs H Q _ => ∃ (a x dx : Addr) (odd : V) (xs : List V) (fs : List (Str × V)), vs = [.ref a, .ref x, odd] ∧ H a = some (.lst xs) ∧ 1 ≤ xs.length ∧ xs.length ≤ 65 ∧ H x = some (.ins A.C_Order dx fs) ∧ Ppr H odd none ∧ LamX.Tabs TT H ∧ ∀ H', LamX.ExtN H H' → LamX.Tabs TT H' → Q (.bl true) H'
section
variable {P : Program} {w : World} {K : PySem.W.Frag} {mg : Str → Option Value} {base : Heap} {A : Ad} {H H0 : Hp} {MM : List Addr} {L L' F : Led} {Q : VK} {E : XK}
theorem dp_of {v : V} (h : plainV v = true) : Dp K H v (dOf v) := by
  cases v <;> first | exact .int _ | exact .str _ | exact .non | exact .bl _ | exact Bool.noConfusion h
theorem AllP.dp {ts : List V} {its : List (Str × V)} (h : AllP H ts its) (hp : its.all (fun q => plainV q.2) = true) : DpAll K H ts (dPs its) := by
  induction h with
  | nil => exact .nil
  | cons e _ ih =>
    simp only [List.all_cons, Bool.and_eq_true] at hp
    exact .cons (.tup (SqT.of e) (.cons (.str _) (.cons (dp_of hp.1) .nil))) (ih hp.2)
theorem rd_eqF {p q : Addr} {ts us : List V} {its : List (Str × V)} (hp : H p = some (.lst ts)) (ha : AllP H ts its) (hq : H q = some (.lst us)) (hb : AllP H us its) (pl : its.all (fun q => plainV q.2) = true) (sh : SeqAt.shaped (.list (dPs its)) = true)
    (ev : PyData.eqv (.list (dPs its)) (.list (dPs its)) = true) (h : Q (.bl true) H) : rEqD K (.ref p) (.ref q) H Q := by
  refine ⟨_, _, .lst (SqL.of hp) (ha.dp pl), .lst (SqL.of hq) (hb.dp pl), sh, sh, ?_⟩
  rw [ev]; exact h
theorem rd_neF {p q : Addr} {ts us : List V} {its : List (Str × V)} (hp : H p = some (.lst ts)) (ha : AllP H ts its) (hq : H q = some (.lst us)) (hb : AllP H us its) (pl : its.all (fun q => plainV q.2) = true) (sh : SeqAt.shaped (.list (dPs its)) = true)
    (ev : PyData.eqv (.list (dPs its)) (.list (dPs its)) = true) (h : Q (.bl false) H) : rNeD K (.ref p) (.ref q) H Q := by
  refine ⟨_, _, .lst (SqL.of hp) (ha.dp pl), .lst (SqL.of hq) (hb.dp pl), sh, sh, ?_⟩
  rw [ev]; exact h
theorem kb_piece1 (T : Txt K mg w A) : ∃ (its mv : List Value), KBn K A.d_cut_piece ["row", "order", "start", "least"] 1 ["order", "start", "least"] (fun us ws => us ++ ws) (fun vs zs => vs ++ zs) := by
  obtain ⟨its, mv, h⟩ := T.c_cut_piece.F.kbinds (ps := ["row", "order", "start", "least"]) 1 ["order", "start", "least"] [] (fun us its mv ws => us ++ ws) (by simp) (by simp) (by simp) (fun r1 r2 r3 r4 => r1.append r4) (by
    intro T D doc pm an cdv ct us its mv ws h1 h2 h3 h4
    match us, h1, its, h2, mv, h3, ws, h4 with
    | [u], _, [i], _, [], _, [x, y, z], _ => exact ⟨_, rfl, rfl⟩)
  exact ⟨its, mv, h⟩
theorem kb_piece2 (T : Txt K mg w A) : ∃ (its mv : List Value), KBn K A.d_cut_piece ["row", "order", "start", "least"] 2 ["least"] (fun us ws => us ++ its ++ ws) (fun vs zs => vs ++ [.int 0] ++ zs) := by
  obtain ⟨its, mv, h⟩ := T.c_cut_piece.F.kbinds (ps := ["row", "order", "start", "least"]) 2 ["least"] [] (fun us its mv ws => us ++ its ++ ws) (by simp) (by simp) (by simp) (fun r1 r2 r3 r4 => (r1.append r2).append r4) (by
    intro T D doc pm an cdv ct us its mv ws h1 h2 h3 h4
    match us, h1, its, h2, mv, h3, ws, h4 with
    | [u, v], _, [i], _, [], _, [x], _ => exact ⟨_, rfl, rfl⟩)
  exact ⟨its, mv, h⟩
theorem b_check (T : Txt K mg w A) : ∃ ds : List Value, Vals [V.non] ds ∧ Binds K A.d_check_pieces ["row", "order", "pieces", "least"] ds := by
  refine T.c_check_pieces.F.binds0 3 (by simp) (by simp) ?_
  intro D doc pm an cdv ct us ks h1 h2
  match us, h1, ks, h2 with
  | [u, v, x], _, [m], _ => exact ⟨_, _, _, _, _, _, rfl, rfl, rfl⟩
theorem kb_bck (T : Txt K mg w A) : KBn K A.d_lay_back ["row", "piece"] 1 ["piece"] (fun us ws => us ++ [0].filterMap (ws[·]?)) (fun us ws => us ++ [0].filterMap (ws[·]?)) :=
  kb_of T.c_lay_back.F _ fun _ _ _ _ _ _ us ws h1 h2 => match us, h1, ws, h2 with | [_], _, [_], _ => rfl
theorem ok_numr (T : Txt K mg w A) (TB : LamX.TabB base mg A.cc__law_numbers_right 457) : FnG P w K mg base 11 A.f__law_numbers_right A.d__law_numbers_right ["_law_line", "_law_judge", "_law_odd", "_law_low"] (sp_numr A) := by
  have hmem : ((457 : Addr), qN "_law_numbers_right") ∈ TT := by simp [TT]
  have huni : ∀ p ∈ TT, p.1 = 457 → p.2 = qN "_law_numbers_right" := by
    intro p hp e
    simp only [TT, List.mem_cons, List.not_mem_nil, or_false] at hp
    rcases hp with rfl | rfl | rfl | rfl | rfl | rfl | rfl <;> first | exact absurd e (by decide) | rfl
  have G__law_word : FnOk P w K mg base CX0 1 A.f__law_word A.d__law_word ["_law_caught"] (SepN (R_word A)) := ok_word T
  have G_cut_piece : FnOk P w K mg base (L2.CX P w) 6 A.f_cut_piece A.d_cut_piece ["row", "order", "start", "least"] (sp_piece A) := ok_piece T
  have G_cut_pieces : FnOk P w K mg base (L2.CX P w) 7 A.f_cut_pieces A.d_cut_pieces ["row", "order", "least"] (sp_pieces A) := ok_pieces T
  have G_check_pieces : FnOk P w K mg base (L2.CX P w) 8 A.f_check_pieces A.d_check_pieces ["row", "order", "pieces", "least"] (sp_check A) := ok_check T
  obtain ⟨its1, mv1, kb_cut_piece1_order_start_least⟩ := kb_piece1 T
  obtain ⟨its2, mv2, kb_cut_piece2_least⟩ := kb_piece2 T
  obtain ⟨its3, mv3, kb_cut_piece3_least⟩ := kb_piece3 T
  obtain ⟨mv4, kb_cut_pieces2_least⟩ := kb_pieces2 T
  obtain ⟨mv5, kb_check_pieces3_least⟩ := kb_check T
  refine Xc.defGC T.cx__law_numbers_right sc_l_numbers_right (fun vs H Q E h => ?_) (fun Ar outer s H vs Q E cl hr h => ?_)
  · obtain ⟨_, _, _, _, _, _, _, _, _, rfl, _⟩ := h; rfl
  · obtain ⟨a, x, dx, odd, low, d1, d2, xs, fs, rfl, ha, hl1, hl2, hx, B1, N1, B2, N2, hn, tb, k⟩ := h
    have hu := hu_of hr
    refine ⟨_, (pss_cons (ps_set (i := 4) sc_l_numbers_right.nd rfl (Or.inl rfl) (pe_lst (pa_cons (pe_said T TB hmem huni G__law_word rfl rfl (hr.mono (by decide)) (LamX.lamS_by (by first | rfl | kernel_rfl)) rfl (fun _ _ _ _ _ => rfl) (fun _ _ _ _ _ _ _ hr2 => pe_callN G_cut_piece (hr2.mono (by decide)) rfl T.c_cut_piece.m T.c_cut_piece.F.kp kb_cut_piece3_least (passes_call (takes_of rfl rfl rfl rfl) fun _ _ _ _ z => z) (pa_cons (pv 0) (pa_cons (pv 1) (pa_cons (pv 2) pa_nil))) (pk_cons (pv 3) pk_nil))) pa_nil)))
      (pss_cons (ps_expr (pe_bm PySem.F.plainAttrs_list PySem.F.slot_list_append PySem.F.type_list_append mt_append (pv 4) (pa_cons (pe_said T TB hmem huni G__law_word rfl rfl (hr.mono (by decide)) (LamX.lamS_by (by first | rfl | kernel_rfl)) rfl (fun _ _ _ _ _ => rfl) (fun _ _ _ _ _ _ _ hr2 => pe_callN G_cut_piece (hr2.mono (by decide)) rfl T.c_cut_piece.m T.c_cut_piece.F.kp kb_cut_piece1_order_start_least (passes_call (takes_of rfl rfl rfl rfl) fun _ _ _ _ z => z) (pa_cons (pv 0) pa_nil) (pk_cons (pv 1) (pk_cons (pe_callB (show CallR _ (.builtin "len") (fun xs H Q => ∃ (p : Addr) (ys : List V), xs = [V.ref p] ∧ (SqL K H p ys ∨ SqT K H p ys) ∧ Q (V.int ys.length) H) from call_len_seq) (by rfl) T.n_len PySem.boot_len (pa_cons (pv 0) pa_nil)) (pk_cons (pv 3) pk_nil))))) pa_nil)))
      (pss_cons (ps_expr (pe_bm PySem.F.plainAttrs_list PySem.F.slot_list_append PySem.F.type_list_append mt_append (pv 4) (pa_cons (pe_said T TB hmem huni G__law_word rfl rfl (hr.mono (by decide)) (LamX.lamS_by (by first | rfl | kernel_rfl)) rfl (fun _ _ _ _ _ => rfl) (fun _ _ _ _ _ _ _ hr2 => pe_callN G_cut_piece (hr2.mono (by decide)) rfl T.c_cut_piece.m T.c_cut_piece.F.kp kb_cut_piece2_least (passes_call (takes_of rfl rfl rfl rfl) fun _ _ _ _ z => z) (pa_cons (pv 0) (pa_cons (pv 1) pa_nil)) (pk_cons (pv 3) pk_nil))) pa_nil)))
      (pss_cons (ps_expr (pe_bm PySem.F.plainAttrs_list PySem.F.slot_list_append PySem.F.type_list_append mt_append (pv 4) (pa_cons (pe_said T TB hmem huni G__law_word rfl rfl (hr.mono (by decide)) (LamX.lamS_by (by first | rfl | kernel_rfl)) rfl (fun _ _ _ _ _ => rfl) (fun _ _ _ _ _ _ _ hr2 => pe_callN G_cut_piece (hr2.mono (by decide)) rfl T.c_cut_piece.m T.c_cut_piece.F.kp kb_cut_piece3_least (passes_call (takes_of rfl rfl rfl rfl) fun _ _ _ _ z => z) (pa_cons (pv 0) (pa_cons (pv 1) (pa_cons (pe_op op_sub (pe_callB (show CallR _ (.builtin "len") (fun xs H Q => ∃ (p : Addr) (ys : List V), xs = [V.ref p] ∧ (SqL K H p ys ∨ SqT K H p ys) ∧ Q (V.int ys.length) H) from call_len_seq) (by rfl) T.n_len PySem.boot_len (pa_cons (pv 0) pa_nil)) pe_int) pa_nil))) (pk_cons pe_non pk_nil))) pa_nil)))
      (pss_cons (ps_expr (pe_bm PySem.F.plainAttrs_list PySem.F.slot_list_append PySem.F.type_list_append mt_append (pv 4) (pa_cons (pe_said T TB hmem huni G__law_word rfl rfl (hr.mono (by decide)) (LamX.lamS_by (by first | rfl | kernel_rfl)) rfl (fun _ _ _ _ _ => rfl) (fun _ _ _ _ _ _ _ hr2 => pe_callN G_cut_pieces (hr2.mono (by decide)) rfl T.c_cut_pieces.m T.c_cut_pieces.F.kp kb_cut_pieces2_least (passes_call (takes_of rfl rfl rfl rfl) fun _ _ _ _ z => z) (pa_cons (pv 0) (pa_cons (pv 1) pa_nil)) (pk_cons (pv 3) pk_nil))) pa_nil)))
      (pss_cons (ps_expr (pe_bm PySem.F.plainAttrs_list PySem.F.slot_list_append PySem.F.type_list_append mt_append (pv 4) (pa_cons (pe_said T TB hmem huni G__law_word rfl rfl (hr.mono (by decide)) (LamX.lamS_by (by first | rfl | kernel_rfl)) rfl (fun _ _ _ _ _ => rfl) (fun _ _ _ _ _ _ _ hr2 => pe_callN G_check_pieces (hr2.mono (by decide)) rfl T.c_check_pieces.m T.c_check_pieces.F.kp kb_check_pieces3_least (passes_call (takes_of rfl rfl rfl rfl) fun _ _ _ _ z => z) (pa_cons (pv 0) (pa_cons (pv 1) (pa_cons pe_non pa_nil))) (pk_cons (pv 3) pk_nil))) pa_nil)))
      (pss_cons (ps_set (i := 5) sc_l_numbers_right.nd rfl (Or.inl rfl) (pe_lst (pa_cons (pv 2) (pa_cons (pe_callB call_len_seq (by rfl) T.n_len PySem.boot_len (pa_cons (pv 0) pa_nil)) (pa_cons (pv 3) (pa_cons pe_non (pa_cons (pv 3) (pa_cons (pv 3) pa_nil))))))))
      (pss_one (ps_ret (pe_cmpR op_eq (pe_callB (Xh.call_reprPs T.x_stat cl hr) (by rfl) T.n_repr PyProof.Rows.boot_repr (pa_cons (pv 4) pa_nil)) (pe_callB (Xh.call_reprPs T.x_stat cl hr) (by rfl) T.n_repr PyProof.Rows.boot_repr (pa_cons (pe_lc (own := [("_law_thing", 6)]) (g := gName 6) (tt := tYes) rfl sc_l_numbers_right.nd (pi_list (pv 5)) (blkOk_by (N := ["_law_line", "_law_judge", "_law_odd", "_law_low", "_law_found", "_law_due", "_law_thing"]) (sc := defScope s_l_numbers_right) (by decide +kernel)) (fun _ _ _ _ _ => (pg_name (i := 6) sc_l_numbers_right.nd rfl (Or.inl rfl))) (fun _ _ _ _ _ => pts_nil) (fun _ _ _ _ _ => (pe_tup (pa_cons pe_str (pa_cons (pv 6) pa_nil))))) pa_nil)) (nomark _))))))))))), ?_⟩
    have pc : ∀ (H5 : Hp) (s l v : V) (R : VK) (E5 : XK), LamX.ExtN H H5 → Odd H5 s → Odd H5 l → ((isWh s 0 ((xs.length : Int) - 1) = false ∧ v = s) ∨ (isWh s 0 ((xs.length : Int) - 1) = true ∧ isWh l 1 64 = false ∧ v = l)) → Raise A.C_BadNumber "at" v H5 E5 → sp_piece A [.ref a, .ref x, s, l] H5 R E5 := by
      intro H5 s l v R E5 k5 os ol h r
      refine ⟨_, _, _, _, rfl, .inr ⟨a, xs, rfl, k5 _ _ ha (fun _ z => by cases z), by omega, .inr ⟨x, dx, fs, rfl, k5 _ _ hx (fun _ z => by cases z), os, ol, ?_⟩⟩⟩
      rcases h with ⟨h, rfl⟩ | ⟨h1, h2, rfl⟩
      · exact .inl ⟨h, r⟩
      · exact .inr (.inl ⟨h1, h2, r⟩)
    walk_at "st"
    walk_at "rd"
    refine use_ref (v := odd) T tb .rBadNumber (fun E5 H5 R5 k5 r => ?_) (fun t1 G1 k1 tb1 e1 => ?_)
    · walk_at "rd"
      exact ⟨rfl, rfl, pc H5 odd low odd _ _ k5 (B1.ext k5).odd (B2.ext k5).odd (.inl ⟨N1 _ _ (by omega) (by omega), rfl⟩) r⟩
    have S0 := Hs.start0 G1
    walk_at "rd"
    rename_i p H1 hp S1
    have F := Fnd.new k1 tb1 e1 hp S1
    clear S1 S0
    refine use_ref (v := .int (xs.length : Int)) T F.2.1 .rBadNumber (fun E5 H5 R5 k5 r => ?_) (fun t2 G2 k2 tb2 e2 => ?_)
    · have k6 := F.1.trans k5
      have S5 := Hs.start1 (k6 _ _ ha (fun _ z => by cases z)) [] (.inl rfl)
      walk_at "rd"
      exact ⟨rfl, rfl, pc H5 _ low _ _ _ k6 (.int _) (B2.ext k6).odd (.inl ⟨nw_int (l := 0) (m := (xs.length : Int) - 1) (.inr (by omega)) _ _ (by omega) (by omega), rfl⟩) r⟩
    walk_at "rd"
    refine F.app k2 tb2 e2 (by simp) fun H2 ts2 F2 Z2 => ?_
    clear F
    walk_at "rd"
    clear Z2
    refine use_ref (v := low) T F2.2.1 .rBadNumber (fun E5 H5 R5 k5 r => ?_) (fun t3 G3 k3 tb3 e3 => ?_)
    · have k6 := F2.1.trans k5
      walk_at "rd"
      exact ⟨rfl, rfl, pc H5 (.int 0) low _ _ _ k6 (.int _) (B2.ext k6).odd (.inr ⟨by rw [isWh_int, decide_eq_true (by omega), decide_eq_true (by omega)]; rfl, N2 _ _ (by omega) (by omega), rfl⟩) r⟩
    walk_at "rd"
    refine F2.app k3 tb3 e3 (by simp) fun H3 ts3 F3 Z3 => ?_
    clear F2
    walk_at "rd"
    clear Z3
    refine use_ref (v := .non) T F3.2.1 .rBadNumber (fun E5 H5 R5 k5 r => ?_) (fun t4 G4 k4 tb4 e4 => ?_)
    · have k6 := F3.1.trans k5
      have S5 := Hs.start1 (k6 _ _ ha (fun _ z => by cases z)) [] (.inl rfl)
      walk_at "rd"
      exact ⟨rfl, rfl, pc H5 (.int ((xs.length : Int) - 1)) .non _ _ _ k6 (.int _) .non (.inr ⟨by rw [isWh_int, decide_eq_true (by omega), decide_eq_true (by omega)]; rfl, rfl, rfl⟩) r⟩
    walk_at "rd"
    refine F3.app k4 tb4 e4 (by simp) fun H4 ts4 F4 Z4 => ?_
    clear F3
    walk_at "rd"
    clear Z4
    refine use_ref (v := low) T F4.2.1 .rBadNumber (fun E5 H5 R5 k5 r => ?_) (fun t5 G5 k5 tb5 e5 => ?_)
    · have k6 := F4.1.trans k5
      walk_at "rd"
      exact ⟨rfl, rfl, _, _, _, rfl, .inr ⟨a, xs, rfl, k6 _ _ ha (fun _ z => by cases z), by omega, .inr ⟨x, dx, fs, rfl, k6 _ _ hx (fun _ z => by cases z), (B2.ext k6).odd, hn, .inl ⟨N2 _ _ (by omega) (by omega), r⟩⟩⟩⟩
    walk_at "rd"
    refine F4.app k5 tb5 e5 (by simp) fun H5 ts5 F5 Z5 => ?_
    clear F4
    walk_at "rd"
    clear Z5
    refine use_ref (v := low) T F5.2.1 .rBadNumber (fun E5 H5 R5 k5 r => ?_) (fun t6 G6 k6 tb6 e6 => ?_)
    · have k6 := F5.1.trans k5
      walk_at "rd"
      exact ⟨rfl, rfl, _, _, _, _, rfl, .inr ⟨a, xs, rfl, k6 _ _ ha (fun _ z => by cases z), by omega, .inr ⟨x, dx, fs, rfl, k6 _ _ hx (fun _ z => by cases z), (B2.ext k6).odd, .inl ⟨hn, N2 _ _ (by omega) (by omega), r⟩⟩⟩⟩
    walk_at "rd"
    refine F5.app k6 tb6 e6 (by simp) fun H6 ts6 F6 Z6 => ?_
    clear F5 Z6
    have S6 := Hs.start1 (F6.1 _ _ ha (fun _ z => by cases z)) [] (.inl rfl)
    have bs : BVs H6 ([("number", odd), ("number", .int (xs.length : Int)), ("number", low), ("number", .non), ("number", low), ("number", low)] : List (Str × V)) _ :=
      .cons (by decide +kernel) (B1.ext F6.1) (.cons (by decide +kernel) (.int _ (by omega)) (.cons (by decide +kernel) (B2.ext F6.1) (.cons (by decide +kernel) .non (.cons (by decide +kernel) (B2.ext F6.1) (.cons (by decide +kernel) (B2.ext F6.1) .nil)))))
    obtain ⟨kp, hkp⟩ : ∃ kp, (PyData.list [PyData.tuple [.str "number", d1], .tuple [.str "number", .int (xs.length : Int)], .tuple [.str "number", d2], .tuple [.str "number", .none], .tuple [.str "number", d2], .tuple [.str "number", d2]]).shown = kp := ⟨_, rfl⟩
    walk_at "rd"
    rename_i dl H7 hdl S7
    have F7 := F6.more S7.same
    obtain ⟨ts, e7, a7⟩ := F7.2.2.2
    refine rd_reprF e7 a7 (bs.ext (extN_same S7.same)) (by simp) (by simp) ?_
    rw [hkp]
    walk_at "rd"
    refine lc_pairs S7 (by simp) (fun H' s => SqL.of (s _ _ (S7.is (dl, _) List.mem_cons_self))) (fun x => rfl) (fun x => rfl) fun D H8 us hD s8 S8 a8 => ?_
    walk_at "rd"
    refine rd_reprF (S8.is (D, _) List.mem_cons_self) a8 ((bs.ext (extN_same S7.same)).ext (extN_same s8)) (by simp) (by simp) ?_
    rw [hkp]
    walk_at "rd"
    rw [decide_eq_true (rfl : kp = kp)]
    exact k H8 (F7.1.trans (extN_same s8)) (F7.2.1.ext s8)
theorem ok_papr (T : Txt K mg w A) (TB : LamX.TabB base mg A.cc__law_papers_right 462) : FnG P w K mg base 11 A.f__law_papers_right A.d__law_papers_right ["_law_line", "_law_judge", "_law_odd"] (sp_papr A) := by
  have hmem : ((462 : Addr), qN "_law_papers_right") ∈ TT := by simp [TT]
  have huni : ∀ p ∈ TT, p.1 = 462 → p.2 = qN "_law_papers_right" := by
    intro p hp e
    simp only [TT, List.mem_cons, List.not_mem_nil, or_false] at hp
    rcases hp with rfl | rfl | rfl | rfl | rfl | rfl | rfl <;> first | exact absurd e (by decide) | rfl
  have G__law_word : FnOk P w K mg base CX0 1 A.f__law_word A.d__law_word ["_law_caught"] (SepN (R_word A)) := ok_word T
  have G_lay_piece : FnOk P w K mg base (L2.CX P w) 5 A.f_lay_piece A.d_lay_piece ["row", "piece"] (sp_lay A) := ok_lay T
  have G_lay_back : FnOk P w K mg base (L2.CX P w) 5 A.f_lay_back A.d_lay_back ["row", "piece"] (sp_bck A) := ok_bck T
  have G_check_pieces : FnOk P w K mg base (L2.CX P w) 8 A.f_check_pieces A.d_check_pieces ["row", "order", "pieces", "least"] (sp_check A) := ok_check T
  have kb_lay_back_piece := kb_bck T
  obtain ⟨_, d_check_pieces, b_check_pieces⟩ := b_check T
  obtain ⟨mv5, kb_check_pieces_least⟩ := kb_check T
  refine Xc.defGC T.cx__law_papers_right sc_l_papers_right (fun vs H Q E h => ?_) (fun Ar outer s H vs Q E cl hr h => ?_)
  · obtain ⟨_, _, _, _, _, _, rfl, _⟩ := h; rfl
  · obtain ⟨a, x, dx, odd, xs, fs, rfl, ha, hl1, hl2, hx, R, tb, k⟩ := h
    have hu := hu_of hr
    refine ⟨_, (pss_cons (ps_set (i := 3) sc_l_papers_right.nd rfl (Or.inl rfl) (pe_lst (pa_cons (pe_said T TB hmem huni G__law_word rfl rfl (hr.mono (by decide)) (LamX.lamS_by (by first | rfl | kernel_rfl)) rfl (fun _ _ _ _ _ => rfl) (fun _ _ _ _ _ _ _ hr2 => pe_call G_lay_piece (hr2.mono (by decide)) rfl T.c_lay_piece.m T.c_lay_piece.F.kp T.c_lay_piece.b .nil (passes_call (takes_of rfl rfl rfl rfl) fun _ _ _ _ z => z) (pa_cons (pv 0) (pa_cons (pv 2) pa_nil)))) pa_nil)))
      (pss_cons (ps_expr (pe_bm PySem.F.plainAttrs_list PySem.F.slot_list_append PySem.F.type_list_append mt_append (pv 3) (pa_cons (pe_said T TB hmem huni G__law_word rfl rfl (hr.mono (by decide)) (LamX.lamS_by (by first | rfl | kernel_rfl)) rfl (fun _ _ _ _ _ => rfl) (fun _ _ _ _ _ _ _ hr2 => pe_callN G_lay_back (hr2.mono (by decide)) rfl T.c_lay_back.m T.c_lay_back.F.kp kb_lay_back_piece (passes_call (takes_of rfl rfl rfl rfl) fun _ _ _ _ z => z) (pa_cons (pv 0) pa_nil) (pk_cons (pv 2) pk_nil))) pa_nil)))
      (pss_cons (ps_expr (pe_bm PySem.F.plainAttrs_list PySem.F.slot_list_append PySem.F.type_list_append mt_append (pv 3) (pa_cons (pe_said T TB hmem huni G__law_word rfl rfl (hr.mono (by decide)) (LamX.lamS_by (by first | rfl | kernel_rfl)) rfl (fun _ _ _ _ _ => rfl) (fun _ _ _ _ _ _ _ hr2 => pe_callN G_check_pieces (hr2.mono (by decide)) rfl T.c_check_pieces.m T.c_check_pieces.F.kp kb_check_pieces_least (passes_call (takes_of rfl rfl rfl rfl) fun _ _ _ _ z => z) (pa_cons (pv 0) (pa_cons (pv 1) (pa_cons pe_int pa_nil))) (pk_cons pe_int pk_nil))) pa_nil)))
      (pss_cons (ps_expr (pe_bm PySem.F.plainAttrs_list PySem.F.slot_list_append PySem.F.type_list_append mt_append (pv 3) (pa_cons (pe_said T TB hmem huni G__law_word rfl rfl (hr.mono (by decide)) (LamX.lamS_by (by first | rfl | kernel_rfl)) rfl (fun _ _ _ _ _ => rfl) (fun _ _ _ _ _ _ _ hr2 => pe_call G_check_pieces (hr2.mono (by decide)) rfl T.c_check_pieces.m T.c_check_pieces.F.kp b_check_pieces d_check_pieces (passes_call (takes_of rfl rfl rfl rfl) fun _ _ _ _ z => z) (pa_cons (pv 0) (pa_cons (pv 1) (pa_cons (pe_lst pa_nil) pa_nil))))) pa_nil)))
      (pss_cons (ps_expr (pe_bm PySem.F.plainAttrs_list PySem.F.slot_list_append PySem.F.type_list_append mt_append (pv 3) (pa_cons (pe_said T TB hmem huni G__law_word rfl rfl (hr.mono (by decide)) (LamX.lamS_by (by first | rfl | kernel_rfl)) rfl (fun _ _ _ _ _ => rfl) (fun _ _ _ _ _ _ _ hr2 => pe_callN G_check_pieces (hr2.mono (by decide)) rfl T.c_check_pieces.m T.c_check_pieces.F.kp kb_check_pieces_least (passes_call (takes_of rfl rfl rfl rfl) fun _ _ _ _ z => z) (pa_cons (pv 0) (pa_cons (pv 1) (pa_cons (pe_lst (pa_cons pe_str (pa_cons (pv 2) pa_nil))) pa_nil))) (pk_cons pe_int pk_nil))) pa_nil)))
      (pss_one (ps_ret (pe_cmpR (op_eqD hr.units) (pv 3) (pe_lst (pa_cons (pe_tup (pa_cons pe_str (pa_cons pe_str pa_nil))) (pa_cons (pe_tup (pa_cons pe_str (pa_cons pe_str pa_nil))) (pa_cons (pe_tup (pa_cons pe_str (pa_cons pe_non pa_nil))) (pa_cons (pe_tup (pa_cons pe_str (pa_cons pe_int pa_nil))) (pa_cons (pe_tup (pa_cons pe_str (pa_cons pe_int pa_nil))) pa_nil)))))) (nomark _))))))))), ?_⟩
    have hne : xs ≠ [] := fun z => by rw [z] at hl1; simp at hl1
    have ck : ∀ (H5 : Hp) (l ps v : V) (R : VK) (E5 : XK), LamX.ExtN H H5 → Odd H5 l → (l = .non ∨ isWh l 1 64 = true) →
      (((∃ i, ps = .int i) ∧ Raise A.C_BadPaper "at" .non H5 E5) ∨
    (∃ b vs, ps = .ref b ∧ H5 b = some (.lst vs) ∧ vs.length ≤ 100 ∧ ((vs = [] ∧ xs ≠ [] ∧ Raise A.C_BadPaper "at" (.int 0) H5 E5) ∨ ∃ v vs', vs = v :: vs' ∧ (xs = [] ∨ Ppr H5 v none) ∧ Raise A.C_BadPaper "at" (.int 0) H5 E5)) ∨
    (∃ b, ps = .ref b ∧ H5 b = some (.tup []) ∧ xs = [] ∧ ∀ H', Same H5 H' → R .non H')) → sp_check A [.ref a, .ref x, ps, l] H5 R E5 := fun H5 l ps v R E5 k5 ol hl h =>
      ⟨_, _, _, _, rfl, .inr ⟨a, xs, rfl, k5 _ _ ha (fun _ z => by cases z), by omega, .inr ⟨x, dx, fs, rfl, k5 _ _ hx (fun _ z => by cases z), ol, .inr ⟨hl, h⟩⟩⟩⟩
    walk_at "st"
    walk_at "rd"
    refine use_ref (v := .str "piece") T tb .rBadPaper (fun E5 H5 R5 k5 r => ?_) (fun t1 G1 k1 tb1 e1 => ?_)
    · walk_at "rd"
      exact ⟨_, _, rfl, .inr ⟨a, xs, rfl, k5 _ _ ha (fun _ z => by cases z), by omega, .inr ⟨_, R.ext k5, rfl, r⟩⟩⟩
    have S0 := Hs.start0 G1
    walk_at "rd"
    rename_i p H1 hp S1
    have F := Fnd.new k1 tb1 e1 hp S1
    clear S1 S0
    refine use_ref (v := .str "piece") T F.2.1 .rBadPaper (fun E5 H5 R5 k5 r => ?_) (fun t2 G2 k2 tb2 e2 => ?_)
    · have k6 := F.1.trans k5
      walk_at "rd"
      exact ⟨rfl, rfl, _, _, rfl, .inr ⟨a, xs, rfl, k6 _ _ ha (fun _ z => by cases z), by omega, .inr ⟨_, R.ext k6, rfl, r⟩⟩⟩
    walk_at "rd"
    refine F.app k2 tb2 e2 (by simp) fun H2 ts2 F2 Z2 => ?_
    clear F
    walk_at "rd"
    clear Z2
    refine use_ref (v := .non) T F2.2.1 .rBadPaper (fun E5 H5 R5 k5 r => ?_) (fun t3 G3 k3 tb3 e3 => ?_)
    · have k6 := F2.1.trans k5
      walk_at "rd"
      exact ⟨rfl, rfl, ck H5 _ _ .non _ _ k6 (.int _) (.inr rfl) (.inl ⟨⟨_, rfl⟩, r⟩)⟩
    walk_at "rd"
    refine F2.app k3 tb3 e3 (by simp) fun H3 ts3 F3 Z3 => ?_
    clear F2
    walk_at "rd"
    clear Z3
    refine use_ref (v := .int 0) T F3.2.1 .rBadPaper (fun E5 H5 R5 k5 r => ?_) (fun t4 G4 k4 tb4 e4 => ?_)
    · have k6 := F3.1.trans k5
      have S5 := Hs.start0 H5
      walk_at "rd"
      rename_i b H6 hb S6
      exact ck H6 _ _ .non _ _ (k6.trans (extN_same S6.same)) .non (.inl rfl) (.inr (.inl ⟨b, [], rfl, S6.is (b, _) List.mem_cons_self, by simp, .inl ⟨rfl, hne, r.same S6.same⟩⟩))
    walk_at "rd"
    refine F3.app k4 tb4 e4 (by simp) fun H4 ts4 F4 Z4 => ?_
    clear F3
    walk_at "rd"
    clear Z4
    refine use_ref (v := .int 0) T F4.2.1 .rBadPaper (fun E5 H5 R5 k5 r => ?_) (fun t5 G5 k5 tb5 e5 => ?_)
    · have k6 := F4.1.trans k5
      have S5 := Hs.start0 H5
      walk_at "rd"
      rename_i b H6 hb S6
      exact ⟨rfl, rfl, ck H6 _ _ .non _ _ (k6.trans (extN_same S6.same)) (.int _) (.inr rfl) (.inr (.inl ⟨b, _, rfl, S6.is (b, _) List.mem_cons_self, by simp, .inr ⟨_, _, rfl, .inr (.no _ (.str _) (fun _ _ z => by cases z)), r.same S6.same⟩⟩))⟩
    walk_at "rd"
    refine F4.app k5 tb5 e5 (by simp) fun H5 ts5 F5 Z5 => ?_
    clear F4 Z5
    have S6 := Hs.start0 H5
    walk_at "rd"
    rename_i u1 J1 hu1 S1 u2 J2 hu2 S2 u3 J3 hu3 S3 u4 J4 hu4 S4 u5 J5 hu5 S5 q J6 hq S7
    have F6 := F5.more S7.same
    obtain ⟨ts, e7, a7⟩ := F6.2.2.2
    refine rd_eqF e7 a7 (S7.is (q, _) List.mem_cons_self) (.cons (S7.is (u1, _) (by walk_at "mem")) (.cons (S7.is (u2, _) (by walk_at "mem")) (.cons (S7.is (u3, _) (by walk_at "mem")) (.cons (S7.is (u4, _) (by walk_at "mem")) (.cons (S7.is (u5, _) (by walk_at "mem")) .nil))))) rfl (by decide +kernel) (by decide +kernel) ?_
    walk_at "rd"
    exact k J6 F6.1 F6.2.1
end
end K16

namespace K16
open PySem PySem.Spec PyProof.Rows L2 Rs Xc Xd Xg Xh Xi Xj Xk Xl
def sp_empr (A : Ad) : Sp := fun vs H Q _ => ∃ (x dx : Addr) (nn odd low : V) (d1 d2 : PyData) (fs : List (Str × V)), vs = [.ref x, nn, odd, low] ∧ H x = some (.ins A.C_Order dx fs) ∧ NoO H nn ∧ BV H odd d1 ∧ NW odd 0 4096 ∧ Ppr H odd Option.none ∧ BV H low d2 ∧ NW low 1 64 ∧ low ≠ .non ∧ LamX.Tabs TT H ∧ ∀ H', LamX.ExtN H H' → LamX.Tabs TT H' → Q (.bl true) H'
section
variable {P : Program} {w : World} {K : PySem.W.Frag} {mg : Str → Option Value} {base : Heap} {A : Ad} {H H0 : Hp} {MM : List Addr} {L L' F : Led} {Q : VK} {E : XK}
theorem lcv_tup {a : Addr} {xs : List V} {g : TG} {tt : L2.TT} {te : TE} {σ : L2.St} {vs : List Nat} (S : Hs H0 MM H L) (R : Nat → List V → Led → Prop) (r0 : R 0 [] L) (hl : ∀ i H' acc D L', R i acc L' → Hs H0 MM H' ((D, .lst acc) :: L') → SqT K H' a xs)
    (hs : ∀ D i x acc L' H', xs[i]? = some x → R i acc L' → H0 D = none → Hs H0 MM H' ((D, .lst acc) :: L') → g x (wipe σ vs) H' fun σ2 H2 => wipe σ2 vs = wipe σ vs ∧ tt σ2 H2 fun b H3 => if b = true then te σ2 H3 fun y H4 => Xg.lvPut H0 MM (R (i + 1)) D y H4 else Xg.lvSkip H0 MM (R (i + 1)) D H3)
    (hd : ∀ D acc L' H', R xs.length acc L' → H0 D = none → Hs H0 MM H' ((D, .lst acc) :: L') → Q (.ref D) H') : lcW (Itt K a) g tt te vs σ H Q := by
  intro D hD
  have S1 := S.new hD (.lst [])
  refine lc_tup (xs := xs) (fun i H' => Xg.lvSkip H0 MM (R i) D H') ⟨S1.1, [], L, r0, S1.2⟩ (fun i H' _ ⟨_, acc, L', r, S'⟩ => hl i H' acc D L' r S') ?_ ?_
  · rintro i x H' hi ⟨n0, acc, L', r, S'⟩
    exact hs D i x acc L' H' hi r n0 S'
  · rintro H' ⟨n0, acc, L', r, S'⟩
    exact hd D acc L' H' r n0 S'
/-- [(wd, x) for x in xs], xs a tuple -/
theorem lc_pairsT {a : Addr} {xs : List V} {wd : Str} {i : Nat} {vs : List Nat} {σ : L2.St} (S : Hs H0 MM H L) (hz : xs.length ≤ 100) (hx0 : ∀ H', Same H H' → SqT K H' a xs)
    (hi : ∀ x : V, wipe ((wipe σ vs).set i (some x)) vs = wipe σ vs) (hg : ∀ x : V, ((wipe σ vs).set i (some x))[i]? = some (some x))
    (hd : ∀ D H' ts, H0 D = none → Same H H' → Hs H0 MM H' ((D, .lst ts) :: L) → AllP H' ts (xs.map fun v => (wd, v)) → Q (.ref D) H') : lcW (Itt K a) (gName i) tYes (tTup (tCons (tC (.str wd)) (tCons (tVar i) tNil))) vs σ H Q := by
  have S0 := Hs.start0 H
  refine lcv_tup S0 (fun n acc L' => ∃ as : List Addr, acc = as.map V.ref ∧ as.length = n ∧ ∀ (j : Nat) (b : Addr) (x : V), as[j]? = some b → xs[j]? = some x → (b, HO.tup [.str wd, x]) ∈ L') ⟨[], rfl, rfl, fun j b x h _ => by simp at h⟩ (fun n H' acc D L' _ S' => hx0 _ S'.same) ?_ ?_
  · rintro D n x acc L' H' hxn ⟨as, rfl, hl, hmem⟩ hD S'
    clear S S0
    have hn : n < xs.length := (List.getElem?_eq_some_iff.mp hxn).1
    refine rd_name rfl ?_
    refine ⟨hi x, ?_⟩
    walk_at "rd"
    refine rd_var (hg x) ?_
    walk_at "rd"
    rename_i t H2 ht S2
    refine Xg.rd_lvPut (acc := as.map V.ref) (L1 := (t, .tup [.str wd, x]) :: L') S2 (by walk_at "led") hD (Rs.sz' (by rw [List.length_map]; omega)) ⟨as ++ [t], by simp, by simp [hl], fun j b y h1 h2 => ?_⟩
    by_cases hj : j < as.length
    · rw [List.getElem?_append_left hj] at h1
      exact List.mem_cons_of_mem _ (hmem j b y h1 h2)
    · rw [List.getElem?_append_right (by omega)] at h1
      have e0 : j - as.length = 0 := by
        have := (List.getElem?_eq_some_iff.mp h1).1
        simp at this
        omega
      rw [e0] at h1
      cases h1
      rw [show j = n by omega, hxn] at h2
      cases h2
      exact List.mem_cons_self
  · rintro D acc L' H' ⟨as, rfl, hl, hmem⟩ hD S'
    have q := S.more1 S'.same hD (S'.is (D, .lst (as.map V.ref)) List.mem_cons_self)
    refine hd D H' _ q.1 S'.same q.2 ?_
    exact allP_of as xs hl fun j b x h1 h2 => S'.is (b, .tup [.str wd, x]) (List.mem_cons_of_mem _ (hmem j b x h1 h2))
theorem b_run2 (T : Txt K mg w A) : ∃ ds : List Value, Vals [V.int 0, V.non] ds ∧ Binds K A.d_run_at ["row", "order", "start", "end"] ds := by
  obtain ⟨ds, h⟩ := T.c_run_at.F.binds (ps := ["row", "order", "start", "end"]) 2 0 (by simp) (by simp) (by
    intro T D doc pm an cdv ct us its ks h1 h2 h3
    match us, h1, its, h2, ks, h3 with
    | [u, v], _, [i], _, [m], _ => exact ⟨_, rfl, _, _, _, _, _, _, rfl, rfl, rfl⟩) (by simp)
  exact ⟨ds, h⟩
theorem AllT.pairs {H : Hp} {ts : List V} {wd : Str} {v : V} (h : AllT H ts wd v) : AllP H ts (List.replicate ts.length (wd, v)) := by
  induction ts with
  | nil => exact .nil
  | cons t ts ih =>
    obtain ⟨a, rfl, e⟩ := h t List.mem_cons_self
    exact .cons e (ih fun t ht => h t (List.mem_cons_of_mem _ ht))
theorem allP_rep {H : Hp} {a : Addr} {wd : Str} {v : V} (h : H a = some (.tup [.str wd, v])) (n : Nat) : AllP H (List.replicate n [V.ref a]).flatten (List.replicate n (wd, v)) := by
  induction n with
  | zero => exact .nil
  | succ n ih => exact .cons h ih
theorem ok_empr (T : Txt K mg w A) (TB : LamX.TabB base mg A.cc__law_empty_right 469) (TB2 : LamX.TabB base mg A.cc__law_by_order 450) : FnG P w K mg base 12 A.f__law_empty_right A.d__law_empty_right ["_law_judge", "_law_none", "_law_odd", "_law_low"] (sp_empr A) := by
  have hmem : ((469 : Addr), qN "_law_empty_right") ∈ TT := by simp [TT]
  have huni : ∀ p ∈ TT, p.1 = 469 → p.2 = qN "_law_empty_right" := by
    intro p hp e
    simp only [TT, List.mem_cons, List.not_mem_nil, or_false] at hp
    rcases hp with rfl | rfl | rfl | rfl | rfl | rfl | rfl <;> first | exact absurd e (by decide) | rfl
  have G__law_word : FnOk P w K mg base CX0 1 A.f__law_word A.d__law_word ["_law_caught"] (SepN (R_word A)) := ok_word T
  have G_run_at : FnOk P w K mg base (L2.CX P w) 5 A.f_run_at A.d_run_at ["row", "order", "start", "end"] (sp_run A) := ok_run T
  have G_turn_run : FnOk P w K mg base (L2.CX P w) 5 A.f_turn_run A.d_turn_run ["row", "start", "end"] (sp_turn A) := ok_turn T
  have G_cut_piece : FnOk P w K mg base (L2.CX P w) 6 A.f_cut_piece A.d_cut_piece ["row", "order", "start", "least"] (sp_piece A) := ok_piece T
  have G_cut_pieces : FnOk P w K mg base (L2.CX P w) 7 A.f_cut_pieces A.d_cut_pieces ["row", "order", "least"] (sp_pieces A) := ok_pieces T
  have G_lay_piece : FnOk P w K mg base (L2.CX P w) 5 A.f_lay_piece A.d_lay_piece ["row", "piece"] (sp_lay A) := ok_lay T
  have G_lay_back : FnOk P w K mg base (L2.CX P w) 5 A.f_lay_back A.d_lay_back ["row", "piece"] (sp_bck A) := ok_bck T
  have G_check_pieces : FnOk P w K mg base (L2.CX P w) 8 A.f_check_pieces A.d_check_pieces ["row", "order", "pieces", "least"] (sp_check A) := ok_check T
  have G__law_by_order : FnG P w K mg base 11 A.f__law_by_order A.d__law_by_order ["_law_line", "_law_none", "_law_odd"] (sp_byord A) := ok_byord T TB2
  obtain ⟨_, d_run_at, b_run_at⟩ := b_run2 T
  obtain ⟨_, d_check_pieces, b_check_pieces⟩ := b_check T
  obtain ⟨its2, mv2, kb_cut_piece2_least⟩ := kb_piece2 T
  obtain ⟨its3, mv3, kb_cut_piece3_least⟩ := kb_piece3 T
  obtain ⟨mv4, kb_cut_pieces2_least⟩ := kb_pieces2 T
  obtain ⟨mv5, kb_check_pieces3_least⟩ := kb_check T
  refine Xc.defGC T.cx__law_empty_right sc_l_empty_right (fun vs H Q E h => ?_) (fun Ar outer s H vs Q E cl hr h => ?_)
  · obtain ⟨_, _, _, _, _, _, _, _, rfl, _⟩ := h; rfl
  · obtain ⟨x, dx, nn, odd, low, d1, d2, fs, rfl, hx, no, B1, N1, R, B2, N2, hn, tb, k⟩ := h
    have hu := hu_of hr
    refine ⟨_, (pss_cons (ps_set (i := 4) sc_l_empty_right.nd rfl (Or.inl rfl) (pe_lst (pa_cons (pe_said T TB hmem huni G__law_word rfl rfl (hr.mono (by decide)) (LamX.lamS_by (by first | rfl | kernel_rfl)) rfl (fun _ _ _ _ _ => rfl) (fun _ _ _ _ _ _ _ hr2 => pe_call G_run_at (hr2.mono (by decide)) rfl T.c_run_at.m T.c_run_at.F.kp b_run_at d_run_at (passes_call (takes_of rfl rfl rfl rfl) fun _ _ _ _ z => z) (pa_cons (pe_lst pa_nil) (pa_cons (pv 0) pa_nil)))) pa_nil)))
      (pss_cons (ps_expr (pe_bm PySem.F.plainAttrs_list PySem.F.slot_list_append PySem.F.type_list_append mt_append (pv 4) (pa_cons (pe_said T TB hmem huni G__law_word rfl rfl (hr.mono (by decide)) (LamX.lamS_by (by first | rfl | kernel_rfl)) rfl (fun _ _ _ _ _ => rfl) (fun _ _ _ _ _ _ _ hr2 => pe_callN G_cut_piece (hr2.mono (by decide)) rfl T.c_cut_piece.m T.c_cut_piece.F.kp kb_cut_piece2_least (passes_call (takes_of rfl rfl rfl rfl) fun _ _ _ _ z => z) (pa_cons (pe_lst pa_nil) (pa_cons (pv 0) pa_nil)) (pk_cons (pv 3) pk_nil))) pa_nil)))
      (pss_cons (ps_expr (pe_bm PySem.F.plainAttrs_list PySem.F.slot_list_append PySem.F.type_list_append mt_append (pv 4) (pa_cons (pe_said T TB hmem huni G__law_word rfl rfl (hr.mono (by decide)) (LamX.lamS_by (by first | rfl | kernel_rfl)) rfl (fun _ _ _ _ _ => rfl) (fun _ _ _ _ _ _ _ hr2 => pe_callN G_cut_piece (hr2.mono (by decide)) rfl T.c_cut_piece.m T.c_cut_piece.F.kp kb_cut_piece3_least (passes_call (takes_of rfl rfl rfl rfl) fun _ _ _ _ z => z) (pa_cons (pe_lst pa_nil) (pa_cons (pv 0) (pa_cons (pv 2) pa_nil))) (pk_cons pe_int pk_nil))) pa_nil)))
      (pss_cons (ps_expr (pe_bm PySem.F.plainAttrs_list PySem.F.slot_list_append PySem.F.type_list_append mt_append (pv 4) (pa_cons (pe_said T TB hmem huni G__law_word rfl rfl (hr.mono (by decide)) (LamX.lamS_by (by first | rfl | kernel_rfl)) rfl (fun _ _ _ _ _ => rfl) (fun _ _ _ _ _ _ _ hr2 => pe_callN G_cut_pieces (hr2.mono (by decide)) rfl T.c_cut_pieces.m T.c_cut_pieces.F.kp kb_cut_pieces2_least (passes_call (takes_of rfl rfl rfl rfl) fun _ _ _ _ z => z) (pa_cons (pe_lst pa_nil) (pa_cons (pv 0) pa_nil)) (pk_cons (pv 3) pk_nil))) pa_nil)))
      (pss_cons (ps_expr (pe_bm PySem.F.plainAttrs_list PySem.F.slot_list_append PySem.F.type_list_append mt_append (pv 4) (pa_cons (pe_said T TB hmem huni G__law_word rfl rfl (hr.mono (by decide)) (LamX.lamS_by (by first | rfl | kernel_rfl)) rfl (fun _ _ _ _ _ => rfl) (fun _ _ _ _ _ _ _ hr2 => pe_callN G_check_pieces (hr2.mono (by decide)) rfl T.c_check_pieces.m T.c_check_pieces.F.kp kb_check_pieces3_least (passes_call (takes_of rfl rfl rfl rfl) fun _ _ _ _ z => z) (pa_cons (pe_lst pa_nil) (pa_cons (pv 0) (pa_cons (pe_lst pa_nil) pa_nil))) (pk_cons (pv 3) pk_nil))) pa_nil)))
      (pss_cons (ps_expr (pe_bm PySem.F.plainAttrs_list PySem.F.slot_list_append PySem.F.type_list_append mt_append (pv 4) (pa_cons (pe_said T TB hmem huni G__law_word rfl rfl (hr.mono (by decide)) (LamX.lamS_by (by first | rfl | kernel_rfl)) rfl (fun _ _ _ _ _ => rfl) (fun _ _ _ _ _ _ _ hr2 => pe_call G_turn_run (hr2.mono (by decide)) rfl T.c_turn_run.m T.c_turn_run.F.kp T.c_turn_run.b .nil (passes_call (takes_of rfl rfl rfl rfl) fun _ _ _ _ z => z) (pa_cons (pe_lst pa_nil) (pa_cons (pv 2) (pa_cons pe_int pa_nil))))) pa_nil)))
      (pss_cons (ps_if (pt_cmpR op_ne (pe_callB (Xh.call_reprPs T.x_stat cl hr) (by rfl) T.n_repr PyProof.Rows.boot_repr (pa_cons (pv 4) pa_nil)) (pe_callB (Xh.call_reprPs T.x_stat cl hr) (by rfl) T.n_repr PyProof.Rows.boot_repr (pa_cons (pe_lc (own := [("_law_thing", 5)]) (g := gName 5) (tt := tYes) rfl sc_l_empty_right.nd (pi_tup (pe_tup (pa_cons pe_int (pa_cons pe_int (pa_cons (pv 2) (pa_cons (pv 3) (pa_cons (pv 3) (pa_cons (pv 2) pa_nil)))))))) (blkOk_by (N := ["_law_judge", "_law_none", "_law_odd", "_law_low", "_law_found", "_law_thing"]) (sc := defScope s_l_empty_right) (by decide +kernel)) (fun _ _ _ _ _ => (pg_name (i := 5) sc_l_empty_right.nd rfl (Or.inl rfl))) (fun _ _ _ _ _ => pts_nil) (fun _ _ _ _ _ => (pe_tup (pa_cons pe_str (pa_cons (pv 5) pa_nil))))) pa_nil)) (nomark _))
        (pss_one (ps_ret pe_bl))
        pss_nil)
      (pss_cons (ps_if (pt_cmpR (op_neD hr.units) (pe_callG G__law_by_order cl (hr.mono (by decide)) rfl T.c__law_by_order.m T.c__law_by_order.F.kp T.c__law_by_order.b .nil (pa_cons (pe_lst pa_nil) (pa_cons (pv 1) (pa_cons (pv 2) pa_nil)))) (pe_op op_rep (pe_lst (pa_cons (pe_tup (pa_cons pe_str (pa_cons pe_str pa_nil))) pa_nil)) pe_int) (nomark _))
        (pss_one (ps_ret pe_bl))
        pss_nil)
      (pss_cons (ps_set (i := 4) sc_l_empty_right.nd rfl (Or.inl rfl) (pe_lst (pa_cons (pe_said T TB hmem huni G__law_word rfl rfl (hr.mono (by decide)) (LamX.lamS_by (by first | rfl | kernel_rfl)) rfl (fun _ _ _ _ _ => rfl) (fun _ _ _ _ _ _ _ hr2 => pe_call G_lay_piece (hr2.mono (by decide)) rfl T.c_lay_piece.m T.c_lay_piece.F.kp T.c_lay_piece.b .nil (passes_call (takes_of rfl rfl rfl rfl) fun _ _ _ _ z => z) (pa_cons (pe_lst pa_nil) (pa_cons (pe_tup (pa_cons pe_int (pa_cons pe_int (pa_cons pe_bl (pa_cons (pe_tup pa_nil) pa_nil))))) pa_nil)))) pa_nil)))
      (pss_cons (ps_expr (pe_bm PySem.F.plainAttrs_list PySem.F.slot_list_append PySem.F.type_list_append mt_append (pv 4) (pa_cons (pe_said T TB hmem huni G__law_word rfl rfl (hr.mono (by decide)) (LamX.lamS_by (by first | rfl | kernel_rfl)) rfl (fun _ _ _ _ _ => rfl) (fun _ _ _ _ _ _ _ hr2 => pe_call G_lay_back (hr2.mono (by decide)) rfl T.c_lay_back.m T.c_lay_back.F.kp T.c_lay_back.b .nil (passes_call (takes_of rfl rfl rfl rfl) fun _ _ _ _ z => z) (pa_cons (pe_lst pa_nil) (pa_cons (pv 2) pa_nil)))) pa_nil)))
      (pss_cons (ps_expr (pe_bm PySem.F.plainAttrs_list PySem.F.slot_list_append PySem.F.type_list_append mt_append (pv 4) (pa_cons (pe_said T TB hmem huni G__law_word rfl rfl (hr.mono (by decide)) (LamX.lamS_by (by first | rfl | kernel_rfl)) rfl (fun _ _ _ _ _ => rfl) (fun _ _ _ _ _ _ _ hr2 => pe_call G_check_pieces (hr2.mono (by decide)) rfl T.c_check_pieces.m T.c_check_pieces.F.kp b_check_pieces d_check_pieces (passes_call (takes_of rfl rfl rfl rfl) fun _ _ _ _ z => z) (pa_cons (pe_lst pa_nil) (pa_cons (pv 0) (pa_cons (pe_lst (pa_cons (pv 2) pa_nil)) pa_nil))))) pa_nil)))
      (pss_cons (ps_if (pt_cmpR (op_neD hr.units) (pv 4) (pe_lst (pa_cons (pe_tup (pa_cons pe_str (pa_cons pe_str pa_nil))) (pa_cons (pe_tup (pa_cons pe_str (pa_cons pe_str pa_nil))) (pa_cons (pe_tup (pa_cons pe_str (pa_cons pe_int pa_nil))) pa_nil)))) (nomark _))
        (pss_one (ps_ret pe_bl))
        pss_nil)
      (pss_one (ps_ret (pe_and (pe_cmpR (op_eqD hr.units) (pe_callN G_cut_pieces (hr.mono (by decide)) rfl T.c_cut_pieces.m T.c_cut_pieces.F.kp kb_cut_pieces2_least passL (pa_cons (pe_lst pa_nil) (pa_cons (pv 0) pa_nil)) (pk_cons pe_int pk_nil)) (pe_lst pa_nil) (nomark _)) (pe_one (pe_cmpR op_isN (pe_callN G_check_pieces (hr.mono (by decide)) rfl T.c_check_pieces.m T.c_check_pieces.F.kp kb_check_pieces3_least passL (pa_cons (pe_lst pa_nil) (pa_cons (pv 0) (pa_cons (pe_tup pa_nil) pa_nil))) (pk_cons pe_int pk_nil)) pe_non (nomark _)))))))))))))))))), ?_⟩
    have xk : ∀ {H5 : Hp}, LamX.ExtN H H5 → H5 x = some (.ins A.C_Order dx fs) := fun k5 => k5 _ _ hx (fun _ z => by cases z)
    have i0 : isWh (.int 0) 0 ((([] : List V).length : Int) - 1) = false := by rfl
    walk_at "st"
    walk_at "rd"
    refine use_ref (v := .int 0) T tb .rBadNumber (fun E5 H5 R5 k5 r => ?_) (fun t1 G1 k1 tb1 e1 => ?_)
    · have S5 := Hs.start0 H5
      walk_at "rd"
      rename_i q J hq S6
      have k7 := k5.trans (extN_same S6.same)
      exact ⟨_, _, _, _, rfl, .inr ⟨q, [], rfl, S6.is (q, _) List.mem_cons_self, by simp, .inr ⟨x, dx, fs, rfl, xk k7, .int _, .non, .inl ⟨i0, r.same S6.same⟩⟩⟩⟩
    have S0 := Hs.start0 G1
    walk_at "rd"
    rename_i p H1 hp S1
    have F := Fnd.new k1 tb1 e1 hp S1
    clear S1 S0
    refine use_ref (v := .int 0) T F.2.1 .rBadNumber (fun E5 H5 R5 k5 r => ?_) (fun t2 G2 k2 tb2 e2 => ?_)
    · have S5 := Hs.start0 H5
      walk_at "rd"
      rename_i q J hq S6
      have k7 := (F.1.trans k5).trans (extN_same S6.same)
      exact ⟨rfl, rfl, _, _, _, _, rfl, .inr ⟨q, [], rfl, S6.is (q, _) List.mem_cons_self, by simp, .inr ⟨x, dx, fs, rfl, xk k7, .int _, (B2.ext k7).odd, .inl ⟨i0, r.same S6.same⟩⟩⟩⟩
    walk_at "rd"
    refine F.app k2 tb2 e2 (by simp) fun H2 ts2 F2 Z2 => ?_
    clear F
    walk_at "rd"
    clear Z2
    refine use_ref (v := odd) T F2.2.1 .rBadNumber (fun E5 H5 R5 k5 r => ?_) (fun t3 G3 k3 tb3 e3 => ?_)
    · have S5 := Hs.start0 H5
      walk_at "rd"
      rename_i q J hq S6
      have k7 := (F2.1.trans k5).trans (extN_same S6.same)
      exact ⟨rfl, rfl, _, _, _, _, rfl, .inr ⟨q, [], rfl, S6.is (q, _) List.mem_cons_self, by simp, .inr ⟨x, dx, fs, rfl, xk k7, (B1.ext k7).odd, .int _, .inl ⟨N1 _ _ (by omega) (by simp), r.same S6.same⟩⟩⟩⟩
    walk_at "rd"
    refine F2.app k3 tb3 e3 (by simp) fun H3 ts3 F3 Z3 => ?_
    clear F2
    walk_at "rd"
    clear Z3
    refine use_ref (v := low) T F3.2.1 .rBadNumber (fun E5 H5 R5 k5 r => ?_) (fun t4 G4 k4 tb4 e4 => ?_)
    · have S5 := Hs.start0 H5
      walk_at "rd"
      rename_i q J hq S6
      have k7 := (F3.1.trans k5).trans (extN_same S6.same)
      exact ⟨rfl, rfl, _, _, _, rfl, .inr ⟨q, [], rfl, S6.is (q, _) List.mem_cons_self, by simp, .inr ⟨x, dx, fs, rfl, xk k7, (B2.ext k7).odd, hn, .inl ⟨N2 _ _ (by omega) (by omega), r.same S6.same⟩⟩⟩⟩
    walk_at "rd"
    refine F3.app k4 tb4 e4 (by simp) fun H4 ts4 F4 Z4 => ?_
    clear F3
    walk_at "rd"
    clear Z4
    refine use_ref (v := low) T F4.2.1 .rBadNumber (fun E5 H5 R5 k5 r => ?_) (fun t5 G5 k5 tb5 e5 => ?_)
    · have S5 := Hs.start0 H5
      walk_at "rd"
      rename_i q J hq S6 q2 J2 hq2 S7
      have k7 := (F4.1.trans k5).trans (extN_same S7.same)
      exact ⟨rfl, rfl, _, _, _, _, rfl, .inr ⟨q, [], rfl, S7.is (q, _) (by walk_at "mem"), by simp, .inr ⟨x, dx, fs, rfl, xk k7, (B2.ext k7).odd, .inl ⟨hn, N2 _ _ (by omega) (by omega), r.same S7.same⟩⟩⟩⟩
    walk_at "rd"
    refine F4.app k5 tb5 e5 (by simp) fun H5 ts5 F5 Z5 => ?_
    clear F4
    walk_at "rd"
    clear Z5
    refine use_ref (v := odd) T F5.2.1 .rBadNumber (fun E5 H5 R5 k5 r => ?_) (fun t6 G6 k6 tb6 e6 => ?_)
    · have S5 := Hs.start0 H5
      walk_at "rd"
      rename_i q J hq S6
      have k7 := (F5.1.trans k5).trans (extN_same S6.same)
      exact ⟨_, _, _, rfl, .inr ⟨q, [], rfl, S6.is (q, _) List.mem_cons_self, by simp, (B1.ext k7).odd, .int _, .inl ⟨N1 _ _ (by omega) (by simp), r.same S6.same⟩⟩⟩
    walk_at "rd"
    refine F5.app k6 tb6 e6 (by simp) fun H6 ts6 F6 Z6 => ?_
    clear F5 Z6
    have bs : BVs H6 ([("number", .int 0), ("number", .int 0), ("number", odd), ("number", low), ("number", low), ("number", odd)] : List (Str × V)) _ :=
      .cons (by decide +kernel) (.int _ (by omega)) (.cons (by decide +kernel) (.int _ (by omega)) (.cons (by decide +kernel) (B1.ext F6.1) (.cons (by decide +kernel) (B2.ext F6.1) (.cons (by decide +kernel) (B2.ext F6.1) (.cons (by decide +kernel) (B1.ext F6.1) .nil)))))
    obtain ⟨kp, hkp⟩ : ∃ kp, (PyData.list [PyData.tuple [.str "number", .int 0], .tuple [.str "number", .int 0], .tuple [.str "number", d1], .tuple [.str "number", d2], .tuple [.str "number", d2], .tuple [.str "number", d1]]).shown = kp := ⟨_, rfl⟩
    obtain ⟨ts, e7, a7⟩ := F6.2.2.2
    walk_at "rd"
    refine rd_reprF e7 a7 bs (by simp) (by simp) ?_
    rw [hkp]
    have S6 := Hs.start0 H6
    walk_at "rd"
    rename_i dl H7 hdl S7
    refine lc_pairsT S7 (by simp) (fun H' s => SqT.of (s _ _ (S7.is (dl, _) List.mem_cons_self))) (fun x => rfl) (fun x => rfl) fun D H8 us hD s8 S8 a8 => ?_
    walk_at "rd"
    refine rd_reprF (S8.is (D, _) List.mem_cons_self) a8 ((bs.ext (extN_same S7.same)).ext (extN_same s8)) (by simp) (by simp) ?_
    rw [hkp]
    have F8 := (F6.more S7.same).more s8
    clear S8 S7 S6 a8 a7 e7 hkp bs F6
    walk_at "rd"
    refine rd_decF (by simp) ?_
    have S9 := Hs.start0 H8
    walk_at "rd"
    rename_i q H9 hq S10
    refine ⟨q, nn, odd, [], rfl, S10.is (q, _) List.mem_cons_self, by simp, no.ext (F8.1.trans (extN_same S10.same)), F8.2.1.ext S10.same, fun p2 ts2 J1 kj tbj ej lj aj => ?_⟩
    have kJ := (F8.1.trans (extN_same S10.same)).trans kj
    clear S10 S9 F8
    have S11 := Hs.start0 J1
    walk_at "rd"
    rename_i u J2 hu1 S12 v J3 hv S13
    refine rd_repL S13 (by walk_at "mem") (by omega) (by omega) (Nat.le_of_lt (Rs.sz' (by simp))) fun v2 J4 hv2 S14 => ?_
    clear S13 S12 S11
    walk_at "rd"
    have aj2 := aj.pairs
    rw [lj] at aj2
    refine rd_neF (its := List.replicate 4 ("kind", .str "Order")) (S14.same _ _ ej) (aj2.ext (extN_same S14.same)) (S14.is (v2, _) List.mem_cons_self) (allP_rep (S14.is (u, _) (by walk_at "mem")) 4) rfl (by decide +kernel) (by decide +kernel) ?_
    have kG := kJ.trans (extN_same S14.same)
    have tG := tbj.ext S14.same
    clear S14 aj2 aj ej tbj kJ
    walk_at "rd"
    walk_at "if0"
    refine use_ref (v := .str "piece") T tG .rBadPaper (fun E5 H5 R5 k5 r => ?_) (fun t7 G7 k7 tb7 e7 => ?_)
    · have S5 := Hs.start0 H5
      walk_at "rd"
      rename_i q1 I1 hq1 S6 w1 I2 hw1 S7 z1 I3 hz1 S8
      refine ⟨_, _, rfl, .inr ⟨q1, [], rfl, S8.is (q1, _) (by walk_at "mem"), by simp, .inr ⟨_, .four z1 _ _ _ _ (some []) (S8.is (z1, _) List.mem_cons_self) (.int _) (.int _) (.bl _) (.tup w1 [] (S8.is (w1, _) (by walk_at "mem")) (by simp) (by simp)) (fun e => ?_), by decide +kernel, r.same S8.same⟩⟩⟩
      have e1 := S8.is (w1, HO.tup []) (by walk_at "mem")
      have e2 := S8.is (z1, _) List.mem_cons_self
      rw [V.ref.inj e] at e1
      rw [e2] at e1
      cases e1
    have S15 := Hs.start0 G7
    walk_at "rd"
    rename_i p3 I1 hp3 S16
    have F := Fnd.new k7 tb7 e7 hp3 S16
    clear S16 S15
    refine use_ref (v := .str "piece") T F.2.1 .rBadPaper (fun E5 H5 R5 k5 r => ?_) (fun t8 G8 k8 tb8 e8 => ?_)
    · have S5 := Hs.start0 H5
      walk_at "rd"
      rename_i q1 I1 hq1 S6
      exact ⟨_, _, rfl, .inr ⟨q1, [], rfl, S6.is (q1, _) List.mem_cons_self, by simp, .inr ⟨_, R.ext (((kG.trans F.1).trans k5).trans (extN_same S6.same)), rfl, r.same S6.same⟩⟩⟩
    walk_at "rd"
    refine F.app k8 tb8 e8 (by simp) fun I2 ts8 F2 Z2 => ?_
    clear F
    walk_at "rd"
    clear Z2
    refine use_ref (v := .int 0) T F2.2.1 .rBadPaper (fun E5 H5 R5 k5 r => ?_) (fun t9 G9 k9 tb9 e9 => ?_)
    · have S5 := Hs.start0 H5
      walk_at "rd"
      rename_i q1 I1 hq1 S6 q2 I2 hq2 S7
      exact ⟨_, _, _, _, rfl, .inr ⟨q1, [], rfl, S7.is (q1, _) (by walk_at "mem"), by simp, .inr ⟨x, dx, fs, rfl, xk (((kG.trans F2.1).trans k5).trans (extN_same S7.same)), .non, .inr ⟨.inl rfl, .inr (.inl ⟨q2, _, rfl, S7.is (q2, _) List.mem_cons_self, by simp, .inr ⟨_, _, rfl, .inl rfl, r.same S7.same⟩⟩)⟩⟩⟩⟩
    walk_at "rd"
    refine F2.app k9 tb9 e9 (by simp) fun I3 ts9 F3 Z3 => ?_
    clear F2 Z3
    have S17 := Hs.start0 I3
    walk_at "rd"
    rename_i u1 J1 hu1 S1 u2 J2 hu2 S2 u3 J3 hu3 S3 v3 J6 hv3 S18
    have F6 := F3.more S18.same
    obtain ⟨ts3, e10, a10⟩ := F6.2.2.2
    refine rd_neF e10 a10 (S18.is (v3, _) List.mem_cons_self) (.cons (S18.is (u1, _) (by walk_at "mem")) (.cons (S18.is (u2, _) (by walk_at "mem")) (.cons (S18.is (u3, _) (by walk_at "mem")) .nil))) rfl (by decide +kernel) (by decide +kernel) ?_
    have kI := kG.trans F6.1
    have tI := F6.2.1
    clear e10 a10 F6 S18 S3 S2 S1 S17 F3
    walk_at "rd"
    walk_at "if0"
    have S19 := Hs.start0 J6
    walk_at "rd"
    rename_i q4 I4 hq4 S20
    refine ⟨rfl, rfl, _, _, _, rfl, .inr ⟨q4, [], rfl, S20.is (q4, _) List.mem_cons_self, by simp, .inr ⟨x, dx, fs, rfl, xk (kI.trans (extN_same S20.same)), .int _, (fun z => by cases z), .inr ⟨rfl, rfl, fun p5 I5 hp5 ep5 sm5 => ?_⟩⟩⟩⟩
    have S21 := (S20.more1 sm5 hp5 ep5).2
    clear S20 S19
    walk_at "rd"
    rename_i q6 I6 hq6 S22
    refine rd_eqF (its := []) (S22.is (p5, _) (by walk_at "mem")) .nil (S22.is (q6, _) List.mem_cons_self) .nil rfl (by decide +kernel) (by decide +kernel) ?_
    clear S21
    walk_at "rd"
    rename_i q7 I7 hq7 S23 q8 I8 hq8 S24
    refine ⟨rfl, rfl, _, _, _, _, rfl, .inr ⟨q7, [], rfl, S24.is (q7, _) (by walk_at "mem"), by simp, .inr ⟨x, dx, fs, rfl, xk (kI.trans (extN_same S24.same)), .int _, .inr ⟨.inr rfl, .inr (.inr ⟨q8, rfl, S24.is (q8, _) List.mem_cons_self, rfl, fun I9 sm9 => ?_⟩)⟩⟩⟩⟩
    walk_at "rd"
    exact k I9 (kI.trans (extN_same ((S24.more sm9).same))) (tI.ext (S24.more sm9).same)
end
end K16

namespace K16
open PySem PySem.Spec PyProof.Rows L2 Rs Xc Xd Xg Xh Xi Xj Xk Xl
/-- things of two numbers each -/
def Prs (H : Hp) (xs : List V) (zs : List (Int × Int)) : Prop := xs.length = zs.length ∧ ∀ (i : Nat) (v : V) (z : Int × Int), xs[i]? = some v → zs[i]? = some z → ∃ a, v = .ref a ∧ H a = some (.tup [.int z.1, .int z.2])
def dZ (zs : List (Int × Int)) : List PyData := zs.map fun z => .tuple [.int z.1, .int z.2]
theorem Prs.keep {H H' : Hp} {xs : List V} {zs : List (Int × Int)} (h : Prs H xs zs) (k : ∀ b u, H b = some (.tup u) → H' b = some (.tup u)) : Prs H' xs zs :=
  ⟨h.1, fun i v z h1 h2 => let ⟨a, e, q⟩ := h.2 i v z h1 h2; ⟨a, e, k _ _ q⟩⟩
theorem Prs.tail {H : Hp} {x : V} {xs : List V} {z : Int × Int} {zs : List (Int × Int)} (h : Prs H (x :: xs) (z :: zs)) : Prs H xs zs := ⟨by simpa using h.1, fun i v y h1 h2 => h.2 (i + 1) v y (by simpa using h1) (by simpa using h2)⟩
theorem Prs.dp {K : PySem.W.Frag} {H : Hp} : ∀ (xs : List V) (zs : List (Int × Int)), Prs H xs zs → DpAll K H xs (dZ zs)
  | [], [], _ => .nil
  | [], _ :: _, h => by have := h.1; simp at this
  | _ :: _, [], h => by have := h.1; simp at this
  | x :: xs, z :: zs, h => by
    obtain ⟨a, rfl, e⟩ := h.2 0 x z rfl rfl
    exact .cons (.tup (SqT.of e) (.cons (.int _) (.cons (.int _) .nil))) (Prs.dp xs zs h.tail)
theorem dZ_data (zs : List (Int × Int)) : PyData.depthAll (dZ zs) ≤ 1 ∧ PyData.canLayAll0 (dZ zs) = true ∧ PyData.eqvAll (dZ zs) (dZ zs) = true := by
  induction zs with
  | nil => simp [dZ, PyData.depthAll, PyData.canLayAll0, PyData.eqvAll]
  | cons z zs ih =>
    obtain ⟨h1, h2, h3⟩ := ih
    unfold dZ at *
    refine ⟨?_, ?_, ?_⟩
    · simp only [List.map_cons, PyData.depthAll, PyData.depth]; omega
    · simp only [List.map_cons, PyData.canLayAll0, PyData.canLay0, h2, Bool.and_true, Bool.and_self]
    · simp only [List.map_cons, PyData.eqvAll, PyData.eqv, h3, Bool.and_true, Bool.and_self, beq_self_eq_true, decide_true]
theorem dZ_shaped (zs : List (Int × Int)) : SeqAt.shaped (.list (dZ zs)) = true := by
  obtain ⟨d1, d2, d3⟩ := dZ_data zs
  unfold SeqAt.shaped
  rw [Bool.and_eq_true]
  refine ⟨by simpa [PyData.canLay0] using d2, ?_⟩
  simp only [PyData.depth]
  exact decide_eq_true (by omega)
theorem Prs.keys {H : Hp} {xs : List V} {zs : List (Int × Int)} (h : Prs H xs zs) : Keys H xs (zs.map (·.1)) :=
  ⟨by rw [List.length_map]; exact h.1, fun i v z h1 h2 => by
    rw [List.getElem?_map] at h2
    cases e : zs[i]? with
    | none => rw [e] at h2; cases h2
    | some y =>
      rw [e] at h2
      obtain ⟨a, rfl, q⟩ := h.2 i v y h1 e
      cases h2
      exact ⟨a, _, rfl, q⟩⟩
theorem Prs.rev {H : Hp} {xs : List V} {zs : List (Int × Int)} (h : Prs H xs zs) : Prs H xs.reverse zs.reverse := by
  refine ⟨by simpa using h.1, fun i v z h1 h2 => ?_⟩
  have hi : i < xs.length := by have := (List.getElem?_eq_some_iff.mp h1).1; simpa using this
  rw [List.getElem?_reverse hi] at h1
  rw [List.getElem?_reverse (by rw [← h.1]; exact hi), ← h.1] at h2
  exact h.2 _ v z h1 h2
theorem Prs.app {H : Hp} {xs ys : List V} {zs us : List (Int × Int)} (h : Prs H xs zs) (g : Prs H ys us) : Prs H (xs ++ ys) (zs ++ us) := by
  refine ⟨by simp [h.1, g.1], fun i v z h1 h2 => ?_⟩
  by_cases hi : i < xs.length
  · rw [List.getElem?_append_left hi] at h1
    rw [List.getElem?_append_left (by rw [← h.1]; exact hi)] at h2
    exact h.2 i v z h1 h2
  · rw [List.getElem?_append_right (by omega)] at h1
    rw [List.getElem?_append_right (by rw [← h.1]; omega), ← h.1] at h2
    exact g.2 _ v z h1 h2
theorem prs_rep {H : Hp} {a : Addr} {z : Int × Int} (h : H a = some (.tup [.int z.1, .int z.2])) (n : Nat) : Prs H (List.replicate n [V.ref a]).flatten (List.replicate n z) := by
  have e : (List.replicate n [V.ref a]).flatten = List.replicate n (V.ref a) := by
    induction n with
    | zero => rfl
    | succ n ih => rw [List.replicate_succ, List.flatten_cons, ih, List.replicate_succ]; rfl
  rw [e]
  refine ⟨by simp, fun i v y h1 h2 => ?_⟩
  have e1 := List.mem_of_getElem? h1
  have e2 := List.mem_of_getElem? h2
  rw [(List.mem_replicate.mp e1).2, (List.mem_replicate.mp e2).2]
  exact ⟨a, rfl, h⟩
def numV : V → Bool
  | .int _ => true
  | .bl _ => true
  | _ => false
theorem num_data : ∀ vs : List V, vs.all numV = true → PyData.depthAll (vs.map dOf) = 0 ∧ PyData.canLayAll0 (vs.map dOf) = true ∧ PyData.eqvAll (vs.map dOf) (vs.map dOf) = true
  | [], _ => by simp [PyData.depthAll, PyData.canLayAll0, PyData.eqvAll]
  | v :: vs, h => by
    simp only [List.all_cons, Bool.and_eq_true] at h
    obtain ⟨h1, h2, h3⟩ := num_data vs h.2
    cases v <;> first
      | exact Bool.noConfusion h.1
      | (refine ⟨?_, ?_, ?_⟩
         · simp only [List.map_cons, dOf, PyData.depthAll, PyData.depth, h1]; omega
         · simp only [List.map_cons, dOf, PyData.canLayAll0, PyData.canLay0, h2, Bool.and_true, Bool.and_self]
         · simp only [List.map_cons, dOf, PyData.eqvAll, PyData.eqv, h3, Bool.and_true, Bool.and_self, beq_self_eq_true, decide_true])
theorem turned_all {xs : List V} : turned xs 0 xs.length = xs.reverse := by
  unfold turned
  simp
/-- tables stay while only dicts and instances change -/
theorem tabs_di {TT : List (Addr × Str)} {H H' : Hp} (h : LamX.Tabs TT H) (k : ∀ b o, H b = some o → (∀ kv, o ≠ .dK kv) → (∀ c dx fs, o ≠ .ins c dx fs) → H' b = some o) : LamX.Tabs TT H' := fun p hp => by
  obtain ⟨ps, h1, h2, h3⟩ := h p hp
  refine ⟨ps, k _ _ h1 (fun _ z => by cases z) (fun _ _ _ z => by cases z), h2, fun pos cv hc => ?_⟩
  obtain ⟨c, e1, e2⟩ := h3 pos cv hc
  exact ⟨c, e1, k _ _ e2 (fun _ z => by unfold LamX.CodeO at z; cases z) (fun _ _ _ z => by unfold LamX.CodeO at z; cases z)⟩
theorem run_flat {ks : List Int} {st m : Nat} {f : Bool} (h : RunP ks st 4096 m f) (h0 : ∀ i, st < i → i < 4096 → lt ks i = false) : m = 4096 - st ∧ f = false := by
  obtain ⟨h1, h2, h3, h4, h5⟩ := h
  have hf : f = false := by
    by_cases hm : m = 1
    · exact h5 hm
    · rw [← h3 (st + 1) (by omega) (by omega)]
      exact h0 _ (by omega) (by omega)
  refine ⟨?_, hf⟩
  rcases h4 with h4 | h4
  · omega
  · by_cases hz : st + m = 4096
    · omega
    · exact absurd (by rw [h0 _ (by omega) (by omega), hf]) h4
def sp_long (A : Ad) : Sp := fun vs H Q _ => ∃ (d a x dx f : Addr) (l o b a0 n : Int) (xs : List V) (zs : List (Int × Int)), vs = [.ref d, .ref a, .ref x] ∧ H d = some (.dK (drw l o b a0)) ∧ 0 ≤ a0 ∧ a0 < 2 ^ 18 ∧ H a = some (.lst xs) ∧ Prs H xs zs ∧ xs.length ≤ 65 ∧ H x = some (.ins A.C_Order dx (flds f n)) ∧ RuleAt H f ∧ LamX.Tabs TT H ∧
  ∀ H', LamX.Tabs TT H' → (∀ b u, H b = some u → b ≠ d → b ≠ x → (∀ ps, u ≠ .tbl ps) → H' b = some u) → Q (.bl true) H'
section
variable {P : Program} {w : World} {K : PySem.W.Frag} {mg : Str → Option Value} {base : Heap} {A : Ad} {H H0 : Hp} {MM : List Addr} {L L' F : Led} {Q : VK} {E : XK}
local macro_rules | `(tactic| walk_at "rd1") => `(tactic| ((with_reducible refine' K16.use_take (by assumption) ?c ?o ?b1 ?b2 ?b3 ?b4 ?_); (case c => walk_at "chgF"); (case o => walk_at "own"); (case b1 => omega); (case b2 => omega); (case b3 => omega); (case b4 => omega); intro r l a H S h0 h1 h2 h3))
theorem rd_neP {p q : Addr} {xs ys : List V} {zs : List (Int × Int)} (hp : H p = some (.lst xs)) (hq : H q = some (.lst ys)) (h1 : Prs H xs zs) (h2 : Prs H ys zs) (h : Q (.bl false) H) : rNeD K (.ref p) (.ref q) H Q := by
  refine ⟨_, _, .lst (SqL.of hp) (h1.dp _ _), .lst (SqL.of hq) (h2.dp _ _), dZ_shaped zs, dZ_shaped zs, ?_⟩
  rw [show PyData.eqv (.list (dZ zs)) (.list (dZ zs)) = true by simp only [PyData.eqv]; exact (dZ_data zs).2.2]
  exact h
theorem num_dp : ∀ vs : List V, vs.all numV = true → DpAll K H vs (vs.map dOf)
  | [], _ => .nil
  | v :: vs, h => by
    simp only [List.all_cons, Bool.and_eq_true] at h
    refine .cons ?_ (num_dp vs h.2)
    cases v <;> first | exact .int _ | exact .bl _ | exact Bool.noConfusion h.1
theorem rd_neT {p q : Addr} {vs : List V} (hp : H p = some (.tup vs)) (hq : H q = some (.tup vs)) (hn : vs.all numV = true) (h : Q (.bl false) H) : rNeD K (.ref p) (.ref q) H Q := by
  obtain ⟨d1, d2, d3⟩ := num_data vs hn
  have sh : SeqAt.shaped (.tuple (vs.map dOf)) = true := by
    unfold SeqAt.shaped
    rw [Bool.and_eq_true]
    refine ⟨by simpa [PyData.canLay0] using d2, ?_⟩
    simp only [PyData.depth]
    exact decide_eq_true (by omega)
  refine ⟨_, _, .tup (SqT.of hp) (num_dp vs hn), .tup (SqT.of hq) (num_dp vs hn), sh, sh, ?_⟩
  rw [show PyData.eqv (.tuple (vs.map dOf)) (.tuple (vs.map dOf)) = true by simp only [PyData.eqv]; exact d3]
  exact h
theorem rd_neT4 {p q s t : Addr} {i j : Int} {b : Bool} (hp : H p = some (.tup [.int i, .int j, .bl b, .ref s])) (hs : H s = some (.tup [])) (hq : H q = some (.tup [.int i, .int j, .bl b, .ref t])) (ht : H t = some (.tup [])) (h : Q (.bl false) H) : rNeD K (.ref p) (.ref q) H Q := by
  have sh : SeqAt.shaped (.tuple [.int i, .int j, .bool b, .tuple []]) = true := by
    unfold SeqAt.shaped
    simp [PyData.canLay0, PyData.canLayAll0, PyData.depth, PyData.depthAll]
  refine ⟨.tuple [.int i, .int j, .bool b, .tuple []], .tuple [.int i, .int j, .bool b, .tuple []], .tup (SqT.of hp) (.cons (.int _) (.cons (.int _) (.cons (.bl _) (.cons (.tup (SqT.of hs) .nil) .nil)))), .tup (SqT.of hq) (.cons (.int _) (.cons (.int _) (.cons (.bl _) (.cons (.tup (SqT.of ht) .nil) .nil)))), sh, sh, ?_⟩
  rw [show PyData.eqv (.tuple [.int i, .int j, .bool b, .tuple []]) (.tuple [.int i, .int j, .bool b, .tuple []]) = true by simp [PyData.eqv, PyData.eqvAll]]
  exact h
theorem kb_turn_run (T : Txt K mg w A) : KBn K A.d_turn_run ["row", "start", "end"] 1 ["start", "end"] (fun us ws => us ++ [0, 1].filterMap (ws[·]?)) (fun us ws => us ++ [0, 1].filterMap (ws[·]?)) :=
  kb_of T.c_turn_run.F _ fun _ _ _ _ _ _ us ws h1 h2 => match us, h1, ws, h2 with | [_], _, [_, _], _ => rfl
theorem ok_long (T : Txt K mg w A) (TB : LamX.TabB base mg A.cc__law_by_row 443) : FnG P w K mg base 12 A.f__law_long_right A.d__law_long_right ["_law_state", "_law_line", "_law_judge"] (sp_long A) := by
  have G__law_take : FnOk P w K mg base CX0 2 A.f__law_take A.d__law_take ["_law_state", "_law_count"] sp_take := ok_take T
  have G_run_at : FnOk P w K mg base (L2.CX P w) 5 A.f_run_at A.d_run_at ["row", "order", "start", "end"] (sp_run A) := ok_run T
  have G_turn_run : FnOk P w K mg base (L2.CX P w) 5 A.f_turn_run A.d_turn_run ["row", "start", "end"] (sp_turn A) := ok_turn T
  have G_cut_piece : FnOk P w K mg base (L2.CX P w) 6 A.f_cut_piece A.d_cut_piece ["row", "order", "start", "least"] (sp_piece A) := ok_piece T
  have G_lay_piece : FnOk P w K mg base (L2.CX P w) 5 A.f_lay_piece A.d_lay_piece ["row", "piece"] (sp_lay A) := ok_lay T
  have G_lay_back : FnOk P w K mg base (L2.CX P w) 5 A.f_lay_back A.d_lay_back ["row", "piece"] (sp_bck A) := ok_bck T
  have G__law_by_row : FnG P w K mg base 11 A.f__law_by_row A.d__law_by_row ["_law_bad", "_law_judge", "_law_odd"] (sp_byrow A) := ok_byrow T TB
  obtain ⟨_, d_run_at, b_run_at⟩ := b_run T
  obtain ⟨its3, mv3, kb_cut_piece_least⟩ := kb_piece3 T
  refine defG T.c__law_long_right.F sc_l_long_right (fun vs H Q E h => ?_) (fun cdv Ar outer s H vs Q E cl hr h => ?_)
  · obtain ⟨_, _, _, _, _, _, _, _, _, _, _, _, rfl, _⟩ := h; rfl
  · obtain ⟨d, a, x, dx, f, l, o, b, a0, n, xs, zs, rfl, hd, a1, a2, ha, pr, hl, hx, rl, tb, k⟩ := h
    have hu := hu_of hr
    refine ⟨_, (pss_cons (ps_set (i := 3) sc_l_long_right.nd rfl (Or.inl rfl) (pe_op op_cat (pv 1) (pe_op op_rep (pe_lst (pa_cons (pe_tup (pa_cons pe_int (pa_cons pe_int pa_nil))) pa_nil)) (pe_op op_sub pe_int (pe_callB call_len_seq (by rfl) T.n_len PySem.boot_len (pa_cons (pv 1) pa_nil))))))
      (pss_cons (ps_set (i := 4) sc_l_long_right.nd rfl (Or.inl rfl) (pe_op op_add pe_int (pe_call G__law_take (hr.mono (by decide)) rfl T.c__law_take.m T.c__law_take.F.kp T.c__law_take.b .nil pass0 (pa_cons (pv 0) (pa_cons pe_int pa_nil)))))
      (pss_cons (ps_par (i := 5) (j := 6) rfl sc_l_long_right.nd rfl rfl (by decide) rfl rfl (pa_cons (pe_tup (pa_cons (pv 4) (pa_cons pe_int (pa_cons pe_bl (pa_cons (pe_tup (pa_cons pe_int pa_nil)) pa_nil))))) (pa_cons (pe_callTy call_list_of (by rfl) T.n_list (by decide +kernel) (pa_cons (pv 3) pa_nil)) pa_nil)) (by rfl))
      (pss_cons (ps_if (PW.pt (pw_or (pt_cmpR (op_neD hr.units) (pe_call G_run_at (hr.mono (by decide)) rfl T.c_run_at.m T.c_run_at.F.kp b_run_at d_run_at passL (pa_cons (pv 3) (pa_cons (pv 2) (pa_cons (pv 4) pa_nil)))) (pe_tup (pa_cons (pe_op op_sub pe_int (pv 4)) (pa_cons pe_bl pa_nil))) (nomark _)) (pw_or1 (pt_cmpR op_notN (pe_call G_turn_run (hr.mono (by decide)) rfl T.c_turn_run.m T.c_turn_run.F.kp T.c_turn_run.b .nil passL (pa_cons (pv 3) (pa_cons pe_int (pa_cons pe_int pa_nil)))) pe_non (nomark _)))))
        (pss_one (ps_ret pe_bl))
        pss_nil)
      (pss_cons (ps_if (PW.pt (pw_or (pt_cmpR (op_neD hr.units) (pv 3) (pe_revL (pv 6)) (nomark _)) (pw_or (pt_cmpR op_notN (pe_callN G_turn_run (hr.mono (by decide)) rfl T.c_turn_run.m T.c_turn_run.F.kp (kb_turn_run T) passL (pa_cons (pv 3) pa_nil) (pk_cons pe_int (pk_cons pe_int pk_nil))) pe_non (nomark _)) (pw_or1 (pt_cmpR (op_neD hr.units) (pv 3) (pv 6) (nomark _))))))
        (pss_one (ps_ret pe_bl))
        pss_nil)
      (pss_cons (ps_if (PW.pt (pw_or (pt_cmpR op_notN (pe_call G_lay_piece (hr.mono (by decide)) rfl T.c_lay_piece.m T.c_lay_piece.F.kp T.c_lay_piece.b .nil passL (pa_cons (pv 3) (pa_cons (pv 5) pa_nil))) pe_non (nomark _)) (pw_or1 (pt_cmpR op_notN (pe_call G_lay_back (hr.mono (by decide)) rfl T.c_lay_back.m T.c_lay_back.F.kp T.c_lay_back.b .nil passL (pa_cons (pv 3) (pa_cons (pv 5) pa_nil))) pe_non (nomark _)))))
        (pss_one (ps_ret pe_bl))
        pss_nil)
      (pss_cons (ps_if (pt_cmpR (op_neD hr.units) (pe_callN G_cut_piece (hr.mono (by decide)) rfl T.c_cut_piece.m T.c_cut_piece.F.kp kb_cut_piece_least passL (pa_cons (pv 3) (pa_cons (pv 2) (pa_cons (pv 4) pa_nil))) (pk_cons pe_int pk_nil)) (pe_tup (pa_cons (pv 4) (pa_cons (pe_op op_sub pe_int (pv 4)) (pa_cons pe_bl (pa_cons (pe_tup pa_nil) pa_nil))))) (nomark _))
        (pss_one (ps_ret pe_bl))
        pss_nil)
      (pss_cons (ps_expr (pe_bm PySem.F.plainAttrs_list PySem.F.slot_list_append PySem.F.type_list_append mt_append (pv 3) (pa_cons (pe_tup (pa_cons pe_int (pa_cons pe_int pa_nil))) pa_nil)))
      (pss_one (ps_ret (pe_cmpR (op_eqD hr.units) (pe_callG G__law_by_row cl (hr.mono (by decide)) rfl T.c__law_by_row.m T.c__law_by_row.F.kp T.c__law_by_row.b .nil (pa_cons (pv 3) (pa_cons (pv 2) (pa_cons pe_non pa_nil)))) (pe_op op_rep (pe_lst (pa_cons (pe_tup (pa_cons pe_str (pa_cons pe_int pa_nil))) pa_nil)) pe_int) (nomark _)))))))))))), ?_⟩
    have dx1 : d ≠ x := ne_of hd hx (fun z => by cases z)
    have da : d ≠ a := ne_of hd ha (fun z => by cases z)
    have xa : x ≠ a := ne_of hx ha (fun z => by cases z)
    have S : Hs H [d, x] H [(d, .dK (drw l o b a0)), (x, .ins A.C_Order dx (flds f n)), (a, .lst xs)] := by
      refine Hs.start H [d, x] _ (by simp [dx1, da, xa]) (fun z hz => ?_) (fun b hb => ?_)
      · simp only [List.mem_cons, List.not_mem_nil, or_false] at hz
        rcases hz with rfl | rfl | rfl
        · exact hd
        · exact hx
        · exact ha
      · simp only [List.mem_cons, List.not_mem_nil, or_false] at hb
        rcases hb with rfl | rfl
        · rw [hd]; simp
        · rw [hx]; simp
    have kp : ∀ {J : Hp} {L : Led}, Hs H [d, x] J L → ∀ b u, H b = some u → (∀ kv, u ≠ .dK kv) → (∀ c dx fs, u ≠ .ins c dx fs) → J b = some u := fun {J L} S b u e n1 n2 => S.old b u e (by
      simp only [List.mem_cons, List.not_mem_nil, or_false, not_or]
      exact ⟨ne_of e hd (fun z => n1 _ z), ne_of e hx (fun z => n2 _ _ _ z)⟩)
    have rule : ∀ {J : Hp} {L : Led}, Hs H [d, x] J L → RuleAt J f := fun {J L} S => by
      obtain ⟨c', h1, h2⟩ := rl
      exact ⟨c', kp S _ _ h1 (fun _ z => by cases z) (fun _ _ _ z => by cases z), kp S _ _ h2 (fun _ z => by cases z) (fun _ _ _ z => by cases z)⟩
    walk_at "st"
    walk_at "rd"
    rename_i z0 H1 hz0 S1 l0 H2 hl0 S2
    refine rd_repL (k := 4096 - (xs.length : Int)) S2 (by walk_at "mem") (by omega) (by omega) (Nat.le_of_lt (Rs.sz' (by simp; omega))) fun l1 H3 hl1 S3 => ?_
    obtain ⟨ys, hys, ey⟩ : ∃ ys, ys = (List.replicate (4096 - (xs.length : Int)).toNat [V.ref z0]).flatten ∧ ys.length = 4096 - xs.length := ⟨_, rfl, by simp⟩
    rw [← hys] at S3
    refine rd_catL S3 (by walk_at "mem") (by walk_at "mem") (Rs.sz (by omega)) fun fl H4 hfl S4 => ?_
    have pf : Prs H4 (xs ++ ys) (zs ++ List.replicate (4096 - (xs.length : Int)).toNat (0, 0)) :=
      (pr.keep fun b u e => kp S4 _ _ e (fun _ z => by cases z) (fun _ _ _ z => by cases z)).app (by rw [hys]; exact prs_rep (z := (0, 0)) (S4.is (z0, _) (by walk_at "mem")) _)
    obtain ⟨fs, efs⟩ : ∃ fs, fs = xs ++ ys := ⟨_, rfl⟩
    have hfs : fs.length = 4096 := by rw [efs, List.length_append]; omega
    obtain ⟨us, eus⟩ : ∃ us, us = zs ++ List.replicate (4096 - (xs.length : Int)).toNat ((0, 0) : Int × Int) := ⟨_, rfl⟩
    rw [← efs] at S4 pf
    rw [← eus] at pf
    have S5 : Hs H [d, x] H4 [(fl, .lst fs), (d, .dK (drw l o b a0)), (x, .ins A.C_Order dx (flds f n))] := S4.sub (by walk_at "sub")
    clear S4 S3 S2 S1 S
    have hk : ∀ i, 4090 < i → i < 4096 → lt (us.map (·.1)) i = false := by
      intro i h1 h2
      have g0 : ∀ j, zs.length ≤ j → (us.map (·.1)).getD j 0 = 0 := by
        intro j hj
        rw [eus, List.getD_eq_getElem?_getD, List.getElem?_map, List.getElem?_append_right hj, List.getElem?_replicate]
        split <;> rfl
      have := pr.1
      unfold lt
      rw [g0 i (by omega), g0 (i - 1) (by omega)]
      rfl
    have hd4 := S5.is (d, _) (.tail _ List.mem_cons_self)
    have hx4 := S5.is (x, _) (.tail _ (.tail _ List.mem_cons_self))
    have hf4 := S5.is (fl, _) List.mem_cons_self
    have T : Hs H4 [d, x, fl] H4 [(fl, .lst fs), (d, .dK (drw l o b a0)), (x, .ins A.C_Order dx (flds f n))] := Hs.start H4 _ _ S5.nd S5.is (fun b hb => by
      simp only [List.mem_cons, List.not_mem_nil, or_false] at hb
      rcases hb with rfl | rfl | rfl
      · rw [hd4]; simp
      · rw [hx4]; simp
      · rw [hf4]; simp)
    have pk : ∀ {J : Hp} {L : Led}, Hs H4 [d, x, fl] J L → Prs J fs us := fun {J L} S => pf.keep fun b u e => S.old b _ e (by
      simp only [List.mem_cons, List.not_mem_nil, or_false, not_or]
      exact ⟨ne_of e hd4 (fun z => by cases z), ne_of e hx4 (fun z => by cases z), ne_of e hf4 (fun z => by cases z)⟩)
    have kq : ∀ {J : Hp} {L : Led}, Hs H4 [d, x, fl] J L → ∀ b u, H b = some u → b ≠ d → b ≠ x → J b = some u := fun {J L} S b u e n1 n2 => S.old b u (S5.old b u e (by simp [n1, n2])) (by
      simp only [List.mem_cons, List.not_mem_nil, or_false, not_or]
      exact ⟨n1, n2, fun z => by rw [z, hfl] at e; cases e⟩)
    have rule : ∀ {J : Hp} {L : Led}, Hs H4 [d, x, fl] J L → RuleAt J f := fun {J L} S => by
      obtain ⟨c', h1, h2⟩ := rl
      exact ⟨c', kq S _ _ h1 (ne_of h1 hd (fun z => by cases z)) (ne_of h1 hx (fun z => by cases z)), kq S _ _ h2 (ne_of h2 hd (fun z => by cases z)) (ne_of h2 hx (fun z => by cases z))⟩
    have tabs : ∀ {J : Hp} {L : Led}, Hs H4 [d, x, fl] J L → LamX.Tabs TT J := fun {J L} S => tabs_di tb fun b u e n1 n2 => kq S b u e (ne_of e hd (fun z => n1 _ z)) (ne_of e hx (fun z => n2 _ _ _ z))
    clear kp S5
    walk_at "rd"
    rename_i r l1 a1 H5 T1 r0 r1 r2 r3 q0 H6 hq0 T2 pp H7 hpp T3
    intro kl hkl
    obtain ⟨hkl0, T4⟩ := T3.newAt (o := .lst fs) hkl
    revert T4
    generalize upd H7 kl (.lst fs) = H8
    intro T4
    clear T3 T2 T1 T
    obtain ⟨rn, rfl⟩ := Int.eq_ofNat_of_zero_le r0
    obtain ⟨st, est⟩ : ∃ st : Nat, (4090 : Int) + (rn : Int) = st := ⟨4090 + rn, by omega⟩
    have hst : 4090 ≤ st ∧ st < 4094 := by omega
    simp only [est] at T4 ⊢
    walk_at "rd"
    have hkn : ∀ J : Hp, Odd J (.int (st : Int)) := fun J => .int _
    refine ⟨_, _, _, _, rfl, .inr ⟨fl, fs, rfl, T4.is (fl, _) (by walk_at "mem"), by omega, .inr ⟨x, dx, _, rfl, T4.is (x, _) (by walk_at "mem"), .int _, .non, .inr (.inr ⟨st, 4096, f, n, us.map (·.1), rfl, .inl ⟨rfl, hfs.symm⟩, by omega, by omega, rfl, rule T4, (pk T4).keys, fun t m fr n' H9 ht e1 e2 ko rp => ?_⟩)⟩⟩⟩
    obtain ⟨rfl, rfl⟩ := run_flat rp fun i h1 h2 => hk i (by omega) h2
    clear rp
    obtain ⟨_, T5⟩ := T4.one1 (L' := [(kl, .lst fs), (pp, .tup [.int st, .int 1, .bl true, .ref q0]), (q0, .tup [.int 0]), (fl, .lst fs), (d, .dK (drw l1 o b a1)), (x, .ins A.C_Order dx (flds f n'))]) (by walk_at "chg") (.inr (by simp)) ko e2 ht e1
    clear T4
    walk_at "rd"
    rename_i u1 H10 hu1 T6
    have e4 : ((4096 : Int) - (st : Int)) = ((4096 - st : Nat) : Int) := by omega
    rw [e4] at T6
    refine rd_neT (T6.is (t, .tup [.int (4096 - st : Nat), .bl false]) (by walk_at "mem")) (T6.is (u1, .tup [.int (4096 - st : Nat), .bl false]) (by walk_at "mem")) rfl ?_
    walk_at "rd"
    walk_at "if0"
    refine ⟨_, _, _, rfl, .inr ⟨fl, fs, rfl, T6.is (fl, _) (by walk_at "mem"), by omega, .int _, .int _, .inr (.inr ⟨0, 4096, rfl, rfl, by omega, by omega, fun H11 e5 k5 => ?_⟩)⟩⟩
    have T7 := T6.one (L' := [(u1, .tup [.int (4096 - st : Nat), .bl false]), (t, .tup [.int (4096 - st : Nat), .bl false]), (kl, .lst fs), (pp, .tup [.int st, .int 1, .bl true, .ref q0]), (q0, .tup [.int 0]), (fl, .lst (turned fs 0 4096)), (d, .dK (drw l1 o b a1)), (x, .ins A.C_Order dx (flds f n'))]) (by walk_at "chg") (.inr (by simp)) k5 e5
    have tr : turned fs 0 4096 = fs.reverse := by rw [← hfs]; exact turned_all
    have tr2 : turned fs.reverse 0 4096 = fs := by
      have := turned_all (xs := fs.reverse)
      rw [List.length_reverse, hfs, List.reverse_reverse] at this
      exact this
    rw [tr] at T7
    clear T6 T5
    walk_at "rd"
    walk_at "if0"
    rename_i kr H12 hkr T8
    refine rd_neP (T8.is (fl, .lst fs.reverse) (by walk_at "mem")) (T8.is (kr, .lst fs.reverse) List.mem_cons_self) (pk T8).rev (pk T8).rev ?_
    walk_at "rd"
    walk_at "if0"
    refine ⟨rfl, rfl, _, _, _, rfl, .inr ⟨fl, fs.reverse, rfl, T8.is (fl, _) (by walk_at "mem"), by rw [List.length_reverse]; omega, .int _, .int _, .inr (.inr ⟨0, 4096, rfl, rfl, by omega, by rw [List.length_reverse]; omega, fun H13 e6 k6 => ?_⟩)⟩⟩
    have T9 := T8.one (L' := [(kr, .lst fs.reverse), (u1, .tup [.int (4096 - st : Nat), .bl false]), (t, .tup [.int (4096 - st : Nat), .bl false]), (kl, .lst fs), (pp, .tup [.int st, .int 1, .bl true, .ref q0]), (q0, .tup [.int 0]), (fl, .lst (turned fs.reverse 0 4096)), (d, .dK (drw l1 o b a1)), (x, .ins A.C_Order dx (flds f n'))]) (by walk_at "chg") (.inr (by simp)) k6 e6
    rw [tr2] at T9
    clear T8 T7
    walk_at "rd"
    walk_at "if0"
    refine rd_neP (T9.is (fl, .lst fs) (by walk_at "mem")) (T9.is (kl, .lst fs) (by walk_at "mem")) (pk T9) (pk T9) ?_
    have T10 : Hs H4 [d, x, fl] H13 [(pp, .tup [.int st, .int 1, .bl true, .ref q0]), (q0, .tup [.int 0]), (fl, .lst fs), (d, .dK (drw l1 o b a1)), (x, .ins A.C_Order dx (flds f n'))] := T9.sub (by walk_at "sub")
    clear T9
    walk_at "rd"
    walk_at "if0"
    have F : Fit ⟨st, 1, true, [0]⟩ fs.length := ⟨Nat.le_refl _, by show st + 1 + 1 ≤ fs.length; omega, fun i p h => by
      match i, h with
      | 0, h => cases h; omega
      | i + 1, h => simp at h⟩
    have lf := lay_len F
    refine ⟨_, _, rfl, .inr ⟨fl, fs, rfl, T10.is (fl, _) (by walk_at "mem"), by omega, .inl ⟨⟨st, 1, true, [0]⟩, ⟨pp, q0, rfl, T10.is (pp, .tup [.int st, .int 1, .bl true, .ref q0]) (by walk_at "mem"), T10.is (q0, .tup [.int 0]) (by walk_at "mem")⟩, F, fun H14 e7 k7 => ?_⟩⟩⟩
    have T11 := T10.one (L' := [(pp, .tup [.int st, .int 1, .bl true, .ref q0]), (q0, .tup [.int 0]), (fl, .lst (lay ⟨st, 1, true, [0]⟩ fs)), (d, .dK (drw l1 o b a1)), (x, .ins A.C_Order dx (flds f n'))]) (by walk_at "chg") (.inr (by simp)) k7 e7
    clear T10
    walk_at "rd"
    walk_at "if0"
    refine ⟨_, _, rfl, .inr ⟨fl, _, rfl, T11.is (fl, .lst (lay ⟨st, 1, true, [0]⟩ fs)) (by walk_at "mem"), by omega, .inl ⟨⟨st, 1, true, [0]⟩, fs, ⟨pp, q0, rfl, T11.is (pp, .tup [.int st, .int 1, .bl true, .ref q0]) (by walk_at "mem"), T11.is (q0, .tup [.int 0]) (by walk_at "mem")⟩, by rw [lf]; exact F, lf.symm, rfl, fun H15 e8 k8 => ?_⟩⟩⟩
    have T12 := T11.one (L' := [(pp, .tup [.int st, .int 1, .bl true, .ref q0]), (q0, .tup [.int 0]), (fl, .lst fs), (d, .dK (drw l1 o b a1)), (x, .ins A.C_Order dx (flds f n'))]) (by walk_at "chg") (.inr (by simp)) k8 e8
    clear T11
    walk_at "rd"
    walk_at "if0"
    refine ⟨rfl, rfl, _, _, _, _, rfl, .inr ⟨fl, fs, rfl, T12.is (fl, _) (by walk_at "mem"), by omega, .inr ⟨x, dx, _, rfl, T12.is (x, _) (by walk_at "mem"), .int _, .int _, .inr (.inr ⟨st, 2, f, n', us.map (·.1), rfl, rfl, by omega, by omega, by omega, rfl, rule T12, (pk T12).keys, fun i h1 h2 => hk i (by omega) (by omega), fun p q n2 H16 e9 e10 e11 e12 k9 => ?_⟩)⟩⟩⟩
    have T13 := T12.one (L' := [(pp, .tup [.int st, .int 1, .bl true, .ref q0]), (q0, .tup [.int 0]), (fl, .lst fs), (d, .dK (drw l1 o b a1)), (x, .ins A.C_Order dx (flds f n2))]) (by walk_at "chg") (.inr (by simp)) (fun b u e nx => by
      by_cases hb : b = fl
      · subst hb
        rw [T12.is (b, .lst fs) (by walk_at "mem")] at e
        rw [e11]; exact e
      · exact k9 b u e nx hb) e12
    clear T12
    have S13 := Hs.start0 H16
    walk_at "rd"
    rename_i w1 H17 hw1 S14 w2 H18 hw2 S15
    rw [hfs] at e9
    rw [e4] at S15
    refine rd_neT4 (S15.same _ _ e9) (S15.same _ _ e10) (S15.is (w2, .tup [.int st, .int (4096 - st : Nat), .bl false, .ref w1]) List.mem_cons_self) (S15.is (w1, .tup []) (by walk_at "mem")) ?_
    have T14 := T13.more S15.same
    clear S15 S14 S13 T13
    walk_at "rd"
    walk_at "if0"
    rename_i w3 H19 hw3 T15 H20 T16
    clear T15 T14
    refine ⟨.ref fl, .ref x, .non, _, _, _, _, rfl, .long (T16.is (fl, _) (by walk_at "mem")) (by rw [List.length_append, hfs]; simp), tabs T16, fun p2 ts H21 k10 tb10 e13 l13 a13 => ?_⟩
    have S17 := Hs.start0 H21
    walk_at "rd"
    rename_i u2 H22 hu2 S18 u3 H23 hu3 S19
    refine rd_repL S19 (by walk_at "mem") (by omega) (by omega) (Nat.le_of_lt (Rs.sz' (by simp))) fun v2 H24 hv2 S20 => ?_
    clear S19 S18 S17
    walk_at "rd"
    have aj2 := a13.pairs
    rw [l13] at aj2
    refine rd_eqF (its := List.replicate 7 ("many", .int 4096)) (S20.same _ _ e13) (aj2.ext (extN_same S20.same)) (S20.is (v2, _) List.mem_cons_self) (allP_rep (S20.is (u2, _) (by walk_at "mem")) 7) rfl (by decide +kernel) (by decide +kernel) ?_
    walk_at "rd"
    exact k H24 (tb10.ext S20.same) fun b u e n1 n2 n3 => S20.same _ _ (k10 _ _ (kq T16 b u e n1 n2) n3)
end
end K16

namespace K16
open PySem PySem.Spec PyProof.Rows L2 Rs Xc Xd Xg Xh Xi Xj Xk Xl
def sp_many (C : Addr) : Sp := fun vs H Q _ => ∃ (x dx f : Addr) (n : Int), vs = [.ref x] ∧ H x = some (.ins C dx (flds f n)) ∧ Q (.int n) H
def sp_law (K : PySem.W.Frag) : Sp := fun vs H Q _ => ∃ (a : Addr) (ns : List Int), vs = [.ref a] ∧ SqL K H a (ns.map V.int) ∧ ns.length ≤ 63 ∧ LamX.Tabs TT H ∧ ∀ H', Q (.bl true) H'
local macro_rules | `(tactic| walk_at "fv") => `(tactic| first | exact K16.fl_rule _ _ | exact K16.fl_times _ _ | exact K16.fl_counted _ _ | exact K16.fl_ahead _ _)
theorem Odd.but {H H' : Hp} {v : V} {d : Addr} {l o b a : Int} (h : Odd H v) (hd : H d = some (.dK (drw l o b a))) (hv : v ≠ .ref d) (k : ∀ x u, H x = some u → x ≠ d → H' x = some u) : Odd H' v := by
  cases h with
  | int i => exact .int i
  | bl b => exact .bl b
  | str x => exact .str x
  | non => exact .non
  | lst c xs h => exact .lst c xs (k _ _ h (ne_of h hd (fun z => by cases z)))
  | tup c xs h => exact .tup c xs (k _ _ h (ne_of h hd (fun z => by cases z)))
  | dct c kvs h => exact .dct c kvs (k _ _ h (fun z => hv (by rw [z])))
theorem BV.but {H H' : Hp} {v : V} {p : PyData} {d : Addr} {l o b a : Int} (h : BV H v p) (hd : H d = some (.dK (drw l o b a))) (k : ∀ x u, H x = some u → x ≠ d → H' x = some u) : BV H' v p := by
  cases h with
  | int i h => exact .int i h
  | bl b => exact .bl b
  | non => exact .non
  | str x h => exact .str x h
  | lst c i h e => exact .lst c i h (k _ _ e (ne_of e hd (fun z => by cases z)))
  | tup c i h e => exact .tup c i h (k _ _ e (ne_of e hd (fun z => by cases z)))
  | dct c e => exact .dct c (k _ _ e (ne_of e hd (fun z => by unfold drw at z; injection z with z; cases z)))
theorem NoL.but {A : Ad} {H H' : Hp} {v : V} {d : Addr} {l o b a : Int} (h : NoL A H v) (hd : H d = some (.dK (drw l o b a))) (hv : v ≠ .ref d) (k : ∀ x u, H x = some u → x ≠ d → H' x = some u) : NoL A H' v := by
  cases h with
  | odd o n =>
    refine .odd (o.but hd hv k) fun c xs e1 e2 => ?_
    cases o with
    | int i => cases e1
    | bl i => cases e1
    | str i => cases e1
    | non => cases e1
    | lst a' ys h => exact n _ _ rfl h
    | tup a' ys h => cases e1; rw [k _ _ h (ne_of h hd (fun z => by cases z))] at e2; cases e2
    | dct a' ys h => cases e1; rw [k _ _ h (fun z => hv (by rw [z]))] at e2; cases e2
  | ins h => exact .ins (k _ _ h (ne_of h hd (fun z => by cases z)))
theorem NoO.but {H H' : Hp} {v : V} {d : Addr} {l o b a : Int} (h : NoO H v) (hd : H d = some (.dK (drw l o b a))) (hv : v ≠ .ref d) (k : ∀ x u, H x = some u → x ≠ d → H' x = some u) : NoO H' v := by
  cases h with
  | odd o => exact .odd (o.but hd hv k)
  | fn h => exact .fn (k _ _ h (ne_of h hd (fun z => by unfold Xh.LamO at z; cases z)))
theorem Ppr.but {H H' : Hp} {v : V} {d : Addr} {l o b a : Int} (h : Ppr H v none) (hd : H d = some (.dK (drw l o b a))) (hv : v ≠ .ref d) (k : ∀ x u, H x = some u → x ≠ d → H' x = some u) : Ppr H' v none := by
  cases h with
  | no x o n =>
    refine .no v (o.but hd hv k) fun c xs e1 e2 => ?_
    cases o with
    | int i => cases e1
    | bl i => cases e1
    | str i => cases e1
    | non => cases e1
    | lst a' ys h => cases e1; rw [k _ _ h (ne_of h hd (fun z => by cases z))] at e2; cases e2
    | tup a' ys h => exact n _ _ rfl h
    | dct a' ys h => cases e1; rw [k _ _ h (fun z => hv (by rw [z]))] at e2; cases e2
  | len p vs h n => exact .len p vs (k _ _ h (ne_of h hd (fun z => by cases z))) n
theorem refd {H : Hp} {c d : Addr} {l o b a : Int} {u : HO} (hd : H d = some (.dK (drw l o b a))) (h : H c = some u) (hu : u ≠ .dK (drw l o b a)) : V.ref c ≠ V.ref d := fun z => by
  cases z
  rw [h] at hd
  exact hu (Option.some.inj hd)
theorem drw_ne {l o b a : Int} : HO.dK [] ≠ .dK (drw l o b a) := fun z => by unfold drw at z; injection z with z; cases z
theorem BV.nd {H : Hp} {v : V} {p : PyData} {d : Addr} {l o b a : Int} (h : BV H v p) (hd : H d = some (.dK (drw l o b a))) : v ≠ .ref d := by
  cases h with
  | int i h => exact fun z => by cases z
  | bl b => exact fun z => by cases z
  | non => exact fun z => by cases z
  | str x h => exact fun z => by cases z
  | lst c i h e => exact refd hd e (fun z => by cases z)
  | tup c i h e => exact refd hd e (fun z => by cases z)
  | dct c e => exact refd hd e drw_ne
section
variable {P : Program} {w : World} {K : PySem.W.Frag} {mg : Str → Option Value} {base : Heap} {A : Ad} {H H0 : Hp} {MM : List Addr} {L L' F : Led} {Q : VK} {E : XK}
local macro_rules | `(tactic| walk_at "rd1") => `(tactic| ((with_reducible refine' K16.use_take (by assumption) ?c ?o ?b1 ?b2 ?b3 ?b4 ?_); (case c => walk_at "chgF"); (case o => walk_at "own"); (case b1 => omega); (case b2 => omega); (case b3 => omega); (case b4 => omega); intro r l a H S h0 h1 h2 h3))
theorem ok_many (T : Txt K mg w A) : FnOk P w K mg base CX0 1 A.f_Order_many_asked A.d_Order_many_asked ["self"] (sp_many A.C_Order) := by
  refine T.c_Order_many_asked.F.ok sc_Order_many_asked (fun vs H Q E h => ?_) (fun cdv Ar outer s H vs Q E hr h => ?_)
  · obtain ⟨_, _, _, _, rfl, _⟩ := h; rfl
  · obtain ⟨x, dx, f, n, rfl, hx, k⟩ := h
    have cl_Order := T.cl_Order
    have na1 := T.na_Order_times_asked
    refine ⟨_, (pss_one (ps_ret (pe_fld (pv 0) rfl))), ?_⟩
    have S := Hs.start1 hx [] (.inl rfl)
    walk_at "st"
    walk_at "rd"
    exact k
theorem sq_ext {H' : Hp} {a : Addr} {xs : List V} (h : SqL K H a xs) (k : LamX.ExtN H H') : SqL K H' a xs := by
  rcases h with (h | ⟨o, h⟩) | h
  · exact .inl (.inl (k _ _ h (fun _ z => by cases z)))
  · exact .inl (.inr ⟨o, k _ _ h (fun _ z => by cases z)⟩)
  · exact .inr h
def tabsL (A : Ad) : List (Addr × Addr) := [(A.cc__law_empty_right, 469), (A.cc__law_papers_right, 462), (A.cc__law_numbers_right, 457), (A.cc__law_by_order, 450), (A.cc_right_spot, 317), (A.cc__law_by_row, 443), (A.cc_law, 481)]
theorem ok_law (T : Txt K mg w A) (TB : ∀ p ∈ [(A.cc__law_empty_right, 469), (A.cc__law_papers_right, 462), (A.cc__law_numbers_right, 457), (A.cc__law_by_order, 450), (A.cc_right_spot, 317), (A.cc__law_by_row, 443), (A.cc_law, 481)], LamX.TabB base mg p.1 p.2) : FnG P w K mg base 13 A.f_law A.d_law ["_law_script"] (sp_law K) := by
  have TBe := TB (A.cc__law_empty_right, 469) (by simp)
  have TBp := TB (A.cc__law_papers_right, 462) (by simp)
  have TBn := TB (A.cc__law_numbers_right, 457) (by simp)
  have TBo := TB (A.cc__law_by_order, 450) (by simp)
  have TBr := TB (A.cc__law_by_row, 443) (by simp)
  have TB : LamX.TabB base mg A.cc_law 481 := TB (A.cc_law, 481) (by simp)
  have G__law_begun : FnOk P w K mg base CX0 1 A.f__law_begun A.d__law_begun ["_law_script", "_law_k"] (sp_begun K) := ok_begun T
  have G__law_take : FnOk P w K mg base CX0 2 A.f__law_take A.d__law_take ["_law_state", "_law_count"] sp_take := ok_take T
  have G__law_size : FnOk P w K mg base CX0 3 A.f__law_size A.d__law_size ["_law_state"] sp_size := ok_size T
  have G__law_numbers : FnOk P w K mg base CX0 4 A.f__law_numbers A.d__law_numbers ["_law_state", "_law_count"] sp_numbers := ok_numbers T
  have G_Order___init__ : FnOk P w K mg base CX0 1 A.f_Order___init__ A.d_Order___init__ ["self", "rule"] (sp_oinit A.C_Order) := ok_oinit T
  have G_Order_many_asked : FnOk P w K mg base CX0 1 A.f_Order_many_asked A.d_Order_many_asked ["self"] (sp_many A.C_Order) := ok_many T
  have G__law_by_row : FnG P w K mg base 11 A.f__law_by_row A.d__law_by_row ["_law_bad", "_law_judge", "_law_odd"] (sp_byrow A) := ok_byrow T TBr
  have G__law_by_order : FnG P w K mg base 11 A.f__law_by_order A.d__law_by_order ["_law_line", "_law_none", "_law_odd"] (sp_byord A) := ok_byord T TBo
  have G__law_numbers_right : FnG P w K mg base 11 A.f__law_numbers_right A.d__law_numbers_right ["_law_line", "_law_judge", "_law_odd", "_law_low"] (sp_numr A) := ok_numr T TBn
  have G__law_papers_right : FnG P w K mg base 11 A.f__law_papers_right A.d__law_papers_right ["_law_line", "_law_judge", "_law_odd"] (sp_papr A) := ok_papr T TBp
  have G__law_empty_right : FnG P w K mg base 12 A.f__law_empty_right A.d__law_empty_right ["_law_judge", "_law_none", "_law_odd", "_law_low"] (sp_empr A) := ok_empr T TBe TBo
  have G__law_long_right : FnG P w K mg base 12 A.f__law_long_right A.d__law_long_right ["_law_state", "_law_line", "_law_judge"] (sp_long A) := ok_long T TBr
  have hmem : ((481 : Addr), qN "law") ∈ TT := by simp [TT]
  have huni : ∀ p ∈ TT, p.1 = 481 → p.2 = qN "law" := by
    intro p hp e
    simp only [TT, List.mem_cons, List.not_mem_nil, or_false] at hp
    rcases hp with rfl | rfl | rfl | rfl | rfl | rfl | rfl <;> first | exact absurd e (by decide) | rfl
  refine Xc.defGC T.cx_law sc_law (fun vs H Q E h => ?_) (fun Ar outer s H vs Q E cl hr h => ?_)
  · obtain ⟨a, ns, rfl, _⟩ := h; rfl
  · obtain ⟨sa, ns, rfl, hs, hn, tb, k⟩ := h
    refine ⟨_, (pss_cons (ps_for PassesOwn.never rfl (pi_range1 rfl T.n_range (pa_cons (pe_callB (call_max2 rfl) (by rfl) T.n_max PyProof.Rows.boot_max (pa_cons pe_int (pa_cons (pe_callB (call_min2 rfl) (by rfl) T.n_min PyProof.Rows.boot_min (pa_cons pe_int (pa_cons (pe_callB call_len_seq (by rfl) T.n_len PySem.boot_len (pa_cons (pv 0) pa_nil)) pa_nil))) pa_nil))) pa_nil)) (pg_name (i := 1) sc_law.nd rfl (Or.inl rfl))
        (pss_cons (ps_set (i := 2) sc_law.nd rfl (Or.inl rfl) (pe_call G__law_begun (hr.mono (by decide)) rfl T.c__law_begun.m T.c__law_begun.F.kp T.c__law_begun.b .nil pass0 (pa_cons (pv 0) (pa_cons (pv 1) pa_nil))))
        (pss_cons (ps_setLc (i := 3) (own := [("_law_mark", 13), ("_law_number", 14)]) (g := gTup K 2 (gCons (gName 13) (gCons (gName 14) gNil))) (tt := tYes) rfl sc_law.nd rfl rfl (by rfl) (pi_enum (by rfl) T.n_enumerate (pa_cons (pe_call G__law_numbers (hr.mono (by decide)) rfl T.c__law_numbers.m T.c__law_numbers.F.kp T.c__law_numbers.b .nil pass0 (pa_cons (pv 2) (pa_cons (pe_callB (call_max2 rfl) (by rfl) T.n_max PyProof.Rows.boot_max (pa_cons pe_int (pa_cons (pe_call G__law_size (hr.mono (by decide)) rfl T.c__law_size.m T.c__law_size.F.kp T.c__law_size.b .nil pass0 (pa_cons (pv 2) pa_nil)) pa_nil))) pa_nil))) pa_nil)) (blkOk_by (N := ["_law_script", "_law_k", "_law_state", "_law_line", "_law_kept", "_law_turn", "_law_judge", "_law_bad", "_law_rule", "_law_none", "_law_odd", "_law_low", "_law_second", "_law_mark", "_law_number"]) (sc := defScope s_law) (by decide +kernel)) (fun _ _ _ _ _ => (show PG _ _ (gTup K 2 (gCons (gName 13) (gCons (gName 14) gNil))) from (pg_tup rfl (pgs_cons (pg_name (i := 13) sc_law.nd rfl (Or.inl rfl)) (pgs_cons (pg_name (i := 14) sc_law.nd rfl (Or.inl rfl)) pgs_nil))))) (fun _ _ _ _ _ => pts_nil) (fun _ _ _ _ _ => (pe_tup (pa_cons (pv 14) (pa_cons (pv 13) pa_nil)))))
        (pss_cons (ps_set (i := 4) sc_law.nd rfl (Or.inl rfl) (pe_callTy call_list_of (by rfl) T.n_list (by decide +kernel) (pa_cons (pv 3) pa_nil)))
        (pss_cons (ps_for PassesOwn.never rfl (pi_range1 rfl T.n_range (pa_cons pe_int pa_nil)) (pg_name (i := 5) sc_law.nd rfl (Or.inl rfl))
          (pss_cons (ps_set (i := 6) sc_law.nd rfl (Or.inl rfl) (pe_make T.i_Order G_Order___init__ (hr.mono (by decide)) rfl T.m_Order T.c_Order___init__.b .nil pass0 (pa_cons (Xh.pe_lamv TB rfl hmem huni rfl (NdefX.ndef_free (fr := []) (by first | rfl | kernel_rfl))) pa_nil)))
          (pss_cons (ps_set (i := 7) sc_law.nd rfl (Or.inl rfl) (pe_ix ix_list (pe_lst (pa_cons pe_non (pa_cons pe_int (pa_cons pe_str (pa_cons (pe_callTy call_tuple_of (by rfl) T.n_tuple (by decide +kernel) (pa_cons (pv 3) pa_nil)) (pa_cons pe_dnewK (pa_cons pe_bl (pa_cons (pv 6) (pa_cons (pe_tup pa_nil) pa_nil))))))))) (pe_call G__law_take (hr.mono (by decide)) rfl T.c__law_take.m T.c__law_take.F.kp T.c__law_take.b .nil pass0 (pa_cons (pv 2) (pa_cons pe_int pa_nil))) (fun _ _ => rfl)))
          (pss_cons (ps_set (i := 8) sc_law.nd rfl (Or.inl rfl) (Xh.pe_lamv TB rfl hmem huni rfl (NdefX.ndef_free (fr := []) (by first | rfl | kernel_rfl))))
          (pss_cons (ps_set (i := 9) sc_law.nd rfl (Or.inl rfl) (pe_ix ix_list (pe_lst (pa_cons pe_non (pa_cons pe_int (pa_cons pe_str (pa_cons (pv 8) (pa_cons (pe_lst pa_nil) (pa_cons pe_dnewK (pa_cons pe_bl (pa_cons (pv 3) pa_nil))))))))) (pe_call G__law_take (hr.mono (by decide)) rfl T.c__law_take.m T.c__law_take.F.kp T.c__law_take.b .nil pass0 (pa_cons (pv 2) (pa_cons pe_int pa_nil))) (fun _ _ => rfl)))
          (pss_cons (ps_set (i := 10) sc_law.nd rfl (Or.inl rfl) (pe_ix ix_list (pe_lst (pa_cons (pe_un un_neg pe_int) (pa_cons (pe_op op_pow pe_int pe_int) (pa_cons pe_bl (pa_cons pe_bl (pa_cons pe_non (pa_cons pe_str (pa_cons (pe_lst (pa_cons pe_int pa_nil)) (pa_cons (pe_tup (pa_cons pe_int pa_nil)) (pa_cons pe_dnewK (pa_cons pe_int pa_nil))))))))))) (pe_call G__law_take (hr.mono (by decide)) rfl T.c__law_take.m T.c__law_take.F.kp T.c__law_take.b .nil pass0 (pa_cons (pv 2) (pa_cons pe_int pa_nil))) (fun _ _ => rfl)))
          (pss_cons (ps_set (i := 11) sc_law.nd rfl (Or.inl rfl) (pe_ix ix_list (pe_lst (pa_cons pe_int (pa_cons pe_int (pa_cons (pe_un un_neg pe_int) (pa_cons pe_bl (pa_cons pe_bl (pa_cons pe_str (pa_cons (pe_lst (pa_cons pe_int pa_nil)) (pa_cons (pe_tup (pa_cons pe_int pa_nil)) (pa_cons (pe_op op_pow pe_int pe_int) (pa_cons pe_dnewK pa_nil))))))))))) (pe_call G__law_take (hr.mono (by decide)) rfl T.c__law_take.m T.c__law_take.F.kp T.c__law_take.b .nil pass0 (pa_cons (pv 2) (pa_cons pe_int pa_nil))) (fun _ _ => rfl)))
          (pss_cons (ps_for PassesOwn.never rfl (pi_tup (pe_tup (pa_cons (pv 6) (pa_cons (pv 9) pa_nil)))) (pg_name (i := 12) sc_law.nd rfl (Or.inl rfl))
            (pss_one (ps_if (pt_cmpR (op_neD hr.units) (pe_callG G__law_by_row cl (hr.mono (by decide)) rfl T.c__law_by_row.m T.c__law_by_row.F.kp T.c__law_by_row.b .nil (pa_cons (pv 7) (pa_cons (pv 12) (pa_cons (pv 10) pa_nil)))) (pe_op op_rep (pe_lst (pa_cons (pe_tup (pa_cons pe_str (pa_cons pe_str pa_nil))) pa_nil)) pe_int) (nomark _))
              (pss_one (ps_ret pe_bl))
              pss_nil)))
          (pss_cons (ps_if (pt_cmpR (op_neD hr.units) (pe_callG G__law_by_order cl (hr.mono (by decide)) rfl T.c__law_by_order.m T.c__law_by_order.F.kp T.c__law_by_order.b .nil (pa_cons (pv 3) (pa_cons (pv 9) (pa_cons (pv 10) pa_nil)))) (pe_op op_rep (pe_lst (pa_cons (pe_tup (pa_cons pe_str (pa_cons pe_str pa_nil))) pa_nil)) pe_int) (nomark _))
            (pss_one (ps_ret pe_bl))
            pss_nil)
          (pss_cons (ps_if (PW.pt (pw_or (pt_not (pt_val (pe_callG G__law_numbers_right cl (hr.mono (by decide)) rfl T.c__law_numbers_right.m T.c__law_numbers_right.F.kp T.c__law_numbers_right.b .nil (pa_cons (pv 3) (pa_cons (pv 6) (pa_cons (pv 10) (pa_cons (pv 11) pa_nil))))))) (pw_or1 (pt_cmpR op_ne (pe_meth0 (pv 6) T.cl_Order T.h_Order_many_asked G_Order_many_asked (hr.mono (by decide)) T.c_Order_many_asked.b .nil pass0) pe_int (nomark _)))))
            (pss_one (ps_ret pe_bl))
            pss_nil)
          (pss_cons (ps_if (PW.pt (pw_or (pt_not (pt_val (pe_callG G__law_papers_right cl (hr.mono (by decide)) rfl T.c__law_papers_right.m T.c__law_papers_right.F.kp T.c__law_papers_right.b .nil (pa_cons (pv 3) (pa_cons (pv 6) (pa_cons (pv 10) pa_nil)))))) (pw_or1 (pt_cmpR (op_neD hr.units) (pv 3) (pv 4) (nomark _)))))
            (pss_one (ps_ret pe_bl))
            pss_nil)
          (pss_one (ps_if (pt_not (pt_val (pe_callG G__law_empty_right cl (hr.mono (by decide)) rfl T.c__law_empty_right.m T.c__law_empty_right.F.kp T.c__law_empty_right.b .nil (pa_cons (pv 6) (pa_cons (pv 9) (pa_cons (pv 10) (pa_cons (pv 11) pa_nil)))))))
            (pss_one (ps_ret pe_bl))
            pss_nil)))))))))))))
        (pss_one (ps_if (pt_not (pt_val (pe_callG G__law_long_right cl (hr.mono (by decide)) rfl T.c__law_long_right.m T.c__law_long_right.F.kp T.c__law_long_right.b .nil (pa_cons (pv 2) (pa_cons (pv 3) (pa_cons (pe_make T.i_Order G_Order___init__ (hr.mono (by decide)) rfl T.m_Order T.c_Order___init__.b .nil pass0 (pa_cons (Xh.pe_lamv TB rfl hmem huni rfl (NdefX.ndef_free (fr := []) (by first | rfl | kernel_rfl))) pa_nil)) pa_nil))))))
          (pss_one (ps_ret pe_bl))
          pss_nil)))))))
      (pss_one (ps_ret pe_bl))), ?_⟩
    have S := Hs.start0 H
    walk_at "st"
    walk_at "rd"
    refine ⟨sa, _, rfl, Or.inl hs, ?_⟩
    walk_at "rd"
    rw [List.length_map]
    refine fw_range (fun i σ H' => ∃ o1 o2 o3 o4 o5 o6 o7 o8 o9 o10 o11 o12 : Option V, σ = [some (.ref sa), o1, o2, o3, o4, o5, o6, o7, o8, o9, o10, o11, o12, none, none] ∧ LamX.Tabs TT H' ∧ SqL K H' sa (ns.map V.int)) ⟨_, _, _, _, _, _, _, _, _, _, _, _, rfl, tb, hs⟩ ?_ ?_
    · clear S
      rintro i σ H5 hi ⟨o1, o2, o3, o4, o5, o6, o7, o8, o9, o10, o11, o12, rfl, tb, hs⟩
      have hi12 : i < 12 := by
        split at hi <;> (try split at hi) <;> omega
      have S := Hs.start0 H5
      walk_at "rd"
      refine ⟨sa, ns, _, rfl, hs, hn, by omega, by omega, fun d l o b H6 hd hd' hsm => ?_⟩
      obtain ⟨hd0, S6⟩ := S.more1 hsm hd hd'
      clear S
      walk_at "rd"
      refine ⟨d, l, o, b, _, rfl, S6.get (by walk_at "mem"), by omega, by omega, fun m' l7 a7 H7 hd7 old7 m1 c1 c2 => ?_⟩
      have S7 := S6.one (o' := .dK (drw l7 o b a7)) (by walk_at "chg") (Or.inl hd0) old7 hd7
      clear S6
      walk_at "rd"
      obtain ⟨m, em, hm1, hm2⟩ : ∃ m : Nat, (if (m' : Int) > 1 then (m' : Int) else 1) = (m : Int) ∧ 1 ≤ m ∧ m ≤ 65 := by
        split
        · exact ⟨m', rfl, by omega, m1⟩
        · exact ⟨1, rfl, by omega, by omega⟩
      rw [em]
      refine ⟨d, l7, o, b, a7, m, rfl, S7.get (by walk_at "mem"), by omega, by omega, hm2, fun f zs l8 a8 H8 hf ef hd8 old8 hz c3 c4 => ?_⟩
      obtain ⟨hf0, S8⟩ := S7.one1 (o' := .dK (drw l8 o b a8)) (by walk_at "chg") (Or.inl hd0) old8 hd8 hf ef
      clear S7
      walk_at "rd"
      refine lcv_enum (xs := zs.map V.int) S8 (fun i acc L' => ∃ (TL : Led) (ps : List (Int × Int)), L' = (f, .lst (zs.map V.int)) :: (d, .dK (drw l8 o b a8)) :: TL ∧ acc.length = i ∧ ps.length = i ∧ ∀ (j : Nat) (v : V) (z : Int × Int), acc[j]? = some v → ps[j]? = some z → ∃ t, v = .ref t ∧ (t, HO.tup [.int z.1, .int z.2]) ∈ TL) ⟨[], [], rfl, rfl, rfl, fun j v z h => by simp at h⟩ (fun i H' acc D L' ⟨TL, ps, e, _⟩ S => by subst e; exact S.lst (by walk_at "mem")) ?_ ?_
      · rintro D j x acc L' H' U hx ⟨TL, ps, rfl, hal, hpl, hth⟩ hD S9 hU
        obtain ⟨hU0, S10⟩ := S9.newAt (o := .tup [.int (j : Nat), x]) hU
        obtain ⟨z, rfl⟩ : ∃ z, x = .int z := by
          have := List.mem_of_getElem? hx
          obtain ⟨z, _, rfl⟩ := List.mem_map.mp this
          exact ⟨z, rfl⟩
        walk_at "lc"
        rename_i p H11 hp S11
        refine Xg.rd_lvPut (acc := acc) (L1 := (f, .lst (zs.map V.int)) :: (d, .dK (drw l8 o b a8)) :: (p, .tup [.int z, .int (j : Int)]) :: TL) S11 (by walk_at "led") hD (Rs.sz' (by have := (List.getElem?_eq_some_iff.mp hx).1; rw [List.length_map] at this; omega)) ⟨(p, .tup [.int z, .int (j : Int)]) :: TL, ps ++ [(z, (j : Int))], rfl, by simp [hal], by simp [hpl], fun i v y h1 h2 => ?_⟩
        by_cases hi2 : i < acc.length
        · rw [List.getElem?_append_left hi2] at h1
          rw [List.getElem?_append_left (by omega)] at h2
          obtain ⟨t, e, mm⟩ := hth i v y h1 h2
          exact ⟨t, e, List.mem_cons_of_mem _ mm⟩
        · rw [List.getElem?_append_right (by omega)] at h1
          rw [List.getElem?_append_right (by omega)] at h2
          have e0 : i - acc.length = 0 := by
            have := (List.getElem?_eq_some_iff.mp h1).1
            simp at this
            omega
          rw [e0] at h1
          rw [show i - ps.length = 0 by omega] at h2
          cases h1
          cases h2
          exact ⟨p, rfl, List.mem_cons_self⟩
      · rintro D acc L' H9 ⟨TL, ps, rfl, hal, hpl, hth⟩ hD S9
        clear S8
        rw [List.length_map, hz] at hal hpl
        walk_at "rd"
        intro kl hkl
        obtain ⟨hkl0, S10⟩ := S9.newAt (o := .lst acc) hkl
        revert S10
        generalize upd H9 kl (.lst acc) = G0
        intro S10
        clear S9
        have gd0 := S10.get (a := d) (o := .dK (drw l8 o b a8)) (by walk_at "mem")
        have gD0 := S10.get (a := D) (o := .lst acc) (by walk_at "mem")
        have gk0 := S10.get (a := kl) (o := .lst acc) List.mem_cons_self
        have pr0 : Prs G0 acc ps := ⟨by omega, fun i v z h1 h2 => by
          obtain ⟨t, e, mm⟩ := hth i v z h1 h2
          exact ⟨t, e, S10.is (t, _) (by simp [mm])⟩⟩
        have ex0 : LamX.ExtN H5 G0 := extN_same S10.same
        have tb0 := tb.ext S10.same
        have dD : d ≠ D := ne_of gd0 gD0 (fun z => by cases z)
        clear S10 hth hf ef hd8 old8 hd7 old7 hsm hd' hd hkl
        walk_at "rd"
        refine fw_range (fun t σ G => ∃ (o5 o6 o7 o8 o9 o10 o11 o12 : Option V) (l' a' : Int), σ = [some (.ref sa), some (.int (0 + (i : Int))), some (.ref d), some (.ref D), some (.ref kl), o5, o6, o7, o8, o9, o10, o11, o12, none, none] ∧ G d = some (.dK (drw l' o b a')) ∧ 0 ≤ a' ∧ a' ≤ a8 + 10 * t ∧ G D = some (.lst acc) ∧ G kl = some (.lst acc) ∧ Prs G acc ps ∧ LamX.Tabs TT G ∧ LamX.ExtN H5 G)
          ⟨_, _, _, _, _, _, _, _, l8, a8, rfl, gd0, by omega, by omega, gD0, gk0, pr0, tb0, ex0⟩ ?_ ?_
        · clear gd0 gD0 gk0 pr0 tb0 ex0
          rintro t σ G ht ⟨o5, o6, o7, o8, o9, o10, o11, o12, l', a', rfl, gd, ga0, ga1, gD, gkl, gpr, gt, gx⟩
          have S := Hs.start1 gd [d] (.inr rfl)
          walk_at "rd"
          refine And.intro gt (fun fu c' HA eN nn tbA fu0 fuA ccA => ?_)
          refine (fun x dx hx hdx ne => ?_)
          refine ⟨x, dx, fu, rfl, upd_same, fun H10 e10 o10 => ⟨rfl, ?_⟩⟩
          have cA : ∀ b u, HA b = some u → H10 b = some u := fun b u e => o10 b u (by rw [upd_ne (ne_of_none e hx), upd_ne (ne_of_none e hdx)]; exact e) (ne_of_none e hx)
          have kA : LamX.ExtN G H10 := fun b u e n => cA b u (eN b u e n)
          have tbB : LamX.Tabs TT H10 := tbA.ext cA
          have gdB := kA _ _ gd (fun _ z => by cases z)
          have gDB := kA _ _ gD (fun _ z => by cases z)
          have gkB := kA _ _ gkl (fun _ z => by cases z)
          have prB : Prs H10 acc ps := gpr.keep fun b u e => kA _ _ e (fun _ z => by cases z)
          have exB : LamX.ExtN H5 H10 := gx.trans kA
          clear fuA ccA eN nn hx hdx ne tbA o10 cA kA gd gD gkl gpr gt gx fu0 S
          have dxB : d ≠ x := ne_of gdB e10 (fun z => by cases z)
          have DxB : D ≠ x := ne_of gDB e10 (fun z => by cases z)
          have S : Hs H10 [d] H10 [(d, .dK (drw l' o b a')), (D, .lst acc), (x, .ins A.C_Order dx (flds fu 0))] := Hs.start H10 [d] _ (by simp [dD, dxB, DxB]) (fun z hz => by
            simp only [List.mem_cons, List.not_mem_nil, or_false] at hz
            rcases hz with rfl | rfl | rfl
            · exact gdB
            · exact gDB
            · exact e10) (fun b hb => by
            simp only [List.mem_cons, List.not_mem_nil, or_false] at hb
            subst hb
            rw [gdB]; simp)
          walk_at "rd"
          refine ⟨D, acc, rfl, .inl ⟨S.lst (by walk_at "mem"), fun p1 hp1 => ?_⟩⟩
          obtain ⟨hp10, S1⟩ := S.newAt (o := .tup acc) hp1
          revert S1
          generalize upd H10 p1 (.tup acc) = H11
          intro S1
          walk_at "rd"
          intro b3 hb3
          obtain ⟨hb30, S2⟩ := S1.newAt (o := .dK []) hb3
          revert S2
          generalize upd H11 b3 (.dK []) = H12
          intro S2
          walk_at "rd"
          rename_i p2 H13 hp2 S3 l3 H14 hl3 S4 r5 l5 a5 G1 S5 y0 y1 y2 y3
          refine rd_ixAny S5 (by walk_at "mem") y0 (by simpa using y1) fun bad hbad _ => ?_
          have gd1 := S5.is (d, .dK (drw l5 o b a5)) (by walk_at "mem")
          obtain ⟨nl1, nd1⟩ : NoL A G1 bad ∧ bad ≠ .ref d := by
            simp only [List.mem_cons, List.not_mem_nil, or_false] at hbad
            rcases hbad with rfl | rfl | rfl | rfl | rfl | rfl | rfl | rfl
            · exact ⟨.odd .non (fun _ _ z => by cases z), fun z => by cases z⟩
            · exact ⟨.odd (.int _) (fun _ _ z => by cases z), fun z => by cases z⟩
            · exact ⟨.odd (.str _) (fun _ _ z => by cases z), fun z => by cases z⟩
            · have h := S5.is (p1, .tup acc) (by walk_at "mem")
              exact ⟨.odd (.tup _ _ h) (fun _ _ z e => by cases z; rw [h] at e; cases e), refd gd1 h (fun z => by cases z)⟩
            · have h := S5.is (b3, .dK []) (by walk_at "mem")
              exact ⟨.odd (.dct _ _ h) (fun _ _ z e => by cases z; rw [h] at e; cases e), refd gd1 h drw_ne⟩
            · exact ⟨.odd (.bl _) (fun _ _ z => by cases z), fun z => by cases z⟩
            · have h := S5.is (x, .ins A.C_Order dx (flds fu 0)) (by walk_at "mem")
              exact ⟨.ins h, refd gd1 h (fun z => by cases z)⟩
            · have h := S5.is (p2, .tup []) (by walk_at "mem")
              exact ⟨.odd (.tup _ _ h) (fun _ _ z e => by cases z; rw [h] at e; cases e), refd gd1 h (fun z => by cases z)⟩
          have o5 : ∀ b u, H10 b = some u → b ≠ d → G1 b = some u := fun b u e n => S5.old1 e n
          have tb1 : LamX.Tabs TT G1 := tabs_di tbB fun b u e n1 n2 => o5 b u e (ne_of e gdB (fun z => n1 _ z))
          have gD1 := S5.is (D, .lst acc) (by walk_at "mem")
          have gk1 := o5 _ _ gkB (ne_of gkB gdB (fun z => by cases z))
          have gx1 := S5.is (x, .ins A.C_Order dx (flds fu 0)) (by walk_at "mem")
          have pr1 : Prs G1 acc ps := prB.keep fun b u e => o5 _ _ e (ne_of e gdB (fun z => by cases z))
          have ex1 : LamX.ExtN H5 G1 := fun b u e n => o5 _ _ (exB b u e n) (fun z => by rw [z, hd0] at e; cases e)
          clear S5 S4 S3 S2 S1 S hbad o5 prB exB gdB gDB gkB e10 tbB hp1 hb3
          walk_at "rd"
          refine And.intro tb1 (fun f2 c2 HB eN nn tbC f20 f2A c2A => ?_)
          have gdC := eN _ _ gd1 (fun _ z => by cases z)
          have gDC := eN _ _ gD1 (fun _ z => by cases z)
          have gkC := eN _ _ gk1 (fun _ z => by cases z)
          have gxC := eN _ _ gx1 (fun _ z => by cases z)
          have prC : Prs HB acc ps := pr1.keep fun b u e => eN _ _ e (fun _ z => by cases z)
          have exC : LamX.ExtN H5 HB := ex1.trans eN
          have nlC := nl1.ext eN
          have noF : NoO HB (.ref f2) := .fn f2A
          obtain ⟨LF2, hLF2⟩ : ∃ F, HB f2 = some (Xh.LamO f2 F) := ⟨_, f2A⟩
          clear eN nn f20 f2A c2A noF gd1 gD1 gk1 gx1 pr1 ex1 nl1 tb1
          have S : Hs HB [d] HB [(d, .dK (drw l5 o b a5)), (D, .lst acc), (x, .ins A.C_Order dx (flds fu 0))] := Hs.start HB [d] _ (by simp [dD, dxB, DxB]) (fun z hz => by
            simp only [List.mem_cons, List.not_mem_nil, or_false] at hz
            rcases hz with rfl | rfl | rfl
            · exact gdC
            · exact gDC
            · exact gxC) (fun b hb => by
            simp only [List.mem_cons, List.not_mem_nil, or_false] at hb
            subst hb
            rw [gdC]; simp)
          walk_at "rd"
          rename_i p4 H15 hp4 S1
          intro b4 hb4
          obtain ⟨hb40, S2⟩ := S1.newAt (o := .dK []) hb4
          revert S2
          generalize upd H15 b4 (.dK []) = H16
          intro S2
          walk_at "rd"
          rename_i l4 H17 hl4 S3 r6 l6 a6 G2 S4 z0 z1 z2 z3
          refine rd_ixAny S4 (by walk_at "mem") z0 (by simpa using z1) fun nn hnn _ => ?_
          have gd2 := S4.is (d, .dK (drw l6 o b a6)) (by walk_at "mem")
          obtain ⟨no2, nd2⟩ : NoO G2 nn ∧ nn ≠ .ref d := by
            simp only [List.mem_cons, List.not_mem_nil, or_false] at hnn
            rcases hnn with rfl | rfl | rfl | rfl | rfl | rfl | rfl | rfl
            · exact ⟨.odd .non, fun z => by cases z⟩
            · exact ⟨.odd (.int _), fun z => by cases z⟩
            · exact ⟨.odd (.str _), fun z => by cases z⟩
            · have h := S4.old1 hLF2 (ne_of hLF2 gdC (fun z => by unfold Xh.LamO at z; cases z))
              exact ⟨.fn h, refd gd2 h (fun z => by unfold Xh.LamO at z; cases z)⟩
            · have h := S4.is (p4, .lst []) (by walk_at "mem")
              exact ⟨.odd (.lst _ _ h), refd gd2 h (fun z => by cases z)⟩
            · have h := S4.is (b4, .dK []) (by walk_at "mem")
              exact ⟨.odd (.dct _ _ h), refd gd2 h drw_ne⟩
            · exact ⟨.odd (.bl _), fun z => by cases z⟩
            · have h := S4.is (D, .lst acc) (by walk_at "mem")
              exact ⟨.odd (.lst _ _ h), refd gd2 h (fun z => by cases z)⟩
          have S5 : Hs HB [d] G2 [(d, .dK (drw l6 o b a6)), (D, .lst acc), (x, .ins A.C_Order dx (flds fu 0))] := S4.sub (by walk_at "sub")
          have o5 : ∀ b u, HB b = some u → b ≠ d → G2 b = some u := fun b u e n => S5.old1 e n
          have tb2 : LamX.Tabs TT G2 := tabs_di tbC fun b u e n1 n2 => o5 b u e (ne_of e gdC (fun z => n1 _ z))
          have gk2 := o5 _ _ gkC (ne_of gkC gdC (fun z => by cases z))
          have pr2 : Prs G2 acc ps := prC.keep fun b u e => o5 _ _ e (ne_of e gdC (fun z => by cases z))
          have ex2 : LamX.ExtN H5 G2 := fun b u e n => o5 _ _ (exC b u e n) (fun z => by rw [z, hd0] at e; cases e)
          have nl2 : NoL A G2 bad := nlC.but gdC nd1 o5
          have gD2 := S5.is (D, .lst acc) (by walk_at "mem")
          have gx2 := S5.is (x, .ins A.C_Order dx (flds fu 0)) (by walk_at "mem")
          clear S4 S3 S2 S1 S hnn o5 prC exC gdC gDC gkC gxC tbC hb4 hLF2 nlC hp4
          have S : Hs G2 [d] G2 [(d, .dK (drw l6 o b a6))] := Hs.start1 gd2 [d] (.inr rfl)
          clear S5
          walk_at "rd"
          rename_i q1 H18 hq1 S1 q2 H19 hq2 S2
          intro b5 hb5
          obtain ⟨hb50, S3⟩ := S2.newAt (o := .dK []) hb5
          revert S3
          generalize upd H19 b5 (.dK []) = H20
          intro S3
          walk_at "rd"
          rename_i l5' H21 hl5 S4 r7 l7' a7' G3 S5 w0 w1 w2 w3
          refine rd_ixAny S5 (by walk_at "mem") w0 (by simpa using w1) fun odd hodd _ => ?_
          have p30 : (10 : Int) ^ Int.toNat 30 = 1000000000000000000000000000000 := by decide +kernel
          obtain ⟨d1, B1, N1, R1⟩ : ∃ d1, BV G3 odd d1 ∧ NW odd 0 4096 ∧ Ppr G3 odd none := by
            simp only [List.mem_cons, List.not_mem_nil, or_false] at hodd
            rcases hodd with rfl | rfl | rfl | rfl | rfl | rfl | rfl | rfl | rfl | rfl
            · exact ⟨_, .int _ (by decide), nw_int (.inl (by omega)), .no _ (.int _) (fun _ _ z => by cases z)⟩
            · exact ⟨_, .int _ (by decide +kernel), nw_int (.inr (by omega)), .no _ (.int _) (fun _ _ z => by cases z)⟩
            · exact ⟨_, .bl _, fun _ _ _ _ => rfl, .no _ (.bl _) (fun _ _ z => by cases z)⟩
            · exact ⟨_, .bl _, fun _ _ _ _ => rfl, .no _ (.bl _) (fun _ _ z => by cases z)⟩
            · exact ⟨_, .non, fun _ _ _ _ => rfl, .no _ .non (fun _ _ z => by cases z)⟩
            · exact ⟨_, .str _ (.inl rfl), fun _ _ _ _ => rfl, .no _ (.str _) (fun _ _ z => by cases z)⟩
            · have h := S5.is (q1, .lst [.int 0]) (by walk_at "mem")
              exact ⟨_, .lst _ 0 (.inl rfl) h, fun _ _ _ _ => rfl, .no _ (.lst _ _ h) (fun _ _ z e => by cases z; rw [h] at e; cases e)⟩
            · have h := S5.is (q2, .tup [.int 0]) (by walk_at "mem")
              exact ⟨_, .tup _ 0 (.inl rfl) h, fun _ _ _ _ => rfl, .len _ _ h (by simp)⟩
            · have h := S5.is (b5, .dK []) (by walk_at "mem")
              exact ⟨_, .dct _ h, fun _ _ _ _ => rfl, .no _ (.dct _ _ h) (fun _ _ z e => by cases z; rw [h] at e; cases e)⟩
            · exact ⟨_, .int _ (by omega), nw_int (.inr (by omega)), .no _ (.int _) (fun _ _ z => by cases z)⟩
          have o6 : ∀ b u, G2 b = some u → b ≠ d → G3 b = some u := fun b u e n => S5.old1 e n
          have gd3 := S5.is (d, .dK (drw l7' o b a7')) (by walk_at "mem")
          clear S5 S4 S3 S2 S1 S hodd hb5 hq1 hq2
          have S : Hs G3 [d] G3 [(d, .dK (drw l7' o b a7'))] := Hs.start1 gd3 [d] (.inr rfl)
          walk_at "rd"
          rename_i q3 H22 hq3 S1 q4 H23 hq4 S2
          intro b6 hb6
          obtain ⟨hb60, S3⟩ := S2.newAt (o := .dK []) hb6
          revert S3
          generalize upd H23 b6 (.dK []) = H24
          intro S3
          walk_at "rd"
          rename_i l6' H25 hl6 S4 r8 l8' a8' G4 S5 v0 v1 v2 v3
          refine rd_ixAny S5 (by walk_at "mem") v0 (by simpa using v1) fun low hlow _ => ?_
          obtain ⟨d2, B2, N2, hnon⟩ : ∃ d2, BV G4 low d2 ∧ NW low 1 64 ∧ low ≠ .non := by
            simp only [List.mem_cons, List.not_mem_nil, or_false] at hlow
            rcases hlow with rfl | rfl | rfl | rfl | rfl | rfl | rfl | rfl | rfl | rfl
            · exact ⟨_, .int _ (by decide), nw_int (.inl (by omega)), fun z => by cases z⟩
            · exact ⟨_, .int _ (by decide), nw_int (.inr (by omega)), fun z => by cases z⟩
            · exact ⟨_, .int _ (by decide), nw_int (.inl (by omega)), fun z => by cases z⟩
            · exact ⟨_, .bl _, fun _ _ _ _ => rfl, fun z => by cases z⟩
            · exact ⟨_, .bl _, fun _ _ _ _ => rfl, fun z => by cases z⟩
            · exact ⟨_, .str _ (.inr rfl), fun _ _ _ _ => rfl, fun z => by cases z⟩
            · exact ⟨_, .lst _ 8 (.inr rfl) (S5.is (q3, .lst [.int 8]) (by walk_at "mem")), fun _ _ _ _ => rfl, fun z => by cases z⟩
            · exact ⟨_, .tup _ 8 (.inr rfl) (S5.is (q4, .tup [.int 8]) (by walk_at "mem")), fun _ _ _ _ => rfl, fun z => by cases z⟩
            · exact ⟨_, .int _ (by decide +kernel), nw_int (.inr (by omega)), fun z => by cases z⟩
            · exact ⟨_, .dct _ (S5.is (b6, .dK []) (by walk_at "mem")), fun _ _ _ _ => rfl, fun z => by cases z⟩
          have o7 : ∀ b u, G3 b = some u → b ≠ d → G4 b = some u := fun b u e n => S5.old1 e n
          have gd4 := S5.is (d, .dK (drw l8' o b a8')) (by walk_at "mem")
          have o8 : ∀ b u, G2 b = some u → b ≠ d → G4 b = some u := fun b u e n => o7 _ _ (o6 _ _ e n) n
          have tb4 : LamX.Tabs TT G4 := tabs_di tb2 fun b u e n1 n2 => o8 b u e (ne_of e gd2 (fun z => n1 _ z))
          have gD4 := o8 _ _ gD2 (Ne.symm dD)
          have gk4 := o8 _ _ gk2 (ne_of gk2 gd2 (fun z => by cases z))
          have gx4 := o8 _ _ gx2 (Ne.symm dxB)
          have pr4 : Prs G4 acc ps := pr2.keep fun b u e => o8 _ _ e (ne_of e gd2 (fun z => by cases z))
          have ex4 : LamX.ExtN H5 G4 := fun b u e n => o8 _ _ (ex2 b u e n) (fun z => by rw [z, hd0] at e; cases e)
          have nl4 : NoL A G4 bad := nl2.but gd2 nd1 o8
          have no4 : NoO G4 nn := no2.but gd2 nd2 o8
          have B14 : BV G4 odd d1 := B1.but gd3 o7
          have R14 : Ppr G4 odd none := R1.but gd3 (B1.nd gd3) o7
          clear S5 S4 S3 S2 S1 S hlow hb6 hq3 hq4 o6 o7 o8 gd3 gd2 gD2 gk2 gx2 pr2 ex2 nl2 no2 tb2 B1 R1
          have S := Hs.start0 G4
          walk_at "rd"
          rename_i pq J0 hpq S1
          have x1 := extN_same S1.same
          have jp0 := S1.is (pq, _) List.mem_cons_self
          have jt0 := tb4.ext S1.same
          clear S1 S
          refine fw_tup (xs := [.ref x, nn]) (fun j σ J => ∃ o12 : Option V, σ = [some (.ref sa), some (.int (0 + (i : Int))), some (.ref d), some (.ref D), some (.ref kl), some (.int (0 + (t : Int))), some (.ref x), some bad, some (.ref f2), some nn, some odd, some low, o12, none, none] ∧ LamX.Tabs TT J ∧ LamX.ExtN G4 J ∧ J pq = some (.tup [.ref x, nn])) ⟨_, rfl, jt0, x1, jp0⟩ (fun j σ J _ ⟨_, _, _, _, e⟩ => SqT.of e) ?_ ?_
          · rintro j y σ J ej ⟨o12, rfl, jt, jx, jp⟩
            walk_at "rd"
            refine ⟨bad, y, odd, _, _, _, _, rfl, .no (nl4.ext jx), jt, fun p ts J1 k1 t1 e1 l1 a1 => ?_⟩
            have S := Hs.start0 J1
            walk_at "rd"
            rename_i u1 J2 hu1 S1 u2 J3 hu2 S2
            refine rd_repL S2 (by walk_at "mem") (by omega) (by omega) (Nat.le_of_lt (Rs.sz' (by simp))) fun u3 J4 hu3 S3 => ?_
            clear S2 S1 S
            have a2 := a1.pairs
            rw [l1] at a2
            walk_at "rd"
            refine rd_neF (its := List.replicate 7 ("kind", .str "list")) (S3.same _ _ e1) (a2.ext (extN_same S3.same)) (S3.is (u3, _) List.mem_cons_self) (allP_rep (S3.is (u1, _) (by walk_at "mem")) 7) rfl (by decide +kernel) (by decide +kernel) ?_
            walk_at "rd"
            walk_at "if0"
            exact ⟨_, rfl, t1.ext S3.same, (jx.trans k1).trans (extN_same S3.same), S3.same _ _ (k1 _ _ jp (fun _ z => by cases z))⟩
          · rintro σ J ⟨o12, rfl, jt, jx, -⟩
            clear jt0 jp0 x1
            have kD := jx _ _ gD4 (fun _ z => by cases z)
            walk_at "rd"
            refine ⟨D, nn, odd, acc, rfl, kD, by omega, no4.ext jx, jt, fun p ts J1 k1 t1 e1 l1 a1 => ?_⟩
            have S := Hs.start0 J1
            walk_at "rd"
            rename_i u1 J2 hu1 S1 u2 J3 hu2 S2
            refine rd_repL S2 (by walk_at "mem") (by omega) (by omega) (Nat.le_of_lt (Rs.sz' (by simp))) fun u3 J4 hu3 S3 => ?_
            clear S2 S1 S
            have a2 := a1.pairs
            rw [l1] at a2
            walk_at "rd"
            refine rd_neF (its := List.replicate 4 ("kind", .str "Order")) (S3.same _ _ e1) (a2.ext (extN_same S3.same)) (S3.is (u3, _) List.mem_cons_self) (allP_rep (S3.is (u1, _) (by walk_at "mem")) 4) rfl (by decide +kernel) (by decide +kernel) ?_
            have m4 := (jx.trans k1).trans (extN_same S3.same)
            have n4 := t1.ext S3.same
            clear S3 a2 a1 e1 t1 k1 kD jx jt
            walk_at "rd"
            walk_at "if0"
            refine ⟨D, x, dx, odd, low, d1, d2, acc, flds fu 0, rfl, m4 _ _ gD4 (fun _ z => by cases z), by omega, by omega, m4 _ _ gx4 (fun _ z => by cases z), B14.ext m4, N1, B2.ext m4, N2, hnon, n4, fun J5 k5 t5 => ?_⟩
            have m5 := m4.trans k5
            walk_at "rd"
            walk_at "if0"
            refine ⟨x, dx, _, rfl, m5 _ _ gx4 (fun _ z => by cases z), by rfl, ⟨x, dx, fu, 0, rfl, m5 _ _ gx4 (fun _ z => by cases z), ?_⟩⟩
            walk_at "rd"
            refine rd_decF (by simp) ?_
            walk_at "rd"
            refine ⟨D, x, dx, odd, acc, flds fu 0, rfl, m5 _ _ gD4 (fun _ z => by cases z), by omega, by omega, m5 _ _ gx4 (fun _ z => by cases z), R14.ext m5, t5, fun J6 k6 t6 => ?_⟩
            have m6 := m5.trans k6
            walk_at "rd"
            walk_at "if0"
            have p6 : Prs J6 acc ps := pr4.keep fun b u e => m6 _ _ e (fun _ z => by cases z)
            refine rd_neP (m6 _ _ gD4 (fun _ z => by cases z)) (m6 _ _ gk4 (fun _ z => by cases z)) p6 p6 ?_
            walk_at "rd"
            walk_at "if0"
            refine ⟨x, dx, nn, odd, low, d1, d2, flds fu 0, rfl, m6 _ _ gx4 (fun _ z => by cases z), no4.ext m6, B14.ext m6, N1, R14.ext m6, B2.ext m6, N2, hnon, t6, fun J7 k7 t7 => ?_⟩
            have m7 := m6.trans k7
            walk_at "rd"
            walk_at "if0"
            exact ⟨_, _, _, _, _, _, _, _, l8', a8', rfl, m7 _ _ gd4 (fun _ z => by cases z), by omega, by omega, m7 _ _ gD4 (fun _ z => by cases z), m7 _ _ gk4 (fun _ z => by cases z), pr4.keep (fun b u e => m7 _ _ e (fun _ z => by cases z)), t7, ex4.trans m7⟩
        · rintro σ G ⟨o5, o6, o7, o8, o9, o10, o11, o12, l', a', rfl, gd, ga0, ga1, gD, gkl, gpr, gt, gx⟩
          walk_at "rd"
          refine And.intro gt (fun fu c' HA eN nn tbA fu0 fuA ccA => ?_)
          refine (fun x dx hx hdx ne => ?_)
          refine ⟨x, dx, fu, rfl, upd_same, fun H10 e10 o10 => ⟨rfl, ?_⟩⟩
          have cA : ∀ b u, HA b = some u → H10 b = some u := fun b u e => o10 b u (by rw [upd_ne (ne_of_none e hx), upd_ne (ne_of_none e hdx)]; exact e) (ne_of_none e hx)
          have kA : LamX.ExtN G H10 := fun b u e n => cA b u (eN b u e n)
          have rA : RuleAt H10 fu := ⟨c', cA _ _ fuA, cA _ _ ccA⟩
          have hx5 : ∀ u, H5 x = some u → (∀ ps, u ≠ .tbl ps) → False := fun u e n => by
            have h1 := eN x u (gx x u e n) n
            rw [hx] at h1
            cases h1
          walk_at "rd"
          refine ⟨d, D, x, dx, fu, l', o, b, a', 0, acc, ps, rfl, kA _ _ gd (fun _ z => by cases z), ga0, by omega, kA _ _ gD (fun _ z => by cases z), gpr.keep (fun b u e => kA _ _ e (fun _ z => by cases z)), by omega, e10, rA, tbA.ext cA, fun G5 t5 k5 => ?_⟩
          walk_at "rd"
          walk_at "if0"
          refine ⟨_, _, _, _, _, _, _, _, _, _, _, _, rfl, t5, sq_ext hs fun b u e n => k5 b u (kA _ _ (gx _ _ e n) n) (fun z => by rw [z, hd0] at e; cases e) (fun z => hx5 u (by rw [← z]; exact e) n) n⟩
    · rintro σ H9 ⟨_, _, _, _, _, _, _, _, _, _, _, _, rfl, _⟩
      walk_at "rd"
      exact k _
end
end K16

namespace K16
open PySem PySem.Spec PyProof.Rows L2 Rs Xc Xd Xg Xh Xi Xj Xk Xl
theorem end_law (K : PySem.W.Frag) (H : Hp) (a : Addr) (ns : List Int) (hn : ns.length ≤ 63) (_ : ∀ z ∈ ns, Builtin.Int.intBits z ≤ 1048576) (hT : ∀ p ∈ [469, 462, 457, 450, 317, 443, 481], H p = some (.tbl #[])) (h : SqL K H a (ns.map V.int)) : sp_law K [.ref a] H (fun v _ => v = .bl true) E0 :=
  ⟨a, ns, rfl, h, hn, fun p hp => by
    simp only [TT, List.mem_cons, List.not_mem_nil, or_false] at hp
    rcases hp with rfl | rfl | rfl | rfl | rfl | rfl | rfl <;> exact LamX.TabS.nil (hT _ (by simp)), fun _ => rfl⟩
end K16

namespace K16
end K16
open PySem PySem.W PyProof.Rows
set_option maxRecDepth 100000 in
set_option maxHeartbeats 0 in
theorem PySem.Challenge.cw_runsort_k16_doors_of_runs_and_pieces_holds : PySem.Challenge.rw_runsort_k16_doors_of_runs_and_pieces.Holds := by
  w_on; o_law; k_head; (case hw => w_witness2)
  k_fill
  refine Xc.walkGT (ts := [469, 462, 457, 450, 317, 443, 481]) (n := 63) (k := 13) (st := K16.s_law) (x := "_law_script") (sp := K16.sp_law) rfl (by decide) rfl ⟨rfl, by decide, by decide⟩ (fun w h Y => PySem.W.km_in_of Y) (fun w h Y => PySem.W.km_tabs_of Y) rfl (fun _ _ _ _ _ _ _ => rfl) ?F K16.end_law
  case F =>
    intro w mg h KX G
    obtain ⟨A, T⟩ : ∃ A, K16.Txt _ mg w A := by
      refine' K16.all_mk (w := w) KX G ?a_SortError ?ini_SortError ?dic_SortError ?bex_SortError ?kpc_SortError ?xcl_SortError ?xga_SortError ?xgg_SortError ?xha_SortError ?xhn_SortError ?xht_SortError ?xhm_SortError ?rd_SortError ?rg_SortError ?a_BadPaper ?ini_BadPaper ?ovr_BadPaper ?dic_BadPaper ?sav_BadPaper ?bex_BadPaper ?tyc_BadPaper ?kpc_BadPaper ?xcl_BadPaper ?xga_BadPaper ?xgg_BadPaper ?xha_BadPaper ?xhn_BadPaper ?xht_BadPaper ?xhm_BadPaper ?tk_BadPaper_at ?na_BadPaper_at ?a_BadPaper___init__ ?y_BadPaper___init__ ?l_BadPaper___init__ ?e_BadPaper___init__ ?k_BadPaper___init__ ?v_BadPaper ?a_BadKind ?ini_BadKind ?ovr_BadKind ?dic_BadKind ?sav_BadKind ?bex_BadKind ?tyc_BadKind ?kpc_BadKind ?xcl_BadKind ?xga_BadKind ?xgg_BadKind ?xha_BadKind ?xhn_BadKind ?xht_BadKind ?xhm_BadKind ?tk_BadKind_wanted ?na_BadKind_wanted ?a_BadKind___init__ ?y_BadKind___init__ ?l_BadKind___init__ ?e_BadKind___init__ ?k_BadKind___init__ ?v_BadKind ?a_BadNumber ?ini_BadNumber ?ovr_BadNumber ?dic_BadNumber ?sav_BadNumber ?bex_BadNumber ?tyc_BadNumber ?kpc_BadNumber ?xcl_BadNumber ?xga_BadNumber ?xgg_BadNumber ?xha_BadNumber ?xhn_BadNumber ?xht_BadNumber ?xhm_BadNumber ?tk_BadNumber_at ?na_BadNumber_at ?a_BadNumber___init__ ?y_BadNumber___init__ ?l_BadNumber___init__ ?e_BadNumber___init__ ?k_BadNumber___init__ ?v_BadNumber ?a_TooMany ?ini_TooMany ?ovr_TooMany ?dic_TooMany ?sav_TooMany ?bex_TooMany ?tyc_TooMany ?kpc_TooMany ?xcl_TooMany ?xga_TooMany ?xgg_TooMany ?xha_TooMany ?xhn_TooMany ?xht_TooMany ?xhm_TooMany ?tk_TooMany_most ?na_TooMany_most ?a_TooMany___init__ ?y_TooMany___init__ ?l_TooMany___init__ ?e_TooMany___init__ ?k_TooMany___init__ ?v_TooMany ?a_BadText ?a_NoSuch ?a_BadAnswer ?a_Stopped ?a_Order ?pg_Order ?hd_Order ?po_Order ?sa_Order ?mk_Order ?kc_Order ?na_Order_own_rule ?na_Order_times_asked ?a_Order___init__ ?i_Order___init__ ?l_Order___init__ ?e_Order___init__ ?k_Order___init__ ?a_Order_counted ?i_Order_counted ?l_Order_counted ?e_Order_counted ?k_Order_counted ?a_Order_ahead ?i_Order_ahead ?l_Order_ahead ?e_Order_ahead ?k_Order_ahead ?a_Order_many_asked ?i_Order_many_asked ?l_Order_many_asked ?e_Order_many_asked ?k_Order_many_asked ?rd_Order ?rg_Order ?vi_Order ?a_is_whole ?l_is_whole ?e_is_whole ?k_is_whole ?dd_is_whole ?a_need_row ?l_need_row ?e_need_row ?k_need_row ?a_need_order ?l_need_order ?e_need_order ?k_need_order ?a_least_run ?l_least_run ?e_least_run ?k_least_run ?a_need_end ?l_need_end ?e_need_end ?k_need_end ?dd_need_end ?a_run_at ?l_run_at ?e_run_at ?k_run_at ?dd_run_at ?dl_run_at ?do_run_at ?dr_run_at ?a_turn_run ?l_turn_run ?e_turn_run ?k_turn_run ?a_are_spots ?l_are_spots ?e_are_spots ?k_are_spots ?a_piece_fits ?l_piece_fits ?e_piece_fits ?k_piece_fits ?a_right_spot ?l_right_spot ?e_right_spot ?nt_right_spot ?ht_right_spot ?k_right_spot ?dd_right_spot ?a_need_least ?l_need_least ?e_need_least ?k_need_least ?a_cut_piece ?l_cut_piece ?e_cut_piece ?k_cut_piece ?dd_cut_piece ?dl_cut_piece ?do_cut_piece ?dr_cut_piece ?a_cut_pieces ?l_cut_pieces ?e_cut_pieces ?k_cut_pieces ?dd_cut_pieces ?a_need_piece ?l_need_piece ?e_need_piece ?k_need_piece ?a_lay_piece ?l_lay_piece ?e_lay_piece ?k_lay_piece ?a_lay_back ?l_lay_back ?e_lay_back ?k_lay_back ?a_is_spot ?l_is_spot ?e_is_spot ?k_is_spot ?a_is_told ?l_is_told ?e_is_told ?k_is_told ?a_check_pieces ?l_check_pieces ?e_check_pieces ?k_check_pieces ?dd_check_pieces ?a__law_mixed ?l__law_mixed ?e__law_mixed ?k__law_mixed ?a__law_begun ?l__law_begun ?e__law_begun ?k__law_begun ?a__law_take ?l__law_take ?e__law_take ?k__law_take ?a__law_runs ?l__law_runs ?e__law_runs ?k__law_runs ?a__law_numbers ?l__law_numbers ?e__law_numbers ?k__law_numbers ?a__law_size ?l__law_size ?e__law_size ?k__law_size ?a__law_word ?l__law_word ?e__law_word ?k__law_word ?a__law_said ?l__law_said ?e__law_said ?k__law_said ?a__law_by_row ?l__law_by_row ?e__law_by_row ?nt__law_by_row ?ht__law_by_row ?k__law_by_row ?a__law_by_order ?l__law_by_order ?e__law_by_order ?nt__law_by_order ?ht__law_by_order ?k__law_by_order ?a__law_numbers_right ?l__law_numbers_right ?e__law_numbers_right ?nt__law_numbers_right ?ht__law_numbers_right ?k__law_numbers_right ?a__law_papers_right ?l__law_papers_right ?e__law_papers_right ?nt__law_papers_right ?ht__law_papers_right ?k__law_papers_right ?a__law_empty_right ?l__law_empty_right ?e__law_empty_right ?nt__law_empty_right ?ht__law_empty_right ?k__law_empty_right ?a__law_long_right ?l__law_long_right ?e__law_long_right ?k__law_long_right ?a_law ?l_law ?e_law ?nt_law ?ht_law ?k_law ?g_MOST_THINGS ?r_MOST_THINGS ?g_LEAST ?r_LEAST ?g_MOST_LEAST ?r_MOST_LEAST ?g_MOST_GROWN ?r_MOST_GROWN ?x_stat ?x_any_BadPaper ?x_kit_BadPaper ?x_any_BadKind ?x_kit_BadKind ?x_any_BadNumber ?x_kit_BadNumber ?x_any_TooMany ?x_kit_TooMany ?x_i_Order ?x_il_Order ?x_io_int ?x_io_bool ?x_io_str ?x_io_non ?x_io_lst ?x_io_tup ?x_io_dct ?x_io_fun ?x_oha_Order ?x_ohm_Order ?x_ohn ?x_oht ?z_len ?z_min ?z_max ?z_range ?z_repr ?z_isinstance ?z_int ?z_bool ?z_str ?z_tuple ?z_list ?z_enumerate ?z_sum ?z_zip ?z_divmod ?z_all ?z_TypeError ?z_IndexError ?z_OverflowError ?z_RuntimeError ?z_Exception
      (case a_SortError => k_is)
      (case ini_SortError => first | k_is | kx_is | kts_exm | kit_is | kernel_rfl)
      (case dic_SortError => first | k_is | kx_is | kts_exm | kit_is | kernel_rfl)
      (case bex_SortError => first | k_is | kx_is | kts_exm | kit_is | kernel_rfl)
      (case kpc_SortError => first | k_is | kx_is | kts_exm | kit_is | kernel_rfl)
      (case xcl_SortError => first | k_is | kx_is | kts_exm | kit_is | kernel_rfl)
      (case xga_SortError => first | k_is | kx_is | kts_exm | kit_is | kernel_rfl)
      (case xgg_SortError => first | k_is | kx_is | kts_exm | kit_is | kernel_rfl)
      (case xha_SortError => first | k_is | kx_is | kts_exm | kit_is | kernel_rfl)
      (case xhn_SortError => first | k_is | kx_is | kts_exm | kit_is | kernel_rfl)
      (case xht_SortError => first | k_is | kx_is | kts_exm | kit_is | kernel_rfl)
      (case xhm_SortError => first | k_is | kx_is | kts_exm | kit_is | kernel_rfl)
      (case rd_SortError => first | k_is | kx_is | kts_exm | kit_is | kernel_rfl)
      (case rg_SortError => first | k_is | kx_is | kts_exm | kit_is | kernel_rfl)
      (case a_BadPaper => k_is)
      (case ini_BadPaper => first | k_is | kx_is | kts_exm | kit_is | kernel_rfl)
      (case ovr_BadPaper => first | k_is | kx_is | kts_exm | kit_is | kernel_rfl)
      (case dic_BadPaper => first | k_is | kx_is | kts_exm | kit_is | kernel_rfl)
      (case sav_BadPaper => first | k_is | kx_is | kts_exm | kit_is | kernel_rfl)
      (case bex_BadPaper => first | k_is | kx_is | kts_exm | kit_is | kernel_rfl)
      (case tyc_BadPaper => first | k_is | kx_is | kts_exm | kit_is | kernel_rfl)
      (case kpc_BadPaper => first | k_is | kx_is | kts_exm | kit_is | kernel_rfl)
      (case xcl_BadPaper => first | k_is | kx_is | kts_exm | kit_is | kernel_rfl)
      (case xga_BadPaper => first | k_is | kx_is | kts_exm | kit_is | kernel_rfl)
      (case xgg_BadPaper => first | k_is | kx_is | kts_exm | kit_is | kernel_rfl)
      (case xha_BadPaper => first | k_is | kx_is | kts_exm | kit_is | kernel_rfl)
      (case xhn_BadPaper => first | k_is | kx_is | kts_exm | kit_is | kernel_rfl)
      (case xht_BadPaper => first | k_is | kx_is | kts_exm | kit_is | kernel_rfl)
      (case xhm_BadPaper => first | k_is | kx_is | kts_exm | kit_is | kernel_rfl)
      (case tk_BadPaper_at => first | k_is | kx_is | kts_exm | kit_is | kernel_rfl)
      (case na_BadPaper_at => first | k_is | kx_is | kts_exm | kit_is | kernel_rfl)
      (case a_BadPaper___init__ => k_is)
      (case y_BadPaper___init__ => k_is)
      (case l_BadPaper___init__ => k_is)
      (case e_BadPaper___init__ => k_is)
      (case k_BadPaper___init__ => k_is)
      (case v_BadPaper => first | k_is | kx_is | kts_exm | kit_is | kernel_rfl)
      (case a_BadKind => k_is)
      (case ini_BadKind => first | k_is | kx_is | kts_exm | kit_is | kernel_rfl)
      (case ovr_BadKind => first | k_is | kx_is | kts_exm | kit_is | kernel_rfl)
      (case dic_BadKind => first | k_is | kx_is | kts_exm | kit_is | kernel_rfl)
      (case sav_BadKind => first | k_is | kx_is | kts_exm | kit_is | kernel_rfl)
      (case bex_BadKind => first | k_is | kx_is | kts_exm | kit_is | kernel_rfl)
      (case tyc_BadKind => first | k_is | kx_is | kts_exm | kit_is | kernel_rfl)
      (case kpc_BadKind => first | k_is | kx_is | kts_exm | kit_is | kernel_rfl)
      (case xcl_BadKind => first | k_is | kx_is | kts_exm | kit_is | kernel_rfl)
      (case xga_BadKind => first | k_is | kx_is | kts_exm | kit_is | kernel_rfl)
      (case xgg_BadKind => first | k_is | kx_is | kts_exm | kit_is | kernel_rfl)
      (case xha_BadKind => first | k_is | kx_is | kts_exm | kit_is | kernel_rfl)
      (case xhn_BadKind => first | k_is | kx_is | kts_exm | kit_is | kernel_rfl)
      (case xht_BadKind => first | k_is | kx_is | kts_exm | kit_is | kernel_rfl)
      (case xhm_BadKind => first | k_is | kx_is | kts_exm | kit_is | kernel_rfl)
      (case tk_BadKind_wanted => first | k_is | kx_is | kts_exm | kit_is | kernel_rfl)
      (case na_BadKind_wanted => first | k_is | kx_is | kts_exm | kit_is | kernel_rfl)
      (case a_BadKind___init__ => k_is)
      (case y_BadKind___init__ => k_is)
      (case l_BadKind___init__ => k_is)
      (case e_BadKind___init__ => k_is)
      (case k_BadKind___init__ => k_is)
      (case v_BadKind => first | k_is | kx_is | kts_exm | kit_is | kernel_rfl)
      (case a_BadNumber => k_is)
      (case ini_BadNumber => first | k_is | kx_is | kts_exm | kit_is | kernel_rfl)
      (case ovr_BadNumber => first | k_is | kx_is | kts_exm | kit_is | kernel_rfl)
      (case dic_BadNumber => first | k_is | kx_is | kts_exm | kit_is | kernel_rfl)
      (case sav_BadNumber => first | k_is | kx_is | kts_exm | kit_is | kernel_rfl)
      (case bex_BadNumber => first | k_is | kx_is | kts_exm | kit_is | kernel_rfl)
      (case tyc_BadNumber => first | k_is | kx_is | kts_exm | kit_is | kernel_rfl)
      (case kpc_BadNumber => first | k_is | kx_is | kts_exm | kit_is | kernel_rfl)
      (case xcl_BadNumber => first | k_is | kx_is | kts_exm | kit_is | kernel_rfl)
      (case xga_BadNumber => first | k_is | kx_is | kts_exm | kit_is | kernel_rfl)
      (case xgg_BadNumber => first | k_is | kx_is | kts_exm | kit_is | kernel_rfl)
      (case xha_BadNumber => first | k_is | kx_is | kts_exm | kit_is | kernel_rfl)
      (case xhn_BadNumber => first | k_is | kx_is | kts_exm | kit_is | kernel_rfl)
      (case xht_BadNumber => first | k_is | kx_is | kts_exm | kit_is | kernel_rfl)
      (case xhm_BadNumber => first | k_is | kx_is | kts_exm | kit_is | kernel_rfl)
      (case tk_BadNumber_at => first | k_is | kx_is | kts_exm | kit_is | kernel_rfl)
      (case na_BadNumber_at => first | k_is | kx_is | kts_exm | kit_is | kernel_rfl)
      (case a_BadNumber___init__ => k_is)
      (case y_BadNumber___init__ => k_is)
      (case l_BadNumber___init__ => k_is)
      (case e_BadNumber___init__ => k_is)
      (case k_BadNumber___init__ => k_is)
      (case v_BadNumber => first | k_is | kx_is | kts_exm | kit_is | kernel_rfl)
      (case a_TooMany => k_is)
      (case ini_TooMany => first | k_is | kx_is | kts_exm | kit_is | kernel_rfl)
      (case ovr_TooMany => first | k_is | kx_is | kts_exm | kit_is | kernel_rfl)
      (case dic_TooMany => first | k_is | kx_is | kts_exm | kit_is | kernel_rfl)
      (case sav_TooMany => first | k_is | kx_is | kts_exm | kit_is | kernel_rfl)
      (case bex_TooMany => first | k_is | kx_is | kts_exm | kit_is | kernel_rfl)
      (case tyc_TooMany => first | k_is | kx_is | kts_exm | kit_is | kernel_rfl)
      (case kpc_TooMany => first | k_is | kx_is | kts_exm | kit_is | kernel_rfl)
      (case xcl_TooMany => first | k_is | kx_is | kts_exm | kit_is | kernel_rfl)
      (case xga_TooMany => first | k_is | kx_is | kts_exm | kit_is | kernel_rfl)
      (case xgg_TooMany => first | k_is | kx_is | kts_exm | kit_is | kernel_rfl)
      (case xha_TooMany => first | k_is | kx_is | kts_exm | kit_is | kernel_rfl)
      (case xhn_TooMany => first | k_is | kx_is | kts_exm | kit_is | kernel_rfl)
      (case xht_TooMany => first | k_is | kx_is | kts_exm | kit_is | kernel_rfl)
      (case xhm_TooMany => first | k_is | kx_is | kts_exm | kit_is | kernel_rfl)
      (case tk_TooMany_most => first | k_is | kx_is | kts_exm | kit_is | kernel_rfl)
      (case na_TooMany_most => first | k_is | kx_is | kts_exm | kit_is | kernel_rfl)
      (case a_TooMany___init__ => k_is)
      (case y_TooMany___init__ => k_is)
      (case l_TooMany___init__ => k_is)
      (case e_TooMany___init__ => k_is)
      (case k_TooMany___init__ => k_is)
      (case v_TooMany => first | k_is | kx_is | kts_exm | kit_is | kernel_rfl)
      (case a_BadText => k_is)
      (case a_NoSuch => k_is)
      (case a_BadAnswer => k_is)
      (case a_Stopped => k_is)
      (case a_Order => k_is)
      (case pg_Order => k_is)
      (case hd_Order => k_is)
      (case po_Order => k_is)
      (case sa_Order => k_is)
      (case mk_Order => k_is)
      (case kc_Order => k_is)
      (case na_Order_own_rule => k_is)
      (case na_Order_times_asked => k_is)
      (case a_Order___init__ => k_is)
      (case i_Order___init__ => k_is)
      (case l_Order___init__ => k_is)
      (case e_Order___init__ => k_is)
      (case k_Order___init__ => k_is)
      (case a_Order_counted => k_is)
      (case i_Order_counted => k_is)
      (case l_Order_counted => k_is)
      (case e_Order_counted => k_is)
      (case k_Order_counted => k_is)
      (case a_Order_ahead => k_is)
      (case i_Order_ahead => k_is)
      (case l_Order_ahead => k_is)
      (case e_Order_ahead => k_is)
      (case k_Order_ahead => k_is)
      (case a_Order_many_asked => k_is)
      (case i_Order_many_asked => k_is)
      (case l_Order_many_asked => k_is)
      (case e_Order_many_asked => k_is)
      (case k_Order_many_asked => k_is)
      (case rd_Order => first | k_is | kx_is | kts_exm | kit_is | kernel_rfl)
      (case rg_Order => first | k_is | kx_is | kts_exm | kit_is | kernel_rfl)
      (case vi_Order => first | k_is | kx_is | kts_exm | kit_is | kernel_rfl)
      (case a_is_whole => k_is)
      (case l_is_whole => k_is)
      (case e_is_whole => k_is)
      (case k_is_whole => k_is)
      (case dd_is_whole => (intro q hq; simp only [List.mem_cons, List.not_mem_nil, or_false] at hq; rcases hq with rfl | rfl <;> (dsimp only; refine' Rs.ex_u ?_ ?_; rotate_left; k_is; first | exact ⟨_, rfl⟩ | exact rfl)))
      (case a_need_row => k_is)
      (case l_need_row => k_is)
      (case e_need_row => k_is)
      (case k_need_row => k_is)
      (case a_need_order => k_is)
      (case l_need_order => k_is)
      (case e_need_order => k_is)
      (case k_need_order => k_is)
      (case a_least_run => k_is)
      (case l_least_run => k_is)
      (case e_least_run => k_is)
      (case k_least_run => k_is)
      (case a_need_end => k_is)
      (case l_need_end => k_is)
      (case e_need_end => k_is)
      (case k_need_end => k_is)
      (case dd_need_end => (intro q hq; simp only [List.mem_cons, List.not_mem_nil, or_false] at hq; rcases hq with rfl <;> (dsimp only; refine' Rs.ex_u ?_ ?_; rotate_left; k_is; first | exact ⟨_, rfl⟩ | exact rfl)))
      (case a_run_at => k_is)
      (case l_run_at => k_is)
      (case e_run_at => k_is)
      (case k_run_at => k_is)
      (case dd_run_at => (intro q hq; simp only [List.mem_cons, List.not_mem_nil, or_false] at hq; rcases hq with rfl <;> (dsimp only; refine' Rs.ex_u ?_ ?_; rotate_left; k_is; first | exact ⟨_, rfl⟩ | exact rfl)))
      (case dl_run_at => k_is)
      (case do_run_at => rfl)
      (case dr_run_at => first | exact .cons ⟨_, rfl⟩ .nil | exact .cons rfl .nil)
      (case a_turn_run => k_is)
      (case l_turn_run => k_is)
      (case e_turn_run => k_is)
      (case k_turn_run => k_is)
      (case a_are_spots => k_is)
      (case l_are_spots => k_is)
      (case e_are_spots => k_is)
      (case k_are_spots => k_is)
      (case a_piece_fits => k_is)
      (case l_piece_fits => k_is)
      (case e_piece_fits => k_is)
      (case k_piece_fits => k_is)
      (case a_right_spot => k_is)
      (case l_right_spot => k_is)
      (case e_right_spot => k_is)
      (case nt_right_spot => first | k_is | kernel_rfl)
      (case ht_right_spot => first | k_is | kernel_rfl)
      (case k_right_spot => k_is)
      (case dd_right_spot => (intro q hq; simp only [List.mem_cons, List.not_mem_nil, or_false] at hq; rcases hq with rfl | rfl <;> (dsimp only; refine' Rs.ex_u ?_ ?_; rotate_left; k_is; first | exact ⟨_, rfl⟩ | exact rfl)))
      (case a_need_least => k_is)
      (case l_need_least => k_is)
      (case e_need_least => k_is)
      (case k_need_least => k_is)
      (case a_cut_piece => k_is)
      (case l_cut_piece => k_is)
      (case e_cut_piece => k_is)
      (case k_cut_piece => k_is)
      (case dd_cut_piece => (intro q hq; simp only [List.mem_cons, List.not_mem_nil, or_false] at hq; rcases hq with rfl <;> (dsimp only; refine' Rs.ex_u ?_ ?_; rotate_left; k_is; first | exact ⟨_, rfl⟩ | exact rfl)))
      (case dl_cut_piece => k_is)
      (case do_cut_piece => rfl)
      (case dr_cut_piece => first | exact .cons ⟨_, rfl⟩ .nil | exact .cons rfl .nil)
      (case a_cut_pieces => k_is)
      (case l_cut_pieces => k_is)
      (case e_cut_pieces => k_is)
      (case k_cut_pieces => k_is)
      (case dd_cut_pieces => (intro q hq; simp only [List.mem_cons, List.not_mem_nil, or_false] at hq; rcases hq with rfl <;> (dsimp only; refine' Rs.ex_u ?_ ?_; rotate_left; k_is; first | exact ⟨_, rfl⟩ | exact rfl)))
      (case a_need_piece => k_is)
      (case l_need_piece => k_is)
      (case e_need_piece => k_is)
      (case k_need_piece => k_is)
      (case a_lay_piece => k_is)
      (case l_lay_piece => k_is)
      (case e_lay_piece => k_is)
      (case k_lay_piece => k_is)
      (case a_lay_back => k_is)
      (case l_lay_back => k_is)
      (case e_lay_back => k_is)
      (case k_lay_back => k_is)
      (case a_is_spot => k_is)
      (case l_is_spot => k_is)
      (case e_is_spot => k_is)
      (case k_is_spot => k_is)
      (case a_is_told => k_is)
      (case l_is_told => k_is)
      (case e_is_told => k_is)
      (case k_is_told => k_is)
      (case a_check_pieces => k_is)
      (case l_check_pieces => k_is)
      (case e_check_pieces => k_is)
      (case k_check_pieces => k_is)
      (case dd_check_pieces => (intro q hq; simp only [List.mem_cons, List.not_mem_nil, or_false] at hq; rcases hq with rfl <;> (dsimp only; refine' Rs.ex_u ?_ ?_; rotate_left; k_is; first | exact ⟨_, rfl⟩ | exact rfl)))
      (case a__law_mixed => k_is)
      (case l__law_mixed => k_is)
      (case e__law_mixed => k_is)
      (case k__law_mixed => k_is)
      (case a__law_begun => k_is)
      (case l__law_begun => k_is)
      (case e__law_begun => k_is)
      (case k__law_begun => k_is)
      (case a__law_take => k_is)
      (case l__law_take => k_is)
      (case e__law_take => k_is)
      (case k__law_take => k_is)
      (case a__law_runs => k_is)
      (case l__law_runs => k_is)
      (case e__law_runs => k_is)
      (case k__law_runs => k_is)
      (case a__law_numbers => k_is)
      (case l__law_numbers => k_is)
      (case e__law_numbers => k_is)
      (case k__law_numbers => k_is)
      (case a__law_size => k_is)
      (case l__law_size => k_is)
      (case e__law_size => k_is)
      (case k__law_size => k_is)
      (case a__law_word => k_is)
      (case l__law_word => k_is)
      (case e__law_word => k_is)
      (case k__law_word => k_is)
      (case a__law_said => k_is)
      (case l__law_said => k_is)
      (case e__law_said => k_is)
      (case k__law_said => k_is)
      (case a__law_by_row => k_is)
      (case l__law_by_row => k_is)
      (case e__law_by_row => k_is)
      (case nt__law_by_row => first | k_is | kernel_rfl)
      (case ht__law_by_row => first | k_is | kernel_rfl)
      (case k__law_by_row => k_is)
      (case a__law_by_order => k_is)
      (case l__law_by_order => k_is)
      (case e__law_by_order => k_is)
      (case nt__law_by_order => first | k_is | kernel_rfl)
      (case ht__law_by_order => first | k_is | kernel_rfl)
      (case k__law_by_order => k_is)
      (case a__law_numbers_right => k_is)
      (case l__law_numbers_right => k_is)
      (case e__law_numbers_right => k_is)
      (case nt__law_numbers_right => first | k_is | kernel_rfl)
      (case ht__law_numbers_right => first | k_is | kernel_rfl)
      (case k__law_numbers_right => k_is)
      (case a__law_papers_right => k_is)
      (case l__law_papers_right => k_is)
      (case e__law_papers_right => k_is)
      (case nt__law_papers_right => first | k_is | kernel_rfl)
      (case ht__law_papers_right => first | k_is | kernel_rfl)
      (case k__law_papers_right => k_is)
      (case a__law_empty_right => k_is)
      (case l__law_empty_right => k_is)
      (case e__law_empty_right => k_is)
      (case nt__law_empty_right => first | k_is | kernel_rfl)
      (case ht__law_empty_right => first | k_is | kernel_rfl)
      (case k__law_empty_right => k_is)
      (case a__law_long_right => k_is)
      (case l__law_long_right => k_is)
      (case e__law_long_right => k_is)
      (case k__law_long_right => k_is)
      (case a_law => k_is)
      (case l_law => k_is)
      (case e_law => k_is)
      (case nt_law => first | k_is | kernel_rfl)
      (case ht_law => first | k_is | kernel_rfl)
      (case k_law => k_is)
      (case g_MOST_THINGS => k_is)
      (case r_MOST_THINGS => first | exact ⟨_, rfl⟩ | exact rfl)
      (case g_LEAST => k_is)
      (case r_LEAST => first | exact ⟨_, rfl⟩ | exact rfl)
      (case g_MOST_LEAST => k_is)
      (case r_MOST_LEAST => first | exact ⟨_, rfl⟩ | exact rfl)
      (case g_MOST_GROWN => k_is)
      (case r_MOST_GROWN => first | exact ⟨_, rfl⟩ | exact rfl)
      (case x_stat => first | k_is | kx_is | kts_exm | kit_is | kernel_rfl)
      (case x_any_BadPaper => first | k_is | kx_is | kts_exm | kit_is | kernel_rfl)
      (case x_kit_BadPaper => first | k_is | kx_is | kts_exm | kit_is | kernel_rfl)
      (case x_any_BadKind => first | k_is | kx_is | kts_exm | kit_is | kernel_rfl)
      (case x_kit_BadKind => first | k_is | kx_is | kts_exm | kit_is | kernel_rfl)
      (case x_any_BadNumber => first | k_is | kx_is | kts_exm | kit_is | kernel_rfl)
      (case x_kit_BadNumber => first | k_is | kx_is | kts_exm | kit_is | kernel_rfl)
      (case x_any_TooMany => first | k_is | kx_is | kts_exm | kit_is | kernel_rfl)
      (case x_kit_TooMany => first | k_is | kx_is | kts_exm | kit_is | kernel_rfl)
      (case x_i_Order => first | k_is | kx_is | kts_exm | kit_is | kernel_rfl)
      (case x_il_Order => first | k_is | kx_is | kts_exm | kit_is | kernel_rfl)
      (case x_io_int => first | k_is | kx_is | kts_exm | kit_is | kernel_rfl)
      (case x_io_bool => first | k_is | kx_is | kts_exm | kit_is | kernel_rfl)
      (case x_io_str => first | k_is | kx_is | kts_exm | kit_is | kernel_rfl)
      (case x_io_non => first | k_is | kx_is | kts_exm | kit_is | kernel_rfl)
      (case x_io_lst => first | k_is | kx_is | kts_exm | kit_is | kernel_rfl)
      (case x_io_tup => first | k_is | kx_is | kts_exm | kit_is | kernel_rfl)
      (case x_io_dct => first | k_is | kx_is | kts_exm | kit_is | kernel_rfl)
      (case x_io_fun => first | k_is | kx_is | kts_exm | kit_is | kernel_rfl)
      (case x_oha_Order => first | k_is | kx_is | kts_exm | kit_is | kernel_rfl)
      (case x_ohm_Order => first | k_is | kx_is | kts_exm | kit_is | kernel_rfl)
      (case x_ohn => first | k_is | kx_is | kts_exm | kit_is | kernel_rfl)
      (case x_oht => first | k_is | kx_is | kts_exm | kit_is | kernel_rfl)
      (case z_len => k_is)
      (case z_min => k_is)
      (case z_max => k_is)
      (case z_range => k_is)
      (case z_repr => k_is)
      (case z_isinstance => k_is)
      (case z_int => k_is)
      (case z_bool => k_is)
      (case z_str => k_is)
      (case z_tuple => k_is)
      (case z_list => k_is)
      (case z_enumerate => k_is)
      (case z_sum => k_is)
      (case z_zip => k_is)
      (case z_divmod => k_is)
      (case z_all => k_is)
      (case z_TypeError => k_is)
      (case z_IndexError => k_is)
      (case z_OverflowError => k_is)
      (case z_RuntimeError => k_is)
      (case z_Exception => k_is)
    refine ⟨[(A.cc__law_empty_right, 469), (A.cc__law_papers_right, 462), (A.cc__law_numbers_right, 457), (A.cc__law_by_order, 450), (A.cc_right_spot, 317), (A.cc__law_by_row, 443), (A.cc_law, 481)], rfl, ?_, ?_, _, _, T.c_law, fun base TB => K16.ok_law T TB⟩
    · intro p hp; simp only [List.mem_cons, List.not_mem_nil, or_false] at hp; rcases hp with rfl | rfl | rfl | rfl | rfl | rfl | rfl; exact T.nt__law_empty_right; exact T.nt__law_papers_right; exact T.nt__law_numbers_right; exact T.nt__law_by_order; exact T.nt_right_spot; exact T.nt__law_by_row; exact T.nt_law
    · intro p hp; simp only [List.mem_cons, List.not_mem_nil, or_false] at hp; rcases hp with rfl | rfl | rfl | rfl | rfl | rfl | rfl; exact T.ht__law_empty_right; exact T.ht__law_papers_right; exact T.ht__law_numbers_right; exact T.ht__law_by_order; exact T.ht_right_spot; exact T.ht__law_by_row; exact T.ht_law
