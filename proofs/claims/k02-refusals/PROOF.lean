import PyProof.Rows.All
import Wide.All
import OpenK.AllK
import Wide.FinOn
import HandS.ForMost
import HandS.EndBits
import HandS.Defaults
import HandS.WideBits
import HandS.Style
import HandS.IsInst
import HandS.NoneIn
import HandS.More
import HandS.MakeKwOnly
import HandS.CallLocal
import HandS.SortKw
import HandS.TupMul
import HandS.TupAny
import KE.DataMinMax
import KE.KMinKey
import HandS.FStr
import HandS.SlotsOwn
import HandS.Codes
import HandS.Walk
import HandS.ExcInit
import KE.KExcInit
import HandS.ExcField
import HandS.ExcIs
import HandS.ExcOwn
import HandS.Lambda
import HandS.TryMany
import KE.KExcIs
import PyProof.Rows.RuleDivmod
import HandS.EndTab
import KE.KNestM
import HandS.WordsExc
import HandS.Conv
import HandS.SetFor
import PyProof.Rows.IntBool
import PyProof.StrReplace2
import HandS.DeepEq
import PyProof.Rows.SeqMore
import HandS.ClsMeth
import HandS.ExcValue
import PyProof.StrBlock2
import PyProof.ReprNest
import KE.KExcLine
import KE.RegKTryMore
import PySem.Challenge.RW_runsort_k02_families_of_refusals
set_option Elab.async false
set_option maxRecDepth 100000
set_option maxHeartbeats 4000000
namespace Rs
open PySem PySem.Spec PyProof.Rows L2

/-! ### a promise that is kept while no text of a container is under way -/
def Clr (A : Around) : Prop := A.guards = some []
theorem Clr.deep {A : Around} (c : Clr A) (e : Env) : Clr (A.deeper e) := c

structure FnG (P : Program) (w : World) (K : PySem.W.Frag) (mg : Str → Option Value) (base : Heap) (k : Nat) (f : Addr) (fd : FuncData) (ps : List Str) (sp : Sp) : Prop where
  many : ∀ vs H Q E, sp vs H Q E → vs.length = ps.length
  go : ∀ (A : Around) (o : List Env) (s : Shared) (H : Hp) (us : List Value) (a : Args) (vs : List V) (Q : VK) (E : XK), Clr A → Room k A → Env0 P w K mg base A o s H →
    BindsTo s fd a (ps.zip us) → Vals vs us → sp vs H Q E → codeAny (model P w) A (.call (.ref f) a) (CR CX0 o P w H s Q E) s
theorem FnG.up {P : Program} {w : World} {K : PySem.W.Frag} {mg : Str → Option Value} {base : Heap} {j k : Nat} {f : Addr} {fd : FuncData} {ps : List Str} {sp : Sp}
    (F : FnG P w K mg base j f fd ps sp) (h : j ≤ k) : FnG P w K mg base k f fd ps sp :=
  ⟨F.many, fun A o s H us a vs Q E c r => F.go A o s H us a vs Q E c (r.mono h)⟩
theorem FnG.of {P : Program} {w : World} {K : PySem.W.Frag} {mg : Str → Option Value} {base : Heap} {k : Nat} {f : Addr} {fd : FuncData} {ps : List Str} {sp : Sp}
    (F : FnOk P w K mg base CX0 k f fd ps sp) : FnG P w K mg base k f fd ps sp :=
  ⟨F.len, fun A o s H us a vs Q E _ r e b v h => F.run A o s H a us vs Q E r e b v h⟩

section
variable {P : Program} {w : World} {K : PySem.W.Frag} {mg : Str → Option Value} {base : Heap}
/-- a def by its body, as FnG -/
theorem defG {x qual : Str} {st : Stmt} {f : Addr} {fd : FuncData} {N ps : List Str} {k : Nat} {sp : Sp} (F : Fun K x qual st f fd) (S : FnScope N ps (defScope st))
    (many : ∀ vs H Q E, sp vs H Q E → vs.length = ps.length)
    (body : ∀ (cdv : Value) (A : Around) (o : List Env) (s : Shared) (H : Hp) (vs : List V) (Q : VK) (E : XK), Clr A →
      Room k (A.deeper (envOfC qual (defScope st) s.heap.objs.size f cdv)) → sp vs H Q E →
      ∃ t, PSs (cxOf CX0 P w K mg base N qual (defScope st) f cdv A o s H E).nox (defBody st) t ∧ t { nx := fun _ H' => Q .non H', rt := Q } (start N vs) H) :
    FnG P w K mg base (k + 1) f fd ps sp := by
  obtain ⟨oc, od, kV, doc, pm, an, cdv, ct, osl, rfl, lk, hcd⟩ := F.ex
  refine ⟨many, ?_⟩
  intro A o s H us a vs Q E c r e0 hb rv hsp
  obtain ⟨t, ht, hq⟩ := body cdv A o s H vs Q E c (r.deeper _) hsp
  have inK : ∀ b ob, K.lookup b = some ob → s.heap.get? b = some ob := fun b ob e => (e0.bs b ob (e0.mod.kin b ob e)).1
  have noL : s.heap.NoLimit := e0.mod.nolimit.keeps fun b ob e => (e0.bs b ob e).1
  refine codeAny_call_function r.depth (inK _ _ lk) rfl S.co S.gen rfl (PySem.W.codeRec_of inK hcd) (hb _ _ _ _ ?_)
  refine wpAny_newFunctionEnv_cells S.kind ?_ ?_
  · rintro ⟨n, v⟩ hy
    rcases S.par n (List.of_mem_zip hy).1 with q | q
    · exact Or.inl q
    · exact Or.inr ⟨q, PySem.W.cellsFrom_some _ _ _ (Or.inl q)⟩
  · intro env he s1 x1
    subst he
    refine ⟨noL.keeps x1.toInCall.keep, codeAny_func ?_⟩
    have J := inv_start (CX := CX0) (mg := mg) (E := E) (qual := qual) S r.hd e0 (many _ _ _ _ hsp) rv x1
    refine wpAny_mono (ht.nox.run [] s1 _ H _ J hq) ?_ ?_
    · intro fl s2 h2
      cases fl with
      | next => obtain ⟨_, H2, J2, q2⟩ := h2; exact ⟨V.non, H2, J2.os, J2.bare, J2.base, J2.hok, rfl, q2⟩
      | ret u => obtain ⟨v, _, H2, J2, r2, q2⟩ := h2; exact ⟨v, H2, J2.os, J2.bare, J2.base, J2.hok, r2, q2⟩
      | brk => obtain ⟨_, _, _, q2⟩ := h2; exact q2.elim
      | cont => obtain ⟨_, _, _, q2⟩ := h2; exact q2.elim
    · intro e s2 h2; exact h2
end

section
variable {X : Cx} {k : Nat} {f : Addr} {fd : FuncData} {ps : List Str} {sp : Sp} {dvs : List V} {ds : List Value} {x : Str} {p pos : Pos} {e : Expr} {es : List Expr} {t : TA}
theorem goG {pins : List (Addr × Obj)} {σ : L2.St} {H : Hp} {s : Shared} {Q : VK} {us : List Value} {vs : List V} (F : FnG X.prog X.w X.K X.mg X.base k f fd ps sp) (c : Clr X.A) (hr : Room k X.A)
    (hb : Binds X.K fd ps ds) (hd : Vals dvs ds) (I : Inv X pins σ H s) (r : Vals vs us) (h : sp (vs ++ dvs) H Q E0) : wpAny (model X.prog X.w) X.A (call (.ref f) us) (EP X pins σ Q) X.xe s := by
  have r2 := r.append hd
  have hl : (us ++ ds).length = ps.length := r2.length.symm.trans (F.many _ _ _ _ h)
  apply wpAny_call
  refine codeAny_mono (F.go X.A X.stack s H (us ++ ds) ⟨us, []⟩ (vs ++ dvs) Q E0 c hr I.env0 (hb s us I.kIn hl) r2 h) ?_
  intro q s2 h2
  match q, h2 with
  | .error _, h2 => exact h2.elim
  | .ok (.ret _), h2 => exact I.after h2
  | .ok .next, h2 => exact h2.elim
  | .ok .brk, h2 => exact h2.elim
  | .ok .cont, h2 => exact h2.elim
/-- f(e, ..) of such a def -/
theorem pe_callG (F : FnG X.prog X.w X.K X.mg X.base k f fd ps sp) (c : Clr X.A) (hr : Room k X.A) (hg : Gl X x) (hm : X.mg x = some (.ref f)) (hk : PySem.W.keepIn X.K (.ref f) = true)
    (hb : Binds X.K fd ps ds) (hd : Vals dvs ds) (ha : PA X (e :: es) t) (hdb : (x == ("__debug__" : Str)) = false := by decide)
    (he : starEach (e :: es) X.env = (false, eval e X.env) :: starEach es X.env := by rfl) (hpl : (backTo pos (starEach es X.env)).any (·.1) = false := by rfl) :
    PE X (.Call (.Name x p) (e :: es) [] pos) (tCall sp dvs E0 t) := by
  constructor
  intro pins s σ H Q I h
  apply wpAny_Call_Name_kw
  refine ld_glob I hg hm ?_ hdb
  refine PySem.W.callWith_K (h₀ := X.base) I.ok.mod.kin hk ?_ he hpl
  refine thn (ha.run pos pins s σ H _ I h) ?_
  rintro us s1 ⟨vs, H1, I1, r, q⟩
  exact ⟨I1.kIn, goG F c hr hb hd I1 r q⟩
theorem pe_callG0 (F : FnG X.prog X.w X.K X.mg X.base k f fd ps sp) (c : Clr X.A) (hr : Room k X.A) (hg : Gl X x) (hm : X.mg x = some (.ref f)) (hk : PySem.W.keepIn X.K (.ref f) = true)
    (hb : Binds X.K fd ps ds) (hd : Vals dvs ds) (hdb : (x == ("__debug__" : Str)) = false := by decide) : PE X (.Call (.Name x p) [] [] pos) (tCall sp dvs E0 tNil) := by
  constructor
  intro pins s σ H Q I h
  apply wpAny_Call_Name_kw
  refine ld_glob I hg hm ?_ hdb
  exact PySem.W.callWith_K0 I.kIn hk (goG (us := []) F c hr hb hd I .nil h)
end

/-! ### repr of data -/
/-- data that can be shown -/
structure Shw (d : PyData) : Prop where
  ok : d.showable = true
  sz : d.shown.length ≤ sizeLine
def rRepr (K : PySem.W.Frag) : List V → Hp → VK → Prop := fun xs H Q => ∃ x d, xs = [x] ∧ Dp K H x d ∧ Shw d ∧ d.depth ≤ 50 ∧ Q (.str d.shown) H
mutual
theorem dp_noDict {K : PySem.W.Frag} {H : Hp} : ∀ (d : PyData) (v : V), Dp K H v d → d.hasDict = false
  | .none, _, _ => by simp only [PyData.hasDict]
  | .bool _, _, _ => by simp only [PyData.hasDict]
  | .int _, _, _ => by simp only [PyData.hasDict]
  | .str _, _, _ => by simp only [PyData.hasDict]
  | .list ds, _, h => by
    cases h with
    | lst _ ha => simp only [PyData.hasDict]; exact dps_noDict ds _ ha
  | .tuple ds, _, h => by
    cases h with
    | tup _ ha => simp only [PyData.hasDict]; exact dps_noDict ds _ ha
  | .dict _, _, h => by cases h
theorem dps_noDict {K : PySem.W.Frag} {H : Hp} : ∀ (ds : List PyData) (vs : List V), DpAll K H vs ds → PyData.hasDictAll ds = false
  | [], _, _ => by simp only [PyData.hasDictAll]
  | d :: ds, _, h => by
    cases h with
    | cons h1 h2 => simp only [PyData.hasDictAll, dp_noDict d _ h1, dps_noDict ds _ h2, Bool.or_self]
end
section
variable {X : Cx}
theorem call_repr {k : Nat} (c : Clr X.A) (hr : Room k X.A) : CallR X (.builtin "repr") (rRepr X.K) := by
  intro pins s σ H xs us Q I r h
  obtain ⟨x, d, rfl, hd, hs, hdp, q⟩ := h
  cases r with
  | cons r1 r2 =>
    cases r2
    rename_i u
    have nd := dp_noDict d x hd
    obtain ⟨as, rd⟩ := Dp.reads I d x u hd r1
    have fin : ∀ h' t tk, (∀ b o, s.heap.get? b = some o → h'.get? b = some o) → EP X pins σ Q (.str d.shown t) { s with heap := h', toks := tk } :=
      fun h' t tk kp => ⟨.str d.shown, H, I.kept kp, ⟨t, rfl⟩, q⟩
    have un := hr.units
    have room : X.A.units + (d.depth + 1) < cLine := by omega
    cases x with
    | ref a =>
      cases (show u = Value.ref a from r1)
      exact repr_of_reads' (s := s) rd hs.ok (PyData.noDict_hsm nd) c room (fun _ _ e => e) fin hs.sz
    | non =>
      cases (show u = Value.none from r1)
      cases hd
      have e : PyData.shown .none = ("None" : Str) := by simp only [PyData.shown]
      rw [e] at q
      exact PySem.P.repr_of_none ⟨.str _, H, I.tok _, ⟨_, rfl⟩, q⟩
    | bl b =>
      cases (show u = Value.bool b from r1)
      cases hd
      have e : PyData.shown (.bool b) = ((if b then "True" else "False" : String) : Str) := by cases b <;> simp only [PyData.shown] <;> rfl
      rw [e] at q
      cases b <;> exact PySem.P.repr_of_bool ⟨.str _, H, I.tok _, ⟨_, rfl⟩, q⟩
    | int i =>
      obtain ⟨t, rfl⟩ := (show ∃ t, u = Value.int i t from r1)
      cases hd
      have e : PyData.shown (.int i) = ((toString i : String) : Str) := by simp only [PyData.shown]
      have z : i.natAbs.log2 < 1920 := by simpa [PyData.showable] using hs.ok
      rw [e] at q
      exact PySem.P.repr_of_int z ⟨.str _, H, I.tok _, ⟨_, rfl⟩, q⟩
    | str x =>
      obtain ⟨t, rfl⟩ := (show ∃ t, u = Value.str x t from r1)
      cases hd
      have e : PyData.shown (.str x) = reprText x := by simp only [PyData.shown]
      have z := hs.sz
      rw [e] at q z
      exact PySem.P.repr_of_str ⟨.str _, H, I.tok _, ⟨_, rfl⟩, q⟩ z
    | byt _ => cases hd
    | flt _ => cases hd
    | ty _ => cases hd
end

/-! ### slices with a step -/
/-- the places that a slice takes -/
def slIx (n : Nat) (lo hi st : Option Int) : List Nat := sliceRange (sliceBounds lo hi st n).1 (sliceBounds lo hi st n).2.1 (sliceBounds lo hi st n).2.2
def pickV (xs : List V) (lo hi st : Option Int) : List V := (slIx xs.length lo hi st).filterMap (xs[·]?)
theorem vals_pick {xs : List V} {us : List Value} (r : Vals xs us) : ∀ ix : List Nat, Vals (ix.filterMap (xs[·]?)) (ix.filterMap (us[·]?))
  | [] => .nil
  | i :: ix => by
    have ih := vals_pick r ix
    cases e : xs[i]? with
    | none =>
      have e' := r.none_of e
      rw [List.filterMap_cons_none e, List.filterMap_cons_none e']
      exact ih
    | some x =>
      obtain ⟨u, e', ru⟩ := r.get e
      rw [List.filterMap_cons_some e, List.filterMap_cons_some e']
      exact .cons ru ih
def tSl3 (K : PySem.W.Frag) (te : TE) (tl th ts : TO) : TE := fun σ H Q => te σ H fun x H1 => tl σ H1 fun l H2 => th σ H2 fun u H3 => ts σ H3 fun st H4 => ∃ a xs, x = .ref a ∧ SqL K H4 a xs ∧ st ≠ some 0 ∧
  ∀ p, H4 p = none → Q (.ref p) (upd H4 p (.lst (pickV xs l u st)))
section
variable {X : Cx}
theorem pe_slice3 {e : Expr} {te : TE} {lo hi st : Option Expr} {tl th ts : TO} {p2 pos : Pos} (he : PE X e te) (hl : PO X lo tl) (hh : PO X hi th) (hs : PO X st ts)
    (hsub : ∀ ov iv, subscripted (.Slice lo hi st p2) false ov iv = operate [ov, iv] (getItem ov iv) := by intro _ _; with_unfolding_all rfl) : PE X (.Subscript e (.Slice lo hi st p2) pos) (tSl3 X.K te tl th ts) := by
  constructor
  intro pins s σ H Q I h
  refine PyProof.Rows.Subscript_ (thn (he.run pins s σ H _ I h) ?_)
  rintro v s1 ⟨x, H1, I1, r1, q1⟩
  refine wpAny_Slice (thn (hl.run pins s1 σ H1 _ I1 q1) ?_)
  rintro vl s2 ⟨l, H2, I2, pl, q2⟩
  refine thn (hh.run pins s2 σ H2 _ I2 q2) ?_
  rintro vu s3 ⟨u, H3, I3, pu, q3⟩
  refine thn (hs.run pins s3 σ H3 _ I3 q3) ?_
  rintro vs s4 ⟨c, H4, I4, ps, a, xs, ex, hx, h0, q4⟩
  subst ex
  cases r1
  have I5 : Inv X pins σ H4 { s4 with heap := s4.heap.push { cls := .type "slice", data := .fields #[vl, vu, vs] } } := I4.kept (t' := s4.toks) fun b ob q => Heap.get?_push_of_some _ q
  obtain ⟨its, rv, ht, hz⟩ := I5.list hx
  have hlen : its.length = xs.length := rv.length.symm
  show wpAny (model X.prog X.w) X.A (subscriptTail e (.Slice lo hi st p2) (.ref a) (.ref s4.heap.objs.size)) (EP X pins σ Q) X.xe _
  refine tail_any (ops := [.ref a, .ref s4.heap.objs.size]) ht.isList.typeIs PySem.slot_list_getitem.lookup ?_ (hsub _ _)
  refine wpAny_getItem_list_slice ht.isList (Heap.IsSliceOf.new _ vl vu vs) pl pu ps h0 ?_ (by rw [List.size_toArray, hlen]; exact hz)
  have hp : PySem.slicePick its.toArray l u c = ((slIx xs.length l u c).filterMap (its[·]?)).toArray := by
    unfold PySem.slicePick slIx
    rw [List.size_toArray, hlen]
    simp only [List.getElem?_toArray]
  have hn := PySem.slicePick_size_le its.toArray l u c
  rw [hp, List.size_toArray, List.size_toArray, hlen] at hn
  rw [hp]
  refine ⟨.ref _, _, I5.laid (t' := s4.toks) (o := .lst (pickV xs l u c)) (fun b ob q => Heap.get?_push_of_some _ q) (Nat.le_refl _) ?_, rfl, q4 _ (I5.hok.fresh (Nat.le_refl _))⟩
  refine ⟨?_, _, 0, vals_pick rv _, Heap.get?_push_size _ rfl⟩
  have e := (vals_pick rv (slIx xs.length l u c)).length
  show (List.filterMap (fun i => xs[i]?) (slIx xs.length l u c)).length ≤ sizeLine
  rw [e]
  exact Nat.le_trans hn hz
end

/-! ### a call by keywords alone -/
section
variable {X : Cx} {CX : CXT} {k : Nat} {f : Addr} {fd : FuncData} {ps ks : List Str} {sp : Sp} {E : XK} {x : Str} {p pos : Pos} {kws : List Keyword} {tk : TA} {g : List Value → List Value → List Value} {gV : List V → List V → List V}
theorem pe_callK0 (F : FnOk X.prog X.w X.K X.mg X.base CX k f fd ps sp) (hr : Room k X.A) (hg : Gl X x) (hm : X.mg x = some (.ref f)) (hk : PySem.W.keepIn X.K (.ref f) = true) (hb : KBn X.K fd ps 0 ks g gV) (hx : Passes CX X E)
    (hkw : PK X kws tk) (hall : (backToKw pos (keywordEach kws X.env)).all (·.1.isSome) = true := by rfl) (hks : (backToKw pos (keywordEach kws X.env)).filterMap (·.1) = ks := by rfl)
    (hdb : (x == ("__debug__" : Str)) = false := by decide) : PE X (.Call (.Name x p) [] kws pos) (tCallN 0 ks.length sp gV E tNil tk) := by
  constructor
  intro pins s σ H Q I h
  apply wpAny_Call_Name_kw
  refine ld_glob I hg hm ?_ hdb
  have np : ((backTo pos (starEach [] X.env)).any (·.1) || (backToKw pos (keywordEach kws X.env)).any (·.1.isNone)) = false := by
    have z : ∀ l : List (Option Str × Sem Value), l.all (·.1.isSome) = true → l.any (·.1.isNone) = false := by
      intro l hl
      induction l with
      | nil => rfl
      | cons q l ih =>
        simp only [List.all_cons, Bool.and_eq_true] at hl
        simp only [List.any_cons, ih hl.2, Bool.or_false]
        cases e : q.1 with
        | none => rw [e] at hl; exact absurd hl.1 (by decide)
        | some _ => rfl
    rw [z _ hall]; rfl
  refine PySem.W.callWith_KW0 (h₀ := X.base) I.ok.mod.kin hk hall ?_ np
  refine thn (hkw.run pos pins s σ H _ I h) ?_
  rintro ws s1 ⟨zs, H1, I1, rz, _, l2, q⟩
  refine ⟨I1.kIn, ?_⟩
  rw [hks]
  exact run_fnN (us := []) F hr hb hx I1 .nil rz rfl l2 q
end

/-! ### the law's own call -/
/-- the heap that knows of nothing but the script (at a, where it stands apart) -/
def scriptH (own : Bool) (a : Addr) (o : Obj) (ns : List Int) : Hp := fun b => if own = true ∧ b = a then some (.frz o (.lst (ns.map V.int))) else none
theorem scriptH_only (own : Bool) (a : Addr) (o : Obj) (ns : List Int) : Only (scriptH own a o ns) := fun b => by
  unfold scriptH
  split
  · exact Or.inr ⟨_, _, rfl⟩
  · exact Or.inl rfl
theorem scriptH_some {own : Bool} {a b : Addr} {o : Obj} {ns : List Int} {u : HO} (h : scriptH own a o ns b = some u) : own = true ∧ b = a ∧ u = .frz o (.lst (ns.map V.int)) := by
  unfold scriptH at h
  split at h
  · rename_i z; exact ⟨z.1, z.2, (Option.some.inj h).symm⟩
  · cases h
theorem lawG {P : Program} {w : World} {K : PySem.W.Frag} {mg mb : Str → Option Value} {k : Nat} {fa a : Addr} {fd : FuncData} {x : Str} {sp : Sp} {s : Shared} {vs : List Value} {ns : List Int}
    (KX : K.In s.heap) (hm : s.heap.Ns mainGlobals mg) (hb : s.heap.Ns builtinsNs mb) (hbb : ∀ x : Str, x ≠ "__name__" → mb x = bootBuiltins x) (hlim : s.heap.NoLimit) (hg : s.gens = #[])
    (ha : s.heap.get? a = some { cls := .type "list", data := .seq vs.toArray }) (hi : IntsAre vs ns) (hl : ns.length ≤ sizeLine) (hr : Room k callerA)
    (F : ∀ base : Heap, K.In base → base.Ns mainGlobals mg → FnG P w K mg base k fa fd [x] sp) (hbind : ∀ (s : Shared) (u : Value), BindsTo s fd ⟨[u], []⟩ [(x, u)])
    (hsp : ∀ H : Hp, Only H → SqL K H a (ns.map V.int) → sp [.ref a] H (fun v _ => v = .bl true) E0) :
    codeAny (model P w) callerA (.call (.ref fa) ⟨[.ref a], []⟩) (fun r s' => r = .ok (.ret (.bool true)) ∧ OldK s.heap s'.heap ∧ s'.os = s.os ∧ AllBare s'.gens) s := by
  have rv := vals_ints hi
  have lv := hi.length
  -- own: the script is no object of the written part
  have key : ∀ own : Bool, (own = true → K.lookup a = none) → (own = false → ∃ o, K.lookup a = some o) →
      codeAny (model P w) callerA (.call (.ref fa) ⟨[.ref a], []⟩) (fun r s' => r = .ok (.ret (.bool true)) ∧ OldK s.heap s'.heap ∧ s'.os = s.os ∧ AllBare s'.gens) s := by
    intro own h1 h2
    have hO := scriptH_only own a { cls := .type "list", data := .seq vs.toArray } ns
    have hS := fun {b : Addr} {u : HO} => scriptH_some (own := own) (a := a) (b := b) (o := { cls := .type "list", data := .seq vs.toArray }) (ns := ns) (u := u)
    generalize eH : scriptH own a { cls := .type "list", data := .seq vs.toArray } ns = H at hO hS
    have frs0 : ∀ {b : Addr} {o : Obj} {es : Array DictEntry} {n : Nat}, s.heap.get? b = some o → o.data = .dict es n → H b = none := by
      intro b o es n e d
      cases q : H b with
      | none => rfl
      | some u =>
        obtain ⟨_, rfl, _⟩ := hS q
        rw [ha] at e
        cases e
        have d' : Data.seq vs.toArray _ = Data.dict es n := d
        cases d'
    have ns0 : ∀ {b : Addr} {m : Str → Option Value}, s.heap.Ns b m → (hidT s.heap H).Ns b m := by
      rintro b m ⟨o, es, n, e, d, r⟩
      exact ⟨o, es, n, hidT_get e (frs0 e d), d, r⟩
    have K0 : K.In (hidT s.heap H) := by
      intro b o e
      refine hidT_get (KX b o e) ?_
      cases q : H b with
      | none => rfl
      | some u =>
        obtain ⟨z, rfl, _⟩ := hS q
        rw [h1 z] at e
        cases e
    have hok : HOk P w H s.heap := by
      intro b u q
      obtain ⟨_, rfl, rfl⟩ := hS q
      exact ⟨ha, by rw [List.length_map]; exact hl, vs, _, rv, ha⟩
    have M0 : Mod K mg (hidT s.heap H) := by
      refine ⟨K0, ns0 hm, ⟨mb, ns0 hb, hbb⟩, ?_⟩
      obtain ⟨mc, q1, q2⟩ := hlim
      exact ⟨mc, ns0 q1, q2⟩
    have env : Env0 P w K mg (hidT s.heap H) callerA [] s H := by
      refine ⟨rfl, M0, fun b o e => of_hidT e, Nat.le_of_eq (hidT_size _ _), trivial, ?_, hok, .of_eq hg⟩
      intro b hb'
      cases hb'
    have sq : SqL K H a (ns.map V.int) := by
      cases own with
      | true => exact Or.inl (Or.inr ⟨_, by rw [← eH]; exact if_pos ⟨rfl, rfl⟩⟩)
      | false =>
        obtain ⟨o, e⟩ := h2 rfl
        have e' := KX a o e
        rw [ha] at e'
        cases e'
        exact Or.inr ⟨_, vs.toArray, _, e, rfl, rfl, rfl, by rw [List.size_toArray, lv]; exact hl, by simpa using rv⟩
    refine codeAny_mono ((F _ K0 (ns0 hm)).go callerA [] s H [.ref a] ⟨[.ref a], []⟩ [.ref a] _ E0 rfl hr env (hbind s (.ref a)) (.cons rfl .nil) (hsp H hO sq)) ?_
    intro r s' h
    match r, h with
    | .error _, h => exact h.elim
    | .ok .next, h => exact h.elim
    | .ok .brk, h => exact h.elim
    | .ok .cont, h => exact h.elim
    | .ok (.ret u), h =>
      obtain ⟨v, H', os, bare, un, hok', r', q⟩ := h
      cases (show v = .bl true from q)
      cases (show u = Value.bool true from r')
      refine ⟨rfl, OldK.of_keep ?_, os, bare⟩
      intro b o e
      cases q : H b with
      | none => exact un.keep b o e q (fun z => nomatch z) (fun z => nomatch z)
      | some u =>
        obtain ⟨_, rfl, rfl⟩ := hS q
        rw [ha] at e
        cases e
        obtain ⟨e2, _⟩ := hok' b _ (un.frzs b _ _ q)
        exact e2
  cases hk : K.lookup a with
  | some o => exact key false (fun z => Bool.noConfusion z) (fun _ => ⟨o, hk⟩)
  | none => exact key true (fun _ => hk) (fun z => Bool.noConfusion z)
theorem walkG {l : PySem.W.OpenLaw} {n k : Nat} {q : Program} {loose : List Str} {XP : (Str → Option Value) → Heap → Prop} {YP : World → Heap → Prop} {d : DefRec} {K : Params → PySem.W.Frag} {sp : PySem.W.Frag → Sp} {x : Str}
    (hn : l.most = some n) (hn2 : n ≤ sizeLine) (hdf : d.params.defaults = []) (hr : Room k callerA) (hY : ∀ (w : World) (h : Heap), YP w h → (K w.params).In h)
    (F : ∀ (w : World) (mg : Str → Option Value) (fa : Addr) (h : Heap), (K w.params).In h → h.Ns mainGlobals mg → mg d.name = some (.ref fa) →
      ∃ fd : FuncData, (∀ (s : Shared) (u : Value), BindsTo s fd ⟨[u], []⟩ [(x, u)]) ∧
        ∀ base : Heap, (K w.params).In base → base.Ns mainGlobals mg → FnG l.prog w (K w.params) mg base k fa fd [x] (sp (K w.params)))
    (hsp : ∀ (K : PySem.W.Frag) (H : Hp) (a : Addr) (ns : List Int), ns.length ≤ n → (∀ z ∈ ns, Builtin.Int.intBits z ≤ 1048576) → SqL K H a (ns.map V.int) → sp K [.ref a] H (fun v _ => v = .bl true) E0) :
    PySem.W.WalkO q loose XP YP l.row.toRowW d [] (fun f vs => PySem.call f vs) := by
  apply Att.attach_callB hn hdf
  intro w s0 s1 mg mb fa o pm cd doc a vs ns G Y ho hd hcd hmg hobj hints hlen hbits hg
  have KX := hY w _ Y
  obtain ⟨fd, hb, hF⟩ := F w mg fa _ KX G.T.g hmg
  exact lawG KX G.T.g G.T.b G.T.builtins G.T.nolimit hg hobj hints (Nat.le_trans hlen hn2) hr hF hb fun H _ hS => hsp _ H a ns hlen hbits hS
end Rs

namespace Rs
open PySem PySem.Spec PyProof.Rows L2

/-! ### what is known of the heap -/
abbrev Led := List (Addr × HO)
/-- H0: the heap at the entry; M: the objects of it that may have changed; L: what stands now -/
structure Hs (H0 : Hp) (M : List Addr) (H : Hp) (L : Led) : Prop where
  nd : (L.map (·.1)).Nodup
  is : ∀ q ∈ L, H q.1 = some q.2
  old : ∀ b o, H0 b = some o → b ∉ M → H b = some o
  mu : ∀ b ∈ M, H b ≠ none
/-- one entry exchanged -/
inductive Chg (a : Addr) (o o' : HO) : Led → Led → Prop where
  | here {L : Led} : Chg a o o' ((a, o) :: L) ((a, o') :: L)
  | there {q : Addr × HO} {L L' : Led} : Chg a o o' L L' → Chg a o o' (q :: L) (q :: L')
theorem Chg.keys {a : Addr} {o o' : HO} {L L' : Led} (c : Chg a o o' L L') : L'.map (·.1) = L.map (·.1) := by
  induction c with
  | here => rfl
  | there _ ih => simp only [List.map_cons, ih]
theorem Chg.mem {a : Addr} {o o' : HO} {L L' : Led} (c : Chg a o o' L L') : (a, o) ∈ L := by
  induction c with
  | here => exact List.mem_cons_self
  | there _ ih => exact List.mem_cons_of_mem _ ih
theorem Chg.of {a : Addr} {o o' : HO} {L L' : Led} (c : Chg a o o' L L') (nd : (L.map (·.1)).Nodup) : ∀ q ∈ L', q = (a, o') ∨ (q ∈ L ∧ q.1 ≠ a) := by
  induction c with
  | @here L =>
    intro q hq
    rcases List.mem_cons.mp hq with e | hq
    · exact Or.inl e
    · refine Or.inr ⟨List.mem_cons_of_mem _ hq, ?_⟩
      intro e
      simp only [List.map_cons, List.nodup_cons] at nd
      exact nd.1 (e ▸ List.mem_map_of_mem hq)
  | @there p L L' c ih =>
    intro q hq
    simp only [List.map_cons, List.nodup_cons] at nd
    rcases List.mem_cons.mp hq with e | hq
    · subst e
      refine Or.inr ⟨List.mem_cons_self, ?_⟩
      intro e
      exact nd.1 (e ▸ List.mem_map_of_mem (f := (·.1)) c.mem)
    · rcases ih nd.2 q hq with e | ⟨h1, h2⟩
      · exact Or.inl e
      · exact Or.inr ⟨List.mem_cons_of_mem _ h1, h2⟩
section
variable {H0 H H' : Hp} {M : List Addr} {L L' : Led} {a : Addr} {o o' : HO}
theorem Hs.new (S : Hs H0 M H L) (hp : H a = none) (o : HO) : H0 a = none ∧ Hs H0 M (upd H a o) ((a, o) :: L) := by
  have n0 : H0 a = none := by
    cases e : H0 a with
    | none => rfl
    | some u =>
      by_cases hm : a ∈ M
      · exact absurd hp (S.mu a hm)
      · have := S.old a u e hm
        rw [hp] at this
        cases this
  have ne : ∀ q ∈ L, q.1 ≠ a := fun q hq e => by
    have := S.is q hq
    rw [e, hp] at this
    cases this
  refine ⟨n0, ?_, ?_, ?_, ?_⟩
  · simp only [List.map_cons, List.nodup_cons]
    refine ⟨fun hm => ?_, S.nd⟩
    obtain ⟨q, hq, e⟩ := List.mem_map.mp hm
    exact ne q hq e
  · intro q hq
    rcases List.mem_cons.mp hq with e | hq
    · subst e; exact upd_same
    · rw [upd_ne (ne q hq)]; exact S.is q hq
  · intro b u e hm
    have hb : b ≠ a := fun z => by rw [z, n0] at e; cases e
    rw [upd_ne hb]
    exact S.old b u e hm
  · intro b hb
    unfold upd
    split
    · simp
    · exact S.mu b hb
theorem Hs.put (S : Hs H0 M H L) (c : Chg a o o' L L') (hm : H0 a = none ∨ a ∈ M) : Hs H0 M (upd H a o') L' := by
  refine ⟨by rw [c.keys]; exact S.nd, ?_, ?_, ?_⟩
  · intro q hq
    rcases c.of S.nd q hq with e | ⟨h1, h2⟩
    · subst e; exact upd_same
    · rw [upd_ne h2]; exact S.is q h1
  · intro b u e hb
    have ne : b ≠ a := fun z => by
      subst z
      rcases hm with z | z
      · rw [z] at e; cases e
      · exact hb z
    rw [upd_ne ne]
    exact S.old b u e hb
  · intro b hb
    unfold upd
    split
    · simp
    · exact S.mu b hb
/-- behind a call that changed at most the objects of C (each fresh or in M), and left L' -/
theorem Hs.call (S : Hs H0 M H L) {C : List Addr} (k : ∀ b u, H b = some u → b ∉ C → H' b = some u) (hC : ∀ b ∈ C, (H0 b = none ∨ b ∈ M) ∧ H' b ≠ none) (nd : (L'.map (·.1)).Nodup)
    (is : ∀ q ∈ L', H' q.1 = some q.2) : Hs H0 M H' L' := by
  refine ⟨nd, is, ?_, ?_⟩
  · intro b u e hb
    refine k b u (S.old b u e hb) fun hc => ?_
    rcases (hC b hc).1 with z | z
    · rw [z] at e; cases e
    · exact hb z
  · intro b hb
    by_cases hc : b ∈ C
    · exact (hC b hc).2
    · intro z
      cases e : H b with
      | none => exact S.mu b hb e
      | some u =>
        rw [k b u e hc] at z
        cases z
/-- nothing was changed -/
theorem Hs.more (S : Hs H0 M H L) (k : Same H H') : Hs H0 M H' L :=
  S.call (C := []) (fun b u e _ => k b u e) (fun b hb => nomatch hb) S.nd fun q hq => k _ _ (S.is q hq)
/-- nothing was changed, one object is new -/
theorem Hs.more1 (S : Hs H0 M H L) (k : Same H H') (hp : H a = none) (h' : H' a = some o) : H0 a = none ∧ Hs H0 M H' ((a, o) :: L) := by
  obtain ⟨n0, S'⟩ := S.new hp o
  refine ⟨n0, (S.more k).call (C := []) (fun b u e _ => e) (fun b hb => nomatch hb) S'.nd ?_⟩
  intro q hq
  rcases List.mem_cons.mp hq with e | hq
  · subst e; exact h'
  · exact k _ _ (S.is q hq)
/-- one object was changed, to o' -/
theorem Hs.one (S : Hs H0 M H L) (c : Chg a o o' L L') (hm : H0 a = none ∨ a ∈ M) (k : ∀ b u, H b = some u → b ≠ a → H' b = some u) (h' : H' a = some o') : Hs H0 M H' L' := by
  have S' := S.put c hm
  refine S.call (C := [a]) (fun b u e hb => k b u e fun z => hb (by simp [z])) ?_ S'.nd ?_
  · intro b hb
    have e : b = a := by simpa using hb
    subst e
    exact ⟨hm, by rw [h']; simp⟩
  · intro q hq
    rcases c.of S.nd q hq with e | ⟨h1, h2⟩
    · subst e; exact h'
    · exact k _ _ (S.is q h1) h2
/-- one object was changed, one is new -/
theorem Hs.one1 {p : Addr} {u : HO} (S : Hs H0 M H L) (c : Chg a o o' L L') (hm : H0 a = none ∨ a ∈ M) (k : ∀ b u, H b = some u → b ≠ a → H' b = some u) (h' : H' a = some o') (hp : H p = none) (hp' : H' p = some u) : H0 p = none ∧ Hs H0 M H' ((p, u) :: L') := by
  have S' := S.one c hm k h'
  have S2 := S.new hp u
  refine ⟨S2.1, ?_, ?_, S'.old, S'.mu⟩
  · simp only [List.map_cons, List.nodup_cons]
    refine ⟨fun hq => ?_, S'.nd⟩
    rw [c.keys] at hq
    obtain ⟨q, hq, e⟩ := List.mem_map.mp hq
    have := S.is q hq
    rw [e, hp] at this
    cases this
  · intro q hq
    rcases List.mem_cons.mp hq with e | hq
    · subst e; exact hp'
    · exact S'.is q hq
theorem Hs.sub (S : Hs H0 M H L) (h : L'.Sublist L) : Hs H0 M H L' := ⟨S.nd.sublist (h.map _), fun q hq => S.is q (h.subset hq), S.old, S.mu⟩
theorem Hs.start (H : Hp) (M : List Addr) (L : Led) (nd : (L.map (·.1)).Nodup) (is : ∀ q ∈ L, H q.1 = some q.2) (hM : ∀ b ∈ M, H b ≠ none) : Hs H M H L := ⟨nd, is, fun b u e _ => e, hM⟩
theorem Hs.start0 (H : Hp) : Hs H [] H [] := ⟨List.nodup_nil, fun q hq => (nomatch hq), fun b u e _ => e, fun b hb => nomatch hb⟩
theorem Hs.start1 {H : Hp} {a : Addr} {o : HO} (h : H a = some o) (M : List Addr) (hM : M = [] ∨ M = [a]) : Hs H M H [(a, o)] := by
  refine ⟨by simp, fun q hq => ?_, fun b u e _ => e, fun b hb => ?_⟩
  · have e : q = (a, o) := by simpa using hq
    subst e; exact h
  · rcases hM with rfl | rfl
    · cases hb
    · have e : b = a := by simpa using hb
      subst e; rw [h]; simp
theorem Hs.get (S : Hs H0 M H L) (m : (a, o) ∈ L) : H a = some o := S.is _ m
theorem Hs.old1 {d b : Addr} {u : HO} (S : Hs H0 [d] H L) (e : H0 b = some u) (hb : b ≠ d) : H b = some u := S.old b u e (by simpa using hb)
theorem Hs.same (S : Hs H0 [] H L) : Same H0 H := fun b o e => S.old b o e (fun z => nomatch z)
theorem Hs.lst {K : PySem.W.Frag} {xs : List V} (S : Hs H0 M H L) (m : (a, HO.lst xs) ∈ L) : SqL K H a xs := SqL.of (S.is _ m)
theorem Hs.tup {K : PySem.W.Frag} {xs : List V} (S : Hs H0 M H L) (m : (a, HO.tup xs) ∈ L) : SqT K H a xs := SqT.of (S.is _ m)
/-- the script, or what else stands in the written part, at a list -/
theorem Hs.sq {K : PySem.W.Frag} {xs : List V} (S : Hs H0 M H L) (h : SqL K H0 a xs) (hm : a ∉ M) : SqL K H a xs := by
  rcases h with (h | ⟨u, h⟩) | h
  · exact Or.inl (Or.inl (S.old _ _ h hm))
  · exact Or.inl (Or.inr ⟨u, S.old _ _ h hm⟩)
  · exact Or.inr h
end

/-! ### readings, step by step -/
/-- the slots at the entry -/
def stV : List Str → List V → L2.St
  | [], _ => []
  | _ :: N, vs => vs.head? :: stV N vs.tail
theorem start_eq : ∀ (N : List Str) (vs : List V), vs.length ≤ N.length → L2.start N vs = stV N vs
  | [], [], _ => by simp [L2.start, stV]
  | [], v :: vs, h => by simp at h
  | n :: N, [], _ => by
    have ih := start_eq N [] (Nat.zero_le _)
    simp only [stV, List.tail_nil, ← ih]
    simp [L2.start, List.replicate_succ]
  | n :: N, v :: vs, h => by
    have ih := start_eq N vs (by simpa using h)
    simp only [stV, List.tail_cons, ← ih]
    simp [L2.start]
section
variable {σ : L2.St} {H H0 : Hp} {M : List Addr} {L L' : Led} {Q : VK} {v x y : V} {nx : L2.St → Hp → Prop} {rt : VK} {bk ct : L2.St → Hp → Prop} {t u : TS} {te ta tb tc : TE} {g : TG} {tt tu : TT} {r r' : R2} {A B : Prop}
theorem rd_start {t : TS} {D : Ends} {N : List Str} {vs : List V} (h : t D (stV N vs) H) (hl : vs.length ≤ N.length := by exact Nat.le_of_ble_eq_true rfl) : t D (L2.start N vs) H := by rw [start_eq N vs hl]; exact h
theorem rd_seq (h : t ⟨fun σ H => u ⟨nx, rt, bk, ct⟩ σ H, rt, bk, ct⟩ σ H) : tSeq t u ⟨nx, rt, bk, ct⟩ σ H := h
theorem rd_asg (h : te σ H fun x H1 => g x σ H1 nx) : tAsg te g ⟨nx, rt, bk, ct⟩ σ H := h
theorem rd_name {i : Nat} {σ' : L2.St} {N : L2.St → Hp → Prop} (e : σ.set i (some v) = σ') (h : N σ' H) : gName i v σ H N := by subst e; exact h
theorem rd_ret (h : te σ H rt) : tRet te ⟨nx, rt, bk, ct⟩ σ H := h
theorem rd_retN (h : rt .non H) : tRetN ⟨nx, rt, bk, ct⟩ σ H := h
theorem rd_drop (h : te σ H fun _ H1 => nx σ H1) : tDrop te ⟨nx, rt, bk, ct⟩ σ H := h
theorem rd_next (h : nx σ H) : tNext ⟨nx, rt, bk, ct⟩ σ H := h
theorem rd_ifS (h : tt σ H fun b H1 => if b = true then t ⟨nx, rt, bk, ct⟩ σ H1 else u ⟨nx, rt, bk, ct⟩ σ H1) : tIfS tt t u ⟨nx, rt, bk, ct⟩ σ H := h
theorem rd_par {i j : Nat} {ta : TA} (h : ta σ H fun vs H1 => ∃ v w, vs = [v, w] ∧ nx ((σ.set i (some v)).set j (some w)) H1) : tPar i j ta ⟨nx, rt, bk, ct⟩ σ H := h
theorem rd_par3 {i j l : Nat} {ta : TA} (h : ta σ H fun vs H1 => ∃ u v w, vs = [u, v, w] ∧ nx (((σ.set i (some u)).set j (some v)).set l (some w)) H1) : tPar3 i j l ta ⟨nx, rt, bk, ct⟩ σ H := h
theorem rd_two {R : V → V → Prop} (h : R x y) : ∃ v w, [x, y] = [v, w] ∧ R v w := ⟨_, _, rfl, h⟩
theorem rd_three {z : V} {R : V → V → V → Prop} (h : R x y z) : ∃ u v w, [x, y, z] = [u, v, w] ∧ R u v w := ⟨_, _, _, rfl, h⟩
theorem rd_var {i : Nat} (e : σ[i]? = some (some v)) (h : Q v H) : tVar i σ H Q := ⟨v, e, h⟩
theorem rd_c (h : Q v H) : tC v σ H Q := h
theorem rd_op (h : ta σ H fun x H1 => tb σ H1 fun y H2 => r x y H2 Q) : tOp r ta tb σ H Q := h
theorem rd_un {r : V → Hp → VK → Prop} (h : ta σ H fun x H1 => r x H1 Q) : tUn r ta σ H Q := h
theorem rd_I0 {f : Int → Int → V} {i j : Int} (h : Q (f i j) H) : rI0 f (.int i) (.int j) H Q := ⟨i, j, rfl, rfl, h⟩
theorem rd_I {C : Int → Int → Prop} {f : Int → Int → V} {i j : Int} (hc : C i j) (h : Q (f i j) H) : rI C f (.int i) (.int j) H Q := ⟨i, j, rfl, rfl, hc, h⟩
theorem rd_U {f : Int → V} {i : Int} (h : Q (f i) H) : rU f (.int i) H Q := ⟨i, rfl, h⟩
theorem rd_eqI {i j : Int} (h : Q (.bl (decide (i = j))) H) : rEq (.int i) (.int j) H Q := by
  refine ⟨rfl, ?_⟩
  have e : decide (V.int i = V.int j) = decide (i = j) := by simp
  rw [e]; exact h
theorem rd_neI {i j : Int} (h : Q (.bl (decide (¬ i = j))) H) : rNe (.int i) (.int j) H Q := by
  refine ⟨rfl, ?_⟩
  have e : (!decide (V.int i = V.int j)) = decide (¬ i = j) := by simp
  rw [e]; exact h
theorem rd_eqS {i j : Str} (h : Q (.bl (decide (i = j))) H) : rEq (.str i) (.str j) H Q := by
  refine ⟨rfl, ?_⟩
  have e : decide (V.str i = V.str j) = decide (i = j) := by simp
  rw [e]; exact h
theorem rd_neS {i j : Str} (h : Q (.bl (decide (¬ i = j))) H) : rNe (.str i) (.str j) H Q := by
  refine ⟨rfl, ?_⟩
  have e : (!decide (V.str i = V.str j)) = decide (¬ i = j) := by simp
  rw [e]; exact h
theorem rd_eqB {i j : Bool} (h : Q (.bl (decide (i = j))) H) : rEq (.bl i) (.bl j) H Q := by
  refine ⟨rfl, ?_⟩
  have e : decide (V.bl i = V.bl j) = decide (i = j) := by simp
  rw [e]; exact h
theorem rd_test {Q : Bool → Hp → Prop} (h : te σ H fun x H' => ∃ k, x = .bl k ∧ Q k H') : tTest te σ H Q := h
theorem rd_tB {Q : Bool → Hp → Prop} (h : te σ H fun x H' => ∃ k, x = .bl k ∧ Q k H') : tB te σ H Q := h
theorem rd_bl {b : Bool} {R : Bool → Prop} (h : R b) : ∃ k, V.bl b = .bl k ∧ R k := ⟨b, rfl, h⟩
theorem rd_and {Q : Bool → Hp → Prop} (h : tt σ H fun c H1 => if c = true then tu σ H1 Q else Q false H1) : tAnd tt tu σ H Q := h
theorem rd_or {Q : Bool → Hp → Prop} (h : tt σ H fun c H1 => if c = true then Q true H1 else tu σ H1 Q) : tOr tt tu σ H Q := h
theorem rd_not {Q : Bool → Hp → Prop} (h : tt σ H fun c H1 => Q (!c) H1) : tNot tt σ H Q := h
theorem rd_andV (h : ta σ H fun x H1 => ∃ c, x = .bl c ∧ if c = true then tb σ H1 Q else Q (.bl false) H1) : tAndV ta tb σ H Q := h
theorem rd_orV (h : ta σ H fun x H1 => ∃ c, x = .bl c ∧ if c = true then Q (.bl true) H1 else tb σ H1 Q) : tOrV ta tb σ H Q := h
theorem rd_notV (h : ta σ H fun x H1 => ∃ c, x = .bl c ∧ Q (.bl (!c)) H1) : tNotV ta σ H Q := h
theorem rd_if (h : tt σ H fun c H1 => if c = true then ta σ H1 Q else tb σ H1 Q) : tIf tt ta tb σ H Q := h
theorem rd_cons {tr : TA} {Q : List V → Hp → Prop} (h : te σ H fun x H1 => tr σ H1 fun xs H2 => Q (x :: xs) H2) : tCons te tr σ H Q := h
theorem rd_nil {Q : List V → Hp → Prop} (h : Q [] H) : tNil σ H Q := h
/-- what is wanted of a new object -/
def nw (Q : VK) (H : Hp) (o : HO) : Prop := ∀ p, H p = none → Q (.ref p) (upd H p o)
def nwL (Q : VK) (H : Hp) (xs : List V) : Prop := xs.length ≤ sizeLine ∧ nw Q H (.lst xs)
def nwT (Q : VK) (H : Hp) (xs : List V) : Prop := xs.length ≤ sizeLine ∧ nw Q H (.tup xs)
theorem rd_tup {ta : TA} (h : ta σ H fun xs H1 => nwT Q H1 xs) : tTup ta σ H Q := h
theorem rd_lst {ta : TA} (h : ta σ H fun xs H1 => nwL Q H1 xs) : tLst ta σ H Q := h
theorem rd_cb {r : List V → Hp → VK → Prop} {ta : TA} (h : ta σ H fun vs H1 => r vs H1 Q) : tCB r ta σ H Q := h
theorem rd_call {sp : Sp} {dvs : List V} {E : XK} {ta : TA} (h : ta σ H fun vs H1 => sp (vs ++ dvs) H1 Q E) : tCall sp dvs E ta σ H Q := h
theorem rd_call0 {sp : Sp} {E : XK} {ta : TA} (h : ta σ H fun vs H1 => sp vs H1 Q E) : tCall sp [] E ta σ H Q := by
  have e : (fun (vs : List V) H1 => sp (vs ++ []) H1 Q E) = fun vs H1 => sp vs H1 Q E := by funext vs H1; rw [List.append_nil]
  show ta σ H (fun vs H1 => sp (vs ++ []) H1 Q E)
  rw [e]; exact h
theorem rd_callN {n m : Nat} {sp : Sp} {gV : List V → List V → List V} {E : XK} {ta tk : TA} (h : ta σ H fun vs H1 => tk σ H1 fun zs H2 => vs.length = n ∧ zs.length = m ∧ sp (gV vs zs) H2 Q E) : tCallN n m sp gV E ta tk σ H Q := h
theorem rd_chain (h : ta σ H fun x H1 => tb σ H1 fun y H2 => r x y H2 fun z H3 => ∃ k, z = .bl k ∧ (if k = true then tc σ H3 fun w H4 => r' y w H4 Q else Q (.bl false) H3)) : tChain r r' ta tb tc σ H Q := h
theorem rd_bits (h : te σ H fun x H1 => ∃ i, x = .int i ∧ Q (.int (Builtin.Int.intBits i : Nat)) H1) : tBits te σ H Q := h
theorem rd_int1 {i : Int} {R : Int → Prop} (h : R i) : ∃ j, V.int i = .int j ∧ R j := ⟨i, rfl, h⟩
theorem rd_int2 {i j : Int} {R : Int → Int → Prop} (h : R i j) : ∃ i' j', [V.int i, V.int j] = [.int i', .int j'] ∧ R i' j' := ⟨i, j, rfl, h⟩
theorem rd_dget {td ty : TE} (h : td σ H fun x H1 => ty σ H1 fun y H2 => ∃ a v, x = .ref a ∧ DGet H2 a y (some v) ∧ Q v H2) : tDGet td ty σ H Q := h
theorem rd_dput {td ty tv : TE} (h : tv σ H fun v H1 => td σ H1 fun x H2 => ty σ H2 fun y H3 => ∃ a H4, x = .ref a ∧ DPut H3 a y v H4 ∧ nx σ H4) : sDPut td ty tv ⟨nx, rt, bk, ct⟩ σ H := h
theorem rd_slice3 {K : PySem.W.Frag} {tl th ts : TO} (h : te σ H fun x H1 => tl σ H1 fun l H2 => th σ H2 fun u H3 => ts σ H3 fun st H4 => ∃ a xs, x = .ref a ∧ SqL K H4 a xs ∧ st ≠ some 0 ∧ nw Q H4 (.lst (pickV xs l u st))) : tSl3 K te tl th ts σ H Q := h
theorem rd_sl {r : V → Option Int → Option Int → Hp → VK → Prop} {tl th : TO} (h : te σ H fun x H1 => tl σ H1 fun l H2 => th σ H2 fun u H3 => r x l u H3 Q) : tSl r te tl th σ H Q := h
theorem rd_noPart {Q : Option Int → Hp → Prop} (h : Q none H) : tNoPart σ H Q := h
theorem rd_part {Q : Option Int → Hp → Prop} (h : te σ H fun x H1 => ∃ i, x = .int i ∧ Q (some i) H1) : tPart te σ H Q := h
theorem sz {n : Nat} (h : n ≤ 1000000) : n ≤ sizeLine := Nat.le_trans h (by decide)
theorem sz' {n : Nat} (h : n ≤ 1000000) : n < sizeLine := Nat.lt_of_le_of_lt h (by decide)
theorem rd_mod {i j : Int} (hj : 0 < j) (h : ∀ r, r = i % j → 0 ≤ r → r < j → Q (.int r) H) : rI (fun _ j => 0 < j) (fun i j => .int (i % j)) (.int i) (.int j) H Q :=
  ⟨i, j, rfl, rfl, hj, h _ rfl (Int.emod_nonneg _ (by omega)) (Int.emod_lt_of_pos _ hj)⟩
theorem rd_div {i j : Int} (hj : 0 < j) (hb : j < 2 ^ 64) (h : Q (.int (i / j)) H) : rI CDivW (fun i j => .int (i / j)) (.int i) (.int j) H Q :=
  ⟨i, j, rfl, rfl, wide_div (b := 64) hj (by omega) (by decide) (by decide), h⟩
theorem rd_mulL {i j : Int} (h0 : -(2 ^ 64) < i) (h1 : i < 2 ^ 64) (h : Q (.int (i * j)) H) : rI CMul (fun i j => .int (i * j)) (.int i) (.int j) H Q := ⟨i, j, rfl, rfl, .inl ⟨h0, h1⟩, h⟩
theorem rd_mulR {i j : Int} (h0 : -(2 ^ 64) < j) (h1 : j < 2 ^ 64) (h : Q (.int (i * j)) H) : rI CMul (fun i j => .int (i * j)) (.int i) (.int j) H Q := ⟨i, j, rfl, rfl, .inr ⟨h0, h1⟩, h⟩
theorem rd_pow {f : Int → Int → V} {i j : Int} (h0 : 0 ≤ j) (h1 : j ≤ 1000000) (h2 : i.natAbs < 2 ^ 64) (h : Q (f i j) H) : rI CPow f (.int i) (.int j) H Q := ⟨i, j, rfl, rfl, ⟨h0, h1, h2⟩, h⟩
/-! tests -/
theorem rd_dec {p : Prop} [Decidable p] (h1 : p → A) (h2 : ¬ p → B) : if decide p = true then A else B := by
  by_cases h : p
  · rw [if_pos (decide_eq_true h)]; exact h1 h
  · rw [if_neg (by simp [h])]; exact h2 h
theorem rd_decT {p : Prop} [Decidable p] (h : p) (h1 : A) : if decide p = true then A else B := by rw [if_pos (decide_eq_true h)]; exact h1
theorem rd_decF {p : Prop} [Decidable p] (h : ¬ p) (h1 : B) : if decide p = true then A else B := by rw [if_neg (by simp [h])]; exact h1
theorem rd_ite {b : Bool} (h1 : b = true → A) (h2 : b = false → B) : if b = true then A else B := by
  cases b with
  | true => rw [if_pos rfl]; exact h1 rfl
  | false => rw [if_neg Bool.false_ne_true]; exact h2 rfl
theorem rd_iteT (h : A) : if true = true then A else B := by rw [if_pos rfl]; exact h
theorem rd_iteF (h : B) : if false = true then A else B := by rw [if_neg Bool.false_ne_true]; exact h
theorem rd_ndec {p : Prop} [Decidable p] (h1 : ¬ p → A) (h2 : p → B) : if (!decide p) = true then A else B := by
  by_cases h : p
  · rw [if_neg (by simp [h])]; exact h2 h
  · rw [if_pos (by simp [h])]; exact h1 h
theorem rd_ndecT {p : Prop} [Decidable p] (h : p) (h2 : B) : if (!decide p) = true then A else B := by rw [if_neg (by simp [h])]; exact h2
theorem rd_ndecF {p : Prop} [Decidable p] (h : ¬ p) (h1 : A) : if (!decide p) = true then A else B := by rw [if_pos (by simp [h])]; exact h1
theorem rd_nT (h : B) : if (!true) = true then A else B := by rw [if_neg (by decide)]; exact h
theorem rd_nF (h : A) : if (!false) = true then A else B := by rw [if_pos (by decide)]; exact h
/-! with the ledger -/
theorem rd_newL {xs : List V} (S : Hs H0 M H L) (hz : xs.length ≤ sizeLine) (h : ∀ p H', H0 p = none → Hs H0 M H' ((p, .lst xs) :: L) → Q (.ref p) H') : nwL Q H xs :=
  ⟨hz, fun p hp => h p _ (S.new hp (.lst xs)).1 (S.new hp (.lst xs)).2⟩
theorem rd_newT {xs : List V} (S : Hs H0 M H L) (hz : xs.length ≤ sizeLine) (h : ∀ p H', H0 p = none → Hs H0 M H' ((p, .tup xs) :: L) → Q (.ref p) H') : nwT Q H xs :=
  ⟨hz, fun p hp => h p _ (S.new hp (.tup xs)).1 (S.new hp (.tup xs)).2⟩
theorem rd_newO {o : HO} (S : Hs H0 M H L) (h : ∀ p H', H0 p = none → Hs H0 M H' ((p, o) :: L) → Q (.ref p) H') : nw Q H o :=
  fun p hp => h p _ (S.new hp o).1 (S.new hp o).2
theorem rd_ixL {K : PySem.W.Frag} {a : Addr} {xs : List V} {i : Int} (S : Hs H0 M H L) (m : (a, HO.lst xs) ∈ L) (e : atI xs i = some v) (h : Q v H) : rIxL K (.ref a) (.int i) H Q := ⟨a, xs, i, v, rfl, rfl, S.lst m, e, h⟩
theorem atI_any {α : Type} {xs : List α} {i : Int} (h0 : 0 ≤ i) (h1 : i < xs.length) : ∃ v, v ∈ xs ∧ xs[i.toNat]? = some v ∧ atI xs i = some v := by
  have hl : i.toNat < xs.length := by omega
  have e : xs[i.toNat]? = some xs[i.toNat] := by simp [hl]
  refine ⟨xs[i.toNat], List.getElem_mem hl, e, ?_⟩
  have z : ((i.toNat : Nat) : Int) = i := by omega
  have q := atI_nat e
  rw [z] at q
  exact q
theorem rd_ixAny {K : PySem.W.Frag} {a : Addr} {xs : List V} {i : Int} (S : Hs H0 M H L) (m : (a, HO.lst xs) ∈ L) (h0 : 0 ≤ i) (h1 : i < xs.length) (h : ∀ v, v ∈ xs → xs[i.toNat]? = some v → Q v H) : rIxL K (.ref a) (.int i) H Q := by
  obtain ⟨v, hv, e, he⟩ := atI_any h0 h1
  exact ⟨a, xs, i, v, rfl, rfl, S.lst m, he, h v hv e⟩
theorem rd_ixT {K : PySem.W.Frag} {a : Addr} {xs : List V} {i : Int} (S : Hs H0 M H L) (m : (a, HO.tup xs) ∈ L) (e : atI xs i = some v) (h : Q v H) : rIxT K (.ref a) (.int i) H Q := ⟨a, xs, i, v, rfl, rfl, S.tup m, e, h⟩
theorem rd_len {K : PySem.W.Frag} {a : Addr} {xs : List V} (S : Hs H0 M H L) {R : List V → Prop} (m : (a, HO.lst xs) ∈ L) (h : R xs) : ∃ p ys, [V.ref a] = [.ref p] ∧ (SqL K H p ys ∨ SqT K H p ys) ∧ R ys := ⟨a, xs, rfl, Or.inl (S.lst m), h⟩
theorem rd_lenT {K : PySem.W.Frag} {a : Addr} {xs : List V} (S : Hs H0 M H L) {R : List V → Prop} (m : (a, HO.tup xs) ∈ L) (h : R xs) : ∃ p ys, [V.ref a] = [.ref p] ∧ (SqL K H p ys ∨ SqT K H p ys) ∧ R ys := ⟨a, xs, rfl, Or.inr (S.tup m), h⟩
theorem rd_getS {a : Addr} {kvs : List (Key × V)} {k : Str} (S : Hs H0 M H L) (m : (a, HO.dK kvs) ∈ L) (e : valV kvs (.inr k) = some v) {R : V → Prop} (h : R v) : ∃ a' v', V.ref a = .ref a' ∧ DGet H a' (.str k) (some v') ∧ R v' :=
  ⟨a, v, rfl, by rw [← e]; exact DGet.k (k := Sum.inr k) (S.is _ m), h⟩
theorem rd_putS {a : Addr} {kvs kvs' : List (Key × V)} {k : Str} {R : Hp → Prop} (S : Hs H0 M H L) (c : Chg a (.dK kvs) (.dK kvs') L L') (hm : H0 a = none ∨ a ∈ M) (hl : kvs.length < sizeLine) (e : putK kvs (.inr k) v = kvs')
    (h : ∀ H', Hs H0 M H' L' → R H') : ∃ a' H4, V.ref a = .ref a' ∧ DPut H a' (.str k) v H4 ∧ R H4 := by
  subst e
  exact ⟨a, _, rfl, DPut.k (k := Sum.inr k) (S.is _ c.mem) hl, h _ (S.put c hm)⟩
theorem gt_ref {K : PySem.W.Frag} {a : Addr} {xs : List V} {n : Nat} {ts : TGs} {N : L2.St → Hp → Prop} (S : Hs H0 M H L) (m : (a, HO.tup xs) ∈ L) (hn : xs.length = n) (h : ts xs σ H N) : gTup K n ts (.ref a) σ H N := ⟨a, xs, rfl, S.tup m, hn, h⟩
theorem gt_cons {ts : TGs} {w : V} {vs : List V} {N : L2.St → Hp → Prop} (h : g w σ H fun σ' H' => ts vs σ' H' N) : gCons g ts (w :: vs) σ H N := ⟨w, vs, rfl, h⟩
theorem gt_nil {N : L2.St → Hp → Prop} (h : N σ H) : gNil [] σ H N := ⟨rfl, h⟩
end
/-! ### a def as it is called by its name -/
structure Cal (K : PySem.W.Frag) (mg : Str → Option Value) (x : Str) (st : Stmt) (ps : List Str) (f : Addr) (fd : FuncData) : Prop where
  F : Fun K x x st f fd
  b : Binds K fd ps []
  m : mg x = some (.ref f)
end Rs

namespace Rs
open PySem PySem.Spec PyProof.Rows L2

/-! ### kinds of values -/
inductive Kn where
  | int | bool | str | none | list | tup | dict
  deriving DecidableEq
def Kn.nm : Kn → String
  | .int => "int" | .bool => "bool" | .str => "str" | .none => "NoneType" | .list => "list" | .tup => "tuple" | .dict => "dict"
inductive Kin (K : PySem.W.Frag) (H : Hp) : V → Kn → Prop where
  | int (i : Int) : Kin K H (.int i) .int
  | bl (b : Bool) : Kin K H (.bl b) .bool
  | str (x : Str) : Kin K H (.str x) .str
  | non : Kin K H .non .none
  | ref {a : Addr} {k : Kn} (h : TyX K H (.ref a) (.type k.nm)) (n : k = .list ∨ k = .tup ∨ k = .dict) : Kin K H (.ref a) k
section
variable {K : PySem.W.Frag} {H H0 : Hp} {M : List Addr} {L : Led} {x : V} {k : Kn} {Q : VK} {a : Addr}
theorem Kin.ty (h : Kin K H x k) : TyX K H x (.type k.nm) := by
  cases h with
  | int i => exact .base (.int i)
  | bl b => exact .base (.bl b)
  | str x => exact .base (.str x)
  | non => exact .base .non
  | ref h n => exact h
theorem Kin.lst {xs : List V} (h : H a = some (.lst xs)) : Kin K H (.ref a) .list := .ref (.base (.lst h)) (.inl rfl)
theorem Kin.tup {xs : List V} (h : H a = some (.tup xs)) : Kin K H (.ref a) .tup := .ref (.base (.tup h)) (.inr (.inl rfl))
theorem Kin.dK {kvs : List (Key × V)} (h : H a = some (.dK kvs)) : Kin K H (.ref a) .dict := .ref (.base (.dK h)) (.inr (.inr rfl))
theorem kit_int (k : Kn) : kitB k.nm "int" = some (k == .int || k == .bool) := by cases k <;> decide +kernel
theorem kit_bool (k : Kn) : kitB k.nm "bool" = some (k == .bool) := by cases k <;> decide +kernel
theorem kit_list (k : Kn) : kitB k.nm "list" = some (k == .list) := by cases k <;> decide +kernel
theorem kit_tuple (k : Kn) : kitB k.nm "tuple" = some (k == .tup) := by cases k <;> decide +kernel
theorem kit_str (k : Kn) : kitB k.nm "str" = some (k == .str) := by cases k <;> decide +kernel
theorem rd_isi {T : String} {b : Bool} (h : Kin K H x k) (e : kitB k.nm T = some b) (q : Q (.bl b) H) : rIsi K [x, .ty T] H Q := ⟨x, .ty T, .type k.nm, .type T, b, rfl, .ty T, h.ty, kit_ty e, q⟩
end
/-- a def with keyword-only defaults, as it is called by its name -/
structure CalK (K : PySem.W.Frag) (mg : Str → Option Value) (x : Str) (st : Stmt) (f : Addr) (fd : FuncData) : Prop where
  F : Fun K x x st f fd
  m : mg x = some (.ref f)
/-- whether a thing is a whole number from l to m -/
def isWh (x : V) (l m : Int) : Bool := match x with
  | .int t => decide (l ≤ t) && decide (t ≤ m)
  | _ => false
theorem isWh_int (t l m : Int) : isWh (.int t) l m = (decide (l ≤ t) && decide (t ≤ m)) := rfl

/-! ### more readings -/
section
variable {X : Cx}
/-- a module's constant -/
theorem pe_gl {x : Str} {v : V} {pos : Pos} (hg : Gl X x) (h : ∃ u, X.mg x = some u ∧ RelV v u) (hd : (x == ("__debug__" : Str)) = false := by decide) : PE X (.Name x pos) (tC v) := by
  obtain ⟨u, h1, h2⟩ := h
  exact pe_glob hg h1 h2 hd
end
/-- the keys of written pairs -/
def toK : List (V × V) → List (Key × V)
  | [] => []
  | (.int i, v) :: r => (.inl i, v) :: toK r
  | (.str x, v) :: r => (.inr x, v) :: toK r
  | _ :: r => toK r
def dspEnd (Q : VK) (p : Addr) (ps : List (V × V)) (H : Hp) : Prop := H p = some (.dK []) ∧ ∃ kvs : List (Key × V), ps = kvs.map (fun kv => (kV kv.1, kv.2)) ∧ kvs.length ≤ 15 ∧ Q (.ref p) (upd H p (.dK (mergeK [] kvs)))
def forW (J : It) (g : TG) (tb : TS) (D : Ends) (σ : L2.St) (H : Hp) : Prop := ∃ W : Nat → Nat → L2.St → Hp → Prop, (∃ m, W 0 m σ H) ∧ ∀ i m σ H, W i m σ H →
  (J.stop i H ∧ D.nx σ H) ∨ (J.go i H ∧ ∃ N : L2.St → Hp → Prop, (∀ σ' H', N σ' H' → ∃ m', m' < m ∧ W (i + 1) m' σ' H') ∧ ∀ x H', J.yld i H x H' → g x σ H' fun σ2 H2 => tb { D with nx := N, ct := N, bk := D.nx } σ2 H2)
def wl (W : Nat → L2.St → Hp → Prop) (m : Nat) (tw : TS) (nx : L2.St → Hp → Prop) (rt : VK) (σ : L2.St) (H : Hp) : Prop := ∃ N : L2.St → Hp → Prop, (∀ σ' H', N σ' H' → ∃ m', m' < m ∧ W m' σ' H') ∧ tw ⟨N, rt, nx, N⟩ σ H
def rng1 (R : It → Hp → Prop) (vs : List V) (H : Hp) : Prop := ∃ j : Int, vs = [.int j] ∧ -(2 ^ 62) ≤ j ∧ j < 2 ^ 62 ∧ R (Itr 0 j.toNat) H
def rng2 (R : It → Hp → Prop) (vs : List V) (H : Hp) : Prop := ∃ i j : Int, vs = [.int i, .int j] ∧ (-(2 ^ 62) ≤ i ∧ i < 2 ^ 62 ∧ -(2 ^ 62) ≤ j ∧ j < 2 ^ 62) ∧ R (Itr i (j - i).toNat) H
def lstI (K : PySem.W.Frag) (R : It → Hp → Prop) (x : V) (H : Hp) : Prop := ∃ a, x = .ref a ∧ (∃ xs, SqL K H a xs) ∧ R (Itl K a) H
def tupI (K : PySem.W.Frag) (R : It → Hp → Prop) (x : V) (H : Hp) : Prop := ∃ a, x = .ref a ∧ (∃ xs, SqT K H a xs) ∧ R (Itt K a) H
section
variable {σ : L2.St} {H H0 : Hp} {M : List Addr} {L L' : Led} {Q : VK} {v x y : V} {nx : L2.St → Hp → Prop} {rt : VK} {bk ct : L2.St → Hp → Prop} {t u : TS} {te ta tb tc : TE} {g : TG} {tt tu : TT} {tw : TS} {wi : TI}
theorem rd_disp {trs : List (TE × TE)} (S : Hs H0 M H L) (h : ∀ p H', H0 p = none → Hs H0 M H' ((p, .dK []) :: L) → tPairs trs σ H' fun ps H2 => dspEnd Q p ps H2) : tDisp trs σ H Q :=
  fun p hp => h p _ (S.new hp (.dK [])).1 (S.new hp (.dK [])).2
theorem rd_dspEnd {p : Addr} {ps : List (V × V)} {kvs : List (Key × V)} (S : Hs H0 M H L) (c : Chg p (.dK []) (.dK kvs) L L') (hm : H0 p = none ∨ p ∈ M) (e : ps = (toK ps).map fun kv => (kV kv.1, kv.2)) (hl : (toK ps).length ≤ 15)
    (ek : mergeK [] (toK ps) = kvs) (h : ∀ H', Hs H0 M H' L' → Q (.ref p) H') : dspEnd Q p ps H := by
  subst ek
  exact ⟨S.is _ c.mem, toK ps, e, hl, h _ (S.put c hm)⟩
theorem rd_prs {r : List (TE × TE)} {R : List (V × V) → Hp → Prop} (h : ta σ H fun k H1 => tb σ H1 fun v H2 => tPairs r σ H2 fun ps H3 => R ((k, v) :: ps) H3) : tPairs ((ta, tb) :: r) σ H R := h
theorem rd_prs0 {R : List (V × V) → Hp → Prop} (h : R [] H) : tPairs [] σ H R := h
theorem rd_for (h : wi σ H fun J H1 => forW J g tw ⟨nx, rt, bk, ct⟩ σ H1) : tFor wi g tw ⟨nx, rt, bk, ct⟩ σ H := h
theorem rd_rng1 {ta : TA} {R : It → Hp → Prop} (h : ta σ H fun vs H1 => rng1 R vs H1) : iRng1 ta σ H R := h
theorem rd_rng2 {ta : TA} {R : It → Hp → Prop} (h : ta σ H fun vs H1 => rng2 R vs H1) : iRng2 ta σ H R := h
theorem rd_rng1v {R : It → Hp → Prop} {j : Int} (h1 : -(2 ^ 62) ≤ j) (h2 : j < 2 ^ 62) (h : R (Itr 0 j.toNat) H) : rng1 R [.int j] H := ⟨j, rfl, h1, h2, h⟩
theorem rd_rng2v {R : It → Hp → Prop} {i j : Int} (h1 : -(2 ^ 62) ≤ i) (h2 : i < 2 ^ 62) (h3 : -(2 ^ 62) ≤ j) (h4 : j < 2 ^ 62) (h : R (Itr i (j - i).toNat) H) : rng2 R [.int i, .int j] H := ⟨i, j, rfl, ⟨h1, h2, h3, h4⟩, h⟩
theorem rd_iList {K : PySem.W.Frag} {R : It → Hp → Prop} (h : te σ H fun x H1 => lstI K R x H1) : iList K te σ H R := h
theorem rd_iTup {K : PySem.W.Frag} {R : It → Hp → Prop} (h : te σ H fun x H1 => tupI K R x H1) : iTup K te σ H R := h
theorem rd_lstI {K : PySem.W.Frag} {R : It → Hp → Prop} {a : Addr} {xs : List V} (S : Hs H0 M H L) (m : (a, HO.lst xs) ∈ L) (h : R (Itl K a) H) : lstI K R (.ref a) H := ⟨a, rfl, ⟨xs, S.lst m⟩, h⟩
theorem rd_tupI {K : PySem.W.Frag} {R : It → Hp → Prop} {a : Addr} {xs : List V} (S : Hs H0 M H L) (m : (a, HO.tup xs) ∈ L) (h : R (Itt K a) H) : tupI K R (.ref a) H := ⟨a, rfl, ⟨xs, S.tup m⟩, h⟩
/-- over lo, lo + 1, .. -/
theorem fw_range {lo : Int} {n : Nat} (Pv : Nat → L2.St → Hp → Prop) (h0 : Pv 0 σ H) (hs : ∀ i σ H, i < n → Pv i σ H → g (.int (lo + i)) σ H fun σ2 H2 => tw ⟨Pv (i + 1), rt, nx, Pv (i + 1)⟩ σ2 H2) (hd : ∀ σ H, Pv n σ H → nx σ H) :
    forW (Itr lo n) g tw ⟨nx, rt, bk, ct⟩ σ H := for_range Pv h0 hs hd
/-- over a list that stays as it is -/
theorem fw_list {K : PySem.W.Frag} {a : Addr} {xs : List V} (Pv : Nat → L2.St → Hp → Prop) (h0 : Pv 0 σ H) (hl : ∀ i σ H, i ≤ xs.length → Pv i σ H → SqL K H a xs)
    (hs : ∀ i x σ H, xs[i]? = some x → Pv i σ H → g x σ H fun σ2 H2 => tw ⟨Pv (i + 1), rt, nx, Pv (i + 1)⟩ σ2 H2) (hd : ∀ σ H, Pv xs.length σ H → nx σ H) : forW (Itl K a) g tw ⟨nx, rt, bk, ct⟩ σ H := for_list Pv h0 hl hs hd
theorem fw_tup {K : PySem.W.Frag} {a : Addr} {xs : List V} (Pv : Nat → L2.St → Hp → Prop) (h0 : Pv 0 σ H) (hl : ∀ i σ H, i ≤ xs.length → Pv i σ H → SqT K H a xs)
    (hs : ∀ i x σ H, xs[i]? = some x → Pv i σ H → g x σ H fun σ2 H2 => tw ⟨Pv (i + 1), rt, nx, Pv (i + 1)⟩ σ2 H2) (hd : ∀ σ H, Pv xs.length σ H → nx σ H) : forW (Itt K a) g tw ⟨nx, rt, bk, ct⟩ σ H := for_tup Pv h0 hl hs hd
/-- while: W a word with a number that falls -/
theorem rd_while (W : Nat → L2.St → Hp → Prop) (m0 : Nat) (h0 : W m0 σ H) (hs : ∀ m σ H, W m σ H → tt σ H fun b H1 => if b = true then wl W m tw nx rt σ H1 else nx σ H1) : tWhile tt tw ⟨nx, rt, bk, ct⟩ σ H := ⟨W, ⟨m0, h0⟩, hs⟩
theorem rd_wl {W : Nat → L2.St → Hp → Prop} {m : Nat} (h : tw ⟨fun σ' H' => ∃ m', m' < m ∧ W m' σ' H', rt, nx, fun σ' H' => ∃ m', m' < m ∧ W m' σ' H'⟩ σ H) : wl W m tw nx rt σ H := ⟨_, fun _ _ h => h, h⟩
end
end Rs

namespace Rs
open PySem PySem.Spec PyProof.Rows L2

/-! ### plain data: how far it reaches -/
mutual
/-- whole numbers below 10 ^ 12, short texts of small signs, no dicts -/
def tame : PyData → Bool
  | .none | .bool _ => true
  | .int i => decide (i.natAbs < 10 ^ 12)
  | .str x => PyData.strOk x && decide (x.cps.size ≤ 40) && x.cps.toList.all fun c => decide (c < 16 ^ 8)
  | .list xs | .tuple xs => tames xs
  | .dict _ => false
def tames : List PyData → Bool
  | [] => true
  | x :: xs => tame x && tames xs
end
mutual
/-- how many there are in all -/
def cnt : PyData → Nat
  | .list xs | .tuple xs => 1 + cnts xs
  | _ => 1
def cnts : List PyData → Nat
  | [] => 0
  | x :: xs => cnt x + cnts xs
end
mutual
theorem tame_show : ∀ d : PyData, tame d = true → d.showable = true ∧ d.canLay0 = true ∧ d.intsShort 13 = true ∧ d.weight + 1 ≤ 46 * cnt d
  | .none, _ => by simp [PyData.showable, PyData.canLay0, PyData.intsShort, PyData.weight, cnt]
  | .bool _, _ => by simp [PyData.showable, PyData.canLay0, PyData.intsShort, PyData.weight, cnt]
  | .int i, h => by
    have h1 : i.natAbs < 10 ^ 12 := by simpa [tame] using h
    have h2 : i.natAbs.log2 < 40 := by
      by_cases z : i.natAbs = 0
      · rw [z]; decide
      · exact (Nat.log2_lt z).mpr (by omega)
    have h3 := PyData.shown_int_le h1
    refine ⟨by simp [PyData.showable]; omega, by simp [PyData.canLay0], by simp [PyData.intsShort]; omega, ?_⟩
    simp only [PyData.weight, cnt]
    split <;> omega
  | .str x, h => by
    simp only [tame, Bool.and_eq_true, decide_eq_true_eq] at h
    refine ⟨by simp [PyData.showable], by simpa [PyData.canLay0] using h.1.1, by simp [PyData.intsShort], ?_⟩
    simp only [PyData.weight, cnt]
    omega
  | .list xs, h => by
    obtain ⟨h1, h2, h3, h4⟩ := tames_show xs (by simpa [tame] using h)
    refine ⟨by simpa [PyData.showable] using h1, by simpa [PyData.canLay0] using h2, by simpa [PyData.intsShort] using h3, ?_⟩
    simp only [PyData.weight, cnt]
    omega
  | .tuple xs, h => by
    obtain ⟨h1, h2, h3, h4⟩ := tames_show xs (by simpa [tame] using h)
    refine ⟨by simpa [PyData.showable] using h1, by simpa [PyData.canLay0] using h2, by simpa [PyData.intsShort] using h3, ?_⟩
    simp only [PyData.weight, cnt]
    omega
  | .dict _, h => by simp [tame] at h
theorem tames_show : ∀ xs : List PyData, tames xs = true → PyData.showableAll xs = true ∧ PyData.canLayAll0 xs = true ∧ PyData.intsShortAll 13 xs = true ∧ PyData.weightAll xs ≤ 46 * cnts xs
  | [], _ => by simp [PyData.showableAll, PyData.canLayAll0, PyData.intsShortAll, PyData.weightAll, cnts]
  | x :: xs, h => by
    have h' : tame x = true ∧ tames xs = true := by simpa [tames] using h
    obtain ⟨a1, a2, a3, a4⟩ := tame_show x h'.1
    obtain ⟨b1, b2, b3, b4⟩ := tames_show xs h'.2
    simp only [PyData.showableAll, PyData.canLayAll0, PyData.intsShortAll, PyData.weightAll, cnts, a1, a2, a3, b1, b2, b3, Bool.and_self, true_and]
    omega
end
theorem shw_of {d : PyData} (h : tame d = true) (hc : cnt d ≤ 20000) : Shw d := by
  obtain ⟨h1, h2, h3, h4⟩ := tame_show d h
  exact ⟨h1, PyData.shown_fits (B := 13) (by decide) (by decide) (PyData.leavesShort_of_canLay0 13 d h2 h3) (by omega)⟩
theorem shaped_of {d : PyData} (h : tame d = true) (hd : d.depth ≤ 64) : SeqAt.shaped d = true := by
  obtain ⟨_, h2, _, _⟩ := tame_show d h
  unfold SeqAt.shaped
  rw [h2, Bool.true_and]
  exact decide_eq_true hd
/-! ### lists of whole numbers -/
def dI (ns : List Int) : PyData := .list (ns.map .int)
section
variable {K : PySem.W.Frag} {H H0 : Hp} {M : List Addr} {L L' : Led} {Q : VK} {a b : Addr}
theorem dps_ints : ∀ ns : List Int, DpAll K H (ns.map V.int) (ns.map .int)
  | [] => .nil
  | n :: ns => .cons (.int n) (dps_ints ns)
theorem dp_ints {ns : List Int} (h : SqL K H a (ns.map V.int)) : Dp K H (.ref a) (dI ns) := .lst h (dps_ints ns)
theorem depth_ints : ∀ ns : List Int, PyData.depthAll (ns.map .int) = 0
  | [] => by simp [PyData.depthAll]
  | n :: ns => by simp [PyData.depthAll, PyData.depth, depth_ints ns]
theorem depth_dI (ns : List Int) : (dI ns).depth = 1 := by simp [dI, PyData.depth, depth_ints]
theorem canLay_ints : ∀ ns : List Int, PyData.canLayAll0 (ns.map .int) = true
  | [] => by simp [PyData.canLayAll0]
  | n :: ns => by simp [PyData.canLayAll0, PyData.canLay0, canLay_ints ns]
theorem shaped_dI (ns : List Int) : SeqAt.shaped (dI ns) = true := by
  unfold SeqAt.shaped
  rw [depth_dI]
  simp [dI, PyData.canLay0, canLay_ints]
theorem eqv_ints : ∀ ns ms : List Int, PyData.eqvAll (ns.map .int) (ms.map .int) = decide (ns = ms)
  | [], [] => by simp [PyData.eqvAll]
  | [], m :: ms => by simp [PyData.eqvAll]
  | n :: ns, [] => by simp [PyData.eqvAll]
  | n :: ns, m :: ms => by
    simp only [List.map_cons, PyData.eqvAll, PyData.eqv, eqv_ints ns ms, List.cons.injEq, Bool.decide_and]
    rfl
theorem eqv_dI (ns ms : List Int) : PyData.eqv (dI ns) (dI ms) = decide (ns = ms) := by
  simp only [dI, PyData.eqv, eqv_ints]
theorem tames_ints : ∀ ns : List Int, (∀ n ∈ ns, n.natAbs < 10 ^ 12) → tames (ns.map .int) = true
  | [], _ => by simp [tames]
  | n :: ns, h => by
    simp only [List.map_cons, tames, tame, Bool.and_eq_true, decide_eq_true_eq]
    exact ⟨h n List.mem_cons_self, tames_ints ns fun m hm => h m (List.mem_cons_of_mem _ hm)⟩
theorem cnts_ints : ∀ ns : List Int, cnts (ns.map .int) = ns.length
  | [] => by simp [cnts]
  | n :: ns => by simp only [List.map_cons, cnts, cnt, cnts_ints ns, List.length_cons]; omega
theorem shw_dI {ns : List Int} (h : ∀ n ∈ ns, n.natAbs < 10 ^ 12) (hl : ns.length ≤ 10000) : Shw (dI ns) :=
  shw_of (by simp [dI, tame, tames_ints ns h]) (by simp only [dI, cnt, cnts_ints]; omega)
/-- == and != of two lists of whole numbers -/
theorem rd_eqIs {xs ys : List V} {ns ms : List Int} (S : Hs H0 M H L) (m1 : (a, HO.lst xs) ∈ L) (m2 : (b, HO.lst ys) ∈ L) (e1 : xs = ns.map V.int) (e2 : ys = ms.map V.int) (h : Q (.bl (decide (ns = ms))) H) : rEqD K (.ref a) (.ref b) H Q := by
  subst e1 e2
  exact ⟨_, _, dp_ints (S.lst m1), dp_ints (S.lst m2), shaped_dI ns, shaped_dI ms, by rw [eqv_dI]; exact h⟩
theorem rd_neIs {xs ys : List V} {ns ms : List Int} (S : Hs H0 M H L) (m1 : (a, HO.lst xs) ∈ L) (m2 : (b, HO.lst ys) ∈ L) (e1 : xs = ns.map V.int) (e2 : ys = ms.map V.int) (h : Q (.bl (decide (¬ ns = ms))) H) : rNeD K (.ref a) (.ref b) H Q := by
  subst e1 e2
  refine ⟨_, _, dp_ints (S.lst m1), dp_ints (S.lst m2), shaped_dI ns, shaped_dI ms, ?_⟩
  rw [eqv_dI]
  have e : (!decide (ns = ms)) = decide (¬ ns = ms) := by simp
  rw [e]; exact h
theorem rd_reprI {xs : List V} {ns : List Int} (S : Hs H0 M H L) (m : (a, HO.lst xs) ∈ L) (e : xs = ns.map V.int) (hb : ∀ n ∈ ns, n.natAbs < 10 ^ 12) (hl : ns.length ≤ 10000) (h : Q (.str (dI ns).shown) H) : rRepr K [.ref a] H Q := by
  subst e
  exact ⟨.ref a, dI ns, rfl, dp_ints (S.lst m), shw_dI hb hl, by rw [depth_dI]; decide, h⟩
theorem pick_ints (ns : List Int) (lo hi st : Option Int) : ∃ ks : List Int, pickV (ns.map V.int) lo hi st = ks.map V.int ∧ (∀ k ∈ ks, k ∈ ns) := by
  have e : ∀ ix : List Nat, ix.filterMap ((ns.map V.int)[·]?) = (ix.filterMap (ns[·]?)).map V.int := fun ix => by
    induction ix with
    | nil => rfl
    | cons i ix ih =>
      cases h : ns[i]? with
      | none => rw [List.filterMap_cons_none (by rw [List.getElem?_map, h]; rfl), List.filterMap_cons_none h, ih]
      | some z => rw [List.filterMap_cons_some (by rw [List.getElem?_map, h]; rfl), List.filterMap_cons_some h, ih]; rfl
  refine ⟨(slIx (ns.map V.int).length lo hi st).filterMap (ns[·]?), e _, fun k hk => ?_⟩
  obtain ⟨i, _, hi⟩ := List.mem_filterMap.mp hk
  exact List.mem_of_getElem? hi
end
/-- how keywords are put in the parameters' order -/
theorem kb_of {K : PySem.W.Frag} {x qual : Str} {st : Stmt} {f : Addr} {fd : FuncData} {ps ks : List Str} {n : Nat} (F : Fun K x qual st f fd) (ix : List Nat)
    (h : ∀ (kV doc pm : Value) (an : Option Addr) (cdv ct : Value) (us ws : List Value), us.length = n → ws.length = ks.length →
      bindArgs (PySem.W.fnOf x qual (defArgs st) (defBody st) (defScope st) .none kV doc pm an cdv ct) ⟨us, ks.zip ws⟩ = pure (ps.zip (us ++ ix.filterMap (ws[·]?)))) :
    KBn K fd ps n ks (fun us ws => us ++ ix.filterMap (ws[·]?)) (fun us ws => us ++ ix.filterMap (ws[·]?)) := by
  obtain ⟨oc, od, kV, doc, pm, an, cdv, ct, osl, rfl, lk, hcd⟩ := F.ex
  exact ⟨fun s us ws _ h1 h2 => .of_eq (h kV doc pm an cdv ct us ws h1 h2), fun r1 r2 => r1.append (vals_pick r2 ix)⟩
end Rs

namespace Rs
open PySem PySem.Spec PyProof.Rows L2
section
variable {K : PySem.W.Frag} {mg : Str → Option Value} {h : Heap}
theorem ex_calK {x : Str} {st : Stmt} {f : Addr} {oc : Value} {od an : Option Addr} {osl : Array (Option Value)} {kV doc pm cdv ct : Value} (X : K.In h) (G : h.Ns mainGlobals mg) (a : PySem.W.nsIn K mainGlobals x = some (some (.ref f)))
    (l : K.lookup f = some ⟨oc, od, .func (PySem.W.fnOf x x (defArgs st) (defBody st) (defScope st) .none kV doc pm an cdv ct), osl⟩) (c : PySem.W.codeIn K cdv x = true) (k : PySem.W.keepIn K (.ref f) = true) : ∃ f fd, CalK K mg x st f fd :=
  ⟨_, _, fun_mk l c k, PySem.W.mg_of X G a⟩
theorem ex_cal {x : Str} {st : Stmt} {ps : List Str} {f : Addr} {oc : Value} {od an : Option Addr} {osl : Array (Option Value)} {kV doc pm cdv ct : Value} (X : K.In h) (G : h.Ns mainGlobals mg) (a : PySem.W.nsIn K mainGlobals x = some (some (.ref f)))
    (l : K.lookup f = some ⟨oc, od, .func (PySem.W.fnOf x x (defArgs st) (defBody st) (defScope st) .none kV doc pm an cdv ct), osl⟩) (c : PySem.W.codeIn K cdv x = true) (k : PySem.W.keepIn K (.ref f) = true)
    (b : ∀ (kV doc pm : Value) (an : Option Addr) (cdv ct : Value) (us : List Value), us.length = ps.length → bindArgs (PySem.W.fnOf x x (defArgs st) (defBody st) (defScope st) .none kV doc pm an cdv ct) ⟨us, []⟩ = pure (ps.zip us)) : ∃ f fd, Cal K mg x st ps f fd :=
  ⟨_, _, fun_mk l c k, (fun_mk l c k).binds b, PySem.W.mg_of X G a⟩
theorem ex_gl {x : Str} {v : V} {u : Value} (X : K.In h) (G : h.Ns mainGlobals mg) (a : PySem.W.nsIn K mainGlobals x = some (some u)) (r : RelV v u) : ∃ u, mg x = some u ∧ RelV v u := ⟨u, PySem.W.mg_of X G a, r⟩
end
/-- the end, the law's def by its facts -/
theorem walkE {l : PySem.W.OpenLaw} {n k : Nat} {q : Program} {loose : List Str} {XP : (Str → Option Value) → Heap → Prop} {YP : World → Heap → Prop} {d : DefRec} {K : Params → PySem.W.Frag} {sp : PySem.W.Frag → Sp} {st : Stmt} {x : Str}
    (hn : l.most = some n) (hn2 : n ≤ sizeLine) (hdf : d.params.defaults = []) (hr : Room k callerA) (hY : ∀ (w : World) (h : Heap), YP w h → (K w.params).In h) (hx : d.name = "law")
    (hb : ∀ (kV doc pm : Value) (an : Option Addr) (cdv ct u : Value), bindArgs (PySem.W.fnOf "law" "law" (defArgs st) (defBody st) (defScope st) .none kV doc pm an cdv ct) ⟨[u], []⟩ = pure [(x, u)])
    (F : ∀ (w : World) (mg : Str → Option Value) (h : Heap), (K w.params).In h → h.Ns mainGlobals mg →
      ∃ (fa : Addr) (fd : FuncData), Cal (K w.params) mg "law" st [x] fa fd ∧ ∀ base : Heap, FnG l.prog w (K w.params) mg base k fa fd [x] (sp (K w.params)))
    (hsp : ∀ (K : PySem.W.Frag) (H : Hp) (a : Addr) (ns : List Int), ns.length ≤ n → (∀ z ∈ ns, Builtin.Int.intBits z ≤ 1048576) → SqL K H a (ns.map V.int) → sp K [.ref a] H (fun v _ => v = .bl true) E0) :
    PySem.W.WalkO q loose XP YP l.row.toRowW d [] (fun f vs => PySem.call f vs) := by
  refine walkG (x := x) hn hn2 hdf hr hY (fun w mg fa h KX G hmg => ?_) hsp
  obtain ⟨f, fd, C, ok⟩ := F w mg h KX G
  rw [hx] at hmg
  have e := C.m.symm.trans hmg
  cases e
  obtain ⟨oc, od, kV, doc, pm, an, cdv, ct, osl, rfl, lk, hcd⟩ := C.F.ex
  exact ⟨_, fun s u => .of_eq (hb kV doc pm an cdv ct u), fun base _ _ => ok base⟩
end Rs

namespace Rs
open PySem PySem.Spec PyProof.Rows L2

/-- xs[i:j] = another list -/
def gSlc (to : TE) (tl th : L2.St → Hp → (Option Int → Hp → Prop) → Prop) : TG := fun v σ H Q => to σ H fun o H1 => tl σ H1 fun l H2 => th σ H2 fun u H3 => ∃ (a b : Addr) (xs ys : List V) (i j : Int), o = .ref a ∧ v = .ref b ∧ l = some i ∧ u = some j ∧
  H3 a = some (.lst xs) ∧ H3 b = some (.lst ys) ∧ a ≠ b ∧ 0 ≤ i ∧ i ≤ j ∧ j ≤ xs.length ∧ xs.length + ys.length ≤ sizeLine ∧ Q σ (upd H3 a (.lst (xs.take i.toNat ++ ys ++ xs.drop j.toNat)))
theorem pg_slc {X : Cx} {o : Expr} {lo hi : Option Expr} {p2 pos : Pos} {to : TE} {tl th : L2.St → Hp → (Option Int → Hp → Prop) → Prop} (ho : PE X o to) (hl : PO X lo tl) (hh : PO X hi th)
    (ha : ∀ v, assign (.Subscript o (.Slice lo hi none p2) pos) X.env v = (do
      let ov ← holding [v] (eval o X.env)
      let iv ← holding [v, ov] (eval (.Slice lo hi none p2) X.env)
      standAt pos
      holding [v, ov, iv] (setItem ov iv v)
      release [iv, v, ov] []) := by intro _; rfl) : PG X (.Subscript o (.Slice lo hi none p2) pos) (gSlc to tl th) := by
  refine ⟨fun pins s σ H v u Q I r h => ?_⟩
  rw [ha]
  refine wpAny_bind (wpAny_holding (thn (ho.run pins s σ H _ I h) fun ov s1 ⟨x, H1, I1, r1, q1⟩ => ?_))
  refine wpAny_bind (wpAny_holding ?_)
  refine wpAny_Slice (thn (hl.run pins s1 σ H1 _ I1 q1) fun vl s2 ⟨l, H2, I2, pl, q2⟩ => thn (hh.run pins s2 σ H2 _ I2 q2) fun vu s3 ⟨w, H3, I3, pu, q3⟩ => ?_)
  rw [evalPart_none]
  refine wpAny_pure ?_
  have I4 : Inv X pins σ H3 { s3 with heap := s3.heap.push { cls := .type "slice", data := .fields #[vl, vu, .none] } } := I3.kept (t' := s3.toks) fun b ob q => Heap.get?_push_of_some _ q
  obtain ⟨a, b, xs, ys, i, j, rfl, rfl, rfl, rfl, hA, hB, hne, h0, h1, h2, h3, q⟩ := q3
  cases r1
  cases r
  cases pl
  cases pu
  refine wpAny_bind (wpAny_standAt (wpAny_bind (wpAny_holding ?_)))
  refine set_slice I4 hA hB hne (Heap.IsSliceOf.new ..) ⟨_, rfl⟩ ⟨_, rfl⟩ h0 h1 h2 h3 fun s5 I5 => ?_
  exact wpAny_release ⟨σ, _, I5, q⟩

/-! ### classes -/
/-- a method as it stands behind the top -/
structure CalM (K : PySem.W.Frag) (x qual : Str) (st : Stmt) (ps : List Str) (f : Addr) (fd : FuncData) : Prop where
  F : Fun K x qual st f fd
  b : Binds K fd ps []
section
variable {K : PySem.W.Frag} {mg : Str → Option Value} {h : Heap}
theorem ex_calM {C : Addr} {x qual : Str} {st : Stmt} {ps : List Str} {f : Addr} {oc : Value} {od an : Option Addr} {osl : Array (Option Value)} {kV doc pm cdv ct : Value} (a : PySem.W.findIn K (.ref C) x = some (some (.ref f))) (i : PySem.W.isFn K (.ref f) = true)
    (l : K.lookup f = some ⟨oc, od, .func (PySem.W.fnOf x qual (defArgs st) (defBody st) (defScope st) .none kV doc pm an cdv ct), osl⟩) (c : PySem.W.codeIn K cdv qual = true) (k : PySem.W.keepIn K (.ref f) = true)
    (b : ∀ (kV doc pm : Value) (an : Option Addr) (cdv ct : Value) (us : List Value), us.length = ps.length → bindArgs (PySem.W.fnOf x qual (defArgs st) (defBody st) (defScope st) .none kV doc pm an cdv ct) ⟨us, []⟩ = pure (ps.zip us)) :
    ∃ f fd, Meth K C x f ∧ CalM K x qual st ps f fd := ⟨_, _, ⟨a, i, k⟩, fun_mk l c k, (fun_mk l c k).binds b⟩
/-- an __init__ with keyword-only defaults -/
structure CalI (K : PySem.W.Frag) (C : Addr) (qual : Str) (st : Stmt) (kws : List (Str × V)) (f : Addr) (fd : FuncData) : Prop where
  M : Mk K C f
  F : FunD K "__init__" qual (defArgs st) (defBody st) (defScope st) [] kws f fd
theorem ex_calI {C D : Addr} {qual : Str} {st : Stmt} {kws : List (Str × V)} {f : Addr} {oc : Value} {od an : Option Addr} {osl : Array (Option Value)} {doc pm cdv ct : Value} (m : PySem.W.makesIn K C = true) (kc : PySem.W.keepIn K (.ref C) = true)
    (a : PySem.W.findIn K (.ref C) "__init__" = some (some (.ref f))) (i : PySem.W.isFn K (.ref f) = true)
    (l : K.lookup f = some ⟨oc, od, .func (PySem.W.fnOf "__init__" qual (defArgs st) (defBody st) (defScope st) .none (.ref D) doc pm an cdv ct), osl⟩) (c : PySem.W.codeIn K cdv qual = true) (k : PySem.W.keepIn K (.ref f) = true)
    (d : ∀ q ∈ kws, ∃ u, PySem.W.nsIn K D q.1 = some (some u) ∧ RelV q.2 u) : ∃ f fd, CalI K C qual st kws f fd :=
  ⟨_, _, ⟨m, a, i, kc⟩, ⟨⟨oc, od, .none, .ref D, doc, pm, an, cdv, ct, osl, rfl, l, c, Or.inl ⟨rfl, rfl⟩, Or.inr ⟨D, rfl, d⟩⟩, k⟩⟩
end
end Rs

namespace Rs
open PySem PySem.Spec PyProof.Rows L2

/-- the part of a list of whole numbers -/
def cutI (ns : List Int) (lo hi : Option Int) : List Int := (ns.drop (HT.sIx ns.length 0 lo)).take (HT.sIx ns.length ns.length hi - HT.sIx ns.length 0 lo)
theorem cutV_map (ns : List Int) (lo hi : Option Int) : cutV (ns.map V.int) lo hi = (cutI ns lo hi).map V.int := by
  unfold cutV cutI
  rw [List.map_take, List.map_drop, List.length_map]
theorem cutI_le (ns : List Int) (lo hi : Option Int) : (cutI ns lo hi).length ≤ ns.length := by
  unfold cutI
  rw [List.length_take, List.length_drop]
  omega
section
variable {σ : L2.St} {H H0 : Hp} {M : List Addr} {L L' : Led} {Q : VK} {v x y : V} {nx : L2.St → Hp → Prop} {rt : VK} {bk ct : L2.St → Hp → Prop} {t u : TS} {te ta tb tc : TE} {g : TG} {tt tu : TT} {tw : TS} {wi : TI} {K : PySem.W.Frag} {a p : Addr}
/-! attributes -/
theorem rd_fld {f : Str} (h : ta σ H fun x H1 => ∃ a C dx fs v, x = .ref a ∧ H1 a = some (.ins C dx fs) ∧ Cls K C ∧ NoAttr K C f ∧ fs.lookup f = some v ∧ Q v H1) : tFld K ta f σ H Q := h
theorem rd_fldV {f : Str} {C dx : Addr} {fs : List (Str × V)} {R : V → Prop} (S : Hs H0 M H L) (m : (a, HO.ins C dx fs) ∈ L) (c : Cls K C) (n : NoAttr K C f) (e : fs.lookup f = some v) (h : R v) :
    ∃ a' C dx fs v', V.ref a = .ref a' ∧ H a' = some (.ins C dx fs) ∧ Cls K C ∧ NoAttr K C f ∧ fs.lookup f = some v' ∧ R v' := ⟨a, C, dx, fs, v, rfl, S.is _ m, c, n, e, h⟩
theorem rd_sfld {f : Str} {tv : TE} (h : tv σ H fun y H1 => ta σ H1 fun x H2 => ∃ a C dx fs, x = .ref a ∧ H2 a = some (.ins C dx fs) ∧ Cls K C ∧ NoAttr K C f ∧ fs.length < 1000 ∧ nx σ (upd H2 a (.ins C dx (putF f y fs)))) : sFld K ta tv f ⟨nx, rt, bk, ct⟩ σ H := h
theorem rd_sfldV {f : Str} {C dx : Addr} {fs fs' : List (Str × V)} {R : Hp → Prop} (S : Hs H0 M H L) (ch : Chg a (.ins C dx fs) (.ins C dx fs') L L') (hm : H0 a = none ∨ a ∈ M) (c : Cls K C) (n : NoAttr K C f) (hl : fs.length < 1000) (e : putF f y fs = fs') (h : ∀ H', Hs H0 M H' L' → R H') :
    ∃ a' C dx fs, V.ref a = .ref a' ∧ H a' = some (.ins C dx fs) ∧ Cls K C ∧ NoAttr K C f ∧ fs.length < 1000 ∧ R (upd H a' (.ins C dx (putF f y fs))) := by
  subst e
  exact ⟨a, C, dx, fs, rfl, S.is _ ch.mem, c, n, hl, h _ (S.put ch hm)⟩
theorem rd_meth {C : Addr} {m : Str} {sp : Sp} {E : XK} {t : TA} (h : ta σ H fun x H1 => ∃ a dx fs, x = .ref a ∧ H1 a = some (.ins C dx fs) ∧ fs.lookup m = none ∧ t σ H1 fun vs H2 => sp (x :: vs) H2 Q E) : tMeth C m sp [] E ta t σ H Q := by
  have e : ∀ x, (fun (vs : List V) H2 => sp (x :: (vs ++ [])) H2 Q E) = fun vs H2 => sp (x :: vs) H2 Q E := fun x => by funext vs H2; rw [List.append_nil]
  show ta σ H fun x H1 => ∃ a dx fs, x = .ref a ∧ H1 a = some (.ins C dx fs) ∧ fs.lookup m = none ∧ t σ H1 fun vs H2 => sp (x :: (vs ++ [])) H2 Q E
  simp only [List.append_nil]
  exact h
theorem rd_methV {C dx : Addr} {m : Str} {fs : List (Str × V)} {R : Prop} (S : Hs H0 M H L) (hm : (a, HO.ins C dx fs) ∈ L) (e : fs.lookup m = none) (h : R) : ∃ a' dx fs, V.ref a = .ref a' ∧ H a' = some (.ins C dx fs) ∧ fs.lookup m = none ∧ R :=
  ⟨a, dx, fs, rfl, S.is _ hm, e, h⟩
theorem rd_mkK {C : Addr} {n m : Nat} {sp : Sp} {gV : List V → List V → List V} {E : XK} {t tk : TA} (h : t σ H fun vs H1 => tk σ H1 fun zs H2 => vs.length = n ∧ zs.length = m ∧ ∀ x dx, H2 x = none → H2 dx = none → dx ≠ x →
    sp (gV (.ref x :: vs) zs) (upd (upd H2 dx (.own x)) x (.ins C dx [])) (fun v H3 => v = .non ∧ Q (.ref x) H3) E) : tMakeK C n m sp gV E t tk σ H Q := h
theorem rd_mkV {C : Addr} {R : Addr → Hp → Prop} (S : Hs H0 M H L) (h : ∀ x dx H', H0 x = none → Hs H0 M H' ((x, .ins C dx []) :: L) → R x H') : ∀ x dx, H x = none → H dx = none → dx ≠ x → R x (upd (upd H dx (.own x)) x (.ins C dx [])) := by
  intro x dx hx hd ne
  obtain ⟨_, S1⟩ := S.new hd (.own x)
  have hx' : upd H dx (HO.own x) x = none := by rw [upd_ne (Ne.symm ne)]; exact hx
  obtain ⟨n0, S2⟩ := S1.new hx' (.ins C dx [])
  exact h x dx _ n0 (S2.sub (List.Sublist.cons_cons _ (List.Sublist.cons _ (List.Sublist.refl _))))
theorem rd_callL {i : Nat} {f : Addr} {sp : Sp} {E : XK} {t : TA} (e : σ[i]? = some (some (.ref f))) (h : t σ H fun vs H1 => sp vs H1 Q E) : tCallL i f sp [] E t σ H Q := by
  refine ⟨e, ?_⟩
  simp only [List.append_nil]
  exact h
/-! methods of lists -/
theorem rd_bm {T : String} {r : V → List V → Hp → VK → Prop} {t : TA} (h : ta σ H fun x H1 => tyV K T x H1 ∧ t σ H1 fun xs H2 => r x xs H2 Q) : tBM K T r ta t σ H Q := h
theorem rd_bm0 {T : String} {r : V → List V → Hp → VK → Prop} (h : ta σ H fun x H1 => tyV K T x H1 ∧ r x [] H1 Q) : tBM0 K T r ta σ H Q := h
theorem rd_tyL {xs : List V} {R : Prop} (S : Hs H0 M H L) (m : (a, HO.lst xs) ∈ L) (h : R) : tyV K "list" (.ref a) H ∧ R := ⟨Or.inl ⟨rfl, xs, S.lst m⟩, h⟩
theorem rd_app {xs : List V} (S : Hs H0 M H L) (c : Chg a (.lst xs) (.lst (xs ++ [y])) L L') (hm : H0 a = none ∨ a ∈ M) (hl : xs.length < sizeLine) (h : ∀ H', Hs H0 M H' L' → Q .non H') : rAppend (.ref a) [y] H Q :=
  ⟨a, xs, y, rfl, rfl, S.is _ c.mem, hl, h _ (S.put c hm)⟩
/-! calls over lists -/
theorem rd_sumI {xs : List V} {ns : List Int} (S : Hs H0 M H L) (m : (a, HO.lst xs) ∈ L) (e : xs = ns.map V.int) (h : Q (.int ns.sum) H) : rSum K [.ref a] H Q := ⟨a, ns, rfl, by subst e; exact S.lst m, h⟩
theorem rd_slL {xs : List V} {ns : List Int} {lo hi : Option Int} (S : Hs H0 M H L) (m : (a, HO.lst xs) ∈ L) (e : xs = ns.map V.int) (h : ∀ p H', H0 p = none → Hs H0 M H' ((p, .lst ((cutI ns lo hi).map V.int)) :: L) → Q (.ref p) H') : rSlL K (.ref a) lo hi H Q := by
  subst e
  refine ⟨a, _, rfl, S.lst m, ?_⟩
  rw [cutV_map]
  exact rd_newO S h
theorem rd_catL {xs ys : List V} {b : Addr} (S : Hs H0 M H L) (m : (a, HO.lst xs) ∈ L) (m2 : (b, HO.lst ys) ∈ L) (hz : xs.length + ys.length ≤ sizeLine) (h : ∀ p H', H0 p = none → Hs H0 M H' ((p, .lst (xs ++ ys)) :: L) → Q (.ref p) H') : rCat (.ref a) (.ref b) H Q :=
  ⟨a, b, xs, ys, rfl, rfl, S.is _ m, S.is _ m2, hz, rd_newO S h⟩
theorem rd_repL {xs : List V} {k : Int} (S : Hs H0 M H L) (m : (a, HO.lst xs) ∈ L) (h1 : 0 ≤ k) (h2 : k < 2 ^ 63) (hz : xs.length * k.toNat ≤ sizeLine) (h : ∀ p H', H0 p = none → Hs H0 M H' ((p, .lst (List.replicate k.toNat xs).flatten) :: L) → Q (.ref p) H') : rRep (.ref a) (.int k) H Q :=
  ⟨a, k, xs, rfl, rfl, S.is _ m, by omega, h2, hz, rd_newO S h⟩
def revR (K : PySem.W.Frag) (Q : VK) (x : V) (H1 : Hp) : Prop := ∃ a xs, x = .ref a ∧ SqL K H1 a xs ∧ ∀ p, H1 p = none → Q (.ref p) (upd H1 p (.lst xs.reverse))
theorem rd_revL (h : te σ H fun x H1 => revR K Q x H1) : tRevL K te σ H Q := h
theorem rd_revV {xs : List V} (S : Hs H0 M H L) (m : (a, HO.lst xs) ∈ L) (h : ∀ p H', H0 p = none → Hs H0 M H' ((p, .lst xs.reverse) :: L) → Q (.ref p) H') : revR K Q (.ref a) H := ⟨a, xs, rfl, S.lst m, rd_newO S h⟩
theorem rd_isN (h : Q (.bl (decide (x = .non))) H) : (fun x y H Q => y = V.non ∧ Q (.bl (decide (x = .non))) H : R2) x .non H Q := ⟨rfl, h⟩
theorem rd_notN (h : Q (.bl (!decide (x = .non))) H) : (fun x y H Q => y = V.non ∧ Q (.bl (!decide (x = .non))) H : R2) x .non H Q := ⟨rfl, h⟩
/-! targets -/
theorem gt_unl {xs : List V} {n : Nat} {ts : TGs} {N : L2.St → Hp → Prop} (S : Hs H0 M H L) (m : (a, HO.lst xs) ∈ L) (hn : xs.length = n) (h : ts xs σ H N) : gUnl K n ts (.ref a) σ H N := ⟨a, xs, rfl, S.lst m, hn, h⟩
theorem gt_sub {to ti : TE} {ts : TSet} {N : L2.St → Hp → Prop} (h : to σ H fun o H1 => ti σ H1 fun i H2 => ts o i v H2 fun H3 => N σ H3) : gSub to ti ts v σ H N := h
theorem gt_setL {xs : List V} {k : Int} {j : Nat} {N : Hp → Prop} (S : Hs H0 M H L) (c : Chg a (.lst xs) (.lst (xs.set j v)) L L') (hm : H0 a = none ∨ a ∈ M) (e : ixN xs.length k = some j) (h : ∀ H', Hs H0 M H' L' → N H') : rSetL (.ref a) (.int k) v H N :=
  ⟨a, xs, k, j, rfl, rfl, S.is _ c.mem, e, h _ (S.put c hm)⟩
theorem gt_slc {to : TE} {tl th : L2.St → Hp → (Option Int → Hp → Prop) → Prop} {N : L2.St → Hp → Prop} (h : to σ H fun o H1 => tl σ H1 fun l H2 => th σ H2 fun u H3 => ∃ (a b : Addr) (xs ys : List V) (i j : Int), o = .ref a ∧ v = .ref b ∧ l = some i ∧ u = some j ∧
    H3 a = some (.lst xs) ∧ H3 b = some (.lst ys) ∧ a ≠ b ∧ 0 ≤ i ∧ i ≤ j ∧ j ≤ xs.length ∧ xs.length + ys.length ≤ sizeLine ∧ N σ (upd H3 a (.lst (xs.take i.toNat ++ ys ++ xs.drop j.toNat)))) : gSlc to tl th v σ H N := h
theorem gt_slcV {b : Addr} {xs ys zs : List V} {i j : Int} {N : Hp → Prop} (S : Hs H0 M H L) (c : Chg a (.lst xs) (.lst zs) L L') (m : (b, HO.lst ys) ∈ L) (hne : a ≠ b) (hm : H0 a = none ∨ a ∈ M) (h0 : 0 ≤ i) (h1 : i ≤ j) (h2 : j ≤ xs.length) (hz : xs.length + ys.length ≤ sizeLine)
    (e : xs.take i.toNat ++ ys ++ xs.drop j.toNat = zs) (h : ∀ H', Hs H0 M H' L' → N H') : ∃ (a' b' : Addr) (xs ys : List V) (i' j' : Int), V.ref a = .ref a' ∧ V.ref b = .ref b' ∧ some i = some i' ∧ some j = some j' ∧
    H a' = some (.lst xs) ∧ H b' = some (.lst ys) ∧ a' ≠ b' ∧ 0 ≤ i' ∧ i' ≤ j' ∧ j' ≤ xs.length ∧ xs.length + ys.length ≤ sizeLine ∧ N (upd H a' (.lst (xs.take i'.toNat ++ ys ++ xs.drop j'.toNat))) := by
  subst e
  exact ⟨a, b, xs, ys, i, j, rfl, rfl, rfl, rfl, S.is _ c.mem, S.is _ m, hne, h0, h1, h2, hz, h _ (S.put c hm)⟩
/-! a comprehension over a range, all its steps without new objects left behind but the list itself -/
def lcW (J : It) (g : TG) (tt : TT) (te : TE) (vs : List Nat) (σ : L2.St) (H1 : Hp) (Q : VK) : Prop := ∀ D, H1 D = none → ∃ W : Nat → Nat → Hp → Prop, (∃ m, W 0 m (upd H1 D (.lst []))) ∧ ∀ i m H, W i m H →
  (J.stop i H ∧ Q (.ref D) H) ∨ (J.go i H ∧ ∃ Nx : Hp → Prop, (∀ H', Nx H' → ∃ m', m' < m ∧ W (i + 1) m' H') ∧ ∀ x H', J.yld i H x H' → g x (wipe σ vs) H' fun σ2 H2 => wipe σ2 vs = wipe σ vs ∧ tt σ2 H2 fun b H3 =>
    if b = true then te σ2 H3 fun y H4 => ∃ acc, H4 D = some (.lst acc) ∧ acc.length < sizeLine ∧ Nx (upd H4 D (.lst (acc ++ [y]))) else Nx H3)
theorem rd_lc {vs : List Nat} (h : wi σ H fun J H1 => lcW J g tt te vs σ H1 Q) : tLc wi g tt te vs σ H Q := h
def lcSkip (H0 : Hp) (M : List Addr) (L : Led) (R1 : List V → Prop) (D : Addr) (H : Hp) : Prop := H0 D = none ∧ ∃ acc, R1 acc ∧ Hs H0 M H ((D, .lst acc) :: L)
def lcPut (H0 : Hp) (M : List Addr) (L : Led) (R1 : List V → Prop) (D : Addr) (y : V) (H : Hp) : Prop := ∃ acc, H D = some (.lst acc) ∧ acc.length < sizeLine ∧ lcSkip H0 M L R1 D (upd H D (.lst (acc ++ [y])))
theorem rd_lcPut {D : Addr} {acc : List V} {L2 L3 : Led} {R1 : List V → Prop} (S : Hs H0 M H L2) (c : Chg D (.lst acc) (.lst (acc ++ [y])) L2 L3) (n : H0 D = none) (hl : acc.length < sizeLine) (sub : ((D, HO.lst (acc ++ [y])) :: L).Sublist L3) (r : R1 (acc ++ [y])) : lcPut H0 M L R1 D y H :=
  ⟨acc, S.is _ c.mem, hl, n, _, r, (S.put c (Or.inl n)).sub sub⟩
theorem rd_lcSkip {D : Addr} {acc : List V} {L2 : Led} {R1 : List V → Prop} (S : Hs H0 M H L2) (n : H0 D = none) (sub : ((D, HO.lst acc) :: L).Sublist L2) (r : R1 acc) : lcSkip H0 M L R1 D H := ⟨n, _, r, S.sub sub⟩
theorem lcw_range {lo : Int} {n : Nat} {vs : List Nat} (S : Hs H0 M H L) (R : Nat → List V → Prop) (r0 : R 0 [])
    (hs : ∀ D i acc H', i < n → R i acc → H0 D = none → Hs H0 M H' ((D, .lst acc) :: L) → g (.int (lo + i)) (wipe σ vs) H' fun σ2 H2 => wipe σ2 vs = wipe σ vs ∧ tt σ2 H2 fun b H3 => if b = true then te σ2 H3 fun y H4 => lcPut H0 M L (R (i + 1)) D y H4 else lcSkip H0 M L (R (i + 1)) D H3)
    (hd : ∀ D acc H', R n acc → H0 D = none → Hs H0 M H' ((D, .lst acc) :: L) → Q (.ref D) H') : lcW (Itr lo n) g tt te vs σ H Q := by
  intro D hD
  have S1 := S.new hD (.lst [])
  refine lc_range (fun i H' => lcSkip H0 M L (R i) D H') ⟨S1.1, [], r0, S1.2⟩ ?_ ?_
  · rintro i H' hi ⟨n0, acc, r, S'⟩
    exact hs D i acc H' hi r n0 S'
  · rintro H' ⟨n0, acc, r, S'⟩
    exact hd D acc H' r n0 S'
theorem lcw_list {a : Addr} {xs : List V} {vs : List Nat} (S : Hs H0 M H L) (R : Nat → List V → Prop) (r0 : R 0 []) (hl : ∀ H' acc D, Hs H0 M H' ((D, .lst acc) :: L) → SqL K H' a xs)
    (hs : ∀ D i x acc H', xs[i]? = some x → R i acc → H0 D = none → Hs H0 M H' ((D, .lst acc) :: L) → g x (wipe σ vs) H' fun σ2 H2 => wipe σ2 vs = wipe σ vs ∧ tt σ2 H2 fun b H3 => if b = true then te σ2 H3 fun y H4 => lcPut H0 M L (R (i + 1)) D y H4 else lcSkip H0 M L (R (i + 1)) D H3)
    (hd : ∀ D acc H', R xs.length acc → H0 D = none → Hs H0 M H' ((D, .lst acc) :: L) → Q (.ref D) H') : lcW (Itl K a) g tt te vs σ H Q := by
  intro D hD
  have S1 := S.new hD (.lst [])
  refine lc_list (xs := xs) (fun i H' => lcSkip H0 M L (R i) D H') ⟨S1.1, [], r0, S1.2⟩ (fun i H' _ ⟨_, acc, _, S'⟩ => hl H' acc D S') ?_ ?_
  · rintro i x H' hi ⟨n0, acc, r, S'⟩
    exact hs D i x acc H' hi r n0 S'
  · rintro H' ⟨n0, acc, r, S'⟩
    exact hd D acc H' r n0 S'
theorem lcw_tup {a : Addr} {xs : List V} {vs : List Nat} (S : Hs H0 M H L) (R : Nat → List V → Prop) (r0 : R 0 []) (hl : ∀ H' acc D, Hs H0 M H' ((D, .lst acc) :: L) → SqT K H' a xs)
    (hs : ∀ D i x acc H', xs[i]? = some x → R i acc → H0 D = none → Hs H0 M H' ((D, .lst acc) :: L) → g x (wipe σ vs) H' fun σ2 H2 => wipe σ2 vs = wipe σ vs ∧ tt σ2 H2 fun b H3 => if b = true then te σ2 H3 fun y H4 => lcPut H0 M L (R (i + 1)) D y H4 else lcSkip H0 M L (R (i + 1)) D H3)
    (hd : ∀ D acc H', R xs.length acc → H0 D = none → Hs H0 M H' ((D, .lst acc) :: L) → Q (.ref D) H') : lcW (Itt K a) g tt te vs σ H Q := by
  intro D hD
  have S1 := S.new hD (.lst [])
  refine lc_tup (xs := xs) (fun i H' => lcSkip H0 M L (R i) D H') ⟨S1.1, [], r0, S1.2⟩ (fun i H' _ ⟨_, acc, _, S'⟩ => hl H' acc D S') ?_ ?_
  · rintro i x H' hi ⟨n0, acc, r, S'⟩
    exact hs D i x acc H' hi r n0 S'
  · rintro H' ⟨n0, acc, r, S'⟩
    exact hd D acc H' r n0 S'
end
end Rs
namespace Rs
open PySem PySem.Spec PyProof.Rows L2
/-- an expression that the proof never comes to -/
def tNevE : TE := fun _ _ _ => False
theorem pe_nev {X : Cx} {e : Expr} : PE X e tNevE := ⟨fun _ _ _ _ _ _ h => h.elim⟩
end Rs
namespace Rs
open PySem PySem.Spec PyProof.Rows L2
theorem ex_u {K : PySem.W.Frag} {D : Addr} {x : Str} {v : V} {u : Value} (a : PySem.W.nsIn K D x = some (some u)) (r : RelV v u) : ∃ u, PySem.W.nsIn K D x = some (some u) ∧ RelV v u := ⟨u, a, r⟩
end Rs

namespace Rs
open PySem PySem.Spec PyProof.Rows L2
section
variable {H0 H H' : Hp} {M : List Addr} {L L' N : Led} {a p : Addr} {o o' : HO} {K : PySem.W.Frag}
theorem Hs.perm (S : Hs H0 M H L) (h : L'.Perm L) : Hs H0 M H L' := ⟨(h.map (·.1)).nodup_iff.mpr S.nd, fun q hq => S.is q (h.mem_iff.mp hq), S.old, S.mu⟩
/-- the objects of N are new, each another -/
structure NewL (H H' : Hp) (N : Led) : Prop where
  nd : (N.map (·.1)).Nodup
  nw : ∀ q ∈ N, H q.1 = none
  is : ∀ q ∈ N, H' q.1 = some q.2
/-- one object was changed, those of N are new -/
theorem Hs.oneN (S : Hs H0 M H L) (c : Chg a o o' L L') (hm : H0 a = none ∨ a ∈ M) (k : ∀ b u, H b = some u → b ≠ a → H' b = some u) (h' : H' a = some o') (n : NewL H H' N) : (∀ q ∈ N, H0 q.1 = none) ∧ Hs H0 M H' (N ++ L') := by
  have S' := S.one c hm k h'
  refine ⟨fun q hq => (S.new (n.nw q hq) q.2).1, ?_, ?_, S'.old, S'.mu⟩
  · rw [List.map_append, List.nodup_append]
    refine ⟨n.nd, S'.nd, ?_⟩
    intro x hx y hy e
    subst e
    obtain ⟨q, hq, rfl⟩ := List.mem_map.mp hx
    rw [c.keys] at hy
    obtain ⟨r, hr, e⟩ := List.mem_map.mp hy
    have := S.is r hr
    rw [e, n.nw q hq] at this
    cases this
  · intro q hq
    rcases List.mem_append.mp hq with h | h
    · exact n.is q h
    · exact S'.is q h
/-- nothing was changed, those of N are new -/
theorem Hs.moreN (S : Hs H0 M H L) (k : Same H H') (n : NewL H H' N) : (∀ q ∈ N, H0 q.1 = none) ∧ Hs H0 M H' (N ++ L) := by
  have S' := S.more k
  refine ⟨fun q hq => (S.new (n.nw q hq) q.2).1, ?_, ?_, S'.old, S'.mu⟩
  · rw [List.map_append, List.nodup_append]
    refine ⟨n.nd, S'.nd, ?_⟩
    intro x hx y hy e
    subst e
    obtain ⟨q, hq, rfl⟩ := List.mem_map.mp hx
    obtain ⟨r, hr, e⟩ := List.mem_map.mp hy
    have := S.is r hr
    rw [e, n.nw q hq] at this
    cases this
  · intro q hq
    rcases List.mem_append.mp hq with h | h
    · exact n.is q h
    · exact S'.is q h
/-- what a ledger tells of new ones -/
theorem Hs.news (S : Hs H0 M H L) (h : N.Sublist L) (n : ∀ q ∈ N, H0 q.1 = none) : NewL H0 H N := ⟨S.nd.sublist (h.map _), n, fun q hq => S.is q (h.subset hq)⟩
/-- plain data that a ledger holds: refs of tuples of whole numbers -/
def TupL (rs : List V) (T : Led) : Prop := (∀ r ∈ rs, ∃ q ∈ T, r = .ref q.1) ∧ ∀ q ∈ T, ∃ ns : List Int, q.2 = .tup (ns.map V.int)
theorem TupL.nil : TupL [] [] := ⟨fun r h => (nomatch h), fun q h => (nomatch h)⟩
theorem TupL.app {rs rs2 : List V} {T T2 : Led} (h : TupL rs T) (h2 : TupL rs2 T2) : TupL (rs ++ rs2) (T2 ++ T) := by
  refine ⟨fun r hr => ?_, fun q hq => ?_⟩
  · rcases List.mem_append.mp hr with z | z
    · obtain ⟨q, hq, e⟩ := h.1 r z; exact ⟨q, List.mem_append_right _ hq, e⟩
    · obtain ⟨q, hq, e⟩ := h2.1 r z; exact ⟨q, List.mem_append_left _ hq, e⟩
  · rcases List.mem_append.mp hq with z | z
    · exact h2.2 q z
    · exact h.2 q z
theorem TupL.snoc {rs : List V} {T : Led} (h : TupL rs T) (q : Addr) (ns : List Int) : TupL (rs ++ [.ref q]) ((q, .tup (ns.map V.int)) :: T) :=
  h.app (T2 := [(q, .tup (ns.map V.int))]) ⟨fun r hr => ⟨_, List.mem_cons_self, by simpa using hr⟩, fun z hz => ⟨ns, by simp at hz; rw [hz]⟩⟩
theorem dpT {rs : List V} {T : Led} (h : TupL rs T) (is : ∀ q ∈ T, H q.1 = some q.2) : ∃ nss : List (List Int), nss.length = rs.length ∧ DpAll K H rs (nss.map fun ns => .tuple (ns.map .int)) := by
  induction rs with
  | nil => exact ⟨[], rfl, .nil⟩
  | cons r rs ih =>
    obtain ⟨nss, e, d⟩ := ih ⟨fun x hx => h.1 x (List.mem_cons_of_mem _ hx), h.2⟩
    obtain ⟨q, hq, rfl⟩ := h.1 r List.mem_cons_self
    obtain ⟨ns, e2⟩ := h.2 q hq
    have hi := is q hq
    rw [e2] at hi
    exact ⟨ns :: nss, by simp [e], .cons (.tup (SqT.of hi) (dps_ints ns)) d⟩
theorem lay_T : ∀ nss : List (List Int), PyData.canLayAll0 (nss.map fun ns => .tuple (ns.map .int)) = true ∧ PyData.depthAll (nss.map fun ns => .tuple (ns.map .int)) ≤ 1
  | [] => by simp [PyData.canLayAll0, PyData.depthAll]
  | ns :: nss => by
    obtain ⟨a, b⟩ := lay_T nss
    simp only [List.map_cons, PyData.canLayAll0, PyData.canLay0, canLay_ints, a, Bool.and_self, PyData.depthAll, PyData.depth, depth_ints, true_and]
    omega
/-- a list of such tuples: data -/
theorem dpLT {rs : List V} {T : Led} (h : TupL rs T) (S : Hs H0 M H L) (m : (a, HO.lst rs) ∈ L) (sub : ∀ q ∈ T, q ∈ L) : ∃ nss : List (List Int), nss.length = rs.length ∧ Dp K H (.ref a) (.list (nss.map fun ns => .tuple (ns.map .int))) ∧ SeqAt.shaped (.list (nss.map fun ns => .tuple (ns.map .int))) = true := by
  obtain ⟨nss, e, d⟩ := dpT (K := K) (H := H) h fun q hq => S.is q (sub q hq)
  obtain ⟨y, z⟩ := lay_T nss
  refine ⟨nss, e, .lst (S.lst m) d, ?_⟩
  unfold SeqAt.shaped
  have e1 : PyData.canLay0 (.list (nss.map fun ns => .tuple (ns.map .int))) = true := by simp only [PyData.canLay0, y]
  rw [e1, Bool.true_and]
  refine decide_eq_true ?_
  simp only [PyData.depth]
  omega
theorem eqv_nil (xs : List PyData) : PyData.eqv (.list xs) (.list []) = decide (xs.length = 0) := by
  cases xs <;> simp [PyData.eqv, PyData.eqvAll]
/-- == [] and != [] of a list of such tuples -/
theorem rd_eqT0 {Q : VK} {rs : List V} {T : Led} {b : Addr} (h : TupL rs T) (S : Hs H0 M H L) (m : (a, HO.lst rs) ∈ L) (m2 : (b, HO.lst []) ∈ L) (sub : ∀ q ∈ T, q ∈ L) (k : Q (.bl (decide (rs.length = 0))) H) : rEqD K (.ref a) (.ref b) H Q := by
  obtain ⟨nss, e, d, sh⟩ := dpLT (K := K) h S m sub
  refine ⟨_, .list [], d, .lst (S.lst m2) .nil, sh, by decide, ?_⟩
  rw [eqv_nil, List.length_map, e]
  exact k
theorem rd_neT0 {Q : VK} {rs : List V} {T : Led} {b : Addr} (h : TupL rs T) (S : Hs H0 M H L) (m : (a, HO.lst rs) ∈ L) (m2 : (b, HO.lst []) ∈ L) (sub : ∀ q ∈ T, q ∈ L) (k : Q (.bl (!decide (rs.length = 0))) H) : rNeD K (.ref a) (.ref b) H Q := by
  obtain ⟨nss, e, d, sh⟩ := dpLT (K := K) h S m sub
  refine ⟨_, .list [], d, .lst (S.lst m2) .nil, sh, by decide, ?_⟩
  rw [eqv_nil, List.length_map, e]
  exact k
end
end Rs
namespace Rs
open PySem PySem.Spec PyProof.Rows L2
theorem rd_nn {R : Prop} (h : R) : V.non = V.non ∧ R := ⟨rfl, h⟩
end Rs
namespace Rs
open PySem PySem.Spec PyProof.Rows L2
section
variable {σ : L2.St} {H : Hp} {nx : L2.St → Hp → Prop} {rt : VK} {bk ct : L2.St → Hp → Prop} {te : TE}
theorem rd_aug {i : Nat} {v : V} {rd : V → V → Hp → VK → Prop} (e : σ[i]? = some (some v)) (h : te σ H fun y H1 => rd v y H1 fun z H2 => nx (σ.set i (some z)) H2) : tAug i te rd ⟨nx, rt, bk, ct⟩ σ H := ⟨v, e, h⟩
theorem rd_ipI {f : Int → Int → Int} {Q : VK} {i j : Int} (h : Q (.int (f i j)) H) : ipI f (.int i) (.int j) H Q := ⟨i, j, rfl, rfl, h⟩
end
end Rs
namespace Rs
open PySem PySem.Spec PyProof.Rows L2
theorem Hs.made {C x dx : Addr} {H0 H : Hp} {M : List Addr} {L : Led} (S : Hs H0 M H L) (hx : H x = none) (hd : H dx = none) (ne : dx ≠ x) : H0 x = none ∧ Hs H0 M (upd (upd H dx (.own x)) x (.ins C dx [])) ((x, .ins C dx []) :: L) := by
  obtain ⟨_, S1⟩ := S.new hd (.own x)
  have hx' : upd H dx (HO.own x) x = none := by rw [upd_ne (Ne.symm ne)]; exact hx
  obtain ⟨n0, S2⟩ := S1.new hx' (.ins C dx [])
  exact ⟨n0, S2.sub (List.Sublist.cons_cons _ (List.Sublist.cons _ (List.Sublist.refl _)))⟩
end Rs

namespace Rs
open PySem PySem.Spec PyProof.Rows L2

/-! ### sum and max over tuples, with a start, with a default -/
section
variable {prog : Program} {w : World} {A : Around} {s : Shared} {R : Result → Shared → Prop} {E : Value → Shared → Prop}
/-- a walk with one more in front, that is over -/
theorem walk_more {I : Addr} {fp wr : List Addr} {n : Nat} {P : Nat → Value → Prop} {St : Nat → Heap → Prop} (W : Walks prog w A I fp wr n P St) :
    Walks prog w A I fp wr (n + 1) (fun i v => 0 < i ∧ P (i - 1) v) (fun i h => 0 < i ∧ St (i - 1) h) where
  sub := W.sub
  frame := fun i h h' st k => ⟨st.1, W.frame _ h h' st.2 k⟩
  item := fun i s Q E hi st hq => by
    obtain ⟨j, rfl⟩ : ∃ j, i = j + 1 := ⟨i - 1, by have := st.1; omega⟩
    refine W.item j s Q E (by omega) st.2 fun v h' tk p st' k => hq v h' tk ⟨Nat.succ_pos _, p⟩ ⟨Nat.succ_pos _, st'⟩ k
  done := fun s Q E st hq => W.done s Q E st.2 hq
  self := fun i s Q E st hq => W.self _ s Q E st.2 hq
theorem sumK_args (a v : Value) : argsOk "sum" ⟨[a], [(Str.ofString "start", v)]⟩ := by unfold argsOk; kernel_rfl
theorem maxD_args (a v : Value) : argsOk "max" ⟨[a], [(Str.ofString "default", v)]⟩ := by unfold argsOk; kernel_rfl
def shiftV (k : Int) (val : Nat → Int) : Nat → Int
  | 0 => k
  | i + 1 => val i
theorem preSum_shift (k : Int) (val : Nat → Int) : ∀ n, preSum (shiftV k val) (n + 1) = k + preSum val n
  | 0 => by simp [preSum, shiftV]
  | n + 1 => by
    rw [preSum, preSum_shift k val n, preSum]
    simp [shiftV]
    omega
/-- sum(x, start=k) -/
theorem sum_from {x : Value} {k : Int} {tok : Tok} {Q : Value → Shared → Prop}
    (h : wpAny (model prog w) A.in1 (pyIter x) (fun it s₂ => ∃ I fp wr n P St val, it = .ref I ∧ Walks prog w A.in1 I fp wr n P St ∧ St 0 s₂.heap ∧ (∀ b ∈ fp, b < s₂.heap.objs.size) ∧ (∀ i v, P i v → ∃ t, v = .int (val i) t) ∧
      ∀ h' tk t', (∀ b o, b ∉ wr → s₂.heap.get? b = some o → h'.get? b = some o) → Q (.int (k + preSum val n) t') { s₂ with heap := h', toks := tk }) E s) :
    wpAny (model prog w) A (call (.builtin "sum") [x] [(Str.ofString "start", .int k tok)]) Q E s := by
  refine PyProof.Rows.kmk_tree F.kind_sum F.plain_sum F.entry_sum (sumK_args _ _) ?_
  unfold Builtin.«sum»
  simp only [List.length_cons, List.length_nil]
  rw [if_neg (by decide)]
  refine wpAny_bind (wpAny_of_eq (a := [some (.int k tok)]) rfl ?_)
  refine wpAny_bind (wpAny_mono h (fun it s₂ q => ?_) fun _ _ e => e)
  obtain ⟨I, fp, wr, n, P, St, val, rfl, W, st, hfp, hval, hQ⟩ := q
  have hv' : ∀ i v, (0 < i ∧ P (i - 1) v) → ∃ t, v = .int (shiftV k val i) t := fun i v z => by
    obtain ⟨j, rfl⟩ : ∃ j, i = j + 1 := ⟨i - 1, by omega⟩
    exact hval j v z.2
  have hS : s₂.heap.objs.size ∉ fp := fun m => Nat.lt_irrefl _ (hfp _ m)
  show wpAny _ A.in1 (if (_ : Bool) = true then _ else _) _ _ _
  split
  · refine wpAny_bind (wpAny_rule (wpAny_bind (wpAny_mkInt (wpAny_bind (wpAny_pure ?_)))))
    simp only [List.forIn_cons, List.forIn_nil]
    refine wpAny_bind (wpAny_bind (wpAny_bind (wpAny_isInstance (T := "int") (b := false) (typeIs_int _ _ _) PySem.sub_int_str ?_)))
    refine wpAny_pure (wpAny_bind (wpAny_bind (wpAny_isInstance (T := "int") (b := false) (typeIs_int _ _ _) PySem.sub_int_bytes ?_)))
    refine wpAny_pure (wpAny_bind (wpAny_bind (wpAny_isInstance (T := "int") (b := false) (typeIs_int _ _ _) PySem.sub_int_bytearray ?_)))
    refine wpAny_pure (wpAny_pure ?_)
    refine wpAny_bind (wpAny_newObj_type (wpAny_pure ⟨plainId_quiet F.plain_sum_loop _, codeAny_sum_loopG (walk_more W) (shiftV k val) hv' s₂.heap.objs.size hS n 1 _ _ 0 0 (Or.inl rfl) rfl (by omega)
      ⟨Nat.one_pos, W.frame _ _ _ st fun b _ o e => Heap.get?_push_of_some _ e⟩ (by rw [show preSum (shiftV k val) 1 = k by simp [preSum, shiftV]]; exact Heap.get?_push_size _ rfl) fun h' tk t' kp => ?_⟩))
    rw [preSum_shift]
    exact hQ h' tk t' fun b o hb e => kp b o hb (Nat.ne_of_lt (Heap.lt_size e)) (Heap.get?_push_of_some _ e)
  · refine wpAny_bind (wpAny_pure ?_)
    simp only [List.forIn_cons, List.forIn_nil]
    refine wpAny_bind (wpAny_bind (wpAny_bind (wpAny_isInstance (T := "int") (b := false) (typeIs_int _ _ _) PySem.sub_int_str ?_)))
    refine wpAny_pure (wpAny_bind (wpAny_bind (wpAny_isInstance (T := "int") (b := false) (typeIs_int _ _ _) PySem.sub_int_bytes ?_)))
    refine wpAny_pure (wpAny_bind (wpAny_bind (wpAny_isInstance (T := "int") (b := false) (typeIs_int _ _ _) PySem.sub_int_bytearray ?_)))
    refine wpAny_pure (wpAny_pure ?_)
    refine wpAny_bind (wpAny_newObj_type (wpAny_pure ⟨plainId_quiet F.plain_sum_loop _, codeAny_sum_loopG (walk_more W) (shiftV k val) hv' s₂.heap.objs.size hS n 1 _ _ 0 2 (Or.inr rfl) rfl (by omega)
      ⟨Nat.one_pos, W.frame _ _ _ st fun b _ o e => Heap.get?_push_of_some _ e⟩ (by rw [show preSum (shiftV k val) 1 = k by simp [preSum, shiftV]]; exact Heap.get?_push_size _ rfl) fun h' tk t' kp => ?_⟩))
    rw [preSum_shift]
    exact hQ h' tk t' fun b o hb e => kp b o hb (Nat.ne_of_lt (Heap.lt_size e)) (Heap.get?_push_of_some _ e)
/-- max(x, default=d): the loop -/
theorem max_loopD {I : Addr} {fp wr : List Addr} {n : Nat} {P : Nat → Value → Prop} {St : Nat → Heap → Prop} (W : Walks prog w A.in1 I fp wr n P St) (val : Nat → Int) (hval : ∀ i v, P i v → ∃ t, v = .int (val i) t) (T : Addr) (hT : T ∉ fp) (d : Value) :
    ∀ (k i : Nat) (s : Shared) (c : Nat) (best : Option (Int × Tok)), n - i = k → i ≤ n → St i s.heap →
      s.heap.get? T = some { cls := .type "list", dict := none, data := .seq (match best with | none => #[] | some b => #[.int b.1 b.2, .int b.1 b.2]) c, slots := #[] } →
      (∀ v h' tk, (best = none → i = n → v = d) → (best ≠ none ∨ i < n → ∃ m t, v = .int m t ∧ ((∃ b, best = some b ∧ m = b.1) ∨ ∃ j, i ≤ j ∧ j < n ∧ m = val j) ∧ (∀ b, best = some b → b.1 ≤ m) ∧ ∀ j, i ≤ j → j < n → val j ≤ m) →
        (∀ b o, b ∉ wr → b ≠ T → s.heap.get? b = some o → h'.get? b = some o) → R (.ok (.ret v)) { s with heap := h', toks := tk }) →
      codeAny (model prog w) A (.builtin "max.loop" ⟨[.ref I, .none, .ref T], [(Str.ofString "default", d)]⟩) R s := by
  have hTw : T ∉ wr := fun z => hT (W.sub _ z)
  have hname : (toString "max" ++ toString ".loop" : String) = "max.loop" := by decide
  intro k
  induction k with
  | zero =>
    intro i s c best hk hi hst hS hR
    have hin : i = n := by omega
    subst hin
    refine codeAny_builtin F.entry_max_loop ?_
    rw [Around.under_plainId F.plain_max_loop _]
    show wpAny _ A.in1 (seqItems? (.ref T) >>= _) _ _ s
    refine wpAny_bind (wpAny_seqItems hS rfl ?_)
    show wpAny _ A.in1 (tryCatch (pyNext (.ref I)) _ >>= _) _ _ s
    refine wpAny_bind (wpAny_tryCatch (W.done s _ _ hst fun h' tk kp => ?_))
    have hS' := kp T _ hTw hS
    cases best with
    | none =>
      show wpAny _ A.in1 (rule _ >>= _) _ _ _
      refine wpAny_bind (wpAny_rule (wpAny_pure ?_))
      exact hR d h' tk (fun _ _ => rfl) (fun z => by rcases z with z | z; exact absurd rfl z; omega) fun b o hb _ e => kp b o hb e
    | some b =>
      show wpAny _ A.in1 (updateSeq T (fun _ => #[]) >>= _) _ _ _
      refine wpAny_bind ?_
      refine wpAny_updateSeq hS' rfl (wpAny_bind (wpAny_letGo (wpAny_pure ?_)))
      refine hR (.int b.1 b.2) _ tk (fun z => nomatch z) (fun _ => ⟨b.1, b.2, rfl, Or.inl ⟨b, rfl, rfl⟩, fun b' e => by cases e; exact Int.le_refl _, fun j h1 h2 => by omega⟩) fun b o hb hbT e => (Heap.get?_update_other _ _ (Ne.symm hbT)).trans (kp b o hb e)
  | succ k ih =>
    intro i s c best hk hi hst hS hR
    have hlt : i < n := by omega
    refine codeAny_builtin F.entry_max_loop ?_
    rw [Around.under_plainId F.plain_max_loop _]
    show wpAny _ A.in1 (seqItems? (.ref T) >>= _) _ _ s
    refine wpAny_bind (wpAny_seqItems hS rfl ?_)
    show wpAny _ A.in1 (tryCatch (pyNext (.ref I)) _ >>= _) _ _ s
    refine wpAny_bind (wpAny_tryCatch (W.item i s _ _ hlt hst fun v h' tk hP hst' kp => ?_))
    have hS' := kp T _ hTw hS
    obtain ⟨t, rfl⟩ := hval i v hP
    have next : ∀ (b : Int × Tok) (h2 : Heap) (tk2 c2 : Nat), (b.1 = val i ∨ ∃ b0, best = some b0 ∧ b.1 = b0.1) → val i ≤ b.1 → (∀ b0, best = some b0 → b0.1 ≤ b.1) → St (i + 1) h2 →
        h2.get? T = some { cls := .type "list", dict := none, data := .seq #[.int b.1 b.2, .int b.1 b.2] c2, slots := #[] } → (∀ y o, y ∉ wr → y ≠ T → s.heap.get? y = some o → h2.get? y = some o) →
        codeAny (model prog w) A (.builtin "max.loop" ⟨[.ref I, .none, .ref T], [(Str.ofString "default", d)]⟩) R { s with heap := h2, toks := tk2 } := by
      intro b h2 tk2 c2 e1 e2 e3 st2 g2 kp2
      refine ih (i + 1) { s with heap := h2, toks := tk2 } c2 (some b) (by clear e1 e2 e3; omega) hlt st2 g2 fun v h3 tk3 _ z kp3 => ?_
      obtain ⟨m, t3, rfl, z1, z2, z3⟩ := z (Or.inl (by simp))
      have zb := z2 b rfl
      refine hR _ h3 tk3 (fun _ q => by omega) (fun _ => ⟨m, t3, rfl, ?_, fun b0 q => Int.le_trans (e3 b0 q) zb, fun j h1 h2 => ?_⟩) fun y o hy hyT e => kp3 y o hy hyT (kp2 y o hy hyT e)
      · rcases z1 with ⟨b', q1, rfl⟩ | ⟨j, q1, q2, rfl⟩
        · cases q1
          rcases e1 with e1 | ⟨b0, q2, e1⟩
          · exact Or.inr ⟨i, Nat.le_refl _, hlt, e1⟩
          · exact Or.inl ⟨b0, q2, e1⟩
        · exact Or.inr ⟨j, by omega, q2, rfl⟩
      · by_cases q : j = i
        · subst q; omega
        · exact z3 j (by omega) h2
    cases best with
    | none =>
      show wpAny _ A.in1 (updateSeq T (fun _ => #[.int (val i) t, .int (val i) t]) >>= _) _ _ _
      refine wpAny_bind ?_
      refine wpAny_updateSeq hS' rfl ?_
      rw [hname]
      refine wpAny_pure ⟨plainId_quiet F.plain_max_loop _, next (val i, t) _ _ _ (Or.inl rfl) (Int.le_refl _) (fun b0 q => nomatch q) (W.frame _ _ _ hst' fun b hb o e => ?_) (Heap.get?_update_self _ hS' rfl) fun b o hb hbT e => ?_⟩
      · exact (Heap.get?_update_other _ _ (fun z : T = b => hT (z ▸ hb))).trans e
      · exact (Heap.get?_update_other _ _ (Ne.symm hbT)).trans (kp b o hb e)
    | some b =>
      have cmp := CmpOf.ints_gt (prog := prog) (w := w) (A := A.in1) (P := fun (z : Nat) v => ∃ t, v = Value.int (if z = 0 then val i else b.1) t) (fun z => if z = 0 then val i else b.1) (fun _ _ z => z)
      show wpAny _ A.in1 (tryCatch (holding [Value.int (val i) t, Value.int (val i) t] (richCompare .Gt (.int (val i) t) (.int b.1 b.2) >>= _)) _ >>= _) _ _ _
      refine wpAny_bind (wpAny_tryCatch (wpAny_holding (wpAny_bind (cmp 0 1 _ _ _ _ _ ⟨t, rfl⟩ ⟨b.2, rfl⟩ ?_))))
      refine wpAny_bind (wpAny_holding (wpAny_truthy_bool ?_))
      refine wpAny_bind (wpAny_letGo (wpAny_pure ?_))
      simp only [if_true, Nat.one_ne_zero, if_false]
      by_cases q : val i > b.1
      · rw [decide_eq_true q]
        simp only [if_true]
        refine wpAny_bind ?_
        refine wpAny_updateSeq hS' rfl (wpAny_bind (wpAny_letGo ?_))
        rw [hname]
        refine wpAny_pure ⟨plainId_quiet F.plain_max_loop _, next (val i, t) _ _ _ (Or.inl rfl) (Int.le_refl _) (fun b0 z => by cases z; exact Int.le_of_lt q) (W.frame _ _ _ hst' fun y hb o e => ?_) (Heap.get?_update_self _ hS' rfl) fun y o hb hbT e => ?_⟩
        · exact (Heap.get?_update_other _ _ (fun z : T = y => hT (z ▸ hb))).trans e
        · exact (Heap.get?_update_other _ _ (Ne.symm hbT)).trans (kp y o hb e)
      · rw [decide_eq_false q]
        simp only [Bool.false_eq_true, if_false]
        refine wpAny_bind (wpAny_letGo ?_)
        rw [hname]
        exact wpAny_pure ⟨plainId_quiet F.plain_max_loop _, next b _ _ c (Or.inr ⟨b, rfl, rfl⟩) (by omega) (fun b0 z => by cases z; exact Int.le_refl _) hst' hS' fun y o hb _ e => kp y o hb e⟩
/-- max(x, default=d) -/
theorem max_dflt {x d : Value} {Q : Value → Shared → Prop}
    (h : wpAny (model prog w) A.in1 (pyIter x) (fun it s₂ => ∃ I fp wr n P St, ∃ val : Nat → Int, it = .ref I ∧ Walks prog w A.in1 I fp wr n P St ∧ St 0 s₂.heap ∧ (∀ b ∈ fp, b < s₂.heap.objs.size) ∧ (∀ i v, P i v → ∃ t, v = .int (val i) t) ∧
      ∀ v h' tk, (n = 0 → v = d) → (0 < n → ∃ m t, v = .int m t ∧ (∃ j, j < n ∧ m = val j) ∧ ∀ j, j < n → val j ≤ m) → (∀ b o, b ∉ wr → s₂.heap.get? b = some o → h'.get? b = some o) → Q v { s₂ with heap := h', toks := tk }) E s) :
    wpAny (model prog w) A (call (.builtin "max") [x] [(Str.ofString "default", d)]) Q E s := by
  have hname : (toString "max" ++ toString ".loop" : String) = "max.loop" := by decide
  refine PyProof.Rows.kmk_tree F.kind_max F.plain_max F.entry_max (maxD_args _ _) ?_
  show wpAny _ A.in1 (Builtin.Builtins.bindParams "max" ["key", "default"] 0 ⟨[], [(Str.ofString "default", d)]⟩ >>= _) _ _ s
  refine wpAny_bind (wpAny_of_eq (a := [none, some d]) rfl ?_)
  refine wpAny_bind (wpAny_pure ?_)
  refine wpAny_bind (wpAny_mono h (fun it s₂ q => ?_) fun _ _ e => e)
  obtain ⟨I, fp, wr, n, P, St, val, rfl, W, st, hfp, hval, hQ⟩ := q
  refine wpAny_bind (wpAny_newObj_type ?_)
  have hT : s₂.heap.objs.size ∉ fp := fun m => Nat.lt_irrefl _ (hfp _ m)
  rw [hname]
  refine wpAny_pure ⟨plainId_quiet F.plain_max_loop _, max_loopD W val hval s₂.heap.objs.size hT d n 0 _ 0 none (by omega) (Nat.zero_le _) (W.frame _ _ _ st fun b _ o e => Heap.get?_push_of_some _ e) (Heap.get?_push_size _ rfl) fun v h' tk z1 z2 kp => ?_⟩
  refine hQ v h' tk (fun z => z1 rfl z.symm) (fun z => ?_) fun b o hb e => kp b o hb (Nat.ne_of_lt (Heap.lt_size e)) (Heap.get?_push_of_some _ e)
  obtain ⟨m, t, e, y1, _, y3⟩ := z2 (Or.inr z)
  refine ⟨m, t, e, ?_, fun j hj => y3 j (Nat.zero_le _) hj⟩
  rcases y1 with ⟨b, q, _⟩ | ⟨j, _, q, r⟩
  · cases q
  · exact ⟨j, q, r⟩
end
end Rs
namespace Rs
open PySem PySem.Spec PyProof.Rows L2
theorem preSum_take (ns : List Int) : ∀ n, n ≤ ns.length → preSum (fun i => ns.getD i 0) n = (ns.take n).sum
  | 0, _ => by simp [preSum]
  | n + 1, h => by
    rw [preSum, preSum_take ns n (by omega), List.take_succ, List.getElem?_eq_getElem (by omega), List.sum_append]
    simp [List.getD_eq_getElem?_getD, List.getElem?_eq_getElem (show n < ns.length by omega)]
theorem preSum_all (ns : List Int) : preSum (fun i => ns.getD i 0) ns.length = ns.sum := by rw [preSum_take ns _ (Nat.le_refl _), List.take_length]
theorem vals_at {ns : List Int} {us : List Value} (r : Vals (ns.map V.int) us) (i : Nat) (v : Value) (h : us.toArray[i]? = some v) : ∃ t, v = .int (ns.getD i 0) t := by
  rw [List.getElem?_toArray] at h
  obtain ⟨hl, e⟩ := List.getElem?_eq_some_iff.mp h
  have hl2 : i < ns.length := by rw [← r.length, List.length_map] at hl; exact hl
  have e1 : (ns.map V.int)[i]? = some (.int (ns.getD i 0)) := by rw [List.getElem?_map, List.getD_eq_getElem?_getD, List.getElem?_eq_getElem hl2]; rfl
  obtain ⟨u, e2, ru⟩ := r.get e1
  rw [h] at e2
  cases e2
  exact ru
section
variable {prog : Program} {w : World} {A : Around} {s : Shared} {E : Value → Shared → Prop}
/-- iter(l) of a list, of a tuple: a walk over its items -/
theorem walk_list {l : Addr} {its : Array Value} {Q : Value → Shared → Prop} (hh : A.handled = none) (hl : s.heap.IsList l its)
    (h : ∀ s₂ : Shared, s₂ = { s with heap := s.heap.push { cls := .type "list_iterator", data := .fields #[.ref l, .int 0 0] } } → ∀ (St : Nat → Heap → Prop), Walks prog w A s.heap.objs.size [s.heap.objs.size, l] [s.heap.objs.size] its.size (fun i v => its[i]? = some v) St → St 0 s₂.heap →
      (∀ b ∈ [s.heap.objs.size, l], b < s₂.heap.objs.size) → Q (.ref s.heap.objs.size) s₂) : wpAny (model prog w) A (pyIter (.ref l)) Q E s := by
  have hlt : l < s.heap.objs.size := by obtain ⟨_, e, _⟩ := hl; exact Heap.lt_size e
  refine wpAny_pyIter_list hl (h _ rfl _ (Walks.list (A := A) hh _ l (Nat.ne_of_lt hlt) its) ⟨⟨_, Heap.get?_push_size _ rfl, rfl, rfl⟩, hl.push _⟩ ?_)
  intro b hb
  show b < (s.heap.push _).objs.size
  rw [Heap.size_push]
  simp only [List.mem_cons, List.not_mem_nil, or_false] at hb
  rcases hb with rfl | rfl
  · exact Nat.lt_succ_self _
  · exact Nat.lt_succ_of_lt hlt
theorem walk_tup {l : Addr} {its : Array Value} {Q : Value → Shared → Prop} (hh : A.handled = none) (hl : s.heap.IsTuple l its)
    (h : ∀ s₂ : Shared, s₂ = { s with heap := s.heap.push { cls := .type "tuple_iterator", data := .fields #[.ref l, .int 0 0] } } → ∀ (St : Nat → Heap → Prop), Walks prog w A s.heap.objs.size [s.heap.objs.size, l] [s.heap.objs.size] its.size (fun i v => its[i]? = some v) St → St 0 s₂.heap →
      (∀ b ∈ [s.heap.objs.size, l], b < s₂.heap.objs.size) → Q (.ref s.heap.objs.size) s₂) : wpAny (model prog w) A (pyIter (.ref l)) Q E s := by
  have hlt : l < s.heap.objs.size := by obtain ⟨_, e, _⟩ := hl; exact Heap.lt_size e
  refine wpAny_pyIter_tuple hl (h _ rfl _ (Walks.tuple (A := A) hh _ l (Nat.ne_of_lt hlt) its) ⟨⟨_, Heap.get?_push_size _ rfl, rfl, rfl⟩, hl.push _⟩ ?_)
  intro b hb
  show b < (s.heap.push _).objs.size
  rw [Heap.size_push]
  simp only [List.mem_cons, List.not_mem_nil, or_false] at hb
  rcases hb with rfl | rfl
  · exact Nat.lt_succ_self _
  · exact Nat.lt_succ_of_lt hlt
end
section
variable {X : Cx}
/-- what stood, stands -/
theorem it_old {s : Shared} {o : Obj} {h' : Heap} (k : ∀ b u, b ∉ [s.heap.objs.size] → (s.heap.push o).get? b = some u → h'.get? b = some u) : ∀ b u, s.heap.get? b = some u → h'.get? b = some u := fun b u e =>
  k b u (fun z => absurd (Heap.lt_size e) ((List.mem_singleton.mp z) ▸ Nat.lt_irrefl _)) (Heap.get?_push_of_some _ e)
def rSumT (K : PySem.W.Frag) : List V → Hp → VK → Prop := fun vs H Q => ∃ (a : Addr) (ns : List Int), vs = [V.ref a] ∧ SqT K H a (ns.map V.int) ∧ Q (.int ns.sum) H
theorem cr_sumT (hc : X.calm = true) : CallR X (.builtin "sum") (rSumT X.K) := by
  intro pins s σ H vs us Q I r h
  obtain ⟨a, ns, rfl, hs, q⟩ := h
  obtain ⟨its, rv, ht, hz⟩ := I.tuple hs
  rw [Vals.ref1 r]
  obtain ⟨o, e1, e2, n, e3⟩ := id ht
  refine call_sum_walkG (walk_tup (A := X.A.in1) (I.ok.hd hc) ⟨o, e1, e2, n, e3⟩ fun s₂ es St W st hfp => ?_)
  subst es
  refine ⟨_, _, _, _, _, _, fun i => ns.getD i 0, rfl, W, st, hfp, vals_at rv, fun h' tk t' hk => ⟨.int _, H, I.kept (it_old hk), ⟨_, rfl⟩, ?_⟩⟩
  rw [List.size_toArray, ← rv.length, List.length_map, preSum_all]
  exact q
def rSumK (K : PySem.W.Frag) : List V → List V → Hp → VK → Prop := fun vs zs H Q => ∃ (a : Addr) (ns : List Int) (k : Int), vs = [V.ref a] ∧ zs = [V.int k] ∧ SqL K H a (ns.map V.int) ∧ Q (.int (k + ns.sum)) H
theorem cr_sumK (hc : X.calm = true) : CallRK X (.builtin "sum") [Str.ofString "start"] (rSumK X.K) := by
  intro pins s σ H vs zs us ws Q I r rz h
  obtain ⟨a, ns, k, rfl, rfl, hs, q⟩ := h
  obtain ⟨its, rv, ht, hz⟩ := I.list hs
  rw [Vals.ref1 r]
  obtain ⟨u, rfl, t, rfl⟩ := vals1 rz
  refine sum_from (walk_list (A := X.A.in1) (I.ok.hd hc) ht.isList fun s₂ es St W st hfp => ?_)
  subst es
  refine ⟨_, _, _, _, _, _, fun i => ns.getD i 0, rfl, W, st, hfp, vals_at rv, fun h' tk t' hk => ⟨.int _, H, I.kept (it_old hk), ⟨_, rfl⟩, ?_⟩⟩
  rw [List.size_toArray, ← rv.length, List.length_map, preSum_all]
  exact q
def maxD (d : Int) : List Int → Int
  | [] => d
  | x :: xs => xs.foldl max x
theorem fold_max : ∀ (xs : List Int) (x : Int), (xs.foldl max x = x ∨ xs.foldl max x ∈ xs) ∧ x ≤ xs.foldl max x ∧ ∀ y ∈ xs, y ≤ xs.foldl max x
  | [], x => ⟨Or.inl rfl, Int.le_refl _, fun y h => (nomatch h)⟩
  | z :: xs, x => by
    obtain ⟨h1, h2, h3⟩ := fold_max xs (max x z)
    simp only [List.foldl_cons]
    have a1 : x ≤ max x z := by omega
    have a2 : z ≤ max x z := by omega
    refine ⟨?_, by omega, fun y hy => ?_⟩
    · rcases h1 with h1 | h1
      · rw [h1]
        by_cases c : x ≤ z
        · right; rw [show max x z = z by omega]; exact List.mem_cons_self
        · left; omega
      · exact Or.inr (List.mem_cons_of_mem _ h1)
    · rcases List.mem_cons.mp hy with rfl | hy
      · omega
      · exact h3 y hy
theorem maxD_is {d m : Int} {ns : List Int} (h0 : ns ≠ []) (h1 : m ∈ ns) (h2 : ∀ y ∈ ns, y ≤ m) : maxD d ns = m := by
  cases ns with
  | nil => exact absurd rfl h0
  | cons x xs =>
    obtain ⟨a, b, c⟩ := fold_max xs x
    show xs.foldl max x = m
    have z1 : xs.foldl max x ≤ m := by
      rcases a with a | a
      · rw [a]; exact h2 x List.mem_cons_self
      · exact h2 _ (List.mem_cons_of_mem _ a)
    have z2 : m ≤ xs.foldl max x := by
      rcases List.mem_cons.mp h1 with rfl | h
      · exact b
      · exact c m h
    omega
def rMaxDT (K : PySem.W.Frag) : List V → List V → Hp → VK → Prop := fun vs zs H Q => ∃ (a : Addr) (ns : List Int) (d : Int), vs = [V.ref a] ∧ zs = [V.int d] ∧ SqT K H a (ns.map V.int) ∧ Q (.int (maxD d ns)) H
theorem cr_maxDT (hc : X.calm = true) : CallRK X (.builtin "max") [Str.ofString "default"] (rMaxDT X.K) := by
  intro pins s σ H vs zs us ws Q I r rz h
  obtain ⟨a, ns, d, rfl, rfl, hs, q⟩ := h
  obtain ⟨its, rv, ht, hz⟩ := I.tuple hs
  rw [Vals.ref1 r]
  obtain ⟨u, rfl, t, rfl⟩ := vals1 rz
  obtain ⟨o, e1, e2, n, e3⟩ := id ht
  refine max_dflt (walk_tup (A := X.A.in1) (I.ok.hd hc) ⟨o, e1, e2, n, e3⟩ fun s₂ es St W st hfp => ?_)
  subst es
  have hl : its.toArray.size = ns.length := by rw [List.size_toArray, ← rv.length, List.length_map]
  refine ⟨_, _, _, _, _, _, fun i => ns.getD i 0, rfl, W, st, hfp, vals_at rv, fun v h' tk z1 z2 hk => ?_⟩
  rw [hl] at z1 z2
  by_cases h0 : ns = []
  · subst h0
    rw [z1 rfl]
    exact ⟨.int d, H, I.kept (it_old hk), ⟨t, rfl⟩, q⟩
  · have hp : 0 < ns.length := List.length_pos_iff.mpr h0
    obtain ⟨m, t2, rfl, ⟨j, hj, rfl⟩, hm⟩ := z2 hp
    refine ⟨.int _, H, I.kept (it_old hk), ⟨t2, rfl⟩, ?_⟩
    have em : maxD d ns = ns.getD j 0 := by
      refine maxD_is h0 ?_ fun y hy => ?_
      · rw [List.getD_eq_getElem?_getD, List.getElem?_eq_getElem hj]
        exact List.getElem_mem hj
      · obtain ⟨i, hi, rfl⟩ := List.mem_iff_getElem.mp hy
        have z : ns.getD i 0 ≤ ns.getD j 0 := hm i hi
        rw [List.getD_eq_getElem?_getD, List.getElem?_eq_getElem hi] at z
        exact z
    show Q (.int (ns.getD j 0)) H
    rw [← em]
    exact q
end
end Rs
namespace Rs
open PySem PySem.Spec PyProof.Rows L2
/-! ### a tuple's slice with a step -/
def ixT (n : Nat) (lo hi : Option Int) (st : Int) : List Nat := (List.range (Builtin.Slice.slicePlaces (Builtin.Slice.sliceAdjust lo hi st n).1 (Builtin.Slice.sliceAdjust lo hi st n).2 st)).map fun (k : Nat) => ((Builtin.Slice.sliceAdjust lo hi st n).1 + (k : Int) * st).toNat
def pickT (xs : List V) (lo hi : Option Int) (st : Int) : List V := (ixT xs.length lo hi st).filterMap (xs[·]?)
def pickI (ns : List Int) (lo hi : Option Int) (st : Int) : List Int := (ixT ns.length lo hi st).filterMap (ns[·]?)
theorem pickT_map (ns : List Int) (lo hi : Option Int) (st : Int) : pickT (ns.map V.int) lo hi st = (pickI ns lo hi st).map V.int := by
  unfold pickT pickI
  rw [List.length_map]
  generalize ixT ns.length lo hi st = ix
  induction ix with
  | nil => rfl
  | cons i ix ih =>
    cases h : ns[i]? with
    | none => rw [List.filterMap_cons_none (by rw [List.getElem?_map, h]; rfl), List.filterMap_cons_none h, ih]
    | some z => rw [List.filterMap_cons_some (by rw [List.getElem?_map, h]; rfl), List.filterMap_cons_some h, ih]; rfl
section
variable {prog : Program} {w : World} {A : Around} {s : Shared} {E : Value → Shared → Prop}
theorem part_ {v : Value} {o : Option Int} {Q : Option Int → Shared → Prop} (p : IsPart v o) (h : Q o s) : wpAny (model prog w) A (Builtin.Slice.slicePartIndex v) Q E s := HT.slicePart_ p h
theorem stepped {sl : Addr} {vl vu vs : Value} {lo hi : Option Int} {st : Int} {n : Nat} {Q : Int × Int × Nat → Shared → Prop} (hs : s.heap.IsSliceOf sl vl vu vs) (pl : IsPart vl lo) (pu : IsPart vu hi) (ps : IsPart vs (some st)) (h0 : st ≠ 0)
    (h : Q ((Builtin.Slice.sliceAdjust lo hi st n).1, st, Builtin.Slice.slicePlaces (Builtin.Slice.sliceAdjust lo hi st n).1 (Builtin.Slice.sliceAdjust lo hi st n).2 st) s) : wpAny (model prog w) A (Builtin.Slice.sliceApplied (.ref sl) (pure (n : Int))) Q E s := by
  obtain ⟨os, hos, hcs, hds⟩ := id hs
  unfold Builtin.Slice.sliceApplied Builtin.Slice.sliceFields
  refine wpAny_bind (wpAny_bind (wpAny_field hos hds (x := vl) rfl (wpAny_bind (wpAny_field hos hds (x := vu) rfl (wpAny_bind (wpAny_field hos hds (x := vs) rfl (wpAny_pure ?_)))))))
  refine wpAny_bind (part_ ps ?_)
  show wpAny _ _ (if (st == 0) = true then _ else _) _ _ s
  rw [if_neg (by simpa using h0)]
  exact wpAny_bind (part_ pl (wpAny_bind (part_ pu (wpAny_bind (wpAny_pure (wpAny_pure h))))))
theorem getItem_step {t sl : Addr} {items : Array Value} {vl vu vs : Value} {lo hi : Option Int} {st : Int} {Q : Value → Shared → Prop} (ht : IsTup s.heap t items) (hs : s.heap.IsSliceOf sl vl vu vs) (pl : IsPart vl lo) (pu : IsPart vu hi) (ps : IsPart vs (some st))
    (h0 : st ≠ 0) (h1 : st ≠ 1) (hz : ((ixT items.size lo hi st).filterMap (items[·]?)).length ≤ sizeLine)
    (h : Q (.ref s.heap.objs.size) { s with heap := s.heap.push { cls := .type "tuple", data := .seq ((ixT items.size lo hi st).filterMap (items[·]?)).toArray } }) : wpAny (model prog w) A (getItem (.ref t) (.ref sl)) Q E s := by
  obtain ⟨os, hos, hcs, hds⟩ := id hs
  have hT : s.TypeIs (.ref sl) "slice" := ⟨os, hos, hcs⟩
  have hk : sizeOk (.seq ((ixT items.size lo hi st).filterMap (items[·]?)).toArray) := by
    show ((ixT items.size lo hi st).filterMap (items[·]?)).toArray.size ≤ sizeLine
    rw [List.size_toArray]
    exact hz
  have ep : ((List.range (Builtin.Slice.slicePlaces (Builtin.Slice.sliceAdjust lo hi st items.size).1 (Builtin.Slice.sliceAdjust lo hi st items.size).2 st)).filterMap fun (k : Nat) => items[((Builtin.Slice.sliceAdjust lo hi st items.size).1 + (k : Int) * st).toNat]?) = (ixT items.size lo hi st).filterMap (items[·]?) := by
    unfold ixT
    rw [List.filterMap_map]
    rfl
  unfold getItem
  try with_reducible refine wpAny_holding ?_
  first | refine wpAny_bind (wpAny_pure ?_) | skip
  refine wpAny_bind (wpAny_sequenceKey ht.typeIs (by decide) ?_)
  refine wpAny_bind (wpAny_callSpecial?_slot (name := Str.ofString "__getitem__") ht.typeIs PyProof.Rows.slot_tuple_getitem (wpAny_call_entry PyProof.Rows.slot_tuple_getitem ht.typeIs entry_tuple_getitem ?_ (args_tuple_getitem _ _)))
  show wpAny _ _ (Builtin.Tuple.tupleItemsOf (.ref t) >>= _) _ _ s
  refine wpAny_bind (tupleItemsOf_ ht ?_)
  refine wpAny_bind (wpAny_typeOf hT ?_)
  rw [if_pos (by decide)]
  refine wpAny_bind (stepped hs pl pu ps h0 ?_)
  show wpAny _ _ (if (_ && st == 1 && _) = true then _ else _) _ _ s
  rw [if_neg (by
    have e : (st == 1) = false := by simpa using h1
    simp [e])]
  rw [ep]
  first
    | exact wpAny_bind (m := Builtin.Tuple.tupleExact _) (wpAny_newObj_type (wpAny_pure ⟨_, rfl, wpAny_pure h⟩) hk)
    | exact wpAny_bind (m := Builtin.Tuple.tupleExact _) (wpAny_newObj_type (wpAny_bind (wpAny_pure (wpAny_pure ⟨_, rfl, wpAny_pure h⟩))) hk)
    | exact wpAny_bind (wpAny_bind (m := Builtin.Tuple.tupleExact _) (wpAny_newObj_type (wpAny_pure (wpAny_pure ⟨_, rfl, wpAny_pure h⟩)) hk))
    | exact wpAny_bind (wpAny_bind (m := Builtin.Tuple.tupleExact _) (wpAny_newObj_type (wpAny_pure ⟨_, rfl, wpAny_pure h⟩) hk))
end
def tSlT3 (K : PySem.W.Frag) (te : TE) (tl th ts : TO) : TE := fun σ H Q => te σ H fun x H1 => tl σ H1 fun l H2 => th σ H2 fun u H3 => ts σ H3 fun st H4 => ∃ a xs k, x = .ref a ∧ SqT K H4 a xs ∧ st = some k ∧ k ≠ 0 ∧ k ≠ 1 ∧ (pickT xs l u k).length ≤ sizeLine ∧
  ∀ p, H4 p = none → Q (.ref p) (upd H4 p (.tup (pickT xs l u k)))
theorem pe_slT3 {X : Cx} {e : Expr} {te : TE} {lo hi st : Option Expr} {tl th ts : TO} {p2 pos : Pos} (he : PE X e te) (hl : PO X lo tl) (hh : PO X hi th) (hs : PO X st ts)
    (hsub : ∀ ov iv, subscripted (.Slice lo hi st p2) false ov iv = operate [ov, iv] (getItem ov iv) := by intro _ _; with_unfolding_all rfl) : PE X (.Subscript e (.Slice lo hi st p2) pos) (tSlT3 X.K te tl th ts) := by
  constructor
  intro pins s σ H Q I h
  refine PyProof.Rows.Subscript_ (thn (he.run pins s σ H _ I h) ?_)
  rintro v s1 ⟨x, H1, I1, r1, q1⟩
  refine wpAny_Slice (thn (hl.run pins s1 σ H1 _ I1 q1) ?_)
  rintro vl s2 ⟨l, H2, I2, pl, q2⟩
  refine thn (hh.run pins s2 σ H2 _ I2 q2) ?_
  rintro vu s3 ⟨u, H3, I3, pu, q3⟩
  refine thn (hs.run pins s3 σ H3 _ I3 q3) ?_
  rintro vs s4 ⟨c, H4, I4, ps, a, xs, k, ex, hx, ek, h0, h1, hz, q4⟩
  subst ex ek
  cases r1
  have I5 : Inv X pins σ H4 { s4 with heap := s4.heap.push { cls := .type "slice", data := .fields #[vl, vu, vs] } } := I4.kept (t' := s4.toks) fun b ob q => Heap.get?_push_of_some _ q
  obtain ⟨its, rv, ht, hz2⟩ := I5.tuple hx
  have hlen : its.length = xs.length := rv.length.symm
  have ei : ∀ ix : List Nat, ix.filterMap (its.toArray[·]?) = ix.filterMap (its[·]?) := fun ix => by simp only [List.getElem?_toArray]
  have vp := vals_pick rv (ixT xs.length l u k)
  show wpAny (model X.prog X.w) X.A (subscriptTail e (.Slice lo hi st p2) (.ref a) (.ref s4.heap.objs.size)) (EP X pins σ Q) X.xe _
  refine tail_any (ops := [.ref a, .ref s4.heap.objs.size]) ht.typeIs PyProof.Rows.slot_tuple_getitem.lookup ?_ (hsub _ _)
  refine getItem_step ht (Heap.IsSliceOf.new _ vl vu vs) pl pu ps h0 h1 ?_ ?_
  · rw [ei, List.size_toArray, hlen, ← vp.length]
    exact hz
  · rw [ei, show its.toArray.size = xs.length by rw [List.size_toArray, hlen]]
    refine ⟨.ref _, _, I5.laid (t' := s4.toks) (o := .tup (pickT xs l u k)) (fun b ob q => Heap.get?_push_of_some _ q) (Nat.le_refl _) ?_, rfl, q4 _ (I5.hok.fresh (Nat.le_refl _))⟩
    exact ⟨hz, _, vp, IsTup.new _ _⟩
end Rs

namespace Rs
open PySem PySem.Spec PyProof.Rows L2
/-- a def with keyword-only defaults -/
structure CalD (K : PySem.W.Frag) (mg : Str → Option Value) (x : Str) (st : Stmt) (kws : List (Str × V)) (f : Addr) (fd : FuncData) : Prop where
  F : FunD K x x (defArgs st) (defBody st) (defScope st) [] kws f fd
  m : mg x = some (.ref f)
def slR3 (K : PySem.W.Frag) (Q : VK) (x : V) (l u st : Option Int) (H : Hp) : Prop := ∃ a xs k, x = .ref a ∧ SqT K H a xs ∧ st = some k ∧ k ≠ 0 ∧ k ≠ 1 ∧ (pickT xs l u k).length ≤ sizeLine ∧ ∀ p, H p = none → Q (.ref p) (upd H p (.tup (pickT xs l u k)))
section
variable {σ : L2.St} {H H0 : Hp} {M : List Addr} {L L' : Led} {Q : VK} {v x y : V} {nx : L2.St → Hp → Prop} {rt : VK} {bk ct : L2.St → Hp → Prop} {t u : TS} {te ta tb tc : TE} {K : PySem.W.Frag} {a p : Addr}
theorem rd_sumT {xs : List V} {ns : List Int} (S : Hs H0 M H L) (m : (a, HO.tup xs) ∈ L) (e : xs = ns.map V.int) (h : Q (.int ns.sum) H) : rSumT K [.ref a] H Q := ⟨a, ns, rfl, by subst e; exact S.tup m, h⟩
theorem rd_cbk {r : List V → List V → Hp → VK → Prop} {t tk : TA} (h : t σ H fun vs H1 => tk σ H1 fun zs H2 => r vs zs H2 Q) : tCKw r t tk σ H Q := h
theorem rd_sumK {xs : List V} {ns : List Int} {k : Int} (S : Hs H0 M H L) (m : (a, HO.lst xs) ∈ L) (e : xs = ns.map V.int) (h : Q (.int (k + ns.sum)) H) : rSumK K [.ref a] [.int k] H Q := ⟨a, ns, k, rfl, rfl, by subst e; exact S.lst m, h⟩
theorem rd_maxDT {xs : List V} {ns : List Int} {k : Int} (S : Hs H0 M H L) (m : (a, HO.tup xs) ∈ L) (e : xs = ns.map V.int) (h : Q (.int (maxD k ns)) H) : rMaxDT K [.ref a] [.int k] H Q := ⟨a, ns, k, rfl, rfl, by subst e; exact S.tup m, h⟩
theorem rd_slT3 {tl th ts : TO} (h : te σ H fun x H1 => tl σ H1 fun l H2 => th σ H2 fun u H3 => ts σ H3 fun st H4 => slR3 K Q x l u st H4) : tSlT3 K te tl th ts σ H Q := h
theorem rd_slR3 {xs : List V} {ns : List Int} {l u : Option Int} {k : Int} (S : Hs H0 M H L) (m : (a, HO.tup xs) ∈ L) (e : xs = ns.map V.int) (h0 : k ≠ 0) (h1 : k ≠ 1) (hz : (pickI ns l u k).length ≤ sizeLine)
    (h : ∀ p H', H0 p = none → Hs H0 M H' ((p, .tup ((pickI ns l u k).map V.int)) :: L) → Q (.ref p) H') : slR3 K Q (.ref a) l u (some k) H := by
  subst e
  refine ⟨a, _, k, rfl, S.tup m, rfl, h0, h1, ?_, ?_⟩
  · rw [pickT_map, List.length_map]; exact hz
  · rw [pickT_map]; exact rd_newO S h
theorem rd_slTp {xs ys : List V} {lo hi : Option Int} (S : Hs H0 M H L) (m : (a, HO.tup xs) ∈ L) (w : ¬ (HT.sIx xs.length 0 lo = 0 ∧ HT.sIx xs.length xs.length hi = xs.length)) (e : cutV xs lo hi = ys) (h : ∀ p H', H0 p = none → Hs H0 M H' ((p, .tup ys) :: L) → Q (.ref p) H') : rSlT K (.ref a) lo hi H Q := by
  subst e
  exact ⟨a, xs, rfl, S.tup m, w, rd_newO S h⟩
theorem rd_repT {xs : List V} {k : Int} (S : Hs H0 M H L) (m : (a, HO.tup xs) ∈ L) (h0 : xs ≠ []) (h1 : 2 ≤ k) (h2 : k ≤ 1000) (h3 : xs.length ≤ 1000) (h : ∀ p H', H0 p = none → Hs H0 M H' ((p, .tup (List.replicate k.toNat xs).flatten) :: L) → Q (.ref p) H') : rRepT K (.ref a) (.int k) H Q :=
  ⟨a, k, xs, rfl, rfl, S.tup m, h0, h1, h2, h3, rd_newO S h⟩
theorem rd_catT {xs ys : List V} {b : Addr} (S : Hs H0 M H L) (m : (a, HO.tup xs) ∈ L) (m2 : (b, HO.tup ys) ∈ L) (h0 : xs ≠ []) (h1 : ys ≠ []) (hz : xs.length + ys.length ≤ sizeLine) (h : ∀ p H', H0 p = none → Hs H0 M H' ((p, .tup (xs ++ ys)) :: L) → Q (.ref p) H') : rCatT K (.ref a) (.ref b) H Q :=
  ⟨a, b, xs, ys, rfl, rfl, S.tup m, S.tup m2, h0, hz, fun z => absurd z h1, fun _ => rd_newO S h⟩
theorem rd_all {xs : List V} {bs : List Bool} (S : Hs H0 M H L) (m : (a, HO.lst xs) ∈ L) (e : xs = bs.map V.bl) (h : Q (.bl (bs.all id)) H) : rAll K [.ref a] H Q := ⟨a, bs, rfl, by subst e; exact S.lst m, h⟩
theorem rd_int1b {b : Bool} {R : Int → Prop} (h : R (if b then 1 else 0)) : (∃ i, [V.bl b] = [V.int i] ∧ R i) ∨ ∃ k, [V.bl b] = [.bl k] ∧ R (if k then 1 else 0) := Or.inr ⟨b, rfl, h⟩
end
theorem rd_yes {σ : L2.St} {H : Hp} {Q : Bool → Hp → Prop} (h : Q true H) : tYes σ H Q := h
theorem pick_le (ns : List Int) (lo : Option Int) (h : lo = none ∨ lo = some 1) : (pickI ns lo none 2).length ≤ ns.length := by
  unfold pickI
  refine Nat.le_trans (List.length_filterMap_le _ _) ?_
  unfold ixT
  rw [List.length_map, List.length_range]
  rcases h with rfl | rfl
  · simp [Builtin.Slice.sliceAdjust, Builtin.Slice.slicePlaces]
    split <;> omega
  · simp [Builtin.Slice.sliceAdjust, Builtin.Slice.slicePlaces]
    split <;> omega
theorem pick_mem {ns : List Int} {lo hi : Option Int} {k z : Int} (h : z ∈ pickI ns lo hi k) : z ∈ ns := by
  obtain ⟨i, _, hi⟩ := List.mem_filterMap.mp h
  exact List.mem_of_getElem? hi
end Rs

namespace Rs
open PySem PySem.Spec PyProof.Rows L2
section
variable {X : Cx} {CX : CXT} {k n : Nat} {f C : Addr} {fd : FuncData} {ps ks : List Str} {sp : Sp} {E : XK} {m : Str} {p pos apos : Pos} {o : Expr} {kws : List Keyword} {ta : TE} {tk : TA} {g : List Value → List Value → List Value} {gV : List V → List V → List V}
/-- o.m(k = v, ..) -/
def tMethK (C : Addr) (m : Str) (n : Nat) (sp : Sp) (gV : List V → List V → List V) (E : XK) (ta : TE) (tk : TA) : TE := fun σ H Q => ta σ H fun x H1 => ∃ a dx fs, x = .ref a ∧ H1 a = some (.ins C dx fs) ∧ fs.lookup m = none ∧ tk σ H1 fun zs H2 => zs.length = n ∧ sp (gV [x] zs) H2 Q E
theorem pe_methK {pl : Sem Bool} (he : PE X o ta) (c : Cls X.K C) (hm : Meth X.K C m f) (F : FnOk X.prog X.w X.K X.mg X.base CX k f fd ps sp) (hr : Room k X.A) (hb : KBn X.K fd ps 1 ks g gV) (hx : Passes CX X E) (hkw : PK X kws tk)
    (hall : (backToKw pos (keywordEach kws X.env)).all (·.1.isSome) = true := by rfl) (hks : (backToKw pos (keywordEach kws X.env)).filterMap (·.1) = ks := by rfl)
    (ht : eval (.Call (.Attribute o m apos) [] kws pos) X.env = (do
      let ov ← eval o X.env
      standAt apos.atName
      let (f, first) ← holding [ov] (getMethod ov m pl)
      callWith pos f first (backTo pos (starEach [] X.env)) (backToKw pos (keywordEach kws X.env))) := by rfl) :
    PE X (.Call (.Attribute o m apos) [] kws pos) (tMethK C m ks.length sp gV E ta tk) := by
  constructor
  intro pins s σ H Q I h
  refine PySem.W.methodCall_KW (pl := pl) (thn (he.run pins s σ H _ I h) ?_) ht
  rintro u s1 ⟨x, H1, I1, rx, a, dx, fs, ex, ea, l, q⟩
  subst ex
  obtain rfl : u = Value.ref a := rx
  refine getmeth_ok I1 ea c hm l ?_
  have np : ((backTo pos (starEach [] X.env)).any (·.1) || (backToKw pos (keywordEach kws X.env)).any (·.1.isNone)) = false := by
    have z : ∀ l : List (Option Str × Sem Value), l.all (·.1.isSome) = true → l.any (·.1.isNone) = false := by
      intro l hl
      induction l with
      | nil => rfl
      | cons q l ih =>
        simp only [List.all_cons, Bool.and_eq_true] at hl
        simp only [List.any_cons, ih hl.2, Bool.or_false]
        cases e : q.1 with
        | none => rw [e] at hl; exact absurd hl.1 (by decide)
        | some _ => rfl
    rw [z _ hall]; rfl
  refine PySem.W.callWith_KW0 (first := [.ref a]) (h₀ := X.base) I1.ok.mod.kin hm.kp hall ?_ np
  refine thn (hkw.run pos pins s1 σ H1 _ I1 q) ?_
  rintro ws s2 ⟨zs, H2, I2, rz, l2, q2⟩
  refine ⟨I2.kIn, ?_⟩
  rw [hks]
  exact run_fnN (us := [.ref a]) (vs := [.ref a]) F hr hb hx I2 (.cons rfl .nil) rz rfl l2 q2
/-- a def called by a builtin -/
theorem run_in {A : Around} {pins : List (Addr × Obj)} {σ : L2.St} {H : Hp} {s : Shared} {Q : VK} {a : Addr} (F : FnOk X.prog X.w X.K X.mg X.base CX k f fd ["self"] sp) (hr : Room k A) (e0 : Env0 X.prog X.w X.K X.mg X.base A X.stack s H) (hb : Binds X.K fd ["self"] []) (hx : Passes CX X E)
    (I : Inv X pins σ H s) (h : sp [.ref a] H Q E) : wpAny (model X.prog X.w) A (call (.ref f) [.ref a]) (EP X pins σ Q) X.xe s := by
  refine wpAny_call (codeAny_mono (F.run A X.stack s H ⟨[.ref a], []⟩ [.ref a] [.ref a] Q E hr e0 (hb s [.ref a] I.kIn rfl) (.cons rfl .nil) h) fun r s' hq => ?_)
  cases r with
  | error e => exact hx pins σ H s e s' I hq
  | ok fl =>
    cases fl with
    | ret u => exact I.after hq
    | next => exact False.elim hq
    | brk => exact False.elim hq
    | cont => exact False.elim hq
def rLenO (C : Addr) (sp : Sp) (E : XK) : List V → Hp → VK → Prop := fun xs H Q => ∃ a dx fs, xs = [V.ref a] ∧ H a = some (.ins C dx fs) ∧ sp [.ref a] H (fun z H' => ∃ n : Int, z = .int n ∧ 0 ≤ n ∧ n < 2 ^ 63 ∧ Q (.int n) H') E
theorem call_lenO (hs : PySem.W.findIn X.K (.ref C) "__len__" = some (some (.ref f))) (hf : PySem.W.isFn X.K (.ref f) = true) (F : FnOk X.prog X.w X.K X.mg X.base CX k f fd ["self"] sp) (hr : Room (k + 1) X.A) (hb : Binds X.K fd ["self"] []) (hx : Passes CX X E) : CallR X (.builtin "len") (rLenO C sp E) := by
  intro pins s σ H xs us Q I r h
  obtain ⟨a, dx, fs, rfl, ha, q⟩ := h
  rw [Vals.ref1 r]
  obtain ⟨mA, O, _, _, _, _⟩ := ins_get I.hok ha
  obtain ⟨od, J, _⟩ := O.look
  obtain ⟨m, fr⟩ := I.fr
  refine PySem.W.len_K fr I.ok.mod.kin J hs hf (wpAny_mono (run_in F hr.in1 I.env0.in1 hb hx I q) (fun w s' z => ?_) fun _ _ x => x)
  obtain ⟨z', H', I', rz, n, e, h0, h1, qz⟩ := z
  subst e
  obtain ⟨t, rfl⟩ := rz
  exact ⟨⟨h0, h1⟩, .int n, H', I'.tok _, ⟨_, rfl⟩, qz⟩
def rReprO (C : Addr) (sp : Sp) (E : XK) : List V → Hp → VK → Prop := fun xs H Q => ∃ a dx fs, xs = [V.ref a] ∧ H a = some (.ins C dx fs) ∧ sp [.ref a] H (fun z H' => ∃ x : Str, z = .str x ∧ Q (.str x) H') E
theorem call_reprO (hs : PySem.W.findIn X.K (.ref C) "__repr__" = some (some (.ref f))) (hf : PySem.W.isFn X.K (.ref f) = true) (F : FnOk X.prog X.w X.K X.mg X.base CX k f fd ["self"] sp) (hr : Room (k + 1) X.A) (hb : Binds X.K fd ["self"] []) (hx : Passes CX X E) : CallR X (.builtin "repr") (rReprO C sp E) := by
  intro pins s σ H xs us Q I r h
  obtain ⟨a, dx, fs, rfl, ha, q⟩ := h
  rw [Vals.ref1 r]
  obtain ⟨mA, O, _, _, _, _⟩ := ins_get I.hok ha
  obtain ⟨od, J, _⟩ := O.look
  obtain ⟨m, fr⟩ := I.fr
  have hu : X.A.in1.units < cLine := Nat.lt_of_le_of_lt (Nat.le_add_right _ _) hr.in1.units
  refine PySem.W.repr_K hu fr I.ok.mod.kin J hs hf (wpAny_mono (run_in F hr.in1 I.env0.in1 hb hx I q) (fun w s' z => ?_) fun _ _ x => x)
  obtain ⟨z', H', I', rz, x, e, qz⟩ := z
  subst e
  obtain ⟨t, rfl⟩ := rz
  exact ⟨.str x, H', I', ⟨_, rfl⟩, qz⟩
end
end Rs

namespace Rs
open PySem PySem.Spec PyProof.Rows L2
section
variable {H0 H H' : Hp} {M : List Addr} {L L1 L2 L' N : Led} {a p : Addr} {o o' u u' : HO} {K : PySem.W.Frag} {Q : VK}
/-- two objects were changed, those of N are new -/
theorem Hs.twoN (S : Hs H0 M H L) (c1 : Chg a o o' L L1) (c2 : Chg p u u' L1 L2) (ha : H0 a = none ∨ a ∈ M) (hp : H0 p = none ∨ p ∈ M) (ne : a ≠ p) (k : ∀ b w, H b = some w → b ≠ a → b ≠ p → H' b = some w) (e1 : H' a = some o') (e2 : H' p = some u') (n : NewL H H' N) :
    (∀ q ∈ N, H0 q.1 = none) ∧ Hs H0 M H' (N ++ L2) := by
  have S1 := S.put c1 ha
  have S2 := S1.put c2 hp
  have h1 : H a = some o := S.is _ c1.mem
  have h2 : H p ≠ none := by
    have := S1.is _ c2.mem
    rw [upd_ne (Ne.symm ne)] at this
    rw [this]; simp
  refine S2.moreN (fun b w e => ?_) ⟨n.nd, fun q hq => ?_, n.is⟩
  · by_cases hb : b = p
    · subst hb; rw [upd_same] at e; cases e; exact e2
    · rw [upd_ne hb] at e
      by_cases hb2 : b = a
      · subst hb2; rw [upd_same] at e; cases e; exact e1
      · rw [upd_ne hb2] at e
        exact k b w e hb2 hb
  · have z := n.nw q hq
    rw [upd_ne (fun y => h2 (by rw [← y]; exact z)), upd_ne (fun y => by rw [y, h1] at z; cases z)]
    exact z
theorem rd_popAt {xs xs' : List V} {i : Nat} {y : V} (S : Hs H0 M H L) (c : Chg a (.lst xs) (.lst xs') L L') (hm : H0 a = none ∨ a ∈ M) (hk : xs[i]? = some y) (hz : i < 2 ^ 40) (e : xs.eraseIdx i = xs') (h : ∀ H', Hs H0 M H' L' → Q y H') : rPopAt (.ref a) [.int i] H Q := by
  subst e
  have hl : i < xs.length := (List.getElem?_eq_some_iff.mp hk).1
  refine ⟨a, xs, i, i, y, rfl, rfl, S.is _ c.mem, by omega, by omega, ?_, hk, h _ (S.put c hm)⟩
  unfold seqIndex?
  simp
  omega
theorem rd_pop {xs xs' : List V} {y : V} (S : Hs H0 M H L) (c : Chg a (.lst xs) (.lst xs') L L') (hm : H0 a = none ∨ a ∈ M) (e : xs = xs' ++ [y]) (h : ∀ H', Hs H0 M H' L' → Q y H') : rPop (.ref a) [] H Q := by
  subst e
  refine ⟨a, _, y, rfl, rfl, S.is _ c.mem, by simp, ?_⟩
  have e2 : (xs' ++ [y]).dropLast = xs' := by simp
  rw [e2]
  exact h _ (S.put c hm)
theorem rd_clear {xs : List V} (S : Hs H0 M H L) (c : Chg a (.lst xs) (.lst []) L L') (hm : H0 a = none ∨ a ∈ M) (h : ∀ H', Hs H0 M H' L' → Q .non H') : rClear (.ref a) [] H Q := ⟨a, xs, rfl, rfl, S.is _ c.mem, h _ (S.put c hm)⟩
/-- a list of refs of tuples of whole numbers, just these -/
structure TL (rs : List V) (T : Led) (ts : List (List Int)) : Prop where
  rs : rs = T.map fun q => .ref q.1
  ts : T.map (·.2) = ts.map fun t => HO.tup (t.map V.int)
theorem TL.nil : TL [] [] [] := ⟨rfl, rfl⟩
theorem TL.snoc {rs : List V} {T : Led} {ts : List (List Int)} (h : TL rs T ts) (q : Addr) (t : List Int) : TL (rs ++ [V.ref q]) (T ++ [(q, .tup (t.map V.int))]) (ts ++ [t]) := ⟨by simp [h.rs], by simp [h.ts]⟩
theorem TL.len {rs : List V} {T : Led} {ts : List (List Int)} (h : TL rs T ts) : rs.length = ts.length := by
  have := congrArg List.length h.ts
  rw [h.rs]
  simpa using this
def dT (ts : List (List Int)) : PyData := .list (ts.map fun t => .tuple (t.map .int))
theorem dpTL : ∀ {T : Led} {ts : List (List Int)}, T.map (·.2) = (ts.map fun t => HO.tup (t.map V.int)) → (∀ q ∈ T, H q.1 = some q.2) → DpAll K H (T.map fun q => .ref q.1) (ts.map fun t => .tuple (t.map .int))
  | [], [], _, _ => .nil
  | [], t :: ts, h, _ => by simp at h
  | q :: T, [], h, _ => by simp at h
  | q :: T, t :: ts, h, is => by
    simp only [List.map_cons, List.cons.injEq] at h
    have hi := is q List.mem_cons_self
    rw [h.1] at hi
    exact .cons (.tup (SqT.of hi) (dps_ints t)) (dpTL h.2 fun z hz => is z (List.mem_cons_of_mem _ hz))
theorem dp_TL {rs : List V} {T : Led} {ts : List (List Int)} (h : TL rs T ts) (S : Hs H0 M H L) (m : (a, HO.lst rs) ∈ L) (sub : ∀ q ∈ T, q ∈ L) : Dp K H (.ref a) (dT ts) := by
  refine .lst (S.lst m) ?_
  rw [h.rs]
  exact dpTL h.ts fun q hq => S.is q (sub q hq)
theorem tame_T : ∀ {ts : List (List Int)}, (∀ t ∈ ts, ∀ n ∈ t, n.natAbs < 10 ^ 12) → tames (ts.map fun t => .tuple (t.map .int)) = true
  | [], _ => by simp [tames]
  | t :: ts, h => by
    have h1 := tames_ints t (h t List.mem_cons_self)
    have h2 := tame_T (ts := ts) fun z hz => h z (List.mem_cons_of_mem _ hz)
    simp only [List.map_cons, tames, tame, h1, h2, Bool.and_self]
theorem cnt_T : ∀ {ts : List (List Int)}, (∀ t ∈ ts, t.length ≤ 10) → cnts (ts.map fun t => .tuple (t.map .int)) ≤ 11 * ts.length
  | [], _ => by simp [cnts]
  | t :: ts, h => by
    have h1 := h t List.mem_cons_self
    have h2 := cnt_T (ts := ts) fun z hz => h z (List.mem_cons_of_mem _ hz)
    simp only [List.map_cons, cnts, cnt, cnts_ints, List.length_cons]
    omega
theorem shw_T {ts : List (List Int)} (h : ∀ t ∈ ts, t.length ≤ 10 ∧ ∀ n ∈ t, n.natAbs < 10 ^ 12) (hl : ts.length ≤ 1000) : Shw (dT ts) := by
  refine shw_of ?_ ?_
  · simp [dT, tame, tame_T fun t ht => (h t ht).2]
  · have := cnt_T fun t ht => (h t ht).1
    simp only [dT, cnt]
    omega
theorem depth_T (ts : List (List Int)) : (dT ts).depth ≤ 2 := by
  obtain ⟨_, b⟩ := lay_T ts
  simp only [dT, PyData.depth]
  omega
theorem rd_reprT {rs : List V} {T : Led} {ts : List (List Int)} (h : TL rs T ts) (S : Hs H0 M H L) (m : (a, HO.lst rs) ∈ L) (sub : ∀ q ∈ T, q ∈ L) (hb : ∀ t ∈ ts, t.length ≤ 10 ∧ ∀ n ∈ t, n.natAbs < 10 ^ 12) (hl : ts.length ≤ 1000) (k : Q (.str (dT ts).shown) H) : rRepr K [.ref a] H Q :=
  ⟨.ref a, dT ts, rfl, dp_TL h S m sub, shw_T hb hl, Nat.le_trans (depth_T ts) (by decide), k⟩
end
end Rs

namespace Rs
open PySem PySem.Spec PyProof.Rows L2
section
variable {H : Hp} {σ : L2.St} {ts : List TE} {te : TE} {acc : Str} {J : Str → Hp → Prop}
theorem len_app (x y : Str) : (x ++ y).length = x.length + y.length := by
  rw [TL.len_tl, TL.len_tl, TL.len_tl, TL.tl_append, List.length_append]
theorem len_num {n : Int} (h0 : 0 ≤ n) (h : n < 10 ^ 12) : (((toString n : String)) : Str).length ≤ 12 := by
  obtain ⟨k, rfl⟩ : ∃ k : Nat, n = k := ⟨n.toNat, by omega⟩
  have e := TL.tl_num k
  show (Str.ofString (toString (k : Int))).length ≤ 12
  rw [TL.len_tl, e]
  exact TL.numL_len (by decide) (by omega)
theorem rd_jsS {y : Str} (hz : acc.length ≤ 1000) (hy : y.length ≤ 1000) (h : tJs ts (acc ++ y) σ H J) : tJs (tC (.str y) :: ts) acc σ H J := ⟨y, rfl, by rw [len_app]; exact sz (by omega), h⟩
def kF (ts : List TE) (acc : Str) (σ : L2.St) (J : Str → Hp → Prop) : VK := fun x H1 => (∃ y : Str, x = .str y ∧ y.length ≤ sizeLine ∧ ∃ z : Str, V.str y = .str z ∧ (acc ++ z).length ≤ sizeLine ∧ tJs ts (acc ++ z) σ H1 J) ∨
  ∃ i : Int, x = .int i ∧ i.natAbs.log2 < 1920 ∧ ∃ z : Str, V.str (toString i) = .str z ∧ (acc ++ z).length ≤ sizeLine ∧ tJs ts (acc ++ z) σ H1 J
theorem rd_jsF (h : te σ H (kF ts acc σ J)) : tJs (tFmt te :: ts) acc σ H J := h
theorem rd_kFI {n : Int} (h0 : 0 ≤ n) (h1 : n < 10 ^ 12) (hz : acc.length ≤ 1000) (h : tJs ts (acc ++ toString n) σ H J) : kF ts acc σ J (.int n) H := by
  refine Or.inr ⟨n, rfl, ?_, toString n, rfl, ?_, h⟩
  · by_cases e : n.natAbs = 0
    · rw [e]; decide
    · exact (Nat.log2_lt e).2 (Nat.lt_of_lt_of_le (show n.natAbs < 2 ^ 40 by omega) (Nat.pow_le_pow_right (by omega) (by omega)))
  · have := len_num h0 h1
    rw [len_app]
    exact sz (by omega)
theorem rd_jsN (h : J acc H) : tJs [] acc σ H J := h
end
end Rs

namespace Rs
open PySem PySem.Spec PyProof.Rows L2
section
variable {X : Cx}
theorem ix_tupK {K : PySem.W.Frag} (h : X.K = K) : IxR X (rIxT K) := by subst h; exact ix_tup
end
end Rs

namespace Rs
open PySem PySem.Spec PyProof.Rows L2
/-! ### promises by ledgers -/
section
variable {H0 H H' : Hp} {M C : List Addr} {L L' LL F : Led}
/-- what is known behind a call: C the objects that may have changed, L what was known of, L' what is known now -/
theorem Hs.frame (S : Hs H0 M H (L ++ F)) (S' : Hs H C H' L') (hC : ∀ c ∈ C, c ∈ L.map (·.1) ∧ (H0 c = none ∨ c ∈ M)) (hk : ∀ q ∈ L', q.1 ∈ L.map (·.1) ∨ H q.1 = none) : Hs H0 M H' (L' ++ F) := by
  have nd := S.nd
  rw [List.map_append, List.nodup_append] at nd
  obtain ⟨_, nF, dis⟩ := nd
  refine ⟨?_, ?_, ?_, ?_⟩
  · rw [List.map_append, List.nodup_append]
    refine ⟨S'.nd, nF, ?_⟩
    intro x hx y hy e
    subst e
    obtain ⟨q, hq, rfl⟩ := List.mem_map.mp hx
    rcases hk q hq with h | h
    · exact dis _ h _ hy rfl
    · obtain ⟨r, hr, e⟩ := List.mem_map.mp hy
      have := S.is r (List.mem_append_right _ hr)
      rw [e, h] at this
      cases this
  · intro q hq
    rcases List.mem_append.mp hq with h | h
    · exact S'.is q h
    · refine S'.old _ _ (S.is q (List.mem_append_right _ h)) fun hc => ?_
      exact dis _ (hC _ hc).1 _ (List.mem_map_of_mem (f := (·.1)) h) rfl
  · intro b o e hb
    refine S'.old _ _ (S.old b o e hb) fun hc => ?_
    rcases (hC _ hc).2 with z | z
    · rw [z] at e; cases e
    · exact hb z
  · intro b hb
    by_cases hc : b ∈ C
    · exact S'.mu b hc
    · cases e : H b with
      | none => exact absurd e (S.mu b hb)
      | some u => rw [S'.old b u e hc]; simp
theorem Hs.none0 (S : Hs H0 M H L) {a : Addr} (h : H a = none) : H0 a = none := (S.new h (.lst [])).1
end
end Rs
namespace Rs
open PySem PySem.Spec PyProof.Rows L2
abbrev SepR := List V → List Addr → Led → (V → Led → Prop) → Prop
/-- R: the arguments, the objects that may change, what is known ahead, what is promised -/
def Sep (R : SepR) : Sp := fun vs H Q _ => ∃ C L post, R vs C L post ∧ (L.map (·.1)).Nodup ∧ (∀ q ∈ L, H q.1 = some q.2) ∧ (∀ c ∈ C, c ∈ L.map (·.1)) ∧
  ∀ v H' L', post v L' → Hs H C H' L' → (∀ q ∈ L', q.1 ∈ L.map (·.1) ∨ H q.1 = none) → Q v H'
theorem Sep.led {H : Hp} {C : List Addr} {L : Led} (nd : (L.map (·.1)).Nodup) (is : ∀ q ∈ L, H q.1 = some q.2) (hC : ∀ c ∈ C, c ∈ L.map (·.1)) : Hs H C H L := by
  refine Hs.start H C L nd is fun b hb => ?_
  obtain ⟨q, hq, e⟩ := List.mem_map.mp (hC b hb)
  rw [← e, is q hq]; simp
/-- one entry taken out -/
inductive Pick (q : Addr × HO) : Led → Led → Prop where
  | here {L : Led} : Pick q (q :: L) L
  | there {r : Addr × HO} {L L' : Led} : Pick q L L' → Pick q (r :: L) (r :: L')
  | app {N L L' : Led} : Pick q L L' → Pick q (N ++ L) (N ++ L')
theorem Pick.perm {q : Addr × HO} {L L' : Led} (h : Pick q L L') : L.Perm (q :: L') := by
  induction h with
  | here => exact .refl _
  | there _ ih => exact (List.Perm.cons _ ih).trans (.swap _ _ _)
  | app _ ih => exact (List.Perm.append_left _ ih).trans List.perm_middle
/-- several taken out -/
inductive Sel : Led → Led → Led → Prop where
  | nil {L : Led} : Sel [] L L
  | cons {q : Addr × HO} {K L L' F : Led} : Pick q L L' → Sel K L' F → Sel (q :: K) L F
theorem Sel.perm {K L F : Led} (h : Sel K L F) : L.Perm (K ++ F) := by
  induction h with
  | nil => exact .refl _
  | cons p _ ih => exact p.perm.trans (.cons _ ih)
section
variable {H0 H H' : Hp} {M C : List Addr} {L L' LL F : Led} {R : SepR} {vs : List V} {post : V → Led → Prop} {Q : VK} {E : XK}
theorem sep_use (S : Hs H0 M H LL) (r : R vs C L post) (pm : LL.Perm (L ++ F)) (hC : ∀ c ∈ C, c ∈ L.map (·.1) ∧ (H0 c = none ∨ c ∈ M))
    (h : ∀ v H' L', post v L' → (∀ q ∈ L', q.1 ∈ L.map (·.1) ∨ H0 q.1 = none) → Hs H0 M H' (L' ++ F) → Q v H') : Sep R vs H Q E := by
  have S1 := S.perm pm.symm
  refine ⟨C, L, post, r, ?_, fun q hq => S1.is q (List.mem_append_left _ hq), fun c hc => (hC c hc).1, fun v H' L' p S' hk => ?_⟩
  · have := S1.nd
    rw [List.map_append, List.nodup_append] at this
    exact this.1
  · refine h v H' L' p (fun q hq => ?_) (S1.frame S' hC hk)
    rcases hk q hq with z | z
    · exact Or.inl z
    · exact Or.inr (S.none0 z)
/-- what is said of own objects, told of those of a ledger -/
theorem own_of {K : Led} (h : ∀ q ∈ L', q.1 ∈ L.map (·.1) ∨ H0 q.1 = none) (hL : ∀ q ∈ L, H0 q.1 = none ∨ q.1 ∈ M) : ∀ q ∈ L', H0 q.1 = none ∨ q.1 ∈ M := fun q hq => by
  rcases h q hq with z | z
  · obtain ⟨r, hr, e⟩ := List.mem_map.mp z
    rw [← e]; exact hL r hr
  · exact Or.inl z
end
end Rs
namespace Rs
open PySem PySem.Spec PyProof.Rows L2
/-! ### ledgers put in another order, by counting -/
open Classical in
noncomputable def one (a b : Addr × HO) : Nat := if b = a then 1 else 0
noncomputable def cn (a : Addr × HO) : Led → Nat
  | [] => 0
  | b :: L => one a b + cn a L
theorem cn_nil (a : Addr × HO) : cn a [] = 0 := rfl
theorem cn_cons (a b : Addr × HO) (L : Led) : cn a (b :: L) = one a b + cn a L := rfl
theorem cn_app (a : Addr × HO) : ∀ L L' : Led, cn a (L ++ L') = cn a L + cn a L'
  | [], L' => by simp [cn]
  | b :: L, L' => by rw [List.cons_append, cn_cons, cn_cons, cn_app a L L']; omega
theorem one_self (a : Addr × HO) : one a a = 1 := by simp [one]
theorem one_ne {a b : Addr × HO} (h : b ≠ a) : one a b = 0 := by simp [one, h]
theorem cn_pos {a : Addr × HO} : ∀ {L : Led}, 0 < cn a L ↔ a ∈ L
  | [] => by simp [cn]
  | b :: L => by
    rw [cn_cons]
    by_cases h : b = a
    · subst h; rw [one_self]; simp; omega
    · rw [one_ne h]
      have := cn_pos (a := a) (L := L)
      simp [Ne.symm h, this]
theorem cn_le {L : Led} (h : (L.map (·.1)).Nodup) (a : Addr × HO) : cn a L ≤ 1 := by
  induction L with
  | nil => simp [cn]
  | cons b L ih =>
    rw [List.map_cons, List.nodup_cons] at h
    rw [cn_cons]
    by_cases e : b = a
    · subst e
      rw [one_self]
      have : cn b L = 0 := by
        by_cases z : 0 < cn b L
        · exact absurd (List.mem_map_of_mem (f := (·.1)) (cn_pos.mp z)) h.1
        · omega
      omega
    · rw [one_ne e]; have := ih h.2; omega
theorem nodup_re {L L' : Led} (h : (L.map (·.1)).Nodup) (c : ∀ a, cn a L' ≤ cn a L) : (L'.map (·.1)).Nodup := by
  have sub : ∀ q ∈ L', q ∈ L := fun q hq => cn_pos.mp (Nat.lt_of_lt_of_le (cn_pos.mpr hq) (c q))
  have c1 : ∀ a, cn a L' ≤ 1 := fun a => Nat.le_trans (c a) (cn_le h a)
  have inj : ∀ {L : Led}, (L.map (·.1)).Nodup → ∀ q ∈ L, ∀ r ∈ L, q.1 = r.1 → q = r := by
    intro L
    induction L with
    | nil => intro _ q hq; cases hq
    | cons b L ih =>
      intro h q hq r hr e
      rw [List.map_cons, List.nodup_cons] at h
      rcases List.mem_cons.mp hq with rfl | hq'
      · rcases List.mem_cons.mp hr with rfl | hr'
        · rfl
        · exact absurd (by rw [e]; exact List.mem_map_of_mem (f := (·.1)) hr') h.1
      · rcases List.mem_cons.mp hr with rfl | hr'
        · exact absurd (by rw [← e]; exact List.mem_map_of_mem (f := (·.1)) hq') h.1
        · exact ih h.2 q hq' r hr' e
  clear c
  induction L' with
  | nil => simp
  | cons b L' ih =>
    rw [List.map_cons, List.nodup_cons]
    refine ⟨fun hm => ?_, ih (fun q hq => sub q (List.mem_cons_of_mem _ hq)) fun a => ?_⟩
    · obtain ⟨r, hr, e⟩ := List.mem_map.mp hm
      have := inj h _ (sub r (List.mem_cons_of_mem _ hr)) _ (sub b List.mem_cons_self) e
      subst this
      have z := c1 r
      rw [cn_cons, one_self] at z
      have := cn_pos.mpr hr
      omega
    · have := c1 a; rw [cn_cons] at this; omega
theorem Hs.re {H0 H : Hp} {M : List Addr} {L L' : Led} (S : Hs H0 M H L) (c : ∀ a, cn a L' ≤ cn a L) : Hs H0 M H L' :=
  ⟨nodup_re S.nd c, fun q hq => S.is q (cn_pos.mp (Nat.lt_of_lt_of_le (cn_pos.mpr hq) (c q))), S.old, S.mu⟩
section
variable {H0 H H' : Hp} {M C : List Addr} {L L' LL F : Led} {R : SepR} {vs : List V} {post : V → Led → Prop} {Q : VK} {E : XK}
theorem sep_use' (S : Hs H0 M H LL) (r : R vs C L post) (pm : ∀ a, cn a (L ++ F) ≤ cn a LL) (hC : ∀ c ∈ C, c ∈ L.map (·.1) ∧ (H0 c = none ∨ c ∈ M))
    (h : ∀ v H' L', post v L' → (∀ q ∈ L', q.1 ∈ L.map (·.1) ∨ H0 q.1 = none) → Hs H0 M H' (L' ++ F) → Q v H') : Sep R vs H Q E :=
  sep_use (S.re pm) r (.refl _) hC h
end
end Rs
namespace Rs
open PySem PySem.Spec PyProof.Rows L2
theorem Chg.app {a : Addr} {o o' : HO} {L L' : Led} (h : Chg a o o' L L') : ∀ N : Led, Chg a o o' (N ++ L) (N ++ L')
  | [] => h
  | _ :: N => .there (h.app N)
theorem Chg.appR {a : Addr} {o o' : HO} {L L' N : Led} (h : Chg a o o' L L') : Chg a o o' (N ++ L) (N ++ L') := h.app N
theorem Chg.appL {a : Addr} {o o' : HO} {L L' N : Led} (h : Chg a o o' L L') : Chg a o o' (L ++ N) (L' ++ N) := by
  induction h with
  | here => exact .here
  | there _ ih => exact .there ih
end Rs

namespace Rs
open PySem PySem.Spec PyProof.Rows L2
section
variable {σ : L2.St} {H H0 : Hp} {M : List Addr} {L L' : Led} {Q : VK} {v x y : V} {nx : L2.St → Hp → Prop} {rt : VK} {bk ct : L2.St → Hp → Prop} {ta : TA} {g : TG} {tw : TS} {K : PySem.W.Frag}
def enI (K : PySem.W.Frag) (R : It → Hp → Prop) (vs : List V) (H : Hp) : Prop := ∃ a xs, vs = [V.ref a] ∧ SqL K H a xs ∧ R (Ite K a) H
theorem rd_enum {R : It → Hp → Prop} (h : ta σ H fun vs H1 => enI K R vs H1) : iEnum K ta σ H R := h
theorem rd_enI {R : It → Hp → Prop} {a : Addr} {xs : List V} (S : Hs H0 M H L) (m : (a, HO.lst xs) ∈ L) (h : R (Ite K a) H) : enI K R [.ref a] H := ⟨a, xs, rfl, S.lst m, h⟩
/-- over enumerate of a list that stays as it is -/
theorem fw_enum {a : Addr} {xs : List V} (Pv : Nat → L2.St → Hp → Prop) (h0 : Pv 0 σ H) (hl : ∀ i σ H, i ≤ xs.length → Pv i σ H → SqL K H a xs)
    (hs : ∀ i x σ H T, xs[i]? = some x → Pv i σ H → H T = none → g (.ref T) σ (upd H T (.tup [.int (i : Nat), x])) fun σ2 H2 => tw ⟨Pv (i + 1), rt, nx, Pv (i + 1)⟩ σ2 H2) (hd : ∀ σ H, Pv xs.length σ H → nx σ H) : forW (Ite K a) g tw ⟨nx, rt, bk, ct⟩ σ H := by
  refine for_it walk_enum Pv h0 hl ?_ hd
  rintro i x σ H H' hi hp ⟨T, y, z, rfl, hT, rfl, e1, e2⟩
  cases e1
  exact hs i z σ H T e2 hp hT
/-- an own new object, as the rules hand it -/
theorem Hs.newAt (S : Hs H0 M H L) {p : Addr} {o : HO} (hp : H p = none) : H0 p = none ∧ Hs H0 M (upd H p o) ((p, o) :: L) := S.new hp o
theorem rd_methK {C : Addr} {m : Str} {n : Nat} {sp : Sp} {gV : List V → List V → List V} {E : XK} {te : TE} {tk : TA} (h : te σ H fun x H1 => ∃ a dx fs, x = .ref a ∧ H1 a = some (.ins C dx fs) ∧ fs.lookup m = none ∧ tk σ H1 fun zs H2 => zs.length = n ∧ sp (gV [x] zs) H2 Q E) : tMethK C m n sp gV E te tk σ H Q := h
end
end Rs

namespace Rs
open PySem PySem.Spec PyProof.Rows L2
abbrev SepM := List V → List Addr → Led → (V → Led → Led → Prop) → Prop
/-- a promise by ledgers; the new objects told apart -/
def SepN (R : SepM) : Sp := fun vs H Q _ => ∃ C L post, R vs C L post ∧ (L.map (·.1)).Nodup ∧ (∀ q ∈ L, H q.1 = some q.2) ∧ (∀ c ∈ C, c ∈ L.map (·.1)) ∧
  ∀ v H' N L', post v N L' → Hs H C H' (N ++ L') → (∀ q ∈ L', q.1 ∈ L.map (·.1)) → (∀ q ∈ N, H q.1 = none) → Q v H'
section
variable {H0 H H' : Hp} {M C : List Addr} {L L' LL F : Led} {R : SepM} {vs : List V} {post : V → Led → Led → Prop} {Q : VK} {E : XK}
theorem sepn_use (S : Hs H0 M H LL) (r : R vs C L post) (pm : ∀ a, cn a (L ++ F) ≤ cn a LL) (hC : ∀ c ∈ C, c ∈ L.map (·.1) ∧ (H0 c = none ∨ c ∈ M))
    (h : ∀ v H' N L', post v N L' → (∀ q ∈ N, H0 q.1 = none) → Hs H0 M H' (N ++ (L' ++ F)) → Q v H') : SepN R vs H Q E := by
  have S1 := S.re pm
  refine ⟨C, L, post, r, ?_, fun q hq => S1.is q (List.mem_append_left _ hq), fun c hc => (hC c hc).1, fun v H' N L' p S' h1 h2 => ?_⟩
  · have := S1.nd
    rw [List.map_append, List.nodup_append] at this
    exact this.1
  · refine h v H' N L' p (fun q hq => S.none0 (h2 q hq)) ?_
    rw [← List.append_assoc]
    refine S1.frame S' hC fun q hq => ?_
    rcases List.mem_append.mp hq with z | z
    · exact Or.inr (h2 q z)
    · exact Or.inl (h1 q z)
end
end Rs

namespace Rs
open PySem PySem.Spec PyProof.Rows L2
section
variable {H H0 : Hp} {M : List Addr} {L L' : Led} {Q : VK} {a : Addr}
theorem rd_rev {xs : List V} (S : Hs H0 M H L) (c : Chg a (.lst xs) (.lst xs.reverse) L L') (hm : H0 a = none ∨ a ∈ M) (h : ∀ H', Hs H0 M H' L' → Q .non H') : rReverse (.ref a) [] H Q := ⟨a, xs, rfl, rfl, S.is _ c.mem, h _ (S.put c hm)⟩
end
end Rs
namespace Rs
open PySem PySem.Spec PyProof.Rows L2
theorem at_nat {ns : List Int} {i : Nat} (h : i < ns.length) : atI (ns.map V.int) (i : Int) = some (.int (ns.getD i 0)) := by
  have e : ixN (ns.map V.int).length (i : Int) = some i := by
    unfold ixN
    rw [if_pos (by omega)]
    simp [h]
  unfold atI
  rw [e]
  show (ns.map V.int)[i]? = _
  rw [List.getElem?_map, List.getD_eq_getElem?_getD, List.getElem?_eq_getElem h]
  rfl
end Rs

/-! Xe1: own exceptions over a built-in base whose __new__ may be another's (KeyError: LookupError's) -/
namespace Xc
open PySem
/-- what is told of the base B; NB is the one whose __new__ is taken -/
structure XB (B NB newId initId : String) (bm : List Value) : Prop where
  nf : ExcNewFacts NB newId
  quiet : newId.startsWith "lifetime." = false
  nsplit : splitId newId = some (NB, "__new__")
  nkind : builtinKind newId = some .builtinFn
  nrow : Manifest.signature? newId = some ⟨.any, NB, NB, .cls, [⟨"args", .varPos, false⟩, ⟨"kwargs", .varKw, false⟩]⟩
  canon : Manifest.canonical newId = Manifest.canonical "BaseException.__new__"
  hasN : bm.contains (.type NB) = true
  has : bm.contains (.type B) = true
  noA : bm.contains (.type "AttributeError") = false
  noN : bm.contains (.type "NameError") = false
  starN : (NB != "*") = true
  star : (B != "*") = true
  ini : Slot B "__init__" initId
  ientry : entryFor table initId = some Builtin.«BaseException.__init__»
  isplit : splitId initId = some (B, "__init__")
  ikind : builtinKind initId = some .slot
  irow : Manifest.signature? initId = some ⟨.positional, "*", B, .self, [⟨"args", .varPos, false⟩]⟩
theorem XB.of {B newId initId : String} {bm : List Value} (F : ExcBaseFacts B newId initId bm) : XB B B newId initId bm :=
  ⟨F.toExcNewFacts, F.quiet, F.newSplit, F.newKind, F.newRow, F.canon, F.hasB, F.hasB, F.noAttr, F.noName, F.noStar, F.noStar, F.init, F.initEntry, F.initSplit, F.initKind, F.initRow⟩
/-- a class over it, with its own ones between -/
def ClX (h : Heap) (C : Addr) (bmB : List Value) (newId : String) : Prop := ∃ nm N qn bs bm hdct sn sub ab col dd k0 k1 k2 k3 k5, h.get? C = some (excClassObj nm qn C N bs bm hdct sn sub ab col dd k0 k1 k2 k3 k5 newId) ∧ ∀ T : String, bm.contains (.type T) = bmB.contains (.type T)
section
variable {M : Model} {A : Around} {E : Value → Shared → Prop} {h : Heap} {g : Array GenState} {d : Drawn} {t : Nat} {os : OsState} {C : Addr} {bmB : List Value} {B NB newId initId : String}
theorem xb_checkN (F : XB B NB newId initId bmB) (hx : ClX h C bmB newId) {xs : List Value} {Q : Unit → Shared → Prop} (k : Q () ⟨h, g, d, t, os⟩) : wpAny M A (checkBuiltinCall newId ⟨.ref C :: xs, []⟩) Q E ⟨h, g, d, t, os⟩ := by
  obtain ⟨nm, N, qn, bs, bm, hdct, sn, sub, ab, col, dd, k0, k1, k2, k3, k5, hC, hT⟩ := hx
  have c1 : (Value.ref C :: bm).contains (.type NB) = true := by
    rw [List.contains_cons, hT NB, F.hasN]
    exact Bool.or_true _
  have c2 := F.starN
  simp only [checkBuiltinCall, F.nkind, F.nsplit, F.nrow]
  repeat (first
    | refine wpAny_loadPart_at hC ?_
    | (refine wpAny_isSubtype_exc hC ?_; rw [c1])
    | refine wpAny_staticBase_exc hC ?_
    | refine wpAny_madeBy_exc hC ?_
    | simp only [bne_self_eq_false, Bool.false_eq_true, if_false]
    | wp_step)
  exact k
theorem xb_checkI (F : XB B NB newId initId bmB) (hx : ClX h C bmB newId) {e : Addr} {oe : Obj} {xs : List Value} {Q : Unit → Shared → Prop} (he : h.get? e = some oe) (hc : oe.cls = .ref C) (k : Q () ⟨h, g, d, t, os⟩) :
    wpAny M A (checkBuiltinCall initId ⟨.ref e :: xs, []⟩) Q E ⟨h, g, d, t, os⟩ := by
  obtain ⟨nm, N, qn, bs, bm, hdct, sn, sub, ab, col, dd, k0, k1, k2, k3, k5, hC, hT⟩ := hx
  have c1 : (Value.ref C :: bm).contains (.type B) = true := by
    rw [List.contains_cons, hT B, F.has]
    exact Bool.or_true _
  have c2 := F.star
  simp only [checkBuiltinCall, F.ikind, F.isplit, F.irow]
  repeat (first
    | (with_reducible refine wpAny_loadPart_at he ?_; rw [hc])
    | with_reducible refine wpAny_loadPart_at hC ?_
    | (with_reducible refine wpAny_isSubtype_exc hC ?_; rw [c1])
    | wp_step)
  refine wpAny_onRaise ?_
  have z : ∀ (a b : String) (n : Nat), Bind.check ⟨.positional, "*", B, .self, [⟨"args", .varPos, false⟩]⟩ a b n (List.map (fun x => x.fst) ({ pos := Value.ref e :: xs } : Args).kw) = pure () := fun a b n => check_star_args _ _ _ _ _ _
  rw [z]
  exact wpAny_pure k
end
section
variable {prog : Program} {w : World} {A : Around} {E : Value → Shared → Prop} {R : Result → Shared → Prop} {h : Heap} {g : Array GenState} {d : Drawn} {t : Nat} {os : OsState} {C : Addr} {bmB : List Value} {B NB newId initId : String}
theorem xb_new (F : XB B NB newId initId bmB) (hx : ClX h C bmB newId) {xs : List Value} (hl : xs.length ≤ sizeLine)
    (k : R (.ok (.ret (.ref (h.objs.size + 1)))) ⟨(h.push (W.kdv_tup xs)).push (PySem.HandSPX.excO C h.objs.size), g, d, t, os⟩) :
    codeAny (model prog w) A (.builtin newId ⟨.ref C :: xs, []⟩) R ⟨h, g, d, t, os⟩ := by
  obtain ⟨nm, N, qn, bs, bm, hdct, sn, sub, ab, col, dd, k0, k1, k2, k3, k5, hC, hT⟩ := hx
  have e1 := F.nf.ends
  have c1 : (Value.ref C :: bm).contains (.type NB) = true := by
    rw [List.contains_cons, hT NB, F.hasN]
    exact Bool.or_true _
  have c2 : (Value.ref C :: bm).contains (.type "AttributeError") = false := by
    rw [List.contains_cons, hT _, F.noA]
    rfl
  have c3 : (Value.ref C :: bm).contains (.type "NameError") = false := by
    rw [List.contains_cons, hT _, F.noN]
    rfl
  have hrest := hl
  refine codeAny_builtinAt F.nf.entry ?_
  unfold Builtin.«BaseException.__new__»
  refine wpAt_bind ?_
  show wpAt _ _ _ (stack >>= _) _ _ _
  refine wpAt_bind (wpAt_stack fun p z => wpAt_of_wpAny ?_)
  wp_walk
  refine wpAt_of_wpAny ?_
  rw [F.nf.owner]
  repeat (first
    | with_reducible refine wpAny_madeHere_exc F.canon hC ?_
    | with_reducible refine wpAny_loadPart_at hC ?_
    | (with_reducible refine wpAny_isSubtype_exc hC ?_; first | rw [c1] | rw [c2] | rw [c3])
    | wp_step)
  show R _ _
  rw [Heap.size_push]
  exact k
theorem xb_tcall (F : XB B NB newId initId bmB) (hx : ClX h C bmB newId) {xs : List Value} {fI : Addr} {Q : Fin → Shared → Prop}
    (li : W.Looks (model prog w) h (typeLookup (.ref C) "__init__") (some (.ref fI))) (lb : ∀ z, W.Looks (model prog w) h (bindSpecial (.ref fI) z) (.ref fI, [z])) (hl : xs.length ≤ sizeLine)
    (k : codeAny (model prog w) A (.call (.ref fI) ⟨.ref (h.objs.size + 1) :: xs, []⟩)
      (fun r s' => match r with | .ok (.ret v) => v = .none ∧ Q (.done (.ret (.ref (h.objs.size + 1)))) s' | .ok _ => False | .error e => E e s')
      ⟨(h.push (W.kdv_tup xs)).push (PySem.HandSPX.excO C h.objs.size), g, d, t, os⟩) :
    wpAny (model prog w) A (Builtin.«type.__call__» ⟨.ref C :: xs, []⟩) Q E ⟨h, g, d, t, os⟩ := by
  have hx0 := hx
  obtain ⟨nm, N, qn, bs, bm, hdct, sn, sub, ab, col, dd, k0, k1, k2, k3, k5, hC, hT⟩ := hx
  repeat (first
    | with_reducible refine wpAny_loadPart_at hC ?_
    | with_reducible refine wpAny_madeBy_exc hC ?_
    | wp_step)
  refine codeAny_call_builtin_code (Code.quiet_builtin _ F.quiet) (xb_checkN F hx0 ?_)
  refine xb_new F hx0 hl ?_
  show wpAny _ _ _ _ _ _
  have kp : ∀ b o, h.get? b = some o → ((h.push (W.kdv_tup xs)).push (PySem.HandSPX.excO C h.objs.size)).get? b = some o := fun b o z => Heap.get?_push_of_some _ (Heap.get?_push_of_some _ z)
  have hC2 := kp _ _ hC
  have hg : ((h.push (W.kdv_tup xs)).push (PySem.HandSPX.excO C h.objs.size)).get? (h.objs.size + 1) = some (PySem.HandSPX.excO C h.objs.size) := by heap_get
  have c1 : (Value.ref C :: bm).contains (.ref C) = true := by simp
  have i1 := li.keeps kp
  have b1 := (lb (.ref (h.objs.size + 1))).keeps kp
  unfold isInstance
  repeat (first
    | with_reducible refine wpAny_loadPart_at hg ?_
    | (with_reducible refine wpAny_isSubtype_exc hC2 ?_; rw [c1])
    | wp_step)
  show wpAny _ _ (typeLookup (.ref C) _) _ _ _
  refine i1.at ?_
  refine wpAny_holding (wpAny_bind (b1.at ?_))
  refine wpAny_bind (wpAny_call (codeAny_mono k fun r s' z => ?_))
  cases r with
  | error e => exact z
  | ok fl =>
    cases fl with
    | ret v =>
      obtain ⟨rfl, z⟩ := z
      first
        | exact wpAny_pure (wpAny_pure z)
        | (wp_walk; exact z)
    | next => exact z.elim
    | brk => exact z.elim
    | cont => exact z.elim
theorem xb_call (F : XB B NB newId initId bmB) (hx : ClX h C bmB newId) {xs : List Value} {fI : Addr}
    (li : W.Looks (model prog w) h (typeLookup (.ref C) "__init__") (some (.ref fI))) (lb : ∀ z, W.Looks (model prog w) h (bindSpecial (.ref fI) z) (.ref fI, [z])) (hl : xs.length ≤ sizeLine)
    (k : codeAny (model prog w) (A.under (.builtin "type.__call__" ⟨.ref C :: xs, []⟩)) (.call (.ref fI) ⟨.ref (h.objs.size + 1) :: xs, []⟩) (W.InitBack (h.objs.size + 1) R)
      ⟨(h.push (W.kdv_tup xs)).push (PySem.HandSPX.excO C h.objs.size), g, d, t, os⟩) :
    codeAny (model prog w) A (.call (.ref C) ⟨xs, []⟩) R ⟨h, g, d, t, os⟩ := by
  have hx0 := hx
  obtain ⟨nm, N, qn, bs, bm, hdct, sn, sub, ab, col, dd, k0, k1, k2, k3, k5, hC, hT⟩ := hx
  have f1 := tc_lookup
  have f2 := tc_bind (.ref C)
  have ty : (⟨h, g, d, t, os⟩ : Shared).TypeIs (.ref C) "type" := ⟨_, hC, rfl⟩
  refine codeAny_of_tree ?_
  show wpAny _ _ (callAny (.ref C) _) _ _ _
  repeat (any_goals (first
    | assumption
    | with_reducible refine wpAny_loadPart_at hC ?_
    | wp_step))
  refine ⟨rfl, ?_⟩
  refine codeAny_call_builtin_at (Code.quiet_builtin _ (by decide +kernel)) entry_typeCall (wpAny_check_type_call_sub hC (xb_tcall F hx0 li lb hl ?_))
  refine codeAny_mono k fun r s' z => ?_
  cases r with
  | error e => exact z
  | ok fl => cases fl <;> exact z
/-- B.__init__(e, ..): the arguments are kept anew -/
theorem xb_init (F : XB B NB newId initId bmB) (hx : ClX h C bmB newId) {e t0 : Addr} {xs : List Value} (he : h.get? e = some (PySem.HandSPX.excO C t0)) (hl : xs.length ≤ sizeLine)
    (k : ∀ h' t1, (∀ b o, b ≠ e → h.get? b = some o → h'.get? b = some o) → h'.get? e = some (PySem.HandSPX.excO C t1) → R (.ok (.ret .none)) ⟨h', g, d, t, os⟩) :
    codeAny (model prog w) A (.call (.builtin initId) ⟨.ref e :: xs, []⟩) R ⟨h, g, d, t, os⟩ := by
  have hrest := hl
  refine codeAny_call_builtin F.ini.plain F.ientry (xb_checkI F hx he rfl ?_)
  wp_walk
  refine k _ h.objs.size (fun b o nb z => ?_) ?_
  · rw [Heap.get?_update_other _ _ (Ne.symm nb)]
    exact Heap.get?_push_of_some _ z
  · rw [Heap.get?_update_self _ (Heap.get?_push_of_some _ he) rfl]
    rfl
end
/-! KeyError -/
theorem xb_KeyError : XB "KeyError" "LookupError" "LookupError.__new__" "KeyError.__init__" [.type "KeyError", .type "LookupError", .type "Exception", .type "BaseException", .type "object"] where
  nf := PySem.F.excBase_LookupError.toExcNewFacts
  quiet := PySem.F.excBase_LookupError.quiet
  nsplit := PySem.F.excBase_LookupError.newSplit
  nkind := PySem.F.excBase_LookupError.newKind
  nrow := PySem.F.excBase_LookupError.newRow
  canon := PySem.F.excBase_LookupError.canon
  hasN := by decide +kernel
  has := by decide +kernel
  noA := by decide +kernel
  noN := by decide +kernel
  starN := by decide +kernel
  star := by decide +kernel
  ini := .of (owner := "KeyError") (n := "__init__") (by rw [typeLookup_type, builtinLookup_eq_fast]; kernel_rfl) (by decide +kernel) (by decide +kernel) (by decide +kernel) (by first | exact .inl (by decide +kernel) | exact .inr (by decide +kernel)) (by rw [isSubtype_type]; kernel_rfl)
  ientry := entryFor_alias (id' := "BaseException.__init__") (by rw [fastTable_eq_tree]; kernel_rfl) (by first | rfl | decide +kernel) (by decide +kernel) (by rw [fastTable_eq_tree]; kernel_rfl)
  isplit := by kernel_rfl
  ikind := by kernel_rfl
  irow := by kernel_rfl
theorem store_KeyError : StoreFacts "KeyError" [.type "KeyError", .type "LookupError", .type "Exception", .type "BaseException", .type "object"] "object.__setattr__" "object" :=
  ⟨by kernel_rfl,
    .of (owner := "object") (n := "__setattr__") (by rw [typeLookup_type, builtinLookup_eq_fast]; kernel_rfl) (by decide +kernel) (by decide +kernel) (by decide +kernel) (by first | exact .inl (by decide +kernel) | exact .inr (by decide +kernel)) (by rw [isSubtype_type]; kernel_rfl),
    PySem.F.store_Exception.entry, by decide +kernel, by decide +kernel, by decide +kernel, PySem.F.store_Exception.args, fun z => by kernel_rfl⟩
end Xc

/-! Xc1: own exceptions over any built-in base, with an own __init__ -/
namespace Xc
open PySem PySem.Spec PyProof.Rows L2
/-- C: an own class over the built-in B (others of one's own between) -/
structure Own (K : PySem.W.Frag) (C : Addr) (B newId initId : String) (bmB : List Value) : Prop where
  fb : ∃ NB, XB B NB newId initId bmB
  st : StoreFacts B bmB "object.__setattr__" "object"
  ini : PySem.W.excInitIn K C bmB newId = true
  ovr : PySem.W.excOver K C bmB = true
  dic : PySem.W.hasDictIn K C = true
  sav : PySem.W.findIn K (.ref C) "__setattr__" = some (some (.builtin "object.__setattr__"))
  bex : PySem.W.subIn K (.ref C) (.type "BaseException") = some true
  tyc : PySem.W.typeIn K (.ref C) = some (.type "type")
  kpc : PySem.W.keepIn K (.ref C) = true
section
variable {X : Cx} {pins : List (Addr × Obj)} {σ : L2.St} {H : Hp} {s : Shared} {a C dx : Addr} {f : Str} {y : V} {u : Value} {fs : List (Str × V)} {Q : Unit → Shared → Prop} {E : Value → Shared → Prop} {A : Around} {B newId initId : String} {bmB : List Value}
theorem put0 (T : Own X.K C B newId initId bmB) (I : Inv X pins σ H s) (e : H a = some (exo a C none)) (hno : PySem.W.takerIn X.K C f = some none) (ry : RelV y u)
    (k : ∀ d1 s1, H d1 = none → d1 ≠ a → Inv X pins σ (upd (upd H d1 (exd d1 [(f, y)])) a (exo a C (some d1))) s1 → Q () s1) : wpAny (model X.prog X.w) A (setAttr (.ref a) f u) Q E s := by
  obtain ⟨tA, hA⟩ := exo_at I.hok e
  obtain ⟨hp, gn, dr, tk0, osS⟩ := s
  have J : PySem.W.InstAt hp a { cls := .ref C, dict := none, data := .fields #[.ref tA, .none, .none, .none, .bool false, .none] } C none := ⟨hA, rfl, rfl, trivial⟩
  refine PySem.W.set_plain I.kIn J T.sav (PySem.W.osa_openX T.st I.kIn J T.ovr hno fun _ => ?_)
  obtain ⟨cd, hcd, hdc⟩ := PySem.W.any_some T.dic
  refine wpAny_bind (wpAny_pure (wpAny_bind (PySem.W.instanceDict_exc hA (PySem.W.looks_clsIn I.kIn hcd) hdc ?_)))
  have lt : a < hp.objs.size := Heap.lt_size hA
  show wpAny _ _ (Builtin.ObjectAttr.storeInDict hp.objs.size _ f u) _ _ _
  refine PySem.HandSPX.store_in_new ⟨_, #[], _, (Heap.get?_update_ne _ _ _ _ (Nat.ne_of_gt lt)).trans (Heap.get?_push_at rfl rfl), rfl, fun e he => absurd he (by simp), fun _ => rfl⟩ fun h2 tk2 hn sb => ?_
  have new : H hp.objs.size = none := I.hok.fresh (Nat.le_refl _)
  have neA : hp.objs.size ≠ a := Nat.ne_of_gt lt
  have oldK : ∀ b o, b ≠ a → hp.get? b = some o → h2.get? b = some o := fun b o hb q =>
    (sb.2 b (Nat.ne_of_lt (Heap.lt_size q))).trans ((Heap.get?_update_ne _ _ _ _ hb).trans (Heap.get?_push_of_some _ q))
  have atA : h2.get? a = some { cls := .ref C, dict := some hp.objs.size, data := .fields #[.ref tA, .none, .none, .none, .bool false, .none] } :=
    (sb.2 a (Ne.symm neA)).trans (Heap.get?_update_self _ (Heap.get?_push_of_some _ hA) rfl)
  have nn : ∀ {b : Addr}, H b = none → b ≠ a := fun {b} n z => by
    rw [z, e] at n; cases n
  have nD : ∀ {b : Addr} {o : Obj}, hp.get? b = some o → b ≠ hp.objs.size := fun {b o} q => Nat.ne_of_lt (Heap.lt_size q)
  refine k hp.objs.size ⟨h2, gn, dr, tk2, osS⟩ new neA (I.un (t' := tk2) ⟨fun b o q n _ _ => oldK b o (nn n) q, fun b o q n _ _ => ⟨o.slots, oldK b o (nn n) q⟩, fun b o q n _ => by
      rw [upd_ne (nn n), upd_ne (nD q)]; exact n, fun b o q _ => ?_, fun b xs q => by rw [upd_ne (at_ne e q exo_tup), upd_ne (ne_of_none q new)]; exact q,
      fun b o v q => by rw [upd_ne (at_ne e q exo_frz), upd_ne (ne_of_none q new)]; exact q, fun b ps q => ⟨#[], by rw [upd_ne (at_ne e q exo_tbl), upd_ne (ne_of_none q new), q]; simp⟩⟩ fun b o q => ?_)
  · by_cases hb : b = a
    · exact ⟨_, by rw [hb]; exact atA⟩
    · exact ⟨o, oldK b o hb q⟩
  · by_cases hb : b = a
    · subst hb; rw [upd_same] at q; cases q; exact exo_ok atA
    · rw [upd_ne hb] at q
      by_cases hd : b = hp.objs.size
      · subst hd; rw [upd_same] at q; cases q
        exact exd_ok hn (relO_put (fs := []) ry fun g => True.intro)
      · rw [upd_ne hd] at q
        refine (I.hok b o q).stay (fun c v hc z => oldK c v ?_ z) (fun c hc => by rw [upd_ne (at_ne e hc exo_own), upd_ne (ne_of_none hc new)]; exact hc)
          (fun c xs hc => by rw [upd_ne (at_ne e hc exo_tup), upd_ne (ne_of_none hc new)]; exact hc)
        rcases hc with hc | hc
        · rw [hc]; exact hb
        · exact at_ne e hc exo_own
theorem put1 (T : Own X.K C B newId initId bmB) (I : Inv X pins σ H s) (e : H a = some (exo a C (some dx))) (ed : H dx = some (exd dx fs)) (hl : fs.length ≤ 900) (hno : PySem.W.takerIn X.K C f = some none) (ry : RelV y u)
    (k : ∀ s1, Inv X pins σ (upd H dx (exd dx ((f, y) :: fs))) s1 → Q () s1) : wpAny (model X.prog X.w) A (setAttr (.ref a) f u) Q E s := by
  obtain ⟨tA, hA⟩ := exo_at I.hok e
  obtain ⟨mA, hns, rel⟩ := exd_at I.hok ed
  have wi := within_of rel
  obtain ⟨hp, gn, dr, tk0, osS⟩ := s
  obtain ⟨oD, _, _, hoD, _, _⟩ := hns.count wi
  have J : PySem.W.InstAt hp a { cls := .ref C, dict := some dx, data := .fields #[.ref tA, .none, .none, .none, .bool false, .none] } C (some oD) := ⟨hA, rfl, rfl, hoD⟩
  refine PySem.W.set_plain I.kIn J T.sav (PySem.W.osa_openX T.st I.kIn J T.ovr hno fun _ => ?_)
  obtain ⟨cd, hcd, hdc⟩ := PySem.W.any_some T.dic
  refine wpAny_bind (wpAny_pure (wpAny_bind (wpAny_bind (wpAny_loadPart hA (wpAny_bind ((PySem.W.looks_clsIn I.kIn hcd).at ?_))))))
  rw [hdc]
  refine wpAny_pure (a := some dx) ?_
  refine PySem.OEX.store_in_old hns wi (by rw [List.length_map]; omega) fun h2 tk2 hn sb => ?_
  obtain ⟨oN, _, _, eN, _⟩ := id hn
  exact k _ (I.write (t' := tk2) (x := dx) (e := dx) (o := exd dx ((f, y) :: fs)) (by rw [ed]; exact True.intro) (.inl rfl) (fun b o hb q => (sb.2 b hb).trans q) ⟨oN, eN⟩ (exd_ok hn (relO_put ry rel)))
/-- B.__init__(self, ..): the args are laid anew, nothing of them is told -/
theorem binit {us : List Value} {Q : Value → Shared → Prop} (T : Own X.K C B newId initId bmB) (I : Inv X pins σ H s) (e : H a = some (exo a C none)) (hl : us.length ≤ sizeLine) (k : ∀ s1, Inv X pins σ H s1 → Q .none s1) :
    wpAny (model X.prog X.w) A (call (.builtin initId) (.ref a :: us)) Q E s := by
  obtain ⟨tA, hA⟩ := exo_at I.hok e
  have hC := PySem.W.excInit_of I.kIn T.ini
  obtain ⟨NB, fb⟩ := T.fb
  obtain ⟨hp, gn, dr, tk0, osS⟩ := s
  refine wpAny_call (xb_init fb hC hA hl fun h2 t2 kp hx => ?_)
  have J := I.write (t' := tk0) (x := a) (e := a) (o := exo a C none) (by rw [e]; exact True.intro) (.inl rfl) kp ⟨_, hx⟩ (exo_ok hx)
  have same : upd H a (exo a C none) = H := by
    funext b
    by_cases hb : b = a
    · subst hb; rw [upd_same, e]
    · rw [upd_ne hb]
  exact k _ (same ▸ J)
end
/-! ### the rules -/
/-- B.__init__(self, ..) -/
def tBI (K : PySem.W.Frag) (B newId initId : String) (bmB : List Value) (ta : TA) : TE := fun σ H Q => ta σ H fun vs H1 => ∃ (a C : Addr) (ws : List V), vs = .ref a :: ws ∧ ws.length ≤ 1000 ∧ Own K C B newId initId bmB ∧ H1 a = some (exo a C none) ∧ Q .non H1
/-- self.f = e -/
def tPut (K : PySem.W.Frag) (B newId initId : String) (bmB : List Value) (f : Str) (to te : TE) : TS := fun D σ H => te σ H fun y H1 => to σ H1 fun x H2 => ∃ a C : Addr, x = .ref a ∧ Own K C B newId initId bmB ∧ PySem.W.takerIn K C f = some none ∧
  ((H2 a = some (exo a C none) ∧ ∀ dx, H2 dx = none → dx ≠ a → D.nx σ (upd (upd H2 dx (exd dx [(f, y)])) a (exo a C (some dx)))) ∨
    ∃ (dx : Addr) (fs : List (Str × V)), H2 a = some (exo a C (some dx)) ∧ H2 dx = some (exd dx fs) ∧ fs.length ≤ 900 ∧ D.nx σ (upd H2 dx (exd dx ((f, y) :: fs))))
section
variable {X : Cx} {o e : Expr} {es : List Expr} {to te : TE} {ta : TA} {f : Str} {p p' p1 p2 pos : Pos} {B newId initId : String} {bmB : List Value}
theorem pe_binit {n : Str} {pl : Sem Bool} {C : Addr} (_o : Own X.K C B newId initId bmB) (hg : Gl X n) (hm : X.mg n = none) (hv : bootBuiltins n = some (.type B)) (hty : typeOf (.type B) = pure (.type "type")) (hst : Manifest.isStub B = false) (hin : PySem.W.handedIn (.builtin initId) = true)
    (vV : PySem.W.findCls X.K (.type B) (.type "type") "__init__" = some (.val (.builtin initId))) (ha : PA X (e :: es) ta)
    (hc : eval (.Call (.Attribute (.Name n p1) "__init__" p2) (e :: es) [] pos) X.env = (do
      let ov ← eval (.Name n p1) X.env
      standAt p2.atName
      let (fn, fst) ← holding [ov] (getMethod ov "__init__" pl)
      callWith pos fn fst (backTo pos (starEach (e :: es) X.env)) (backToKw pos (keywordEach [] X.env))) := by rfl)
    (hn1 : n ≠ "__name__" := by decide) (hn2 : (n == ("__debug__" : Str)) = false := by decide) (he : starEach (e :: es) X.env = (false, eval e X.env) :: starEach es X.env := by rfl) (hp : (backTo pos (starEach es X.env)).any (·.1) = false := by rfl) :
    PE X (.Call (.Attribute (.Name n p1) "__init__" p2) (e :: es) [] pos) (tBI X.K B newId initId bmB ta) := by
  refine ⟨fun pins s σ H Q I k => PySem.W.methodCall_KW (ld_blt I hg hm hv ?_ hn1 hn2) hc⟩
  obtain ⟨m, fr⟩ := I.fr
  refine PySem.W.method_type fr I.ok.mod.kin hty hst vV hin ?_
  show wpAny _ _ (callWith pos (Value.builtin initId) [] (backTo pos (starEach (e :: es) X.env)) []) _ _ _
  refine PyProof.Rows.callWith_method1 (thn (ha.run pos pins _ σ H _ (I.tok _) k) fun us s1 ⟨vs, H1, I1, rv, a, C, ws, ev, hl, T, ea, q⟩ => ?_) he hp
  subst ev
  cases rv with
  | @cons _ u1 _ ur rA rW =>
    obtain rfl : u1 = Value.ref a := rA
    exact binit T I1 ea (by rw [← Paired.length rW, sizeLine_eq]; omega) fun s2 J => ⟨.non, H1, J, rfl, q⟩
theorem ps_put {C : Addr} (_o : Own X.K C B newId initId bmB) (ho : PE X o to) (he : PE X e te) (hs : swapsWith e (some (.Attribute o f p')) pos.line X.env = pure false := by rfl) : PS X (.Assign [.Attribute o f p'] e pos) (tPut X.K B newId initId bmB f to te) := by
  refine ⟨fun pins s σ H D I k => plainObj_wpAny_Assign_Attribute (thn (he.run pins s σ H _ I k) fun v s1 ⟨y, H1, I1, ry, k1⟩ => thn (ho.run pins s1 σ H1 _ I1 k1) fun u s2 ⟨x, H2, I2, rx, a, C, ex, T, hno, q⟩ => ?_) hs⟩
  subst ex
  obtain rfl : u = Value.ref a := rx
  rcases q with ⟨ea, q⟩ | ⟨dx, fs, ea, ed, hl, q⟩
  · exact put0 T I2 ea hno ry fun dx s3 n1 n2 J => ⟨σ, _, J, q dx n1 n2⟩
  · exact put1 T I2 ea ed hl hno ry fun s3 J => ⟨σ, _, J, q⟩
/-- C(e, ..) with C's own __init__ -/
theorem pmk_own {CX : CXT} {x : Str} {C fI : Addr} {k : Nat} {fd : FuncData} {ps : List Str} {sp : Sp} {ds : List Value} {dvs : List V} (T : Own X.K C B newId initId bmB) (iC : PySem.W.findIn X.K (.ref C) "__init__" = some (some (.ref fI))) (tI : PySem.W.typeIn X.K (.ref fI) = some (.type "function"))
    (F1 : FnOk X.prog X.w X.K X.mg X.base CX k fI fd ps sp) (hr : Room (k + 1) X.A) (hb : Binds X.K fd ps ds) (hd : Vals dvs ds) (hx : Passes CX X (fun _ _ _ => False)) (hg : Gl X x) (hm : X.mg x = some (.ref C)) (ha : PA X (e :: es) ta)
    (hdb : (x == ("__debug__" : Str)) = false := by decide) (he : starEach (e :: es) X.env = (false, eval e X.env) :: starEach es X.env := by rfl) (hp : (backTo pos (starEach es X.env)).any (·.1) = false := by rfl) :
    PMk X (.Call (.Name x p) (e :: es) [] pos) (tMkO C sp dvs ta) := by
  intro pins s σ H Q I hh
  refine wpAny_Call_Name_kw (ld_glob I hg hm ?_ hdb)
  refine PySem.W.callWith_K (h₀ := X.base) I.ok.mod.kin T.kpc (thn (ha.run pos pins s σ H _ I hh) fun us s1 ⟨vs, H1, I1, rv, hz, k1⟩ => ⟨I1.kIn, ?_⟩) he hp
  show wpAny _ _ (call (.ref C) us) _ _ _
  have hC := PySem.W.excInit_of I1.kIn T.ini
  obtain ⟨NB, fb⟩ := T.fb
  obtain ⟨hp1, gn, dr, tk, osS⟩ := s1
  have up1 : hp1.objs.size ≤ hp1.objs.size + 1 := Nat.le_succ _
  have new : H1 (hp1.objs.size + 1) = none := I1.hok.fresh up1
  have body := k1 (hp1.objs.size + 1) new
  have kept : ∀ b o, hp1.get? b = some o → ((hp1.push (PySem.W.kdv_tup us)).push (PySem.HandSPX.excO C hp1.objs.size)).get? b = some o := fun b o q => Heap.get?_push_of_some _ (Heap.get?_push_of_some _ q)
  have there : ((hp1.push (PySem.W.kdv_tup us)).push (PySem.HandSPX.excO C hp1.objs.size)).get? (hp1.objs.size + 1) = some (PySem.HandSPX.excO C hp1.objs.size) := by heap_get
  have I2 : Inv X pins σ (upd H1 (hp1.objs.size + 1) (exo (hp1.objs.size + 1) C none)) ⟨(hp1.push (PySem.W.kdv_tup us)).push (PySem.HandSPX.excO C hp1.objs.size), gn, dr, tk, osS⟩ :=
    I1.laid (t' := tk) (a := hp1.objs.size + 1) (o := exo (hp1.objs.size + 1) C none) (h' := (hp1.push (PySem.W.kdv_tup us)).push (PySem.HandSPX.excO C hp1.objs.size)) kept up1 (exo_ok there)
  have rels : Vals (V.ref (hp1.objs.size + 1) :: (vs ++ dvs)) (Value.ref (hp1.objs.size + 1) :: (us ++ ds)) := .cons rfl (rv.append hd)
  have len1 : (Value.ref (hp1.objs.size + 1) :: us ++ ds).length = ps.length := (F1.len _ _ _ _ body).symm.trans rels.length |>.symm
  have lus : us.length ≤ sizeLine := by rw [← Paired.length rv, sizeLine_eq]; omega
  refine wpAny_call (xb_call fb hC (PySem.W.looks_findIn I1.kIn iC) (fun self => PySem.W.bind_fn I1.kIn self tI) lus
    (codeAny_mono (F1.run _ X.stack _ _ ⟨Value.ref (hp1.objs.size + 1) :: us, []⟩ (Value.ref (hp1.objs.size + 1) :: (us ++ ds)) _ _ (fun _ _ _ => False) (hr.make C us []) (I2.env0.make C us []) (hb _ (Value.ref (hp1.objs.size + 1) :: us) I2.kIn len1) rels body) fun r s2 z => ?_))
  cases r with
  | error er => exact hx pins σ _ _ er s2 I2 z
  | ok fl =>
    cases fl with
    | ret u =>
      obtain ⟨v, H2, o2, b2, u2, hok2, rv2, ev, d, fs, ea, ed, hd1, q2⟩ := z
      subst ev
      obtain ⟨h2, g2, d2, t2, os2⟩ := s2
      exact ⟨rv2, mk_end (raises_own T.bex T.tyc) I1 up1 kept u2 hok2 o2 b2 ea ed hd1 q2⟩
    | next => exact False.elim z
    | brk => exact False.elim z
    | cont => exact False.elim z
end
end Xc

/-! Xc2: except (A, B, ..) as e: the exception is kept as a value -/
namespace Xc
open PySem PySem.Spec PySem.Calls PyProof.Rows L2 PySem.W
section
variable {M : Model} {A : Around} {E : Value → Shared → Prop} {s : Shared} {β : Type}
theorem loop_all {f : Value → β → Sem (ForInStep β)} {r : β} : ∀ {cs : List Value} {Q : β → Shared → Prop}, (∀ c ∈ cs, ∀ Q : ForInStep β → Shared → Prop, Q (.yield r) s → wpAny M A (f c r) Q E s) → Q r s → wpAny M A (forIn cs r f) Q E s
  | [], Q, _, k => by rw [List.forIn_nil]; exact wpAny_pure k
  | c :: cs, Q, h, k => by
    rw [List.forIn_cons]
    refine wpAny_bind (h c List.mem_cons_self _ ?_)
    exact loop_all (fun c hc => h c (List.mem_cons_of_mem _ hc)) k
theorem loop_any {f : Value → β → Sem (ForInStep β)} {r d : β} {K : Frag} {cls : Value} : ∀ {cs : List Value} {b : Bool} {Q : β → Shared → Prop}, exmAny K cls cs = some b →
    (∀ c b, exmOne K cls c = some b → ∀ Q : ForInStep β → Shared → Prop, Q (if b = true then .done d else .yield r) s → wpAny M A (f c r) Q E s) → Q (if b = true then d else r) s → wpAny M A (forIn cs r f) Q E s
  | [], b, Q, e, _, k => by
    obtain rfl : false = b := Option.some.inj e
    rw [List.forIn_nil]; exact wpAny_pure k
  | c :: cs, b, Q, e, h, k => by
    obtain ⟨b1, d1, e1, e2, rfl⟩ := exmAny_cons e
    rw [List.forIn_cons]
    refine wpAny_bind (h c b1 e1 _ ?_)
    cases b1 with
    | true => exact wpAny_pure k
    | false =>
      rw [Bool.false_or] at k
      exact loop_any e2 h k
end
section
variable {M : Model} {K : Frag}
theorem exm_of_any {cls : Value} : ∀ {cs : List Value} {b : Bool}, exmAny K cls cs = some b → ∀ c ∈ cs, ∃ b, exmOne K cls c = some b
  | [], _, _, c, hc => nomatch hc
  | x :: cs, b, e, c, hc => by
    obtain ⟨b1, d1, e1, e2, _⟩ := exmAny_cons e
    rcases List.mem_cons.mp hc with rfl | hc
    · exact ⟨_, e1⟩
    · exact exm_of_any e2 c hc
theorem exm_tupN {cs : List Value} {cls : Value} {tp e : Addr} {b : Bool} {h : Heap} (X : K.In h) (LT : Looks M h (typeOf (.ref e)) cls) (hp : h.get? tp = some { cls := .type "tuple", data := .seq cs.toArray }) (hx : exmAny K cls cs = some b) :
    Looks M h (excMatches (.ref e) (.ref tp)) b := by
  intro A Q E s k q
  obtain ⟨hh, g, d, tk, os⟩ := s
  have isT : Looks M h (isInstance (.ref tp) (.type "tuple")) true := ((Looks.ld hp).andThen .now).andThen (Looks.of_pure isSubtype_tuple_tuple)
  have hp2 := k _ _ hp
  have LT2 := LT.keeps k
  have X2 := X.keeps k
  unfold excMatches
  refine wpAny_bind ((isT.keeps k).at ?_)
  dsimp only
  rw [if_pos rfl]
  first
    | refine wpAny_bind (wpAny_seqItems hp2 rfl ?_)
    | refine wpAny_bind (wpAny_bind (wpAny_seqItems hp2 rfl (wpAny_pure ?_)))
  dsimp only [Option.getD_some, Option.getD]
  refine wpAny_bind (wpAny_pure ?_)
  refine wpAny_bind (loop_all (fun c hc Q' q' => ?_) ?_)
  · obtain ⟨b1, e1⟩ := exm_of_any hx c hc
    obtain ⟨l1, _⟩ := exm_cls (M := M) X2 e1
    refine wpAny_bind (l1.at ?_)
    simp only [Bool.not_true, Bool.false_eq_true, if_false]
    exact wpAny_pure q'
  · refine wpAny_bind (LT2.at ?_)
    refine wpAny_bind (loop_any (d := (some true, ())) hx (fun c b1 e1 Q' q' => ?_) ?_)
    · obtain ⟨_, l2⟩ := exm_cls (M := M) X2 e1
      refine wpAny_bind (l2.at ?_)
      cases b1 with
      | true =>
        rw [if_pos rfl] at q' ⊢
        exact wpAny_pure q'
      | false =>
        rw [if_neg Bool.false_ne_true] at q' ⊢
        exact wpAny_pure q'
    · cases b with
      | true => exact wpAny_pure q
      | false => exact wpAny_pure q
end
end Xc
namespace Xc
open PySem PySem.Spec PySem.Calls PyProof.Rows L2
/-- the names of a clause and their classes -/
inductive Nms (X : Cx) : List Expr → List Value → Prop
  | nil : Nms X [] []
  | cons {x : Str} {c : Value} {np : Pos} {es : List Expr} {cs : List Value} : Names X x c → Nms X es cs → Nms X (.Name x np :: es) (c :: cs)
theorem Nms.len {X : Cx} {es : List Expr} {cs : List Value} (h : Nms X es cs) : cs.length = es.length := by
  induction h with
  | nil => rfl
  | cons _ _ ih => simp [ih]
theorem nms_eval {X : Cx} {pins : List (Addr × Obj)} {σ : L2.St} {H : Hp} {s : Shared} {pos : Pos} {E : Value → Shared → Prop} (I : Inv X pins σ H s) {es : List Expr} {cs : List Value} (h : Nms X es cs) :
    ∀ {Q : List Value → Shared → Prop}, Q cs s → wpAny (model X.prog X.w) X.A (spliced (backTo pos (starEach es X.env))) Q E s := by
  induction h with
  | nil => intro Q k; exact wpAny_items_nil k
  | @cons x c np es cs hx _ ih =>
    intro Q k
    refine wpAny_items_cons ?_
    obtain ⟨hg, hdbg, hm | ⟨hm, hv, hnn⟩⟩ := hx
    · exact ld_glob I hg hm (ih k) hdbg
    · exact ld_blt I hg hm hv (ih k) hnn hdbg
/-- a caught exception, held -/
def Exv (a : Addr) (cls : Value) (d : Option Addr) : HO := .ext fun h => ∃ (oe : Obj) (vs : Array Value), h.get? a = some oe ∧ Zc cls d oe ∧ oe.data = .fields vs
theorem exv_ok {P : Program} {w : World} {H : Hp} {h : Heap} {a : Addr} {cls : Value} {d : Option Addr} {oe : Obj} {vs : Array Value} (e : h.get? a = some oe) (z : Zc cls d oe) (hd : oe.data = .fields vs) : ObjOk P w H h a (Exv a cls d) :=
  ⟨⟨oe, vs, e, z, hd⟩, ⟨oe, e⟩, fun _ _ ⟨o, v, q, r⟩ k => ⟨o, v, k o q, r⟩⟩
theorem exv_at {P : Program} {w : World} {H : Hp} {h : Heap} {a : Addr} {cls : Value} {d : Option Addr} (ok : HOk P w H h) (e : H a = some (Exv a cls d)) : ∃ oe vs, h.get? a = some oe ∧ Zc cls d oe ∧ oe.data = .fields vs := by
  have x : ObjOk P w H h a (.ext fun h => ∃ (oe : Obj) (vs : Array Value), h.get? a = some oe ∧ Zc cls d oe ∧ oe.data = .fields vs) := ok a _ e
  exact x.1
section
variable {X : Cx} {pins : List (Addr × Obj)} {σ : L2.St} {H : Hp} {s : Shared}
theorem track {a : Addr} {o : HO} (I : Inv X pins σ H s) (na : H a = none) (n0 : ∀ u, X.s_0.heap.get? a = some u → X.H_0 a = none → a ∈ X.ex) (nL : a ≠ X.env.locals) (nC : ∀ x c, X.env.cells.lookup x = some c → c ≠ a) (nP : ∀ p ∈ X.pn ++ pins, p.1 ≠ a)
    (ok : ObjOk X.prog X.w (upd H a o) s.heap a o) : Inv X pins σ (upd H a o) s := by
  have ne : ∀ {b : Addr} {u : HO}, H b = some u → b ≠ a := fun {b u} e z => by rw [z, na] at e; cases e
  refine ⟨I.ok, I.os, I.bare, ⟨I.base.keep, I.base.slot, fun b u e n hx => ?_, I.base.there, fun b xs e => ?_, fun b u v e => ?_, fun b ps e => ?_⟩, I.loc, I.cell, ?_, fun x c e => ?_, fun p hp => ?_, fun b u e => ?_, I.len⟩
  · by_cases hb : b = a
    · subst hb; exact absurd (n0 u e n) hx
    · rw [upd_ne hb]; exact I.base.free b u e n hx
  · have q := I.base.tups b xs e
    rw [upd_ne (ne q)]; exact q
  · have q := I.base.frzs b u v e
    rw [upd_ne (ne q)]; exact q
  · obtain ⟨more, q⟩ := I.base.tbls b ps e
    exact ⟨more, by rw [upd_ne (ne q)]; exact q⟩
  · rw [upd_ne (Ne.symm nL)]; exact I.free
  · rw [upd_ne (nC x c e)]; exact I.freeC x c e
  · obtain ⟨q1, q2, q3, q4, q5⟩ := I.pin p hp
    exact ⟨q1, by rw [upd_ne (nP p hp)]; exact q2, q3, q4, q5⟩
  · by_cases hb : b = a
    · subst hb; rw [upd_same] at e; cases e; exact ok
    · rw [upd_ne hb] at e
      exact (I.hok b u e).stay (fun c v _ q => q) (fun c q => by rw [upd_ne (ne q)]; exact q) fun c xs q => by rw [upd_ne (ne q)]; exact q
end
theorem fly_keeps {B h h' : Heap} {l : List Env} {a : Addr} {Z : Obj → Prop} (fl : HandSPX.FlyingZ B l a Z h) (k : ∀ b o, h.get? b = some o → h'.get? b = some o) : HandSPX.FlyingZ B l a Z h' := by
  obtain ⟨f1, f2, f3, oe, vs, T, oT, ts, he, hz, hd, h1, hn, ht, hT, hdT, h3⟩ := fl
  exact ⟨fun b o q => k b o (f1 b o q), f2, f3.of_keeps fun b o q _ => ⟨o, k b o q, rfl⟩, oe, vs, T, oT, ts, k _ _ he, hz, hd, h1, hn, ht, k _ _ hT, hdT, h3⟩
/-- what 'except (A, B, ..) as n' wishes; slot i is n's -/
def wKeep (K : PySem.W.Frag) (cs : List Value) (i : Nat) (ts : Addr → Value → Option Addr → TS) (Wout : WX) (D : Ends) : WX := fun cls d σ H =>
  ∃ b, PySem.W.exmAny K cls cs = some b ∧ (b = true → ∀ a, H a = none → ts a cls d { nx := fun σ' H' => D.nx (σ'.set i none) (upd H' a (Exv a cls d)), rt := fun v H' => D.rt v (upd H' a (Exv a cls d)), bk := fun σ' H' => D.bk (σ'.set i none) (upd H' a (Exv a cls d)), ct := fun σ' H' => D.ct (σ'.set i none) (upd H' a (Exv a cls d)) } (σ.set i (some (.ref a))) H) ∧
    (b = false → Wout cls d σ H)
section
variable {X : Cx} {n : Str} {cs : List Value} {i kt : Nat} {body suite : List Stmt} {b₀ : Stmt} {es : List Expr} {tpos pos pos' : Pos} {tb : WX → TS} {ts : Addr → Value → Option Addr → TS} {Wout : WX}
theorem ps_try_keep (hs : X.stack = X.env :: X.outer) (hf : X.env.frame = some X.env.locals) (hN : X.N.Nodup) (hi : X.N[i]? = some n) (hln : X.env.kindOf n = some .local) (hc : Nms X es cs) (hz : cs.length ≤ 100) (tk : Takes X Wout)
    (hb : ∀ (W : WX) (pn : List (Addr × Obj)) (xe : Value → Shared → Prop), Takes (X.tr pn xe) W → PassesOwn (model X.prog X.w) X.A X.env xe → PSs (X.tr pn xe) body (tb W))
    (hsu : ∀ (a : Addr) (oe : Obj) (cls : Value) (d : Option Addr) (pn : List (Addr × Obj)), Zc cls d oe → (∃ vs, oe.data = .fields vs) → PSs (X.suite a ((a, oe) :: pn)) (b₀ :: suite) (ts a cls d)) :
    PS X (.Try body [.ExceptHandler (some (.Tuple es kt tpos)) (some n) (b₀ :: suite) pos'] [] [] pos) (fun D σ H => tb (wKeep X.K cs i ts Wout D) D σ H) := by
  refine ⟨fun pins s σ H D I kk => ?_⟩
  have okX := I.ok
  have frm : X.A.frames = some (X.env :: X.outer) := by rw [okX.frames, hs]
  have lcl : Loc X.env.scope n := .inl hln
  refine wpAny_Try_except (wpAny_mono ((hb (wKeep X.K cs i ts Wout D) (X.pn ++ pins) (fun e s1 => wpAny (model X.prog X.w) X.A (noteFrame e X.env) (fun _ s2 => wpAny (model X.prog X.w) X.A (setFlight e none) (fun _ s3 =>
    wpAny (model X.prog X.w) X.A (handleBy e X.env [.ExceptHandler (some (.Tuple es kt tpos)) (some n) (b₀ :: suite) pos']) (SP X pins D) X.xe s3) X.xe s2) X.xe s1) (fun u s1 xx => ?_) PassesOwn.looking).run [] s σ H D (I.toTry _) kk) (fun fl s1 z => ?_) (fun _ _ z => z))
  · obtain ⟨a, B, sI, pins1, σ1, H1, cls, d, rfl, J0, nb, up, sky, na, osE, agE, b, hb1, yes, no⟩ := xx
    have J : Inv X pins σ1 H1 sI := J0.ofTry okX
    have sky1 : Sky B (X.env :: X.outer) a (Zc cls d) X.env.locals s1.heap := by rw [← hs]; exact sky
    show wpAny (model X.prog X.w) X.A (noteFrame (.ref a) X.env) _ _ _
    refine Sky.land Zc.steady frm hf sky1 fun h3 fl3 up3 => ?_
    have J3 : Inv X pins σ1 H1 { s1 with heap := h3 } := J.landed nb fl3.1 (up.trans up3) osE agE
    obtain ⟨oe3, vs3, he3, hz3, hd3⟩ := fl3.there
    have nfr : a ∉ frs (X.env :: X.outer) := fun hm => by
      obtain ⟨_, o1, q1, nf1⟩ := fl3.2.2.1.mem hm
      rw [he3] at q1; cases q1
      exact nf1 _ hd3
    have nL : a ≠ X.env.locals := fun z => nfr (List.mem_filterMap.mpr ⟨X.env, List.mem_cons_self, by rw [hf, z]⟩)
    have nF : a ∉ X.fs := fun hm => by
      obtain ⟨e1, he1, q1⟩ := List.mem_filterMap.mp hm
      exact nfr (List.mem_filterMap.mpr ⟨e1, List.mem_cons_of_mem _ he1, q1⟩)
    have nst : a ∉ frs X.stack := by rw [hs]; exact nfr
    have bn : B.get? a = none := fl3.2.1
    have n0 : ∀ u, X.s_0.heap.get? a = some u → X.H_0 a = none → a ∈ X.ex := fun u e1 e2 => Classical.byContradiction fun hx => by
      have q1 := nb a u (J.base.keep a u e1 e2 nF hx) nst
      rw [bn] at q1; cases q1
    have nP : ∀ p ∈ X.pn ++ pins, p.1 ≠ a := fun p hp z => by
      obtain ⟨q1, q2, q3, q4, q5⟩ := J.pin p hp
      have q6 : p.1 ∉ frs X.stack := by rw [z]; exact nst
      have q7 := nb p.1 p.2 q1 q6
      rw [z, bn] at q7; cases q7
    have S3 := J3.suite he3 hd3 na nL nF
    refine wpAny_handleBy_cons (codeAny_handlers_test ?_) (by intro q; cases q)
    refine wpAny_Tuple (nms_eval (X := X.suite a ((a, oe3) :: (X.pn ++ pins))) S3 (by
      have g : ∀ {es cs}, Nms X es cs → Nms (X.suite a ((a, oe3) :: (X.pn ++ pins))) es cs := fun h => by
        induction h with
        | nil => exact .nil
        | cons hx _ ih => exact .cons hx ih
      exact g hc) ⟨by rw [sizeLine_eq]; omega, ?_⟩)
    have kp : ∀ b o, h3.get? b = some o → (h3.push { cls := .type "tuple", data := .seq cs.toArray }).get? b = some o := fun _ _ q => Heap.get?_push_of_some _ q
    have LT : PySem.W.Looks (model X.prog X.w) (h3.push { cls := .type "tuple", data := .seq cs.toArray }) (typeOf (.ref a)) cls := fun A Q E s k q => wpAny_typeOf_ref (k _ _ (kp _ _ he3)) (by rw [hz3.1]; exact q)
    refine (exm_tupN (M := model X.prog X.w) (J3.kIn.keeps kp) LT (Heap.get?_push_size h3 rfl) hb1).here ?_
    have fl4 := fly_keeps fl3 kp
    have up4 : sI.heap.UpToSlots (h3.push { cls := .type "tuple", data := .seq cs.toArray }) := (up.trans up3).trans (Heap.UpToSlots.of_keeps kp)
    cases b with
    | true =>
      refine codeAny_handlers_suite_as (HandSPX.lands_againZ fl4 fun h5 fl5 up5 => ?_)
      have J5 : Inv X pins σ1 H1 { s1 with heap := h5 } := J.landed nb fl5.1 (up4.trans up5) osE agE
      obtain ⟨oe5, vs5, he5, hz5, hd5⟩ := fl5.there
      have S5 := J5.suite he5 hd5 na nL nF
      refine store_ok (X := X.suite a ((a, oe5) :: (X.pn ++ pins))) (v := .ref a) S5 hN hi lcl rfl (fun s6 S6 => ?_) (.inr hln)
      refine wpAny_mono ((hsu a oe5 cls d (X.pn ++ pins) hz5 ⟨_, hd5⟩).run [] s6 _ H1 _ S6 (yes rfl a na)) (fun fl s7 z => ?_) (fun _ _ z => False.elim z)
      have fin : ∀ {σ7 : L2.St} {H7 : Hp} {Q : Shared → Prop}, Inv (X.suite a ((a, oe5) :: (X.pn ++ pins))) [] σ7 H7 s7 → (∀ s8, Inv X pins (σ7.set i none) (upd H7 a (Exv a cls d)) s8 → Q s8) →
          wpAny (model X.prog X.w) X.A (do bindName X.env n .none; unbindBehindTheSuite X.env n pos') (fun _ s8 => Q s8) X.xe s7 := fun {σ7 H7 Q} S7 hq => by
        obtain ⟨p1, p2, p3, p4, p5⟩ := S7.pin (a, oe5) (List.mem_append_left _ List.mem_cons_self)
        have J7 := S7.unsuite okX
        refine gone_ok (track J7 p2 n0 nL (fun x c e z => ?_) nP (exv_ok p1 hz5 hd5)) hN hi hln hq
        obtain ⟨v, oc, q1, q2⟩ := J7.cell x c e
        rw [z, p1] at q1; cases q1
        rw [hd5] at q2; cases q2
      cases fl with
      | next =>
        obtain ⟨σ7, H7, S7, q7⟩ := z
        exact fin S7 fun s8 J8 => ⟨_, _, J8, q7⟩
      | brk =>
        obtain ⟨σ7, H7, S7, q7⟩ := z
        exact fin S7 fun s8 J8 => ⟨_, _, J8, q7⟩
      | cont =>
        obtain ⟨σ7, H7, S7, q7⟩ := z
        exact fin S7 fun s8 J8 => ⟨_, _, J8, q7⟩
      | ret u =>
        obtain ⟨v7, σ7, H7, S7, r7, q7⟩ := z
        exact fin S7 fun s8 J8 => ⟨_, _, _, J8, r7, q7⟩
    | false =>
      show wpAny _ X.A (handleBy (.ref a) X.env []) _ _ _
      refine wpAny_handleBy_nil ?_
      obtain ⟨k1, k2, k3, oe, vs, T, oT, ts1, he, hz, hd, h1, hr⟩ := id fl4
      unfold PySem.passOn
      refine wpAny_bind (wpAny_field he hd h1 ?_)
      rw [if_neg (show ¬ ((Value.ref T == Value.none) = true) from by simp)]
      have last : wpAny (model X.prog X.w) X.A (setFlight (.ref a) X.env.frame) (fun _ s5 => wpAny (model X.prog X.w) X.A (throw (.ref a) : Sem Flow) (SP X pins D) X.xe s5) X.xe { s1 with heap := h3.push { cls := .type "tuple", data := .seq cs.toArray } } := by
        rw [hf]
        refine HandSPX.setFlight_upZ fl4 fun h5 hh5 up5 => wpAny_throw (tk _ _ ⟨a, B, sI, pins, σ1, H1, cls, d, rfl, J, nb, up4.trans up5, .inr (.inr (by rw [hs]; exact hh5)), na, osE, agE, no rfl⟩)
      first
        | exact wpAny_bind (wpAny_pure (wpAny_bind last))
        | exact wpAny_bind last
  · cases fl with
    | next =>
      obtain ⟨σ1, H1, J1, q⟩ := z
      exact wpAny_execs_nil ⟨σ1, H1, J1.ofTry okX, q⟩
    | brk =>
      obtain ⟨σ1, H1, J1, q⟩ := z
      exact ⟨σ1, H1, J1.ofTry okX, q⟩
    | cont =>
      obtain ⟨σ1, H1, J1, q⟩ := z
      exact ⟨σ1, H1, J1.ofTry okX, q⟩
    | ret u =>
      obtain ⟨v, σ1, H1, J1, r, q⟩ := z
      exact ⟨v, σ1, H1, J1.ofTry okX, r, q⟩
end
end Xc

/-! Xc3: held exceptions looked at; divmod -/
namespace Xc
open PySem PySem.Spec PySem.Calls PyProof.Rows L2 Rs
/-- what a class says when its instances are looked at -/
structure Lk (K : PySem.W.Frag) (C : Addr) : Prop where
  cl : (PySem.W.clsIn K C).isSome = true
  ga : PySem.W.findIn K (.ref C) "__getattribute__" = some (some (.builtin "BaseException.__getattribute__"))
  gg : PySem.W.findIn K (.ref C) "__getattr__" = some none
  bx : PySem.W.subIn K (.ref C) (.type "BaseException") = some true
  hd : PySem.W.hasDictIn K C = true
  ha : PySem.W.findIn K (.ref C) "__class__" = some (some (.builtin "object.__class__"))
  hn : PySem.W.specialIn K (.builtin "object.__class__") "__get__" = some (some (.builtin "getset_descriptor.__get__"))
  ht : PySem.W.takesIn K (.builtin "object.__class__") = some true
  hm : PySem.W.mroIn K C (.type "object") = some true
/-- held at a: an exception of the class at C, its fields fs in the dict at dx -/
structure Held (H : Hp) (a C dx : Addr) (fs : List (Str × V)) : Prop where
  ex : H a = some (Exv a (.ref C) (some dx))
  dk : H dx = some (.xd fs)
section
variable {X : Cx} {pins : List (Addr × Obj)} {σ : L2.St} {H : Hp} {s : Shared} {a C dx : Addr} {fs : List (Str × V)}
theorem held_inst (I : Inv X pins σ H s) (h : Held H a C dx fs) : ∃ (oe od : Obj) (mA : Str → Option Value), PySem.W.InstAt s.heap a oe C (some od) ∧ (∀ f, RelO (fs.lookup f) (mA f)) ∧ ∀ n : Str, PySem.W.lookIn n od = some (mA n) := by
  obtain ⟨oe, vs, h1, h2, h3⟩ := exv_at I.hok h.ex
  have hx : ObjOk X.prog X.w H s.heap dx (.xd fs) := I.hok dx _ h.dk
  obtain ⟨mA, hns, hr⟩ := hx
  obtain ⟨od, ho, hl⟩ := lookIn_ns hns
  exact ⟨oe, od, mA, ⟨h1, h2.1, by unfold PySem.W.notCls; rw [h3] <;> rfl, by rw [h2.2]; exact ho⟩, hr, hl⟩
/-- isinstance(e, c) of a held one -/
def rIsX (K : PySem.W.Frag) : List V → Hp → VK → Prop := fun xs H Q => ∃ (a C dx : Addr) (fs : List (Str × V)) (c : V) (u : Value) (b : Bool), xs = [.ref a, c] ∧ ClsV c u ∧ Lk K C ∧ Held H a C dx fs ∧ PySem.W.kitOne K (.ref C) u = some b ∧ Q (.bl b) H
theorem call_isX : CallR X (.builtin "isinstance") (rIsX X.K) := by
  intro pins s σ H xs us Q I r h
  obtain ⟨a, C, dx, fs, c, u, b, rfl, k, l, hh, e, q⟩ := h
  obtain ⟨u1, u2, rfl, r1, r2⟩ := vals2 r
  have e2 := k.eq r2
  subst e2
  cases (show u1 = Value.ref a from r1)
  obtain ⟨oe, od, mA, J, _, _⟩ := held_inst I hh
  exact PySem.W.kia_one (PySem.W.kitx_exc l.cl l.ga l.gg l.bx l.ha l.hn l.ht l.hm) I.kIn J e (fun z => nomatch z) fun tk => ⟨.bl b, H, I.tok tk, rfl, q⟩
/-- e.f of a held one -/
def tXv (K : PySem.W.Frag) (f : Str) (te : TE) : TE := fun σ H Q => te σ H fun x H1 => ∃ (a C dx : Addr) (fs : List (Str × V)) (v : V), x = .ref a ∧ Lk K C ∧ PySem.W.findIn K (.ref C) f = some none ∧ Held H1 a C dx fs ∧ fs.lookup f = some v ∧ Q v H1
theorem pe_xv {e : Expr} {te : TE} {pos : Pos} {n : Str} (he : PE X e te) (hb : attributeBase e n X.env (eval e X.env) = eval e X.env := by rfl) : PE X (.Attribute e n pos) (tXv X.K n te) := by
  refine ⟨fun pins s σ H Q I h => attr_of hb (thn (he.run pins s σ H _ I h) fun u s1 hh => ?_)⟩
  obtain ⟨x, H1, I1, rx, a, C, dx, fs, v, ex, l, hno, hd, lk, q⟩ := hh
  subst ex
  obtain rfl : u = Value.ref a := rx
  obtain ⟨oe, od, mA, J, hr, hl⟩ := held_inst I1 hd
  obtain ⟨u2, hu, ru⟩ := RelO.some_of (v := v) (o := mA n) (by rw [← lk]; exact hr n)
  exact HandSPX.exc_get I1.kIn J l.ga l.gg l.bx (PySem.W.findObj_own l.hd hno rfl (by rw [hl, hu])) (handed_of ru) ⟨v, H1, I1.tok _, ru, q⟩
/-- divmod of whole numbers -/
def rDm : List V → Hp → VK → Prop := fun xs H Q => ∃ (a b : Int), xs = [.int a, .int b] ∧ 0 < b ∧ b < 2 ^ 30 ∧ -(2 ^ 30) < a ∧ a < 2 ^ 30 ∧ ∀ p, H p = none → Q (.ref p) (upd H p (.tup [.int (a / b), .int (a % b)]))
theorem call_dm : CallR X (.builtin "divmod") rDm := by
  intro pins s σ H xs us Q I r h
  obtain ⟨a, b, rfl, h1, h2, h3, h4, q⟩ := h
  obtain ⟨u1, u2, rfl, r1, r2⟩ := vals2 r
  obtain ⟨t1, rfl⟩ := (show ∃ t, u1 = Value.int a t from r1)
  obtain ⟨t2, rfl⟩ := (show ∃ t, u2 = Value.int b t from r2)
  have hf : H s.heap.objs.size = none := I.hok.fresh (Nat.le_refl _)
  refine PyProof.Rows.divmod_int (by omega) ?_ (Or.inl (PyProof.noPylong_small (by omega)))
  have e1 : a.fdiv b = a / b := Int.fdiv_eq_ediv_of_nonneg _ (by omega)
  have e2 : a.fmod b = a % b := Int.fmod_eq_emod_of_nonneg _ (by omega)
  rw [e1, e2]
  refine ⟨.ref s.heap.objs.size, upd H s.heap.objs.size (.tup [.int (a / b), .int (a % b)]), I.laid (t' := s.toks + 1 + 1) (fun b o e => Heap.get?_push_of_some _ e) (Nat.le_refl _) ?_, rfl, q _ hf⟩
  exact ⟨by rw [sizeLine_eq]; simp, _, .cons ⟨_, rfl⟩ (.cons ⟨_, rfl⟩ .nil), ⟨_, Heap.get?_push_size _ rfl, rfl, _, rfl⟩⟩
end
end Xc
namespace Xc
open PySem PySem.Spec PySem.Calls PyProof.Rows L2 Rs
theorem ip_or {X : Cx} : PIp X .BitOr (ipI fun i j => Builtin.bitOr i j) := by
  intro pins s σ H x y v u Q I r1 r2 h
  obtain ⟨i, j, rfl, rfl, q⟩ := h
  obtain ⟨t, rfl⟩ := r1
  obtain ⟨t2, rfl⟩ := r2
  exact ior_int ⟨.int (Builtin.bitOr i j), H, I.tok _, ⟨_, rfl⟩, q⟩
end Xc

/-! Xc4: the end with tables of code objects, for promises kept while no text is under way -/
namespace Xc
open PySem PySem.Spec PySem.Calls PyProof.Rows L2 Rs LamX
/-- what is known at the law's call: the script, the tables -/
def headH (own : Bool) (a : Addr) (o : Obj) (ns : List Int) (ts : List Addr) : Hp := fun b => if own = true ∧ b = a then some (.frz o (.lst (ns.map V.int))) else if b ∈ ts then some (.tbl #[]) else none
theorem headH_some {own : Bool} {a b : Addr} {o : Obj} {ns : List Int} {ts : List Addr} {u : HO} (h : headH own a o ns ts b = some u) : (own = true ∧ b = a ∧ u = .frz o (.lst (ns.map V.int))) ∨ (b ∈ ts ∧ u = .tbl #[]) := by
  unfold headH at h
  split at h
  · rename_i z; exact .inl ⟨z.1, z.2, (Option.some.inj h).symm⟩
  · split at h
    · rename_i z; exact .inr ⟨z, (Option.some.inj h).symm⟩
    · cases h
theorem lawGT {P : Program} {w : World} {K : PySem.W.Frag} {mg mb : Str → Option Value} {k : Nat} {fa a : Addr} {fd : FuncData} {x : Str} {sp : Sp} {s : Shared} {vs : List Value} {ns : List Int} {cs : List (Addr × Addr)}
    (KX : K.In s.heap) (hm : s.heap.Ns mainGlobals mg) (hb : s.heap.Ns builtinsNs mb) (hbb : ∀ x : Str, x ≠ "__name__" → mb x = bootBuiltins x) (hlim : s.heap.NoLimit) (hg : s.gens = #[])
    (hT : ∀ p ∈ cs, s.heap.get? p.2 = some (PySem.W.tabObj #[])) (nT : ∀ p ∈ cs, K.lookup p.2 = none) (C : ∀ p ∈ cs, PySem.W.CodeHd s.heap p.1 p.2)
    (hbm : ∃ (bm : Addr) (ob : Obj), mg "__builtins__" = some (.ref bm) ∧ bm ≠ builtinsNs ∧ s.heap.get? bm = some ob ∧ ob.cls = .type "module" ∧ ob.dict = some builtinsNs ∧ ob.data = .plain)
    (ha : s.heap.get? a = some { cls := .type "list", data := .seq vs.toArray }) (hi : IntsAre vs ns) (hl : ns.length ≤ sizeLine) (hr : Room k callerA)
    (F : ∀ base : Heap, K.In base → base.Ns mainGlobals mg → (∀ p ∈ cs, TabB base mg p.1 p.2) → FnG P w K mg base k fa fd [x] sp) (hbind : ∀ (s : Shared) (u : Value), BindsTo s fd ⟨[u], []⟩ [(x, u)])
    (hsp : ∀ H : Hp, (∀ p ∈ cs, H p.2 = some (.tbl #[])) → SqL K H a (ns.map V.int) → sp [.ref a] H (fun v _ => v = .bl true) E0) :
    codeAny (model P w) callerA (.call (.ref fa) ⟨[.ref a], []⟩) (fun r s' => r = .ok (.ret (.bool true)) ∧ OldK s.heap s'.heap ∧ s'.os = s.os ∧ AllBare s'.gens) s := by
  have rv := vals_ints hi
  have lv := hi.length
  have tabOf : ∀ b : Addr, b ∈ cs.map (·.2) → s.heap.get? b = some (PySem.W.tabObj #[]) := fun b hb => by
    obtain ⟨p, hp, rfl⟩ := List.mem_map.mp hb
    exact hT p hp
  have aNot : a ∉ cs.map (·.2) := fun z => by
    have q := tabOf a z
    rw [ha] at q
    have d : Data.seq vs.toArray _ = Data.fields #[] := congrArg Obj.data (Option.some.inj q)
    cases d
  have key : ∀ own : Bool, (own = true → K.lookup a = none) → (own = false → ∃ o, K.lookup a = some o) →
      codeAny (model P w) callerA (.call (.ref fa) ⟨[.ref a], []⟩) (fun r s' => r = .ok (.ret (.bool true)) ∧ OldK s.heap s'.heap ∧ s'.os = s.os ∧ AllBare s'.gens) s := by
    intro own h1 h2
    have hS := fun {b : Addr} {u : HO} => headH_some (own := own) (a := a) (b := b) (o := { cls := .type "list", data := .seq vs.toArray }) (ns := ns) (ts := cs.map (·.2)) (u := u)
    have hTb : ∀ p ∈ cs, headH own a { cls := .type "list", data := .seq vs.toArray } ns (cs.map (·.2)) p.2 = some (.tbl #[]) := fun p hp => by
      have mp : p.2 ∈ cs.map (·.2) := List.mem_map_of_mem (f := (·.2)) hp
      unfold headH
      rw [if_neg (fun z => aNot (by rw [← z.2]; exact mp)), if_pos mp]
    generalize eH : headH own a { cls := .type "list", data := .seq vs.toArray } ns (cs.map (·.2)) = H at hS hTb
    -- an object that is neither a row nor a table is not tracked
    have noH : ∀ {b : Addr} {o : Obj}, s.heap.get? b = some o → (∀ xs n, o.data ≠ .seq xs n) → o.data ≠ .fields #[] → H b = none := fun {b o} e d1 d2 => by
      cases q : H b with
      | none => rfl
      | some u =>
        rcases hS q with ⟨_, rfl, _⟩ | ⟨hb2, _⟩
        · rw [ha] at e; cases e; exact absurd rfl (d1 _ _)
        · rw [tabOf b hb2] at e; cases e; exact absurd rfl d2
    have noD : ∀ {b : Addr} {o : Obj} {es : Array DictEntry} {n : Nat}, s.heap.get? b = some o → o.data = .dict es n → H b = none := fun {b o es n} e d =>
      noH e (fun xs n z => by rw [d] at z; cases z) (fun z => by rw [d] at z; cases z)
    have ns0 : ∀ {b : Addr} {m : Str → Option Value}, s.heap.Ns b m → (hidT s.heap H).Ns b m := fun {b m} ⟨o, es, n, e, d, r⟩ => ⟨o, es, n, hidT_get e (noD e d), d, r⟩
    have K0 : K.In (hidT s.heap H) := fun b o e => by
      refine hidT_get (KX b o e) ?_
      cases q : H b with
      | none => rfl
      | some u =>
        rcases hS q with ⟨z, rfl, _⟩ | ⟨hb2, _⟩
        · rw [h1 z] at e; cases e
        · obtain ⟨p, hp, rfl⟩ := List.mem_map.mp hb2
          rw [nT p hp] at e; cases e
    have hok : HOk P w H s.heap := fun b u q => by
      rcases hS q with ⟨_, rfl, rfl⟩ | ⟨hb2, rfl⟩
      · exact ⟨ha, by rw [List.length_map]; exact hl, vs, _, rv, ha⟩
      · exact tabOf b hb2
    obtain ⟨mc, q1, q2⟩ := hlim
    have M0 : Mod K mg (hidT s.heap H) := ⟨K0, ns0 hm, ⟨mb, ns0 hb, hbb⟩, mc, ns0 q1, q2⟩
    have TB : ∀ p ∈ cs, TabB (hidT s.heap H) mg p.1 p.2 := fun p hp => by
      have hTp := hT p hp
      refine ⟨?_, ?_, fun z => ?_⟩
      · obtain ⟨o, us, file, tf, flags, tg, inF, text, tt, e1, r1, r2, r3, rest⟩ := C p hp
        refine ⟨o, us, file, tf, flags, tg, inF, text, tt, hidT_get e1 (noH e1 (fun xs n z => by rw [r2] at z; cases z) fun z => ?_), r1, r2, r3, rest⟩
        rw [r2] at z; cases z; simp at r3
      · obtain ⟨bm, ob, b1, b2, b3, b4, b5, b6⟩ := hbm
        refine ⟨bm, ob, b1, b2, fun q => ?_, fun q => ?_, hidT_get b3 (noH b3 (fun xs n z => by rw [b6] at z; cases z) fun z => by rw [b6] at z; cases z), b4, b5, b6⟩
        · obtain ⟨o, es, n, e, d, _⟩ := hm
          rw [q, e] at b3; cases b3
          rw [d] at b6; cases b6
        · rw [q, hTp] at b3; cases b3; cases b6
      · obtain ⟨o, es, n, e, d, _⟩ := hm
        rw [z, hTp] at e; cases e; cases d
    have env : Env0 P w K mg (hidT s.heap H) callerA [] s H := ⟨rfl, M0, fun b o e => of_hidT e, Nat.le_of_eq (hidT_size _ _), trivial, fun b hb3 => (nomatch (show b ∈ ([] : List Addr) from hb3)), hok, .of_eq hg⟩
    have sq : SqL K H a (ns.map V.int) := by
      cases own with
      | true => exact Or.inl (Or.inr ⟨_, by rw [← eH]; exact if_pos ⟨rfl, rfl⟩⟩)
      | false =>
        obtain ⟨o, e⟩ := h2 rfl
        have e' := KX a o e
        rw [ha] at e'; cases e'
        exact Or.inr ⟨_, vs.toArray, _, e, rfl, rfl, rfl, by rw [List.size_toArray, lv]; exact hl, by simpa using rv⟩
    refine codeAny_mono ((F _ K0 (ns0 hm) TB).go callerA [] s H [.ref a] ⟨[.ref a], []⟩ [.ref a] _ E0 rfl hr env (hbind s (.ref a)) (.cons rfl .nil) (hsp H hTb sq)) fun r s' z => ?_
    match r, z with
    | .error _, z => exact z.elim
    | .ok .next, z => exact z.elim
    | .ok .brk, z => exact z.elim
    | .ok .cont, z => exact z.elim
    | .ok (.ret u), z =>
      obtain ⟨v, H', os, bare, un, hok', r', q⟩ := z
      cases (show v = .bl true from q)
      cases (show u = Value.bool true from r')
      have same : ∀ b o, b ∉ cs.map (·.2) → s.heap.get? b = some o → s'.heap.get? b = some o := fun b o nb e => by
        cases q : H b with
        | none => exact un.keep b o e q (fun z => nomatch z) (fun z => nomatch z)
        | some u =>
          rcases hS q with ⟨_, rfl, rfl⟩ | ⟨hb2, _⟩
          · rw [ha] at e; cases e
            obtain ⟨e2, _⟩ := hok' b _ (un.frzs b _ _ q)
            exact e2
          · exact absurd hb2 nb
      have grown : ∀ b ∈ cs.map (·.2), isCodeTable s.heap b ∧ ∃ more : Array Value, s'.heap.get? b = some (PySem.W.tabObj more) := fun b hb2 => by
        obtain ⟨p, hp, rfl⟩ := List.mem_map.mp hb2
        obtain ⟨more, q⟩ := un.tbls p.2 #[] (hTb p hp)
        exact ⟨((C p hp).tab (hT p hp)).isCodeTable, _, hok' p.2 _ q⟩
      refine ⟨rfl, ⟨fun b o e => ?_, fun b o e => ?_⟩, os, bare⟩
      · by_cases hb2 : b ∈ cs.map (·.2)
        · obtain ⟨g1, more, g2⟩ := grown b hb2
          rw [tabOf b hb2] at e; cases e
          exact .inr (.inl ⟨g1, rfl, #[], more, rfl, by rw [Array.empty_append]; exact g2⟩)
        · exact .inl (same b o hb2 e)
      · by_cases hb2 : b ∈ cs.map (·.2)
        · obtain ⟨_, more, g2⟩ := grown b hb2
          exact ⟨_, g2⟩
        · exact ⟨o, same b o hb2 e⟩
  cases hk : K.lookup a with
  | some o => exact key false (fun z => Bool.noConfusion z) (fun _ => ⟨o, hk⟩)
  | none => exact key true (fun _ => hk) (fun z => Bool.noConfusion z)
/-- a def whose code object is known by its place -/
structure FunC (K : PySem.W.Frag) (x qual : Str) (st : Stmt) (f : Addr) (fd : FuncData) (c : Addr) : Prop where
  ex : ∃ (oc : Value) (od : Option Addr) (kV doc pm : Value) (an : Option Addr) (ct : Value) (osl : Array (Option Value)),
    fd = PySem.W.fnOf x qual (defArgs st) (defBody st) (defScope st) .none kV doc pm an (.ref c) ct ∧ K.lookup f = some ⟨oc, od, .func (PySem.W.fnOf x qual (defArgs st) (defBody st) (defScope st) .none kV doc pm an (.ref c) ct), osl⟩ ∧ PySem.W.codeIn K (.ref c) qual = true
section
variable {P : Program} {w : World} {K : PySem.W.Frag} {mg : Str → Option Value} {base : Heap}
/-- such a def by its body, as FnG -/
theorem defGC {x qual : Str} {st : Stmt} {f c : Addr} {fd : FuncData} {N ps : List Str} {k : Nat} {sp : Sp} (F : FunC K x qual st f fd c) (S : FnScope N ps (defScope st)) (many : ∀ vs H Q E, sp vs H Q E → vs.length = ps.length)
    (body : ∀ (A : Around) (o : List Env) (s : Shared) (H : Hp) (vs : List V) (Q : VK) (E : XK), Clr A → Room k (A.deeper (envOfC qual (defScope st) s.heap.objs.size f (.ref c))) → sp vs H Q E →
      ∃ t, PSs (cxOf CX0 P w K mg base N qual (defScope st) f (.ref c) A o s H E).nox (defBody st) t ∧ t { nx := fun _ H' => Q .non H', rt := Q } (start N vs) H) : FnG P w K mg base (k + 1) f fd ps sp := by
  obtain ⟨oc, od, kV, doc, pm, an, ct, osl, rfl, lk, hcd⟩ := F.ex
  refine ⟨many, ?_⟩
  intro A o s H us a vs Q E cl r e0 hb rv hsp
  obtain ⟨t, ht, hq⟩ := body A o s H vs Q E cl (r.deeper _) hsp
  have inK : ∀ b ob, K.lookup b = some ob → s.heap.get? b = some ob := fun b ob e => (e0.bs b ob (e0.mod.kin b ob e)).1
  refine codeAny_call_function r.depth (inK _ _ lk) rfl S.co S.gen rfl (PySem.W.codeRec_of inK hcd) (hb _ _ _ _ ?_)
  have noL : s.heap.NoLimit := e0.mod.nolimit.keeps fun b ob e => (e0.bs b ob e).1
  refine wpAny_newFunctionEnv_cells S.kind ?_ ?_
  · rintro ⟨n, v⟩ hy
    rcases S.par n (List.of_mem_zip hy).1 with q | q
    · exact Or.inl q
    · exact Or.inr ⟨q, PySem.W.cellsFrom_some _ _ _ (Or.inl q)⟩
  · intro env he s1 x1
    subst he
    refine ⟨noL.keeps x1.toInCall.keep, codeAny_func ?_⟩
    have J := inv_start (CX := CX0) (mg := mg) (E := E) (qual := qual) S r.hd e0 (many _ _ _ _ hsp) rv x1
    refine wpAny_mono (ht.nox.run [] s1 _ H _ J hq) ?_ ?_
    · intro fl s2 h2
      cases fl with
      | next => obtain ⟨_, H2, J2, q2⟩ := h2; exact ⟨V.non, H2, J2.os, J2.bare, J2.base, J2.hok, rfl, q2⟩
      | ret u => obtain ⟨v, _, H2, J2, r2, q2⟩ := h2; exact ⟨v, H2, J2.os, J2.bare, J2.base, J2.hok, r2, q2⟩
      | brk => obtain ⟨_, _, _, q2⟩ := h2; exact q2.elim
      | cont => obtain ⟨_, _, _, q2⟩ := h2; exact q2.elim
    · intro e s2 h2; exact h2
end
/-- the end, the law's def by its facts, its code's tables known -/
theorem walkGT {l : PySem.W.OpenLaw} {n k : Nat} {q : Program} {loose : List Str} {XP : (Str → Option Value) → Heap → Prop} {YP : World → Heap → Prop} {d : DefRec} {K : Params → PySem.W.Frag} {sp : PySem.W.Frag → Sp} {st : Stmt} {x : Str} {ts : List Addr}
    (hn : l.most = some n) (hn2 : n ≤ sizeLine) (hdf : d.params.defaults = []) (hr : Room k callerA) (hY : ∀ (w : World) (h : Heap), YP w h → (K w.params).In h) (hY2 : ∀ (w : World) (h : Heap), YP w h → ∀ p ∈ ts, h.get? p = some (PySem.W.tabObj #[])) (hx : d.name = "law")
    (hb : ∀ (kV doc pm : Value) (an : Option Addr) (cdv ct u : Value), bindArgs (PySem.W.fnOf "law" "law" (defArgs st) (defBody st) (defScope st) .none kV doc pm an cdv ct) ⟨[u], []⟩ = pure [(x, u)])
    (F : ∀ (w : World) (mg : Str → Option Value) (h : Heap), (K w.params).In h → h.Ns mainGlobals mg → ∃ cs : List (Addr × Addr), cs.map (·.2) = ts ∧ (∀ p ∈ cs, (K w.params).lookup p.2 = none) ∧ (∀ p ∈ cs, PySem.W.codeHdIn (K w.params) p.1 p.2 = true) ∧
      ∃ (fa : Addr) (fd : FuncData), Cal (K w.params) mg "law" st [x] fa fd ∧ ∀ base : Heap, (∀ p ∈ cs, TabB base mg p.1 p.2) → FnG l.prog w (K w.params) mg base k fa fd [x] (sp (K w.params)))
    (hsp : ∀ (K : PySem.W.Frag) (H : Hp) (a : Addr) (ns : List Int), ns.length ≤ n → (∀ z ∈ ns, Builtin.Int.intBits z ≤ 1048576) → (∀ p ∈ ts, H p = some (.tbl #[])) → SqL K H a (ns.map V.int) → sp K [.ref a] H (fun v _ => v = .bl true) E0) :
    PySem.W.WalkO q loose XP YP l.row.toRowW d [] (fun f vs => PySem.call f vs) := by
  apply Att.attach_callB hn hdf
  intro w s0 s1 mg mb fa o pm cd doc a vs ns G Y ho hd hcd hmg hobj hints hlen hbits hg
  have KX := hY w _ Y
  obtain ⟨cs, ec, nT, cT, f, fd, C, ok⟩ := F w mg _ KX G.T.g
  subst ec
  rw [hx] at hmg
  have e := C.m.symm.trans hmg
  cases e
  obtain ⟨oc, od, kV, doc2, pm2, an2, cdv, ct, osl, rfl, lk, hcd2⟩ := C.F.ex
  exact lawGT (cs := cs) KX G.T.g G.T.b G.T.builtins G.T.nolimit hg (fun p hp => hY2 w _ Y _ (List.mem_map_of_mem (f := (·.2)) hp)) nT (fun p hp => PySem.W.codeHd_of_K KX (cT p hp)) G.T.bmain hobj hints (Nat.le_trans hlen hn2) hr (fun base _ _ TB => ok base TB) (fun s u => .of_eq (hb kV doc2 pm2 an2 cdv ct u)) fun H hH hS => hsp _ H a ns hlen hbits (fun P hP => by obtain ⟨p, hp, rfl⟩ := List.mem_map.mp hP; exact hH p hp) hS
end Xc

/-! Xc5: readings for own exceptions -/
namespace Xc
open PySem PySem.Spec PySem.Calls PyProof.Rows L2 Rs
/-- __init__(self, x) that stores x as f -/
def spInit1 (C : Addr) (f : Str) : Sp := fun vs H Q _ => ∃ (a : Addr) (v : V), vs = [.ref a, v] ∧ H a = some (exo a C none) ∧ ∀ dx, H dx = none → dx ≠ a → Q .non (upd (upd H dx (exd dx [(f, v)])) a (exo a C (some dx)))
theorem del_eq {H : Hp} {a d : Addr} {o1 o2 o3 o4 : HO} (ha : H a = none) (ne : d ≠ a) : upd (del (upd (upd (upd H a o1) d o2) a o3) a) d o4 = upd H d o4 := by
  funext b
  by_cases hb : b = d
  · subst hb; rw [upd_same, upd_same]
  · rw [upd_ne hb, upd_ne hb]
    by_cases h2 : b = a
    · subst h2; rw [del_same, ha]
    · rw [del_ne h2, upd_ne h2, upd_ne hb, upd_ne h2]
section
variable {σ : L2.St} {H H0 : Hp} {M : List Addr} {L : Led} {Q : VK} {K : PySem.W.Frag} {C : Addr} {f : Str} {x : V} {XQ : XK}
theorem rd_mk1 (k : ∀ d, H d = none → XQ (.ref C) (some d) (upd H d (.xd [(f, x)]))) : [x].length ≤ 1000 ∧ ∀ a, H a = none → spInit1 C f (.ref a :: ([x] ++ [])) (upd H a (exo a C none))
    (fun v H2 => v = .non ∧ ∃ (d : Addr) (fs : List (Str × V)), H2 a = some (exo a C (some d)) ∧ H2 d = some (exd d fs) ∧ H d = none ∧ XQ (.ref C) (some d) (upd (del H2 a) d (.xd fs))) (fun _ _ _ => False) := by
  refine ⟨by simp, fun a ha => ⟨a, x, rfl, upd_same, fun dx n1 n2 => ⟨rfl, dx, [(f, x)], upd_same, ?_, ?_, ?_⟩⟩⟩
  · rw [upd_ne n2, upd_same]
  · rw [upd_ne n2] at n1; exact n1
  · rw [del_eq ha n2]
    rw [upd_ne n2] at n1
    exact k dx n1
theorem rd_tmk {sp : Sp} {dvs : List V} {ta : TA} (h : ta σ H fun vs H1 => vs.length ≤ 1000 ∧ ∀ a, H1 a = none → sp (.ref a :: (vs ++ dvs)) (upd H1 a (exo a C none))
    (fun v H2 => v = .non ∧ ∃ (d : Addr) (fs : List (Str × V)), H2 a = some (exo a C (some d)) ∧ H2 d = some (exd d fs) ∧ H1 d = none ∧ XQ (.ref C) (some d) (upd (del H2 a) d (.xd fs))) (fun _ _ _ => False)) : tMkO C sp dvs ta σ H XQ := h
theorem rd_dm {a b : Int} (S : Hs H0 M H L) (h1 : 0 < b) (h2 : b < 2 ^ 30) (h3 : -(2 ^ 30) < a) (h4 : a < 2 ^ 30) (h : ∀ p H', H0 p = none → Hs H0 M H' ((p, .tup [.int (a / b), .int (a % b)]) :: L) → Q (.ref p) H') : rDm [.int a, .int b] H Q := ⟨a, b, rfl, h1, h2, h3, h4, rd_newO S h⟩
theorem rd_isX {a dx : Addr} {fs : List (Str × V)} {c : V} {u : Value} {b : Bool} (S : Hs H0 M H L) (m1 : (a, Exv a (.ref C) (some dx)) ∈ L) (m2 : (dx, HO.xd fs) ∈ L) (l : Lk K C) (hc : ClsV c u) (e : PySem.W.kitOne K (.ref C) u = some b) (h : Q (.bl b) H) : rIsX K [.ref a, c] H Q :=
  ⟨a, C, dx, fs, c, u, b, rfl, hc, l, ⟨S.is _ m1, S.is _ m2⟩, e, h⟩
theorem rd_xv {te : TE} (h : te σ H fun x H1 => ∃ (a C dx : Addr) (fs : List (Str × V)) (v : V), x = .ref a ∧ Lk K C ∧ PySem.W.findIn K (.ref C) f = some none ∧ Held H1 a C dx fs ∧ fs.lookup f = some v ∧ Q v H1) : tXv K f te σ H Q := h
theorem rd_put1 {B newId initId : String} {bmB : List Value} {to te : TE} {D : Ends} (h : te σ H fun y H1 => to σ H1 fun x H2 => ∃ a C : Addr, x = .ref a ∧ Own K C B newId initId bmB ∧ PySem.W.takerIn K C f = some none ∧
  ((H2 a = some (exo a C none) ∧ ∀ dx, H2 dx = none → dx ≠ a → D.nx σ (upd (upd H2 dx (exd dx [(f, y)])) a (exo a C (some dx)))) ∨
    ∃ (dx : Addr) (fs : List (Str × V)), H2 a = some (exo a C (some dx)) ∧ H2 dx = some (exd dx fs) ∧ fs.length ≤ 900 ∧ D.nx σ (upd H2 dx (exd dx ((f, y) :: fs))))) : tPut K B newId initId bmB f to te D σ H := h
theorem rd_slVx {a : Addr} {xs : List V} {lo hi : Option Int} (S : Hs H0 M H L) (m : (a, HO.lst xs) ∈ L) (h : ∀ p H', H0 p = none → Hs H0 M H' ((p, .lst (cutV xs lo hi)) :: L) → Q (.ref p) H') : rSlL K (.ref a) lo hi H Q :=
  ⟨a, xs, rfl, S.lst m, rd_newO S h⟩
theorem rd_bi {B newId initId : String} {bmB : List Value} {ta : TA} (h : ta σ H fun vs H1 => ∃ (a C : Addr) (ws : List V), vs = .ref a :: ws ∧ ws.length ≤ 1000 ∧ Own K C B newId initId bmB ∧ H1 a = some (exo a C none) ∧ Q .non H1) : tBI K B newId initId bmB ta σ H Q := h
end
end Xc
namespace Xc
open PySem PySem.Spec PySem.Calls PyProof.Rows L2 Rs
theorem rd_xvV {H H0 : Hp} {M : List Addr} {L : Led} {K : PySem.W.Frag} {C : Addr} {f : Str} {a dx : Addr} {fs : List (Str × V)} {v : V} {R : V → Prop} (S : Hs H0 M H L) (m1 : (a, Exv a (.ref C) (some dx)) ∈ L) (m2 : (dx, HO.xd fs) ∈ L) (l : Lk K C) (n : PySem.W.findIn K (.ref C) f = some none) (e : fs.lookup f = some v) (h : R v) :
    ∃ (a' C dx : Addr) (fs : List (Str × V)) (v : V), V.ref a = .ref a' ∧ Lk K C ∧ PySem.W.findIn K (.ref C) f = some none ∧ Held H a' C dx fs ∧ fs.lookup f = some v ∧ R v := ⟨a, C, dx, fs, v, rfl, l, n, ⟨S.is _ m1, S.is _ m2⟩, e, h⟩
/-- the slots' number is known of what flies -/
theorem takes_len {X : Cx} {W : WX} (t : Takes X W) : Takes X (fun cls d σ H => σ.length = X.N.length → W cls d σ H) := fun u s' ⟨a, B, sI, pins, σ, H, cls, d, e, I, nb, up, sky, na, os, ag, w⟩ =>
  t u s' ⟨a, B, sI, pins, σ, H, cls, d, e, I, nb, up, sky, na, os, ag, w I.len⟩
end Xc

/-! Xc6: repr of (text, thing), the thing data or an empty dict -/
namespace Xc
open PySem PySem.Spec PySem.Calls PyProof.Rows L2 Rs
/-- data, or an empty dict -/
inductive Tq (K : PySem.W.Frag) (H : Hp) : V → PyData → Prop where
  | dp {v : V} {d : PyData} (h : Dp K H v d) : Tq K H v d
  | emp {a : Addr} (h : H a = some (.dK [])) : Tq K H (.ref a) (.dict [])
section
variable {X : Cx} {pins : List (Addr × Obj)} {σ : L2.St} {H : Hp} {s : Shared}
theorem Tq.reads (I : Inv X pins σ H s) {v : V} {d : PyData} {u : Value} (h : Tq X.K H v d) (r : RelV v u) : ∃ as, Reads s.heap u d as ∧ (d.hasDict = true → sysModules ∉ as) := by
  cases h with
  | dp h =>
    obtain ⟨as, q⟩ := Dp.reads I d v u h r
    exact ⟨as, q, PyData.noDict_hsm (dp_noDict d v h)⟩
  | @emp a h =>
    cases (show u = Value.ref a from r)
    obtain ⟨_, ns, vs, kv, o, es, ep, e1, e2, e3, _, e5, _⟩ := dk_of I.hok h
    cases kv
    have e6 := Pairs.length e5
    have e7 : es.toList = [] := List.eq_nil_of_length_eq_zero e6
    refine ⟨[a] ++ [], ?_, fun _ hm => ?_⟩
    · have z := Reads.dict (kvs := []) (as := []) (bs := []) e1 e2.1 e3 (by rw [e7]; exact .nil) (by rw [e7]; exact .nil)
      exact z
    · have : sysModules = a := by simpa using hm
      rw [this] at ns
      simp at ns
/-- repr((text, thing)) -/
def rReprP (K : PySem.W.Frag) : List V → Hp → VK → Prop := fun xs H Q => ∃ (p : Addr) (t : Str) (v : V) (d : PyData), xs = [.ref p] ∧ SqT K H p [.str t, v] ∧ Tq K H v d ∧ Shw (.tuple [.str t, d]) ∧ (PyData.tuple [.str t, d]).depth ≤ 50 ∧ Q (.str (PyData.tuple [.str t, d]).shown) H
theorem call_reprP {k : Nat} (c : Clr X.A) (hr : Room k X.A) : CallR X (.builtin "repr") (rReprP X.K) := by
  intro pins s σ H xs us Q I r h
  obtain ⟨p, t, v, d, rfl, hs, hq, sw, dp, q⟩ := h
  cases r with
  | cons r1 r2 =>
    cases r2
    rename_i u
    cases (show u = Value.ref p from r1)
    obtain ⟨its, rv, ⟨o, ho, hc, n, hd⟩, _⟩ := I.tuple hs
    obtain ⟨u1, u2, rfl, q1, q2⟩ := vals2 rv
    obtain ⟨tk, rfl⟩ := (show ∃ tk, u1 = Value.str t tk from q1)
    obtain ⟨as, rd, hm⟩ := hq.reads I q2
    have rd2 : Reads s.heap (.ref p) (.tuple [.str t, d]) ([] ++ (as ++ [])) := Reads.tuple ho hc hd (.cons (.str t tk) (.cons rd .nil))
    have un := hr.units
    refine repr_of_reads' (s := s) rd2 sw.ok (fun z => ?_) c (by omega) (fun _ _ e => e) (fun h' t2 tk2 kp => ⟨.str _, H, I.kept kp, ⟨t2, rfl⟩, q⟩) sw.sz
    simp only [PyData.hasDict, PyData.hasDictAll, Bool.false_or, Bool.or_false] at z
    simpa using hm z
end
theorem rd_reprP {K : PySem.W.Frag} {H H0 : Hp} {M : List Addr} {L : Led} {Q : VK} {p : Addr} {t : Str} {v : V} {d : PyData} (S : Hs H0 M H L) (m : (p, HO.tup [.str t, v]) ∈ L) (h : Tq K H v d) (sw : Shw (.tuple [.str t, d])) (dp : (PyData.tuple [.str t, d]).depth ≤ 50)
    (k : Q (.str (PyData.tuple [.str t, d]).shown) H) : rReprP K [.ref p] H Q := ⟨p, t, v, d, rfl, S.tup m, h, sw, dp, k⟩
end Xc
namespace Xc
open PySem PySem.Spec PySem.Calls PyProof.Rows L2 Rs
section
variable {σ : L2.St} {H H0 : Hp} {M : List Addr} {L : Led} {Q : VK}
theorem rd_lstRg {te : L2.St → Hp → (Int → Int → Hp → Prop) → Prop} (h : te σ H fun a b H1 => RgOk a b ∧ ∀ q, H1 q = none → Q (.ref q) (upd H1 q (.lst (rgV a b)))) : tLstRg te σ H Q := h
theorem rd_rg1 {ta : TE} {R : Int → Int → Hp → Prop} (h : ta σ H fun x H1 => ∃ n, x = .int n ∧ R 0 n H1) : tRg1 ta σ H R := h
theorem rd_rg1v {n : Int} {R : Int → Prop} (h : R n) : ∃ m, V.int n = .int m ∧ R m := ⟨n, rfl, h⟩
theorem rd_rgNew {a b : Int} (S : Hs H0 M H L) (h1 : 0 ≤ a) (h2 : b ≤ 16777216) (h3 : a ≤ 16777216) (h4 : 0 ≤ b) (h : ∀ p H', H0 p = none → Hs H0 M H' ((p, .lst (rgV a b)) :: L) → Q (.ref p) H') : RgOk a b ∧ ∀ q, H q = none → Q (.ref q) (upd H q (.lst (rgV a b))) :=
  ⟨RgOk.of_le h1 h2 h3 h4, rd_newO S h⟩
end
end Xc

/-! Xc7: great numbers shown, dicts of plain pairs shown, truths counted, truths as numbers, ledgers begun anew -/
namespace Xc
open PySem PySem.Spec PySem.Calls PyProof.Rows L2 Rs
def Stat (K : PySem.W.Frag) : Prop := PySem.W.nsIn K cStatics "sys.int_max_str_digits" = some none
section
variable {prog : Program} {w : World} {A : Around} {E : Value → Shared → Prop} {s : Shared} {K : PySem.W.Frag}
/-- a whole number of less than 4300 figures that is no matter of _pylong -/
structure Fig (i : Int) : Prop where
  a : i.natAbs < 10 ^ 4300
  b : i.natAbs.log2 < 29000
theorem over_run {M : Model} {i : Int} {Q : Option Nat → Shared → Prop} (X : K.In s.heap) (st : Stat K) (f : Fig i) (q : Q none s) : wpAny M A (Builtin.overDigitLimit? i) Q E s := by
  unfold Builtin.overDigitLimit?
  by_cases h0 : i.natAbs.log2 < 1920
  · rw [if_pos h0]; exact wpAny_pure q
  · rw [if_neg h0]
    refine wpAny_bind ?_
    unfold Builtin.intMaxStrDigits
    refine wpAny_bind ((PySem.W.looks_nsIn X st).here ?_)
    refine wpAny_pure ?_
    have hb := f.b
    have h1 : ¬ (i.natAbs.log2 / 30 + 1 > 1000) := by omega
    dsimp only
    rw [if_neg h1]
    by_cases h2 : ((4300 : Nat) == 0 || decide (i.natAbs.log2 < 3 * 4300)) = true
    · rw [if_pos (by simpa using h2)]; exact wpAny_pure q
    · rw [if_neg (by simpa using h2), if_neg (Nat.not_le.mpr f.a)]; exact wpAny_pure q
theorem gives_big (i : Int) (t : Tok) (st : Stat K) (f : Fig i) : GivesAt (fun s => K.In s.heap) (Builtin.«int.__repr__» ⟨[.int i t], []⟩) (.str (toString i)) := by
  intro prog w A R s X h
  unfold Builtin.«int.__repr__»
  show wpAny _ _ (do let r ← Builtin.overDigitLimit? i; _) _ _ _
  refine wpAny_bind (over_run X st f ?_)
  exact (Gives.of_eq rfl : Gives _ (.str (toString i))) prog w A R s h
theorem reprObj_big {i : Int} {t : Tok} {Q : Value → Shared → Prop} (X : K.In s.heap) (st : Stat K) (f : Fig i) (hu : A.units < cLine) (h : Q (.str (toString i) s.toks) { s with toks := s.toks + 1 }) : wpAny (model prog w) A (pyReprObj (.int i t)) Q E s :=
  wpAny_pyReprObj_slot hu (typeIs_int s i t) F.slot_int_repr.toG (call_givesAt F.slot_int_repr (typeIs_int s i t) F.entry_int_repr (F.args_int_repr_1 _) (gives_big i t st f) X ⟨int_text_fits10 f.a, _, _, rfl, h⟩)
theorem reprK_big {as : List Addr} {h₀ : Heap} {d : Nat} {i : Int} {t : Tok} (X : K.In h₀) (st : Stat K) (f : Fig i) : ReprK prog w as h₀ d (.int i t) (toString i) := fun base hb A g E s Q hg hcl hu hk hQ => by
  have hn' : base ≤ sizeLine := by omega
  rw [pyReprUnder_leaf (v := .int i t) hn' (fun _ e => nomatch e)]
  unfold pyRepr
  exact wpAny_bind (reprObj_big (X.keeps hk) st f (by omega) (wpAny_pure (hQ s.heap _ fun _ _ e => e)))
end
/-! ### what is shown -/
/-- plain: no place in the heap -/
def plD : V → Option PyData
  | .non => some .none
  | .bl b => some (.bool b)
  | .int i => some (.int i)
  | .str x => some (.str x)
  | _ => none
def keyD : Key → PyData
  | .inl i => .int i
  | .inr x => .str x
inductive PlKv : List (Key × V) → List (PyData × PyData) → Prop where
  | nil : PlKv [] []
  | cons {k : Key} {v : V} {d : PyData} {kv : List (Key × V)} {kds : List (PyData × PyData)} : plD v = some d → PlKv kv kds → PlKv ((k, v) :: kv) ((keyD k, d) :: kds)
theorem plD_reads {h : Heap} {v : V} {d : PyData} {u : Value} (e : plD v = some d) (r : RelV v u) : Reads h u d [] := by
  cases v with
  | non => cases e; cases (show u = Value.none from r); exact .none
  | bl b => cases e; cases (show u = Value.bool b from r); exact .bool b
  | int i => cases e; obtain ⟨t, rfl⟩ := (show ∃ t, u = Value.int i t from r); exact .int i t
  | str x => cases e; obtain ⟨t, rfl⟩ := (show ∃ t, u = Value.str x t from r); exact .str x t
  | _ => cases e
theorem plKv_reads {P : Program} {w : World} {h : Heap} : ∀ {kv : List (Key × V)} {kds : List (PyData × PyData)} {vs : List (Key × Value)} {es : List DictEntry}, PlKv kv kds → KV kv vs → Pairs (mixKind P w) es vs →
    ReadsAll h (es.map (·.key)) (kds.map (·.1)) [] ∧ ReadsAll h (es.map (·.val)) (kds.map (·.2)) []
  | _, _, _, _, .nil, .nil, .nil => ⟨.nil, .nil⟩
  | _, _, _, _, .cons (k := k) e p, .cons ⟨e1, r⟩ q, .cons hk hv rest => by
    obtain ⟨h1, h2⟩ := plKv_reads p q rest
    refine ⟨?_, ?_⟩
    · refine ReadsAll.cons (as := []) (bs := []) ?_ h1
      dsimp only at e1
      rw [← e1] at hk
      rcases keyIs_shape hk with ⟨i, t, e2, e3⟩ | ⟨x, t, e2, e3⟩
      · show Reads h _ (keyD k) []
        rw [e2]; dsimp only; rw [e3]; exact .int i t
      · show Reads h _ (keyD k) []
        rw [e2]; dsimp only; rw [e3]; exact .str x t
    · refine ReadsAll.cons (as := []) (bs := []) ?_ h2
      dsimp only
      rw [hv]
      exact plD_reads e r
/-- data without dicts, a dict of plain pairs, a great number -/
inductive Tz (K : PySem.W.Frag) (H : Hp) : V → PyData → Prop where
  | dp {v : V} {d : PyData} (h : Dp K H v d) (s : d.showable = true) : Tz K H v d
  | dk {a : Addr} {kv : List (Key × V)} {kds : List (PyData × PyData)} (h : H a = some (.dK kv)) (p : PlKv kv kds) (s : (PyData.dict kds).showable = true) : Tz K H (.ref a) (.dict kds)
  | big {i : Int} (f : Fig i) : Tz K H (.int i) (.int i)
section
variable {X : Cx} {pins : List (Addr × Obj)} {σ : L2.St} {H : Hp} {s : Shared}
theorem Tz.shows (I : Inv X pins σ H s) (st : Stat X.K) {v : V} {d : PyData} {u : Value} (h : Tz X.K H v d) (r : RelV v u) (hz : d.shown.length ≤ sizeLine) (hd : d.depth ≤ 50) :
    ∃ bs, ReadAtMost s.heap d.depth bs ∧ ReprK X.prog X.w bs s.heap 50 u d.shown := by
  cases h with
  | dp h sw =>
    obtain ⟨as, q⟩ := Dp.reads I d v u h r
    obtain ⟨bs, h1, h2⟩ := ReprK.of_reads (prog := X.prog) (w := X.w) q sw (PyData.noDict_hsm (dp_noDict d v h)) hz
    exact ⟨bs, h1, h2.level_le hd⟩
  | @dk a kv kds h p sw =>
    cases (show u = Value.ref a from r)
    obtain ⟨_, ns, vs, kv', o, es, ep, e1, e2, e3, _, e5, _⟩ := dk_of I.hok h
    obtain ⟨r1, r2⟩ := plKv_reads (h := s.heap) p kv' e5
    have q : Reads s.heap (.ref a) (.dict kds) ([a] ++ [] ++ []) := Reads.dict (as := []) (bs := []) e1 e2.1 e3 r1 r2
    obtain ⟨bs, h1, h2⟩ := ReprK.of_reads (prog := X.prog) (w := X.w) q sw (fun _ hm => by
      have z : sysModules = a := by simpa using hm
      rw [z] at ns
      simp at ns) hz
    exact ⟨bs, h1, h2.level_le hd⟩
  | @big i f =>
    obtain ⟨t, rfl⟩ := (show ∃ t, u = Value.int i t from r)
    exact ⟨[], fun _ h => (nomatch h), by simp only [PyData.shown]; exact reprK_big I.kIn st f⟩
/-- repr((text, thing)) -/
def rReprZ (K : PySem.W.Frag) : List V → Hp → VK → Prop := fun xs H Q => ∃ (p : Addr) (t : Str) (v : V) (d : PyData), xs = [.ref p] ∧ SqT K H p [.str t, v] ∧ Tz K H v d ∧ (PyData.tuple [.str t, d]).shown.length ≤ sizeLine ∧ d.depth ≤ 30 ∧ Q (.str (PyData.tuple [.str t, d]).shown) H
theorem call_reprZ {k : Nat} (st : Stat X.K) (c : Clr X.A) (hr : Room k X.A) : CallR X (.builtin "repr") (rReprZ X.K) := by
  intro pins s σ H xs us Q I r h
  obtain ⟨p, t, v, d, rfl, hs, hq, sw, dp, q⟩ := h
  cases r with
  | cons r1 r2 =>
    cases r2
    rename_i u
    cases (show u = Value.ref p from r1)
    obtain ⟨its, rv, ⟨o, ho, hc, n, hd⟩, _⟩ := I.tuple hs
    obtain ⟨u1, u2, rfl, q1, q2⟩ := vals2 rv
    obtain ⟨tk, rfl⟩ := (show ∃ tk, u1 = Value.str t tk from q1)
    have un := hr.units
    have sz := sw
    rw [show (PyData.tuple [.str t, d]).shown = tupleText [reprText t, d.shown] by simp [PyData.shown, PyData.shownAll]] at sz q
    have z1 := Nat.le_trans (tupleText_mem_le (ts := [reprText t, d.shown]) (t := reprText t) (by simp)) sz
    have z2 := Nat.le_trans (tupleText_mem_le (ts := [reprText t, d.shown]) (t := d.shown) (by simp)) sz
    obtain ⟨bs, hb, rk⟩ := hq.shows I st q2 z2 (by omega)
    have hall : ReprAllK X.prog X.w bs s.heap 50 [.str t tk, u2] [reprText t, d.shown] := .cons (ReprK.of_is (ReprIs.str t tk z1) _ _ _) (.cons rk .nil)
    have hna : p ∉ bs := fun hm => by
      obtain ⟨d', as', r', hd'⟩ := hb p hm
      cases r' with
      | list h1 h2 h3 h4 => rw [ho] at h1; cases h1; rw [hc] at h2; exact absurd (Value.type.inj h2) (by decide)
      | dict h1 h2 h3 h4 h5 => rw [ho] at h1; cases h1; rw [hc] at h2; exact absurd (Value.type.inj h2) (by decide)
      | @tuple a' o' vs' n' xs' as' h1 h2 h3 h4 =>
        rw [ho] at h1; cases h1
        rw [hd] at h3; cases h3
        cases h4 with
        | cons ra rb =>
          cases rb with
          | cons rc rd =>
            cases rd
            have e9 : ∃ dd aa, Reads s.heap u2 dd aa ∧ dd.depth < d.depth := ⟨_, _, rc, by
              simp only [PyData.depth, PyData.depthAll] at hd'
              omega⟩
            obtain ⟨dd, aa, e10, e11⟩ := e9
            cases hq with
            | dp h _ =>
              obtain ⟨as, q9⟩ := Dp.reads I d v u2 h q2
              have := (PyProof.Rows.reads_det (fun _ _ e _ => e) q9 e10).1
              rw [this] at e11; omega
            | dk h p _ =>
              cases (show u2 = Value.ref _ from q2)
              obtain ⟨_, ns, vs, kv', o, es, ep, e1, e2, e3, _, e5, _⟩ := dk_of I.hok h
              obtain ⟨r1, r2⟩ := plKv_reads (h := s.heap) p kv' e5
              have q9 := Reads.dict (as := []) (bs := []) e1 e2.1 e3 r1 r2
              have := (PyProof.Rows.reads_det (fun _ _ e _ => e) q9 e10).1
              rw [this] at e11; omega
            | big f => simp only [PyData.depth] at e11; omega
    refine call_repr_slot (by omega) ⟨o, ho, hc⟩ F.slot_tuple_repr ?_
    exact call_tuple_reprK ho hc hd hna hall c (fun b _ => Clear.nil b) (by show X.A.units + 1 + (50 + 1) < cLine; omega) (fun _ _ e => e) (fun h' t2 tk2 kp => ⟨_, _, rfl, ⟨.str _, H, I.kept kp, ⟨t2, rfl⟩, q⟩⟩) sz
end
theorem rd_reprZ {K : PySem.W.Frag} {H H0 : Hp} {M : List Addr} {L : Led} {Q : VK} {p : Addr} {t : Str} {v : V} {d : PyData} (S : Hs H0 M H L) (m : (p, HO.tup [.str t, v]) ∈ L) (h : Tz K H v d) (sw : (PyData.tuple [.str t, d]).shown.length ≤ sizeLine) (dp : d.depth ≤ 30)
    (k : Q (.str (PyData.tuple [.str t, d]).shown) H) : rReprZ K [.ref p] H Q := ⟨p, t, v, d, rfl, S.tup m, h, sw, dp, k⟩
end Xc
namespace Xc
open PySem PySem.Spec PySem.Calls PyProof.Rows L2 Rs
/-! ### truths counted, truths as numbers -/
def rCntB (K : PySem.W.Frag) : V → List V → Hp → VK → Prop := fun x xs H Q => ∃ (p : Addr) (bs : List Bool) (k : Bool), x = .ref p ∧ xs = [.bl k] ∧ SqL K H p (bs.map V.bl) ∧ Q (.int (PySem.Spec.countIn (.bool k) (bs.map PyData.bool))) H
def b01 (b : Bool) : Int := if b = true then 1 else 0
section
variable {X : Cx}
theorem bools_read {h : Heap} : ∀ {bs : List Bool} {vs : List Value}, Vals (bs.map V.bl) vs → ReadsAll h vs (bs.map PyData.bool) []
  | [], _, .nil => .nil
  | b :: bs, _, .cons r q => by
    rename_i u vs
    cases (show u = Value.bool b from r)
    exact ReadsAll.cons (as := []) (bs := []) (.bool b) (bools_read q)
theorem mt_bcount : MtR X "list.count" (rCntB X.K) := by
  intro pins s σ H x xs v us Q I rx rxs h
  obtain ⟨p, bs, k, rfl, rfl, hs, q⟩ := h
  cases rx
  obtain ⟨u, rfl, ru⟩ := rxs.one
  cases (show u = Value.bool k from ru)
  obtain ⟨its, rv, ⟨o, n, ho, hc, hdn, hd⟩, hlen⟩ := I.list hs
  exact count_list_bools (hp := s.heap) ⟨o, ho, hc, n, hd⟩ (bools_read rv) (by simp [Shape.has]) ⟨.int _, H, I.tok _, ⟨_, rfl⟩, q⟩
def rBI (f : Int → Int → Int) : R2 := fun x y H Q => ∃ (b : Bool) (i : Int), x = .bl b ∧ y = .int i ∧ Q (.int (f (b01 b) i)) H
def rIB (f : Int → Int → Int) : R2 := fun x y H Q => ∃ (i : Int) (b : Bool), x = .int i ∧ y = .bl b ∧ Q (.int (f i (b01 b))) H
theorem op_addBI : OpR X (binaryOp .Add) (rBI (· + ·)) := by
  intro pins s σ H x y v u Q I rx ry h
  obtain ⟨b, i, rfl, rfl, q⟩ := h
  cases (show v = Value.bool b from rx)
  obtain ⟨t, rfl⟩ := (show ∃ t, u = Value.int i t from ry)
  exact PySem.IntBool.add_bool_int ⟨.int _, H, I.tok _, ⟨_, rfl⟩, q⟩
theorem op_mulIB : OpR X (binaryOp .Mult) (rIB (· * ·)) := by
  intro pins s σ H x y v u Q I rx ry h
  obtain ⟨i, b, rfl, rfl, q⟩ := h
  obtain ⟨t, rfl⟩ := (show ∃ t, v = Value.int i t from rx)
  cases (show u = Value.bool b from ry)
  exact PySem.IntBool.mul_int_bool ⟨.int _, H, I.tok _, ⟨_, rfl⟩, q⟩
end
section
variable {H H0 : Hp} {M : List Addr} {L : Led} {Q : VK} {a : Addr} {K : PySem.W.Frag} {σ : L2.St}
theorem rd_cntB {xs : List V} {bs : List Bool} {k : Bool} (S : Hs H0 M H L) (m : (a, HO.lst xs) ∈ L) (e : xs = bs.map V.bl) (h : Q (.int (PySem.Spec.countIn (.bool k) (bs.map PyData.bool))) H) : rCntB K (.ref a) [.bl k] H Q := by
  subst e
  exact ⟨a, bs, k, rfl, rfl, S.lst m, h⟩
theorem rd_bi2 {f : Int → Int → Int} {b : Bool} {i : Int} (h : Q (.int (f (b01 b) i)) H) : rBI f (.bl b) (.int i) H Q := ⟨b, i, rfl, rfl, h⟩
theorem rd_ib2 {f : Int → Int → Int} {b : Bool} {i : Int} (h : Q (.int (f i (b01 b))) H) : rIB f (.int i) (.bl b) H Q := ⟨i, b, rfl, rfl, h⟩
theorem rd_divB {i j : Int} {b : Nat} (hj : 0 < j) (hb : j.natAbs < 2 ^ b) (h0 : 0 < b) (h9 : b ≤ 9000) (h : Q (.int (i / j)) H) : rI CDivW (fun i j => .int (i / j)) (.int i) (.int j) H Q :=
  ⟨i, j, rfl, rfl, wide_div (b := b) hj hb h0 h9, h⟩
theorem rd_mulB {i j : Int} {a b : Nat} (ha : i.natAbs < 2 ^ a) (hb : j.natAbs < 2 ^ b) (h0 : 0 < a) (h1 : 0 < b) (h9 : a + b ≤ 1000000) (h : Q (.int (i * j)) H) : rI CMulW (fun i j => .int (i * j)) (.int i) (.int j) H Q :=
  ⟨i, j, rfl, rfl, wide_mul ha hb h0 h1 h9, h⟩
theorem rd_isBl {a b : Bool} (h : Q (.bl (decide (a = b))) H) : rIsB (.bl a) (.bl b) H Q := ⟨a, b, rfl, rfl, h⟩
theorem rd_notBl {a b : Bool} (h : Q (.bl (!decide (a = b))) H) : rNotB (.bl a) (.bl b) H Q := ⟨a, b, rfl, rfl, h⟩
/-- a ledger begun anew behind what leaves all but tables -/
theorem Hs.anew {H' : Hp} (S : Hs H0 M H L) (k : ∀ b o, H b = some o → (∀ ps, o ≠ .tbl ps) → H' b = some o) (nt : ∀ q ∈ L, ∀ ps, q.2 ≠ .tbl ps) : Hs H' (L.map (·.1)) H' L :=
  Rs.Hs.start H' _ L S.nd (fun q hq => k _ _ (S.is q hq) (nt q hq)) fun b hb z => by
    obtain ⟨q, hq, rfl⟩ := List.mem_map.mp hb
    rw [k _ _ (S.is q hq) (nt q hq)] at z
    cases z
end
end Xc

/-! Xc8: ledgers over all but tables; comprehensions whose steps change tables -/
namespace Xc
open PySem PySem.Spec PySem.Calls PyProof.Rows L2 Rs
/-- the heap less its tables -/
def noT (H : Hp) : Hp := fun b => match H b with | some (.tbl _) => none | o => o
theorem noT_some {H : Hp} {b : Addr} {o : HO} (e : H b = some o) (n : ∀ ps, o ≠ .tbl ps) : noT H b = some o := by
  unfold noT
  rw [e]
  cases o <;> first | rfl | exact absurd rfl (n _)
theorem noT_of {H : Hp} {b : Addr} {o : HO} (e : noT H b = some o) : H b = some o ∧ ∀ ps, o ≠ .tbl ps := by
  unfold noT at e
  split at e
  · cases e
  · rename_i h
    exact ⟨e, fun ps z => h ps (by rw [e, z])⟩
theorem noT_none {H : Hp} {b : Addr} (e : H b = none) : noT H b = none := by
  unfold noT
  rw [e]
section
variable {H H0 H1 H2 : Hp} {M : List Addr} {L : Led} {Q : VK} {K : PySem.W.Frag} {σ : L2.St}
theorem Hs.noT0 (H : Hp) : Hs (noT H) [] H [] := ⟨List.nodup_nil, fun q hq => (nomatch hq), fun b u e _ => (noT_of e).1, fun b hb => nomatch hb⟩
theorem Hs.begin (L : Led) (nd : (L.map (·.1)).Nodup) (is : ∀ q ∈ L, H q.1 = some q.2) : Hs (noT H) (L.map (·.1)) H L :=
  ⟨nd, is, fun b u e _ => (noT_of e).1, fun b hb z => by
    obtain ⟨q, hq, rfl⟩ := List.mem_map.mp hb
    rw [is q hq] at z
    cases z⟩
theorem Hs.extN (S : Hs (noT H0) M H1 L) (e : LamX.ExtN H1 H2) (nt : ∀ q ∈ L, ∀ ps, q.2 ≠ .tbl ps) (m : ∀ b ∈ M, b ∈ L.map (·.1)) : Hs (noT H0) M H2 L :=
  ⟨S.nd, fun q hq => e _ _ (S.is q hq) (nt q hq), fun b u eb hm => e _ _ (S.old b u eb hm) (noT_of eb).2, fun b hb z => by
    obtain ⟨q, hq, rfl⟩ := List.mem_map.mp (m b hb)
    rw [e _ _ (S.is q hq) (nt q hq)] at z
    cases z⟩
theorem Hs.toN (S : Hs (noT H0) [] H1 L) : LamX.ExtN H0 H1 := fun b o e n => S.old b o (noT_some e n) (fun z => nomatch z)
/-- what holds of the heap whatever lists are made or written -/
structure Lsts (J : Hp → Prop) : Prop where
  nw : ∀ H D, J H → H D = none → J (upd H D (.lst []))
  up : ∀ H D xs ys, J H → H D = some (.lst xs) → J (upd H D (.lst ys))
theorem tabs_upd {TT : List (Addr × Str)} {H : Hp} {D : Addr} {xs ys : List V} (h : LamX.Tabs TT H) (e : H D = some (.lst xs)) : LamX.Tabs TT (upd H D (.lst ys)) := fun p hp => by
  obtain ⟨ps, h1, h2, h3⟩ := h p hp
  have ne : ∀ b o, H b = some o → (∀ xs, o ≠ .lst xs) → upd H D (.lst ys) b = some o := fun b o eb n => by
    rw [upd_ne (fun z => n xs (by rw [z, e] at eb; exact (Option.some.inj eb).symm))]
    exact eb
  refine ⟨ps, ne _ _ h1 (fun _ z => by cases z), h2, fun pos cv hc => ?_⟩
  obtain ⟨c, e1, e2⟩ := h3 pos cv hc
  exact ⟨c, e1, ne _ _ e2 (fun _ z => by unfold LamX.CodeO at z; cases z)⟩
theorem lsts_tabs (TT : List (Addr × Str)) : Lsts (LamX.Tabs TT) :=
  ⟨fun H D h e => h.ext fun b u eb => by rw [upd_ne (ne_of_none eb e)]; exact eb, fun H D xs ys h e => tabs_upd h e⟩
def lcSkipJ (J : Hp → Prop) (H0 : Hp) (M : List Addr) (L : Led) (R1 : List V → Prop) (D : Addr) (H : Hp) : Prop := J H ∧ lcSkip H0 M L R1 D H
def lcPutJ (J : Hp → Prop) (H0 : Hp) (M : List Addr) (L : Led) (R1 : List V → Prop) (D : Addr) (y : V) (H : Hp) : Prop := ∃ acc, H D = some (.lst acc) ∧ acc.length < sizeLine ∧ lcSkipJ J H0 M L R1 D (upd H D (.lst (acc ++ [y])))
theorem rd_lcPutJ {J : Hp → Prop} {D : Addr} {y : V} {acc : List V} {L2 L3 : Led} {R1 : List V → Prop} (l : Lsts J) (j : J H) (S : Hs H0 M H L2) (c : Chg D (.lst acc) (.lst (acc ++ [y])) L2 L3) (n : H0 D = none) (hl : acc.length < sizeLine) (sub : ((D, HO.lst (acc ++ [y])) :: L).Sublist L3) (r : R1 (acc ++ [y])) : lcPutJ J H0 M L R1 D y H :=
  ⟨acc, S.is _ c.mem, hl, l.up _ _ _ _ j (S.is _ c.mem), n, _, r, (S.put c (Or.inl n)).sub sub⟩
theorem lcwj_list {J : Hp → Prop} {g : TG} {tt : TT} {te : TE} {a : Addr} {xs : List V} {vs : List Nat} (l : Lsts J) (j : J H) (S : Hs H0 M H L) (R : Nat → List V → Prop) (r0 : R 0 []) (hl : ∀ H' acc D, Hs H0 M H' ((D, .lst acc) :: L) → SqL K H' a xs)
    (hs : ∀ D i x acc H', xs[i]? = some x → R i acc → H0 D = none → J H' → Hs H0 M H' ((D, .lst acc) :: L) → g x (wipe σ vs) H' fun σ2 H2 => wipe σ2 vs = wipe σ vs ∧ tt σ2 H2 fun b H3 => if b = true then te σ2 H3 fun y H4 => lcPutJ J H0 M L (R (i + 1)) D y H4 else lcSkipJ J H0 M L (R (i + 1)) D H3)
    (hd : ∀ D acc H', R xs.length acc → H0 D = none → J H' → Hs H0 M H' ((D, .lst acc) :: L) → Q (.ref D) H') : lcW (Itl K a) g tt te vs σ H Q := by
  intro D hD
  have S1 := S.new hD (.lst [])
  refine lc_list (xs := xs) (fun i H' => lcSkipJ J H0 M L (R i) D H') ⟨l.nw _ _ j hD, S1.1, [], r0, S1.2⟩ (fun i H' _ ⟨_, _, acc, _, S'⟩ => hl H' acc D S') ?_ ?_
  · rintro i x H' hi ⟨j', n0, acc, r, S'⟩
    exact hs D i x acc H' hi r n0 j' S'
  · rintro H' ⟨j', n0, acc, r, S'⟩
    exact hd D acc H' r n0 j' S'
theorem lcwj_tup {J : Hp → Prop} {g : TG} {tt : TT} {te : TE} {a : Addr} {xs : List V} {vs : List Nat} (l : Lsts J) (j : J H) (S : Hs H0 M H L) (R : Nat → List V → Prop) (r0 : R 0 []) (hl : ∀ H' acc D, Hs H0 M H' ((D, .lst acc) :: L) → SqT K H' a xs)
    (hs : ∀ D i x acc H', xs[i]? = some x → R i acc → H0 D = none → J H' → Hs H0 M H' ((D, .lst acc) :: L) → g x (wipe σ vs) H' fun σ2 H2 => wipe σ2 vs = wipe σ vs ∧ tt σ2 H2 fun b H3 => if b = true then te σ2 H3 fun y H4 => lcPutJ J H0 M L (R (i + 1)) D y H4 else lcSkipJ J H0 M L (R (i + 1)) D H3)
    (hd : ∀ D acc H', R xs.length acc → H0 D = none → J H' → Hs H0 M H' ((D, .lst acc) :: L) → Q (.ref D) H') : lcW (Itt K a) g tt te vs σ H Q := by
  intro D hD
  have S1 := S.new hD (.lst [])
  refine lc_tup (xs := xs) (fun i H' => lcSkipJ J H0 M L (R i) D H') ⟨l.nw _ _ j hD, S1.1, [], r0, S1.2⟩ (fun i H' _ ⟨_, _, acc, _, S'⟩ => hl H' acc D S') ?_ ?_
  · rintro i x H' hi ⟨j', n0, acc, r, S'⟩
    exact hs D i x acc H' hi r n0 j' S'
  · rintro H' ⟨j', n0, acc, r, S'⟩
    exact hd D acc H' r n0 j' S'
theorem Hs.toT (S : Hs H0 M H L) : Hs (noT H0) M H L := ⟨S.nd, S.is, fun b o e hm => S.old b o (noT_of e).1 hm, S.mu⟩
/-- the heap less its tables, with the tables and the code objects that stand at H3 -/
def rb (H0 H3 : Hp) : Hp := fun b => match H3 b with | some (.tbl ps) => some (.tbl ps) | some (.ext r) => some (.ext r) | _ => noT H0 b
def MLst (M : List Addr) (H : Hp) : Prop := ∀ b ∈ M, ∃ xs, H b = some (.lst xs)
theorem Hs.toR {H3 : Hp} (S : Hs (noT H0) M H3 L) : Hs (rb H0 H3) M H3 L := by
  refine ⟨S.nd, S.is, fun b o e hm => ?_, S.mu⟩
  unfold rb at e
  split at e
  · rename_i h; rw [h]; exact e
  · rename_i h; rw [h]; exact e
  · exact S.old b o e hm
theorem Hs.ofR {H3 H' : Hp} {L' : Led} (S : Hs (noT H0) M H3 L) (S' : Hs (rb H0 H3) M H' L') : Hs (noT H0) M H' L' := by
  refine ⟨S'.nd, S'.is, fun b o e hm => S'.old b o ?_ hm, S'.mu⟩
  have h3 := S.old b o e hm
  unfold rb
  rw [h3]
  split
  · rename_i h; exact h.symm
  · rename_i h; exact h.symm
  · exact e
theorem Hs.tabR {H3 H' : Hp} {L' : Led} {TT : List (Addr × Str)} (S' : Hs (rb H0 H3) M H' L') (m : MLst M H3) (t : LamX.Tabs TT H3) : LamX.Tabs TT H' := fun p hp => by
  obtain ⟨ps, h1, h2, h3⟩ := t p hp
  have nm : ∀ b o, H3 b = some o → (∀ xs, o ≠ .lst xs) → b ∉ M := fun b o e n hm => by
    obtain ⟨xs, z⟩ := m b hm
    rw [e] at z
    exact n xs (Option.some.inj z)
  refine ⟨ps, S'.old _ _ (by unfold rb; rw [h1]) (nm _ _ h1 (fun _ z => by cases z)), h2, fun pos cv hc => ?_⟩
  obtain ⟨c, e1, e2⟩ := h3 pos cv hc
  exact ⟨c, e1, S'.old _ _ (by unfold rb; rw [e2]; rfl) (nm _ _ e2 (fun _ z => by unfold LamX.CodeO at z; cases z))⟩
theorem rb_none {H3 : Hp} {a : Addr} {o : HO} (h : noT H0 a = none) (e : H3 a = some o) (n1 : ∀ ps, o ≠ .tbl ps) (n2 : ∀ r, o ≠ .ext r) : rb H0 H3 a = none := by
  unfold rb
  rw [e]
  split
  · rename_i z; exact absurd (Option.some.inj z) (n1 _)
  · rename_i z; exact absurd (Option.some.inj z) (n2 _)
  · exact h
end
end Xc
namespace Xc
open PySem PySem.Spec PySem.Calls PyProof.Rows L2 Rs
/-- a + b of lists, handed in ones too -/
def rCatL (K : PySem.W.Frag) : R2 := fun x y H Q => ∃ l b xs zs, x = .ref l ∧ y = .ref b ∧ SqL K H l xs ∧ SqL K H b zs ∧ xs.length + zs.length ≤ sizeLine ∧ ∀ p, H p = none → Q (.ref p) (upd H p (.lst (xs ++ zs)))
theorem op_catL {X : Cx} : OpR X (binaryOp .Add) (rCatL X.K) := by
  intro pins s σ H x y v u Q I rx ry h
  obtain ⟨l, b, xs, zs, rfl, rfl, hl, hb, hz, q⟩ := h
  cases (show v = Value.ref l from rx)
  cases (show u = Value.ref b from ry)
  obtain ⟨its, r1, ⟨⟨cls, dd, data, sl⟩, n, ho, hc, hdn, hd⟩, _⟩ := I.list hl
  obtain ⟨its2, r2, ⟨⟨cls2, dd2, data2, sl2⟩, n2, ho2, hc2, hdn2, hd2⟩, _⟩ := I.list hb
  simp only at hc hd hc2 hd2
  subst hc hd hc2 hd2
  have e : its.toArray ++ its2.toArray = (its ++ its2).toArray := by simp
  refine concat_meets ⟨_, ho, rfl⟩ ⟨_, ho2, rfl⟩ noFill_list_add seq_list_add PySem.F.slot_list_add PySem.F.entry_list_add (PySem.F.args_list_add_2 _ _) (list_addW l b its.toArray its2.toArray n n2 dd dd2 sl sl2 (by rw [List.size_toArray, List.size_toArray, ← r1.length, ← r2.length]; exact hz)) ⟨ho, ho2, ?_⟩
  rw [e]
  exact ⟨.ref _, _, I.lnew (t' := s.toks) (r1.append r2) (by rw [List.length_append]; omega), rfl, q _ I.fresh⟩
end Xc

/-! Xe2: exceptions as objects of the ledger: made, looked at, their fields; S.__init__(self, ..) of an own class S -/
namespace Xc
open PySem PySem.Spec PySem.Calls PyProof.Rows L2 Rs ClX
/-- an exception of the class at C, its fields (none: nothing was stored) -/
def ExcAt (H : Hp) (a C : Addr) (o : Option (Addr × List (Str × V))) : Prop := match o with
  | none => H a = some (exo a C none)
  | some (dx, fs) => H a = some (exo a C (some dx)) ∧ H dx = some (exd dx fs)
section
variable {X : Cx} {pins : List (Addr × Obj)} {σ : L2.St} {H : Hp} {s : Shared} {a C dx : Addr} {fs : List (Str × V)}
theorem excAt_inst0 (I : Inv X pins σ H s) (h : H a = some (exo a C none)) : ∃ oe : Obj, PySem.W.InstAt s.heap a oe C none := by
  obtain ⟨t, e⟩ := exo_at I.hok h
  exact ⟨_, e, rfl, rfl, trivial⟩
theorem excAt_inst1 (I : Inv X pins σ H s) (h : H a = some (exo a C (some dx))) (hd : H dx = some (exd dx fs)) : ∃ (oe od : Obj) (mA : Str → Option Value), PySem.W.InstAt s.heap a oe C (some od) ∧ (∀ f, RelO (fs.lookup f) (mA f)) ∧ ∀ n : Str, PySem.W.lookIn n od = some (mA n) := by
  obtain ⟨t, e⟩ := exo_at I.hok h
  obtain ⟨mA, hns, hr⟩ := exd_at I.hok hd
  obtain ⟨od, ho, hl⟩ := lookIn_ns hns
  exact ⟨_, od, mA, ⟨e, rfl, rfl, ho⟩, hr, hl⟩
/-- isinstance(e, c) -/
def rIsE (K : PySem.W.Frag) : List V → Hp → VK → Prop := fun xs H Q => ∃ (a C : Addr) (o : Option (Addr × List (Str × V))) (c : V) (u : Value) (b : Bool), xs = [.ref a, c] ∧ ClsV c u ∧ Lk K C ∧ ExcAt H a C o ∧ PySem.W.kitOne K (.ref C) u = some b ∧ Q (.bl b) H
theorem call_isE : CallR X (.builtin "isinstance") (rIsE X.K) := by
  intro pins s σ H xs us Q I r h
  obtain ⟨a, C, o, c, u, b, rfl, k, l, hh, e, q⟩ := h
  obtain ⟨u1, u2, rfl, r1, r2⟩ := vals2 r
  have e2 := k.eq r2
  subst e2
  cases (show u1 = Value.ref a from r1)
  cases o with
  | none =>
    obtain ⟨oe, J⟩ := excAt_inst0 I hh
    exact PySem.W.kia_one (PySem.W.kitx_exc l.cl l.ga l.gg l.bx l.ha l.hn l.ht l.hm) I.kIn J e (fun z => nomatch z) fun tk => ⟨.bl b, H, I.tok tk, rfl, q⟩
  | some p =>
    obtain ⟨oe, od, mA, J, _, _⟩ := excAt_inst1 I hh.1 hh.2
    exact PySem.W.kia_one (PySem.W.kitx_exc l.cl l.ga l.gg l.bx l.ha l.hn l.ht l.hm) I.kIn J e (fun z => nomatch z) fun tk => ⟨.bl b, H, I.tok tk, rfl, q⟩
/-- e.f -/
def tXe (K : PySem.W.Frag) (f : Str) (te : TE) : TE := fun σ H Q => te σ H fun x H1 => ∃ (a C dx : Addr) (fs : List (Str × V)) (v : V), x = .ref a ∧ Lk K C ∧ PySem.W.findIn K (.ref C) f = some none ∧ ExcAt H1 a C (some (dx, fs)) ∧ fs.lookup f = some v ∧ Q v H1
theorem pe_xe {e : Expr} {te : TE} {pos : Pos} {n : Str} (he : PE X e te) (hb : attributeBase e n X.env (eval e X.env) = eval e X.env := by rfl) : PE X (.Attribute e n pos) (tXe X.K n te) := by
  refine ⟨fun pins s σ H Q I h => attr_of hb (thn (he.run pins s σ H _ I h) fun u s1 hh => ?_)⟩
  obtain ⟨x, H1, I1, rx, a, C, dx, fs, v, ex, l, hno, hd, lk, q⟩ := hh
  subst ex
  obtain rfl : u = Value.ref a := rx
  obtain ⟨oe, od, mA, J, hr, hl⟩ := excAt_inst1 I1 hd.1 hd.2
  obtain ⟨u2, hu, ru⟩ := RelO.some_of (v := v) (o := mA n) (by rw [← lk]; exact hr n)
  exact HandSPX.exc_get I1.kIn J l.ga l.gg l.bx (PySem.W.findObj_own l.hd hno rfl (by rw [hl, hu])) (handed_of ru) ⟨v, H1, I1.tok _, ru, q⟩
end
/-! ### made -/
/-- C(e, ..), C's own __init__ walked -/
def tMkX (C : Addr) (sp : Sp) (dvs : List V) (ta : TA) : TE := fun σ H Q => ta σ H fun vs H1 => vs.length ≤ 1000 ∧ ∀ a, H1 a = none → sp (.ref a :: (vs ++ dvs)) (upd H1 a (exo a C none)) (fun v H2 => v = .non ∧ Q (.ref a) H2) (fun _ _ _ => False)
/-- C(e, ..) of a class without __init__ -/
def tMk0 (C : Addr) (ta : TA) : TE := fun σ H Q => ta σ H fun vs H1 => vs.length ≤ 1000 ∧ ∀ a, H1 a = none → Q (.ref a) (upd H1 a (exo a C none))
section
variable {X : Cx} {e : Expr} {es : List Expr} {ta : TA} {p p1 p2 pos : Pos} {B newId initId : String} {bmB : List Value}
theorem pe_mkx {CX : CXT} {x : Str} {C fI : Addr} {k : Nat} {fd : FuncData} {ps : List Str} {sp : Sp} {ds : List Value} {dvs : List V} (T : Own X.K C B newId initId bmB) (iC : PySem.W.findIn X.K (.ref C) "__init__" = some (some (.ref fI))) (tI : PySem.W.typeIn X.K (.ref fI) = some (.type "function"))
    (F1 : FnOk X.prog X.w X.K X.mg X.base CX k fI fd ps sp) (hr : Room (k + 1) X.A) (hb : Binds X.K fd ps ds) (hd : Vals dvs ds) (hx : Passes CX X (fun _ _ _ => False)) (hg : Gl X x) (hm : X.mg x = some (.ref C)) (ha : PA X (e :: es) ta)
    (hdb : (x == ("__debug__" : Str)) = false := by decide) (he : starEach (e :: es) X.env = (false, eval e X.env) :: starEach es X.env := by rfl) (hp : (backTo pos (starEach es X.env)).any (·.1) = false := by rfl) :
    PE X (.Call (.Name x p) (e :: es) [] pos) (tMkX C sp dvs ta) := by
  refine ⟨fun pins s σ H Q I hh => ?_⟩
  refine wpAny_Call_Name_kw (ld_glob I hg hm ?_ hdb)
  refine PySem.W.callWith_K (h₀ := X.base) I.ok.mod.kin T.kpc (thn (ha.run pos pins s σ H _ I hh) fun us s1 ⟨vs, H1, I1, rv, hz, k1⟩ => ⟨I1.kIn, ?_⟩) he hp
  show wpAny _ _ (call (.ref C) us) _ _ _
  have hC := PySem.W.excInit_of I1.kIn T.ini
  obtain ⟨NB, fb⟩ := T.fb
  obtain ⟨hp1, gn, dr, tk, osS⟩ := s1
  have up1 : hp1.objs.size ≤ hp1.objs.size + 1 := Nat.le_succ _
  have body := k1 (hp1.objs.size + 1) (I1.hok.fresh up1)
  have kept : ∀ b o, hp1.get? b = some o → ((hp1.push (PySem.W.kdv_tup us)).push (PySem.HandSPX.excO C hp1.objs.size)).get? b = some o := fun b o q => Heap.get?_push_of_some _ (Heap.get?_push_of_some _ q)
  have there : ((hp1.push (PySem.W.kdv_tup us)).push (PySem.HandSPX.excO C hp1.objs.size)).get? (hp1.objs.size + 1) = some (PySem.HandSPX.excO C hp1.objs.size) := by heap_get
  have I2 : Inv X pins σ (upd H1 (hp1.objs.size + 1) (exo (hp1.objs.size + 1) C none)) ⟨(hp1.push (PySem.W.kdv_tup us)).push (PySem.HandSPX.excO C hp1.objs.size), gn, dr, tk, osS⟩ :=
    I1.laid (t' := tk) (a := hp1.objs.size + 1) (o := exo (hp1.objs.size + 1) C none) (h' := (hp1.push (PySem.W.kdv_tup us)).push (PySem.HandSPX.excO C hp1.objs.size)) kept up1 (exo_ok there)
  have rels : Vals (V.ref (hp1.objs.size + 1) :: (vs ++ dvs)) (Value.ref (hp1.objs.size + 1) :: (us ++ ds)) := .cons rfl (rv.append hd)
  have len1 : (Value.ref (hp1.objs.size + 1) :: us ++ ds).length = ps.length := (F1.len _ _ _ _ body).symm.trans rels.length |>.symm
  have lus : us.length ≤ sizeLine := by rw [← Paired.length rv, sizeLine_eq]; omega
  refine wpAny_call (xb_call fb hC (PySem.W.looks_findIn I1.kIn iC) (fun self => PySem.W.bind_fn I1.kIn self tI) lus
    (codeAny_mono (F1.run _ X.stack _ _ ⟨Value.ref (hp1.objs.size + 1) :: us, []⟩ (Value.ref (hp1.objs.size + 1) :: (us ++ ds)) _ _ (fun _ _ _ => False) (hr.make C us []) (I2.env0.make C us []) (hb _ (Value.ref (hp1.objs.size + 1) :: us) I2.kIn len1) rels body) fun r s2 z => ?_))
  cases r with
  | error er => exact hx pins σ _ _ er s2 I2 z
  | ok fl =>
    cases fl with
    | ret u =>
      obtain ⟨v, H', I3, rv3, ev, q3⟩ := I2.after z
      subst ev
      exact ⟨rv3, ⟨V.ref (hp1.objs.size + 1), H', I3, rfl, q3⟩⟩
    | next => exact False.elim z
    | brk => exact False.elim z
    | cont => exact False.elim z
/-- C('..') of a class without __init__ of its own -/
theorem pe_mk0 {x : Str} {C : Addr} (F : ExcBaseFacts B newId initId bmB) (q : PySem.W.excIn X.K C bmB newId = true) (hg : Gl X x) (hm : X.mg x = some (.ref C)) (kC : PySem.W.keepIn X.K (.ref C) = true) (ha : PA X (e :: es) ta)
    (hdb : (x == ("__debug__" : Str)) = false := by decide) (he : starEach (e :: es) X.env = (false, eval e X.env) :: starEach es X.env := by rfl) (hp : (backTo pos (starEach es X.env)).any (·.1) = false := by rfl) :
    PE X (.Call (.Name x p) (e :: es) [] pos) (tMk0 C ta) := by
  refine ⟨fun pins s σ H Q I hh => ?_⟩
  refine wpAny_Call_Name_kw (ld_glob I hg hm ?_ hdb)
  refine PySem.W.callWith_K (h₀ := X.base) I.ok.mod.kin kC (thn (ha.run pos pins s σ H _ I hh) fun us s1 ⟨vs, H1, I1, rv, hz, k1⟩ => ⟨I1.kIn, ?_⟩) he hp
  show wpAny _ _ (call (.ref C) us) _ _ _
  obtain ⟨bm, N, nm, qn, bs, hdct, sn, sub, ab, col, dd, y0, y1, y2, y3, y5, mN, hC, hN, hni, T⟩ := exc_obj I1.kIn q
  have lus : us.length ≤ sizeLine := by rw [← Paired.length rv, sizeLine_eq]; omega
  refine wpAny_call_exc_subT F T hC hN hni (fun h' z hm => ?_) lus
  have hn : H1 z = none := I1.hok.gone hm.new
  obtain ⟨t, ht, _, _⟩ := hm.there
  exact ⟨.ref z, _, I1.laidN hm.keeps hm.new hn (exo_ok ht), rfl, k1 z hn⟩
/-- S.__init__(self, ..) where S is an own class that has B's __init__ -/
theorem pe_binitS {n : Str} {pl : Sem Bool} {S C0 : Addr} {mc : Value} (_o : Own X.K C0 B newId initId bmB) (hg : Gl X n) (hm : X.mg n = some (.ref S)) (cr : CRead X.K S mc) (vV : PySem.W.findCls X.K (.ref S) mc "__init__" = some (.val (.builtin initId))) (hin : PySem.W.handedIn (.builtin initId) = true) (ha : PA X (e :: es) ta)
    (hc : eval (.Call (.Attribute (.Name n p1) "__init__" p2) (e :: es) [] pos) X.env = (do
      let ov ← eval (.Name n p1) X.env
      standAt p2.atName
      let (fn, fst) ← holding [ov] (getMethod ov "__init__" pl)
      callWith pos fn fst (backTo pos (starEach (e :: es) X.env)) (backToKw pos (keywordEach [] X.env))) := by rfl)
    (hdb : (n == ("__debug__" : Str)) = false := by decide) (he : starEach (e :: es) X.env = (false, eval e X.env) :: starEach es X.env := by rfl) (hp : (backTo pos (starEach es X.env)).any (·.1) = false := by rfl) :
    PE X (.Call (.Attribute (.Name n p1) "__init__" p2) (e :: es) [] pos) (tBI X.K B newId initId bmB ta) := by
  refine ⟨fun pins s σ H Q I k => PySem.W.methodCall_KW (ld_glob I hg hm ?_ hdb) hc⟩
  refine PySem.W.method_cls I.kIn cr.ga (PySem.W.cls_value I.kIn cr.rd vV hin ?_)
  show wpAny _ _ (callWith pos (Value.builtin initId) [] (backTo pos (starEach (e :: es) X.env)) []) _ _ _
  refine PyProof.Rows.callWith_method1 (thn (ha.run pos pins _ σ H _ (I.tok _) k) fun us s1 ⟨vs, H1, I1, rv, a, C, ws, ev, hl, T, ea, q⟩ => ?_) he hp
  subst ev
  cases rv with
  | @cons _ u1 _ ur rA rW =>
    obtain rfl : u1 = Value.ref a := rA
    exact binit T I1 ea (by rw [← Paired.length rW, sizeLine_eq]; omega) fun s2 J => ⟨.non, H1, J, rfl, q⟩
end
end Xc

/-! Xe3: text * number; repr of a list of things that may be dicts; comprehensions over zip; readings of Xe2 -/
namespace Xc
open PySem PySem.Spec PySem.Calls PyProof.Rows L2 Rs
/-! ### text * number -/
def rMulS : R2 := fun x y H Q => ∃ (t : Str) (n : Int), x = .str t ∧ y = .int n ∧ 0 ≤ n ∧ n ≤ 1000 ∧ t.length ≤ 1000 ∧ Q (.str (Txt.mul t n)) H
theorem op_mulS {X : Cx} : OpR X (binaryOp .Mult) rMulS := by
  intro pins s σ H x y v u Q I rx ry h
  obtain ⟨t, n, rfl, rfl, h0, h1, h2, q⟩ := h
  obtain ⟨a, rfl⟩ := (show ∃ a, v = Value.str t a from rx)
  obtain ⟨b, rfl⟩ := (show ∃ b, u = Value.int n b from ry)
  have hl : t.length * n.toNat ≤ 1000 * 1000 := Nat.mul_le_mul h2 (by omega)
  refine SB.mul (Q := EP X pins σ Q) ⟨by simp; omega, fun h3 _ => ?_, fun _ _ => ?_⟩ fun t' k => ⟨.str _, H, I.tok _, ⟨_, rfl⟩, q⟩
  · have h5 : (t.length : Int) ≤ (2 ^ 63 - 1) / n := by
      refine Int.le_ediv_of_mul_le (by omega) ?_
      have h6 : ((t.length * n.toNat : Nat) : Int) ≤ 1000 * 1000 := by omega
      rw [Int.natCast_mul, Int.toNat_of_nonneg h0] at h6
      omega
    omega
  · unfold Builtin.Str.tooLong
    simp
    rw [sizeLine_eq]
    omega
/-! ### repr of a list -/
inductive TzA (K : PySem.W.Frag) (H : Hp) : List V → List PyData → Prop where
  | nil : TzA K H [] []
  | cons {v : V} {d : PyData} {vs : List V} {ds : List PyData} : Tz K H v d → TzA K H vs ds → TzA K H (v :: vs) (d :: ds)
def rReprL (K : PySem.W.Frag) : List V → Hp → VK → Prop := fun xs H Q => ∃ (p : Addr) (vs : List V) (ds : List PyData), xs = [.ref p] ∧ SqL K H p vs ∧ TzA K H vs ds ∧ vs ≠ [] ∧ (PyData.list ds).shown.length ≤ sizeLine ∧ PyData.depthAll ds ≤ 30 ∧ Q (.str (PyData.list ds).shown) H
section
variable {X : Cx} {pins : List (Addr × Obj)} {σ : L2.St} {H : Hp} {s : Shared}
theorem Tz.reads (I : Inv X pins σ H s) {v : V} {d : PyData} {u : Value} (h : Tz X.K H v d) (r : RelV v u) : ∃ as, Reads s.heap u d as := by
  cases h with
  | dp h _ => exact Dp.reads I d v u h r
  | dk h p _ =>
    cases (show u = Value.ref _ from r)
    obtain ⟨_, ns, vs, kv', o, es, ep, e1, e2, e3, _, e5, _⟩ := dk_of I.hok h
    obtain ⟨r1, r2⟩ := plKv_reads (h := s.heap) p kv' e5
    exact ⟨_, Reads.dict (as := []) (bs := []) e1 e2.1 e3 r1 r2⟩
  | big f =>
    obtain ⟨t, rfl⟩ := (show ∃ t, u = Value.int _ t from r)
    exact ⟨_, .int _ t⟩
theorem TzA.reads (I : Inv X pins σ H s) : ∀ {vs : List V} {ds : List PyData} {us : List Value}, TzA X.K H vs ds → Vals vs us → ∃ as, ReadsAll s.heap us ds as
  | _, _, _, .nil, .nil => ⟨_, .nil⟩
  | _, _, _, .cons h t, .cons r q => by
    obtain ⟨a, h1⟩ := h.reads I r
    obtain ⟨b, h2⟩ := TzA.reads I t q
    exact ⟨_, .cons h1 h2⟩
theorem TzA.shows (I : Inv X pins σ H s) (st : Stat X.K) {n : Nat} (hn : n ≤ 50) : ∀ {vs : List V} {ds : List PyData} {us : List Value}, TzA X.K H vs ds → Vals vs us → (∀ d ∈ ds, d.shown.length ≤ sizeLine) → PyData.depthAll ds ≤ n →
    ∃ bs, ReadAtMost s.heap n bs ∧ ReprAllK X.prog X.w bs s.heap 50 us (PyData.shownAll ds)
  | _, _, _, .nil, .nil, _, _ => ⟨[], fun _ h => (nomatch h), by simp only [PyData.shownAll]; exact .nil⟩
  | _, _, _, .cons (d := d) h t, .cons r q, hz, hd => by
    simp only [PyData.depthAll] at hd
    obtain ⟨b1, m1, k1⟩ := h.shows I st r (hz d List.mem_cons_self) (by omega)
    obtain ⟨b2, m2, k2⟩ := TzA.shows I st hn t q (fun d hm => hz d (List.mem_cons_of_mem _ hm)) (by omega)
    refine ⟨b1 ++ b2, fun b hb => ?_, by
      simp only [PyData.shownAll]
      exact .cons (ReprK.more k1 fun b z => List.mem_append_left _ z) (k2.more_le (fun b z => List.mem_append_right _ z) (Nat.le_refl _))⟩
    rcases List.mem_append.mp hb with z | z
    · obtain ⟨d', as', r', hd'⟩ := m1 b z
      exact ⟨d', as', r', by omega⟩
    · exact m2 b z
theorem depth_of {ds : List PyData} : ∀ {d : PyData}, d ∈ ds → d.depth ≤ PyData.depthAll ds := by
  induction ds with
  | nil => intro d h; exact nomatch h
  | cons x xs ih =>
    intro d h
    simp only [PyData.depthAll]
    rcases List.mem_cons.mp h with rfl | h
    · omega
    · have := ih h
      omega
theorem shown_of {ds : List PyData} {d : PyData} (h : d ∈ ds) : d.shown ∈ PyData.shownAll ds := by
  induction ds with
  | nil => exact nomatch h
  | cons x xs ih =>
    simp only [PyData.shownAll]
    rcases List.mem_cons.mp h with rfl | h
    · exact List.mem_cons_self
    · exact List.mem_cons_of_mem _ (ih h)
theorem call_reprL {k : Nat} (st : Stat X.K) (c : Clr X.A) (hr : Room k X.A) : CallR X (.builtin "repr") (rReprL X.K) := by
  intro pins s σ H xs us Q I r h
  obtain ⟨p, vs, ds, rfl, hs, hq, hne, sw, dp, q⟩ := h
  cases r with
  | cons r1 r2 =>
    cases r2
    rename_i u
    cases (show u = Value.ref p from r1)
    obtain ⟨its, rv, ⟨o, n, ho, hc, hdn, hd⟩, hlen⟩ := I.list hs
    have un := hr.units
    obtain ⟨as, rd⟩ := hq.reads I rv
    have sz : ∀ d ∈ ds, d.shown.length ≤ sizeLine := fun d hm => by
      have z := listText_mem_le (ts := PyData.shownAll ds) (shown_of hm)
      simp only [PyData.shown] at sw
      omega
    obtain ⟨bs, hb, rk⟩ := hq.shows (n := PyData.depthAll ds) I st (by omega) rv sz (Nat.le_refl _)
    have own : Reads s.heap (.ref p) (.list ds) (p :: as) := Reads.list ho hc hd (by simpa using rd)
    have hna : p ∉ bs := fun hm => by
      obtain ⟨d', as', r', hd'⟩ := hb p hm
      have e := (PyProof.Rows.reads_det (fun _ _ e _ => e) own r').1
      rw [e] at hd'
      simp only [PyData.depth] at hd'
      omega
    cases its with
    | nil =>
      have := rv.length
      simp at this
      exact absurd this hne
    | cons y ys =>
      simp only [PyData.shown] at sw q
      refine call_repr_slot (by omega) ⟨o, ho, hc⟩ F.slot_list_repr.toG ?_
      exact call_list_reprK ho hc (by simpa using hd) hna (by rw [rk.length_eq]; simp) (fun i z e => rk.item i z (by simpa using e)) c (fun b _ => Clear.nil b) (by show X.A.units + 1 + (50 + 1) < cLine; omega) (fun _ _ e => e) (fun h' t2 tk2 kp => ⟨_, _, rfl, ⟨.str _, H, I.kept kp, ⟨t2, rfl⟩, q⟩⟩) sw
end
theorem rd_reprL {K : PySem.W.Frag} {H H0 : Hp} {M : List Addr} {L : Led} {Q : VK} {p : Addr} {vs : List V} {ds : List PyData} (S : Hs H0 M H L) (m : (p, HO.lst vs) ∈ L) (h : TzA K H vs ds) (ne : vs ≠ []) (sw : (PyData.list ds).shown.length ≤ sizeLine) (dp : PyData.depthAll ds ≤ 30)
    (k : Q (.str (PyData.list ds).shown) H) : rReprL K [.ref p] H Q := ⟨p, vs, ds, rfl, S.lst m, h, ne, sw, dp, k⟩
end Xc
namespace Xc
open PySem PySem.Spec PySem.Calls PyProof.Rows L2 Rs
/-- __init__ of n arguments that stores mk of them -/
def spIn (C : Addr) (n : Nat) (mk : List V → List (Str × V)) : Sp := fun vs H Q _ => ∃ (a : Addr) (xs : List V), vs = .ref a :: xs ∧ xs.length = n ∧ H a = some (exo a C none) ∧
  ∀ (dx : Addr) (H' : Hp), H dx = none → dx ≠ a → H' a = some (exo a C (some dx)) → H' dx = some (exd dx (mk xs)) → (∀ b, b ≠ a → b ≠ dx → H' b = H b) → Q .non H'
section
variable {σ : L2.St} {H H0 : Hp} {M : List Addr} {L : Led} {Q : VK} {K : PySem.W.Frag} {C a dx : Addr} {f : Str} {x : V}
theorem rd_mkx {R : Addr → Hp → Prop} {n : Nat} {mk : List V → List (Str × V)} {xs : List V} (S : Hs H0 M H L) (hl : xs.length = n) (hn : n ≤ 1000) (h : ∀ a d H', H0 a = none → H0 d = none → Hs H0 M H' ((a, exo a C (some d)) :: (d, exd d (mk xs)) :: L) → R a H') :
    xs.length ≤ 1000 ∧ ∀ a, H a = none → spIn C n mk (.ref a :: (xs ++ [])) (upd H a (exo a C none)) (fun v H2 => v = .non ∧ R a H2) (fun _ _ _ => False) := by
  refine ⟨by omega, fun a ha => ⟨a, xs, by rw [List.append_nil], hl, upd_same, fun d H' hd ne e1 e2 e3 => ⟨rfl, ?_⟩⟩⟩
  rw [upd_ne ne] at hd
  obtain ⟨z1, S1⟩ := S.new hd (exd d (mk xs))
  obtain ⟨z2, S2⟩ := S1.new (a := a) (by rw [upd_ne (Ne.symm ne)]; exact ha) (exo a C (some d))
  have e : H' = upd (upd H d (exd d (mk xs))) a (exo a C (some d)) := by
    funext b
    by_cases hb : b = a
    · rw [hb, upd_same, e1]
    · rw [upd_ne hb]
      by_cases hb2 : b = d
      · rw [hb2, upd_same, e2]
      · rw [upd_ne hb2, e3 b hb hb2, upd_ne hb]
  rw [e]
  exact h a d _ z2 z1 S2
theorem rd_tmkx {sp : Sp} {dvs : List V} {ta : TA} (h : ta σ H fun vs H1 => vs.length ≤ 1000 ∧ ∀ a, H1 a = none → sp (.ref a :: (vs ++ dvs)) (upd H1 a (exo a C none)) (fun v H2 => v = .non ∧ Q (.ref a) H2) (fun _ _ _ => False)) : tMkX C sp dvs ta σ H Q := h
theorem rd_tmk0 {ta : TA} (h : ta σ H fun vs H1 => vs.length ≤ 1000 ∧ ∀ a H2, H1 a = none → H2 = upd H1 a (exo a C none) → Q (.ref a) H2) : tMk0 C ta σ H Q := by
  have e : (fun (vs : List V) (H1 : Hp) => vs.length ≤ 1000 ∧ ∀ a H2, H1 a = none → H2 = upd H1 a (exo a C none) → Q (.ref a) H2) = fun vs H1 => vs.length ≤ 1000 ∧ ∀ a, H1 a = none → Q (.ref a) (upd H1 a (exo a C none)) := by
    funext vs H1
    exact propext ⟨fun ⟨x, y⟩ => ⟨x, fun a ha => y a _ ha rfl⟩, fun ⟨x, y⟩ => ⟨x, fun a H2 ha e => by rw [e]; exact y a ha⟩⟩
  rw [e] at h
  exact h
theorem rd_mk0 {R : Addr → Hp → Prop} {xs : List V} (S : Hs H0 M H L) (hl : xs.length ≤ 1000) (h : ∀ a H', H0 a = none → Hs H0 M H' ((a, exo a C none) :: L) → R a H') : xs.length ≤ 1000 ∧ ∀ a H2, H a = none → H2 = upd H a (exo a C none) → R a H2 :=
  ⟨hl, fun a H2 ha e => by rw [e]; exact h a _ (S.new ha (exo a C none)).1 (S.new ha (exo a C none)).2⟩
theorem rd_isE {o : Option (Addr × List (Str × V))} {c : V} {u : Value} {b : Bool} (e0 : ExcAt H a C o) (l : Lk K C) (hc : ClsV c u) (e : PySem.W.kitOne K (.ref C) u = some b) (h : Q (.bl b) H) : rIsE K [.ref a, c] H Q :=
  ⟨a, C, o, c, u, b, rfl, hc, l, e0, e, h⟩
theorem rd_xe {te : TE} (h : te σ H fun x H1 => ∃ (a C dx : Addr) (fs : List (Str × V)) (v : V), x = .ref a ∧ Lk K C ∧ PySem.W.findIn K (.ref C) f = some none ∧ ExcAt H1 a C (some (dx, fs)) ∧ fs.lookup f = some v ∧ Q v H1) : tXe K f te σ H Q := h
theorem rd_mulS {t : Str} {n : Int} (h0 : 0 ≤ n) (h1 : n ≤ 1000) (h2 : t.length ≤ 1000) (h : Q (.str (Txt.mul t n)) H) : rMulS (.str t) (.int n) H Q := ⟨t, n, rfl, rfl, h0, h1, h2, h⟩
theorem lcw_zip {a b : Addr} {xs ys : List V} {g : TG} {tt : TT} {te : TE} {vs : List Nat} (S : Hs H0 M H L) (hn : xs.length = ys.length) (R : Nat → List V → Prop) (r0 : R 0 []) (hl : ∀ H' acc D, Hs H0 M H' ((D, .lst acc) :: L) → SqL K H' a xs ∧ SqL K H' b ys)
    (hs : ∀ D i x y acc H' T, xs[i]? = some x → ys[i]? = some y → R i acc → H0 D = none → H0 T = none → Hs H0 M H' ((T, .tup [x, y]) :: (D, .lst acc) :: L) → g (.ref T) (wipe σ vs) H' fun σ2 H2 => wipe σ2 vs = wipe σ vs ∧ tt σ2 H2 fun b H3 => if b = true then te σ2 H3 fun y H4 => lcPut H0 M L (R (i + 1)) D y H4 else lcSkip H0 M L (R (i + 1)) D H3)
    (hd : ∀ D acc H', R xs.length acc → H0 D = none → Hs H0 M H' ((D, .lst acc) :: L) → Q (.ref D) H') : lcW (Itz K a b) g tt te vs σ H Q := by
  intro D hD
  have S1 := S.new hD (.lst [])
  refine lc_it (walk_zip (xs := xs) (ys := ys) (n := xs.length) (by omega)) (fun i H' => lcSkip H0 M L (R i) D H') ⟨S1.1, [], r0, S1.2⟩ (fun i H' _ ⟨_, acc, _, S'⟩ => hl H' acc D S') ?_ ?_
  · rintro i x H' H2 hi ⟨n0, acc, r, S'⟩ ⟨T, y, z, rfl, hT, rfl, e1, e2⟩
    obtain ⟨hT0, S2⟩ := S'.new hT (.tup [y, z])
    exact hs D i y z acc _ T e1 e2 r n0 hT0 S2
  · rintro H' ⟨n0, acc, r, S'⟩
    exact hd D acc H' r n0 S'
theorem rd_zip {R : It → Hp → Prop} {ta : TA} (h : ta σ H fun vs H1 => ∃ (a b : Addr) (xs ys : List V), vs = [.ref a, .ref b] ∧ SqL K H1 a xs ∧ SqL K H1 b ys ∧ R (Itz K a b) H1) : iZip K ta σ H R := h
end
end Xc

local macro_rules | `(tactic| walk_at "mem") => `(tactic| repeat (with_reducible first | exact List.mem_cons_self | apply List.mem_cons_of_mem))
local macro_rules | `(tactic| walk_at "chg") => `(tactic| repeat (with_reducible first | exact Rs.Chg.here | apply Rs.Chg.there))
local macro_rules | `(tactic| walk_at "chgF") => `(tactic| (intro o'; walk_at "chg"))
local macro_rules | `(tactic| walk_at "own") => `(tactic| first | (apply Or.inl; assumption) | (apply Or.inr; simp))
local macro_rules | `(tactic| walk_at "size") => `(tactic| first | exact Rs.sz (Nat.le_of_ble_eq_true rfl) | (refine Rs.sz ?_; omega) | (refine Rs.sz ?_; simp; done) | (refine Rs.sz ?_; simp; omega))
local macro_rules | `(tactic| walk_at "size1") => `(tactic| first | exact Rs.sz' (Nat.le_of_ble_eq_true rfl) | (refine Rs.sz' ?_; omega) | (refine Rs.sz' ?_; simp; done) | (refine Rs.sz' ?_; simp; omega))
local macro_rules | `(tactic| walk_at "val") => `(tactic| first | assumption | rfl)
local macro_rules | `(tactic| walk_at "put") => `(tactic| first | assumption | rfl)
local macro_rules | `(tactic| walk_at "rd1") => `(tactic| first
  | with_reducible refine Rs.rd_seq ?_
  | with_reducible refine Rs.rd_asg ?_
  | ((with_reducible refine' Rs.rd_var ?e ?_); (case e => rfl))
  | with_reducible refine Rs.rd_c ?_
  | with_reducible refine Rs.rd_op ?_
  | with_reducible refine Rs.rd_I0 ?_
  | with_reducible refine Rs.rd_cons ?_
  | with_reducible refine Rs.rd_nil ?_
  | ((with_reducible refine' Rs.rd_name ?e ?_); (case e => (dsimp only [List.set]; try rfl)))
  | with_reducible refine Rs.rd_ifS ?_
  | with_reducible refine Rs.rd_test ?_
  | with_reducible refine Rs.rd_bl ?_
  | with_reducible refine Rs.rd_ret ?_
  | with_reducible refine Rs.rd_retN ?_
  | with_reducible refine Rs.rd_drop ?_
  | with_reducible refine Rs.rd_next ?_
  | with_reducible refine Rs.rd_eqI ?_
  | with_reducible refine Rs.rd_neI ?_
  | with_reducible refine Rs.rd_eqS ?_
  | with_reducible refine Rs.rd_neS ?_
  | with_reducible refine Rs.rd_eqB ?_
  | with_reducible refine Rs.rd_par ?_
  | with_reducible refine Rs.rd_par3 ?_
  | ((with_reducible refine Rs.rd_two ?_); dsimp only [List.set])
  | ((with_reducible refine Rs.rd_three ?_); dsimp only [List.set])
  | with_reducible refine Rs.rd_un ?_
  | with_reducible refine Rs.rd_U ?_
  | with_reducible refine Rs.rd_tB ?_
  | with_reducible refine Rs.rd_and ?_
  | with_reducible refine Rs.rd_or ?_
  | with_reducible refine Rs.rd_not ?_
  | with_reducible refine Rs.rd_andV ?_
  | with_reducible refine Rs.rd_orV ?_
  | with_reducible refine Rs.rd_notV ?_
  | with_reducible refine Rs.rd_if ?_
  | with_reducible refine Rs.rd_tup ?_
  | with_reducible refine Rs.rd_lst ?_
  | with_reducible refine Rs.rd_cb ?_
  | with_reducible refine Rs.rd_call0 ?_
  | with_reducible refine Rs.rd_call ?_
  | with_reducible refine Rs.rd_callN ?_
  | with_reducible refine Rs.rd_chain ?_
  | with_reducible refine Rs.rd_bits ?_
  | with_reducible refine Rs.rd_int1 ?_
  | with_reducible refine Rs.rd_int2 ?_
  | with_reducible refine Rs.rd_dget ?_
  | with_reducible refine Rs.rd_dput ?_
  | with_reducible refine Rs.rd_slice3 ?_
  | with_reducible refine Rs.rd_sl ?_
  | with_reducible refine Rs.rd_noPart ?_
  | with_reducible refine Rs.rd_part ?_
  | ((with_reducible refine' Rs.rd_mod ?c ?_); (case c => omega); intro r e h0 h1)
  | ((with_reducible refine' Rs.rd_div ?c ?d ?_); (case c => omega); (case d => omega))
  | ((with_reducible refine' Rs.rd_mulL ?c ?d ?_); (case c => omega); (case d => omega))
  | ((with_reducible refine' Rs.rd_mulR ?c ?d ?_); (case c => omega); (case d => omega))
  | ((with_reducible refine' Rs.rd_pow ?c ?d ?f ?_); (case c => omega); (case d => omega); (case f => omega))
  | ((with_reducible refine' Rs.rd_newL (by assumption) ?z ?_); (case z => walk_at "size"); intro p H hp S)
  | ((with_reducible refine' Rs.rd_newT (by assumption) ?z ?_); (case z => walk_at "size"); intro p H hp S)
  | ((with_reducible refine' Rs.rd_newO (by assumption) ?_); intro p H hp S)
  | ((with_reducible refine' Rs.rd_ixL (by assumption) ?m ?e ?_); (case m => (walk_at "mem"; done)); (case e => first | rfl | assumption))
  | ((with_reducible refine' Rs.rd_ixT (by assumption) ?m ?e ?_); (case m => (walk_at "mem"; done)); (case e => first | rfl | assumption))
  | ((with_reducible refine' Rs.rd_len (by assumption) ?m ?_); (case m => (walk_at "mem"; done)))
  | ((with_reducible refine' Rs.rd_lenT (by assumption) ?m ?_); (case m => (walk_at "mem"; done)))
  | ((with_reducible refine' Rs.rd_getS (by assumption) ?m ?e ?_); (case m => (walk_at "mem"; done)); (case e => walk_at "val"))
  | ((with_reducible refine' Rs.rd_putS (by assumption) ?c ?m ?z ?e ?_); (case c => (walk_at "chg"; done)); (case m => walk_at "own"); (case z => walk_at "size1"); (case e => walk_at "put"); intro H S)
  | ((with_reducible refine' Rs.gt_ref (by assumption) ?m ?e ?_); (case m => (walk_at "mem"; done)); (case e => rfl))
  | with_reducible refine Rs.gt_cons ?_
  | with_reducible refine Rs.gt_nil ?_
  | with_reducible refine Rs.rd_for ?_
  | with_reducible refine Rs.rd_rng1 ?_
  | with_reducible refine Rs.rd_rng2 ?_
  | ((with_reducible refine' Rs.rd_rng1v ?c ?d ?_); (case c => omega); (case d => omega))
  | with_reducible refine Rs.rd_iList ?_
  | with_reducible refine Rs.rd_iTup ?_
  | ((with_reducible refine' Rs.rd_lstI (by assumption) ?m ?_); (case m => (walk_at "mem"; done)))
  | ((with_reducible refine' Rs.rd_tupI (by assumption) ?m ?_); (case m => (walk_at "mem"; done)))
  | with_reducible refine Rs.rd_wl ?_
  | ((with_reducible refine' Rs.rd_disp (by assumption) ?_); intro p H hp S)
  | with_reducible refine Rs.rd_prs ?_
  | with_reducible refine Rs.rd_prs0 ?_
  | ((with_reducible refine' Rs.rd_dspEnd (by assumption) ?c ?m ?e ?z ?f ?_); (case c => (walk_at "chg"; done)); (case m => walk_at "own"); (case e => rfl); (case z => exact Nat.le_of_ble_eq_true rfl); (case f => walk_at "put"); intro H S)
  | ((with_reducible refine' Rs.rd_isi (by assumption) ?e ?_); (case e => first | exact Rs.kit_int _ | exact Rs.kit_bool _ | exact Rs.kit_list _ | exact Rs.kit_tuple _ | exact Rs.kit_str _))
  | with_reducible refine Rs.rd_iteT ?_
  | with_reducible refine Rs.rd_nT ?_
  | with_reducible refine Rs.rd_nF ?_
  | with_reducible refine Rs.rd_iteF ?_)
local macro_rules | `(tactic| walk_at "end") => `(tactic| first
  | assumption
  | omega
  | exact Rs.Hs.get (by assumption) (by walk_at "mem"; done)
  | exact Rs.Hs.same (by assumption)
  | (intro b o e hb; exact Rs.Hs.old1 (by assumption) e hb)
  | rfl)
local macro_rules | `(tactic| walk_at "rd") => `(tactic| repeat (walk_at "rd1"))
local macro_rules | `(tactic| walk_at "st") => `(tactic| (refine Rs.rd_start ?_; dsimp only [Rs.stV, List.head?, List.tail]))
local macro_rules | `(tactic| walk_at "noat") => `(tactic| assumption)
local macro_rules | `(tactic| walk_at "cls") => `(tactic| assumption)
local macro_rules | `(tactic| walk_at "fv") => `(tactic| rfl)
local macro_rules | `(tactic| walk_at "sub") => `(tactic| repeat (with_reducible first | exact List.Sublist.refl _ | exact List.nil_sublist _ | apply List.Sublist.cons_cons | apply List.Sublist.cons))
local macro_rules | `(tactic| walk_at "rd1") => `(tactic| first
  | with_reducible refine Rs.rd_fld ?_
  | ((with_reducible refine' Rs.rd_fldV (by assumption) ?m ?c ?n ?e ?_); (case m => (walk_at "mem"; done)); (case c => walk_at "cls"); (case n => walk_at "noat"); (case e => walk_at "fv"))
  | with_reducible refine Rs.rd_sfld ?_
  | ((with_reducible refine' Rs.rd_sfldV (by assumption) ?ch ?o ?c ?n ?z ?e ?_); (case ch => (walk_at "chg"; done)); (case o => walk_at "own"); (case c => walk_at "cls"); (case n => walk_at "noat"); (case z => walk_at "fvz"); (case e => walk_at "fput"); intro H S)
  | with_reducible refine Rs.rd_meth ?_
  | ((with_reducible refine' Rs.rd_methV (by assumption) ?m ?e ?_); (case m => (walk_at "mem"; done)); (case e => walk_at "fv"))
  | with_reducible refine Rs.rd_bm ?_
  | with_reducible refine Rs.rd_bm0 ?_
  | ((with_reducible refine' Rs.rd_tyL (by assumption) ?m ?_); (case m => (walk_at "mem"; done)))
  | ((with_reducible refine' Rs.rd_app (by assumption) ?c ?o ?z ?_); (case c => (walk_at "chg"; done)); (case o => walk_at "own"); (case z => walk_at "size1"); intro H S)
  | ((with_reducible refine' Rs.rd_sumI (by assumption) ?m ?e ?_); (case m => (walk_at "mem"; done)); (case e => rfl))
  | ((with_reducible refine' Rs.rd_slL (by assumption) ?m ?e ?_); (case m => (walk_at "mem"; done)); (case e => rfl); intro p H hp S)
  | ((with_reducible refine' Rs.rd_catL (by assumption) ?m ?n ?z ?_); (case m => (walk_at "mem"; done)); (case n => (walk_at "mem"; done)); (case z => walk_at "size"); intro p H hp S)
  | with_reducible refine Rs.rd_revL ?_
  | ((with_reducible refine' Rs.rd_revV (by assumption) ?m ?_); (case m => (walk_at "mem"; done)); intro p H hp S)
  | with_reducible refine Rs.rd_isN ?_
  | with_reducible refine Rs.rd_notN ?_
  | ((with_reducible refine' Rs.gt_unl (by assumption) ?m ?e ?_); (case m => (walk_at "mem"; done)); (case e => rfl))
  | with_reducible refine Rs.gt_sub ?_
  | with_reducible refine Rs.gt_slc ?_
  | with_reducible refine Rs.rd_lc ?_)
local macro_rules | `(tactic| walk_at "cut") => `(tactic| repeat' (first | walk_at "rd1" | (refine Rs.rd_dec ?_ ?_ <;> intro hc)))
local macro_rules | `(tactic| walk_at "fvz") => `(tactic| exact Nat.le_of_ble_eq_true rfl)
local macro_rules | `(tactic| walk_at "fput") => `(tactic| rfl)
local macro_rules | `(tactic| walk_at "rd1") => `(tactic| with_reducible refine Rs.rd_nn ?_)
local macro_rules | `(tactic| walk_at "rd1") => `(tactic| first
  | ((with_reducible refine' Rs.rd_aug ?e ?_); (case e => rfl))
  | ((with_reducible refine Rs.rd_ipI ?_); dsimp only [List.set]))
local macro_rules | `(tactic| walk_at "lc") => `(tactic| (walk_at "rd"; dsimp only [L2.wipe, List.map, List.set]; refine ⟨rfl, ?_⟩; walk_at "rd"))
local macro_rules | `(tactic| walk_at "rd1") => `(tactic| first
  | ((with_reducible refine' Rs.rd_sumT (by assumption) ?m ?e ?_); (case m => (walk_at "mem"; done)); (case e => rfl))
  | with_reducible refine Rs.rd_cbk ?_
  | ((with_reducible refine' Rs.rd_sumK (by assumption) ?m ?e ?_); (case m => (walk_at "mem"; done)); (case e => rfl))
  | ((with_reducible refine' Rs.rd_maxDT (by assumption) ?m ?e ?_); (case m => (walk_at "mem"; done)); (case e => rfl))
  | with_reducible refine Rs.rd_slT3 ?_)
local macro_rules | `(tactic| walk_at "rd1") => `(tactic| with_reducible refine Rs.rd_yes ?_)
local macro_rules | `(tactic| walk_at "if0") => `(tactic| (first | (show if false = true then _ else _) | skip); walk_at "rd")
local macro_rules | `(tactic| walk_at "if1") => `(tactic| (first | (show if true = true then _ else _) | skip); walk_at "rd")
local macro_rules | `(tactic| walk_at "rd1") => `(tactic| first
  | ((with_reducible refine' Rs.rd_clear (by assumption) ?c ?o ?_); (case c => (walk_at "chg"; done)); (case o => walk_at "own"); intro H S))
local macro_rules | `(tactic| walk_at "led") => `(tactic| (intro a'; simp only [Rs.cn_app, Rs.cn_cons, Rs.cn_nil, List.append_assoc, List.cons_append, List.nil_append, List.reverse_nil, List.map_nil]; omega))
local macro_rules | `(tactic| walk_at "mem1") => `(tactic| (with_reducible first | exact List.mem_cons_self | assumption | (apply List.mem_cons_of_mem; walk_at "mem1") | (apply List.mem_append_right; walk_at "mem1") | (apply List.mem_append_left; walk_at "mem1")))
local macro_rules | `(tactic| walk_at "mem") => `(tactic| walk_at "mem1")
local macro_rules | `(tactic| walk_at "rd1") => `(tactic| first
  | with_reducible refine Rs.rd_enum ?_
  | with_reducible refine Rs.rd_methK ?_
  | ((with_reducible refine' Rs.rd_enI (by assumption) ?m ?_); (case m => (walk_at "mem"; done))))
local macro_rules | `(tactic| walk_at "chg1") => `(tactic| (with_reducible first | exact Rs.Chg.here | (apply Rs.Chg.there; walk_at "chg1") | (apply Rs.Chg.appR; walk_at "chg1") | (apply Rs.Chg.appL; walk_at "chg1")))
local macro_rules | `(tactic| walk_at "chg") => `(tactic| walk_at "chg1")
namespace K02
open PySem L2 Rs
def topS (i : Nat) : Stmt := PySem.Challenge.pw_runsort_k02_families_of_refusals.main.body.getD i (.Pass ⟨0, 0, 0, 0⟩)
abbrev s_BadPaper___init__ : Stmt := inClass (topS 2) 0
theorem sc_BadPaper___init__ : FnScope ["self", "at"] ["self", "at"] (defScope s_BadPaper___init__) := ⟨rfl, rfl, rfl, by decide +kernel, rfl, by decide +kernel, by decide +kernel⟩
abbrev s_Flawed___init__ : Stmt := inClass (topS 3) 0
theorem sc_Flawed___init__ : FnScope ["self", "word", "places"] ["self", "word", "places"] (defScope s_Flawed___init__) := ⟨rfl, rfl, rfl, by decide +kernel, rfl, by decide +kernel, by decide +kernel⟩
abbrev s_BadLine___init__ : Stmt := inClass (topS 4) 0
theorem sc_BadLine___init__ : FnScope ["self", "row", "word"] ["self", "row", "word"] (defScope s_BadLine___init__) := ⟨rfl, rfl, rfl, by decide +kernel, rfl, by decide +kernel, by decide +kernel⟩
abbrev s_BadAnswer___init__ : Stmt := inClass (topS 7) 0
theorem sc_BadAnswer___init__ : FnScope ["self", "answer"] ["self", "answer"] (defScope s_BadAnswer___init__) := ⟨rfl, rfl, rfl, by decide +kernel, rfl, by decide +kernel, by decide +kernel⟩
abbrev s_BadKind___init__ : Stmt := inClass (topS 8) 0
theorem sc_BadKind___init__ : FnScope ["self", "wanted"] ["self", "wanted"] (defScope s_BadKind___init__) := ⟨rfl, rfl, rfl, by decide +kernel, rfl, by decide +kernel, by decide +kernel⟩
abbrev s_BadNumber___init__ : Stmt := inClass (topS 10) 0
theorem sc_BadNumber___init__ : FnScope ["self", "at"] ["self", "at"] (defScope s_BadNumber___init__) := ⟨rfl, rfl, rfl, by decide +kernel, rfl, by decide +kernel, by decide +kernel⟩
abbrev s_NoSuch___init__ : Stmt := inClass (topS 11) 0
theorem sc_NoSuch___init__ : FnScope ["self", "name"] ["self", "name"] (defScope s_NoSuch___init__) := ⟨rfl, rfl, rfl, by decide +kernel, rfl, by decide +kernel, by decide +kernel⟩
abbrev s_TooMany___init__ : Stmt := inClass (topS 12) 0
theorem sc_TooMany___init__ : FnScope ["self", "most"] ["self", "most"] (defScope s_TooMany___init__) := ⟨rfl, rfl, rfl, by decide +kernel, rfl, by decide +kernel, by decide +kernel⟩
abbrev s_Stopped___init__ : Stmt := inClass (topS 13) 0
theorem sc_Stopped___init__ : FnScope ["self", "at"] ["self", "at"] (defScope s_Stopped___init__) := ⟨rfl, rfl, rfl, by decide +kernel, rfl, by decide +kernel, by decide +kernel⟩
abbrev s_l_mixed : Stmt := topS 15
theorem sc_l_mixed : FnScope ["_law_drawn", "_law_k"] ["_law_drawn", "_law_k"] (defScope s_l_mixed) := ⟨rfl, rfl, rfl, by decide +kernel, rfl, by decide +kernel, by decide +kernel⟩
abbrev s_l_take : Stmt := topS 16
theorem sc_l_take : FnScope ["_law_stream", "_law_many", "_law_cell", "_law_drawn"] ["_law_stream", "_law_many"] (defScope s_l_take) := ⟨rfl, rfl, rfl, by decide +kernel, rfl, by decide +kernel, by decide +kernel⟩
abbrev s_l_words : Stmt := topS 17
theorem sc_l_words : FnScope ["_law_e", "_law_found", "_law_words_here", "_law_word", "_law_good"] ["_law_e"] (defScope s_l_words) := ⟨rfl, rfl, rfl, by decide +kernel, rfl, by decide +kernel, by decide +kernel⟩
abbrev s_l_kinds : Stmt := topS 18
theorem sc_l_kinds : FnScope ["_law_e", "_law_found", "_law_words_here", "_law_word", "_law_good"] ["_law_e"] (defScope s_l_kinds) := ⟨rfl, rfl, rfl, by decide +kernel, rfl, by decide +kernel, by decide +kernel⟩
abbrev s_l_thing_by : Stmt := topS 19
theorem sc_l_thing_by : FnScope ["_law_stream", "_law_name"] ["_law_stream"] (defScope s_l_thing_by) := ⟨rfl, rfl, rfl, by decide +kernel, rfl, by decide +kernel, by decide +kernel⟩
abbrev s_l_rows : Stmt := topS 20
theorem sc_l_rows : FnScope ["_law_one", "_law_other", "_law_rows_here"] ["_law_one", "_law_other"] (defScope s_l_rows) := ⟨rfl, rfl, rfl, by decide +kernel, rfl, by decide +kernel, by decide +kernel⟩
abbrev s_l_fields : Stmt := topS 21
theorem sc_l_fields : FnScope ["_law_made", "_law_found"] ["_law_made"] (defScope s_l_fields) := ⟨rfl, rfl, rfl, by decide +kernel, rfl, by decide +kernel, by decide +kernel⟩
abbrev s_law : Stmt := topS 22
theorem sc_law : FnScope ["_law_script", "_law_stream", "_law_turn", "_law_one", "_law_other", "_law_rows_here", "_law_e", "_law_word", "_law_kinds_here", "_law_made", "_law_due", "_law_row"] ["_law_script"] (defScope s_law) := ⟨rfl, rfl, rfl, by decide +kernel, rfl, by decide +kernel, by decide +kernel⟩
structure Ad where
  (C_SortError C_BadPaper f_BadPaper___init__ C_Flawed f_Flawed___init__ C_BadLine f_BadLine___init__ C_Busy C_Gone C_BadAnswer f_BadAnswer___init__ C_BadKind f_BadKind___init__ C_BadText C_BadNumber f_BadNumber___init__ C_NoSuch f_NoSuch___init__ C_TooMany f_TooMany___init__ C_Stopped f_Stopped___init__ f__law_mixed f__law_take f__law_words f__law_kinds f__law_thing_by f__law_rows f__law_fields f_law : Addr)
  (d_BadPaper___init__ d_Flawed___init__ d_BadLine___init__ d_BadAnswer___init__ d_BadKind___init__ d_BadNumber___init__ d_NoSuch___init__ d_TooMany___init__ d_Stopped___init__ d__law_mixed d__law_take d__law_words d__law_kinds d__law_thing_by d__law_rows d__law_fields d_law : FuncData)
structure Txt (K : PySem.W.Frag) (mg : Str → Option Value) (w : World) (A : Ad) : Prop where
  m_SortError : mg "SortError" = some (.ref A.C_SortError)
  q_SortError : PySem.W.excIn K A.C_SortError [.type "Exception", .type "BaseException", .type "object"] "Exception.__new__" = true
  p_SortError : PySem.W.keepIn K (.ref A.C_SortError) = true
  k_SortError : Xc.Lk K A.C_SortError
  r_SortError : ClX.CRead K A.C_SortError (.type "type")
  m_BadPaper : mg "BadPaper" = some (.ref A.C_BadPaper)
  o_BadPaper : Xc.Own K A.C_BadPaper "Exception" "Exception.__new__" "Exception.__init__" [.type "Exception", .type "BaseException", .type "object"]
  k_BadPaper : Xc.Lk K A.C_BadPaper
  t_BadPaper_at : PySem.W.takerIn K A.C_BadPaper "at" = some none
  na_BadPaper_at : PySem.W.findIn K (.ref A.C_BadPaper) "at" = some none
  i_BadPaper : PySem.W.findIn K (.ref A.C_BadPaper) "__init__" = some (some (.ref A.f_BadPaper___init__))
  y_BadPaper : PySem.W.typeIn K (.ref A.f_BadPaper___init__) = some (.type "function")
  c_BadPaper___init__ : CalM K "__init__" "BadPaper.__init__" s_BadPaper___init__ ["self", "at"] A.f_BadPaper___init__ A.d_BadPaper___init__
  v_BadPaper : PySem.W.findCls K (.ref A.C_SortError) (.type "type") "__init__" = some (.val (.builtin "Exception.__init__"))
  m_Flawed : mg "Flawed" = some (.ref A.C_Flawed)
  o_Flawed : Xc.Own K A.C_Flawed "Exception" "Exception.__new__" "Exception.__init__" [.type "Exception", .type "BaseException", .type "object"]
  k_Flawed : Xc.Lk K A.C_Flawed
  t_Flawed_word : PySem.W.takerIn K A.C_Flawed "word" = some none
  na_Flawed_word : PySem.W.findIn K (.ref A.C_Flawed) "word" = some none
  t_Flawed_places : PySem.W.takerIn K A.C_Flawed "places" = some none
  na_Flawed_places : PySem.W.findIn K (.ref A.C_Flawed) "places" = some none
  i_Flawed : PySem.W.findIn K (.ref A.C_Flawed) "__init__" = some (some (.ref A.f_Flawed___init__))
  y_Flawed : PySem.W.typeIn K (.ref A.f_Flawed___init__) = some (.type "function")
  c_Flawed___init__ : CalM K "__init__" "Flawed.__init__" s_Flawed___init__ ["self", "word", "places"] A.f_Flawed___init__ A.d_Flawed___init__
  v_Flawed : PySem.W.findCls K (.ref A.C_SortError) (.type "type") "__init__" = some (.val (.builtin "Exception.__init__"))
  m_BadLine : mg "BadLine" = some (.ref A.C_BadLine)
  o_BadLine : Xc.Own K A.C_BadLine "Exception" "Exception.__new__" "Exception.__init__" [.type "Exception", .type "BaseException", .type "object"]
  k_BadLine : Xc.Lk K A.C_BadLine
  t_BadLine_row : PySem.W.takerIn K A.C_BadLine "row" = some none
  na_BadLine_row : PySem.W.findIn K (.ref A.C_BadLine) "row" = some none
  t_BadLine_word : PySem.W.takerIn K A.C_BadLine "word" = some none
  na_BadLine_word : PySem.W.findIn K (.ref A.C_BadLine) "word" = some none
  i_BadLine : PySem.W.findIn K (.ref A.C_BadLine) "__init__" = some (some (.ref A.f_BadLine___init__))
  y_BadLine : PySem.W.typeIn K (.ref A.f_BadLine___init__) = some (.type "function")
  c_BadLine___init__ : CalM K "__init__" "BadLine.__init__" s_BadLine___init__ ["self", "row", "word"] A.f_BadLine___init__ A.d_BadLine___init__
  v_BadLine : PySem.W.findCls K (.ref A.C_SortError) (.type "type") "__init__" = some (.val (.builtin "Exception.__init__"))
  m_Busy : mg "Busy" = some (.ref A.C_Busy)
  q_Busy : PySem.W.excIn K A.C_Busy [.type "Exception", .type "BaseException", .type "object"] "Exception.__new__" = true
  p_Busy : PySem.W.keepIn K (.ref A.C_Busy) = true
  k_Busy : Xc.Lk K A.C_Busy
  m_Gone : mg "Gone" = some (.ref A.C_Gone)
  q_Gone : PySem.W.excIn K A.C_Gone [.type "Exception", .type "BaseException", .type "object"] "Exception.__new__" = true
  p_Gone : PySem.W.keepIn K (.ref A.C_Gone) = true
  k_Gone : Xc.Lk K A.C_Gone
  m_BadAnswer : mg "BadAnswer" = some (.ref A.C_BadAnswer)
  o_BadAnswer : Xc.Own K A.C_BadAnswer "TypeError" "TypeError.__new__" "TypeError.__init__" [.type "TypeError", .type "Exception", .type "BaseException", .type "object"]
  k_BadAnswer : Xc.Lk K A.C_BadAnswer
  t_BadAnswer_answer : PySem.W.takerIn K A.C_BadAnswer "answer" = some none
  na_BadAnswer_answer : PySem.W.findIn K (.ref A.C_BadAnswer) "answer" = some none
  i_BadAnswer : PySem.W.findIn K (.ref A.C_BadAnswer) "__init__" = some (some (.ref A.f_BadAnswer___init__))
  y_BadAnswer : PySem.W.typeIn K (.ref A.f_BadAnswer___init__) = some (.type "function")
  c_BadAnswer___init__ : CalM K "__init__" "BadAnswer.__init__" s_BadAnswer___init__ ["self", "answer"] A.f_BadAnswer___init__ A.d_BadAnswer___init__
  v_BadAnswer : PySem.W.findCls K (.type "TypeError") (.type "type") "__init__" = some (.val (.builtin "TypeError.__init__"))
  m_BadKind : mg "BadKind" = some (.ref A.C_BadKind)
  o_BadKind : Xc.Own K A.C_BadKind "TypeError" "TypeError.__new__" "TypeError.__init__" [.type "TypeError", .type "Exception", .type "BaseException", .type "object"]
  k_BadKind : Xc.Lk K A.C_BadKind
  t_BadKind_wanted : PySem.W.takerIn K A.C_BadKind "wanted" = some none
  na_BadKind_wanted : PySem.W.findIn K (.ref A.C_BadKind) "wanted" = some none
  i_BadKind : PySem.W.findIn K (.ref A.C_BadKind) "__init__" = some (some (.ref A.f_BadKind___init__))
  y_BadKind : PySem.W.typeIn K (.ref A.f_BadKind___init__) = some (.type "function")
  c_BadKind___init__ : CalM K "__init__" "BadKind.__init__" s_BadKind___init__ ["self", "wanted"] A.f_BadKind___init__ A.d_BadKind___init__
  v_BadKind : PySem.W.findCls K (.type "TypeError") (.type "type") "__init__" = some (.val (.builtin "TypeError.__init__"))
  m_BadText : mg "BadText" = some (.ref A.C_BadText)
  q_BadText : PySem.W.excIn K A.C_BadText [.type "ValueError", .type "Exception", .type "BaseException", .type "object"] "ValueError.__new__" = true
  p_BadText : PySem.W.keepIn K (.ref A.C_BadText) = true
  k_BadText : Xc.Lk K A.C_BadText
  m_BadNumber : mg "BadNumber" = some (.ref A.C_BadNumber)
  o_BadNumber : Xc.Own K A.C_BadNumber "IndexError" "IndexError.__new__" "IndexError.__init__" [.type "IndexError", .type "LookupError", .type "Exception", .type "BaseException", .type "object"]
  k_BadNumber : Xc.Lk K A.C_BadNumber
  t_BadNumber_at : PySem.W.takerIn K A.C_BadNumber "at" = some none
  na_BadNumber_at : PySem.W.findIn K (.ref A.C_BadNumber) "at" = some none
  i_BadNumber : PySem.W.findIn K (.ref A.C_BadNumber) "__init__" = some (some (.ref A.f_BadNumber___init__))
  y_BadNumber : PySem.W.typeIn K (.ref A.f_BadNumber___init__) = some (.type "function")
  c_BadNumber___init__ : CalM K "__init__" "BadNumber.__init__" s_BadNumber___init__ ["self", "at"] A.f_BadNumber___init__ A.d_BadNumber___init__
  v_BadNumber : PySem.W.findCls K (.type "IndexError") (.type "type") "__init__" = some (.val (.builtin "IndexError.__init__"))
  m_NoSuch : mg "NoSuch" = some (.ref A.C_NoSuch)
  o_NoSuch : Xc.Own K A.C_NoSuch "KeyError" "LookupError.__new__" "KeyError.__init__" [.type "KeyError", .type "LookupError", .type "Exception", .type "BaseException", .type "object"]
  k_NoSuch : Xc.Lk K A.C_NoSuch
  t_NoSuch_name : PySem.W.takerIn K A.C_NoSuch "name" = some none
  na_NoSuch_name : PySem.W.findIn K (.ref A.C_NoSuch) "name" = some none
  i_NoSuch : PySem.W.findIn K (.ref A.C_NoSuch) "__init__" = some (some (.ref A.f_NoSuch___init__))
  y_NoSuch : PySem.W.typeIn K (.ref A.f_NoSuch___init__) = some (.type "function")
  c_NoSuch___init__ : CalM K "__init__" "NoSuch.__init__" s_NoSuch___init__ ["self", "name"] A.f_NoSuch___init__ A.d_NoSuch___init__
  v_NoSuch : PySem.W.findCls K (.type "KeyError") (.type "type") "__init__" = some (.val (.builtin "KeyError.__init__"))
  m_TooMany : mg "TooMany" = some (.ref A.C_TooMany)
  o_TooMany : Xc.Own K A.C_TooMany "OverflowError" "OverflowError.__new__" "OverflowError.__init__" [.type "OverflowError", .type "ArithmeticError", .type "Exception", .type "BaseException", .type "object"]
  k_TooMany : Xc.Lk K A.C_TooMany
  t_TooMany_most : PySem.W.takerIn K A.C_TooMany "most" = some none
  na_TooMany_most : PySem.W.findIn K (.ref A.C_TooMany) "most" = some none
  i_TooMany : PySem.W.findIn K (.ref A.C_TooMany) "__init__" = some (some (.ref A.f_TooMany___init__))
  y_TooMany : PySem.W.typeIn K (.ref A.f_TooMany___init__) = some (.type "function")
  c_TooMany___init__ : CalM K "__init__" "TooMany.__init__" s_TooMany___init__ ["self", "most"] A.f_TooMany___init__ A.d_TooMany___init__
  v_TooMany : PySem.W.findCls K (.type "OverflowError") (.type "type") "__init__" = some (.val (.builtin "OverflowError.__init__"))
  m_Stopped : mg "Stopped" = some (.ref A.C_Stopped)
  o_Stopped : Xc.Own K A.C_Stopped "RuntimeError" "RuntimeError.__new__" "RuntimeError.__init__" [.type "RuntimeError", .type "Exception", .type "BaseException", .type "object"]
  k_Stopped : Xc.Lk K A.C_Stopped
  t_Stopped_at : PySem.W.takerIn K A.C_Stopped "at" = some none
  na_Stopped_at : PySem.W.findIn K (.ref A.C_Stopped) "at" = some none
  i_Stopped : PySem.W.findIn K (.ref A.C_Stopped) "__init__" = some (some (.ref A.f_Stopped___init__))
  y_Stopped : PySem.W.typeIn K (.ref A.f_Stopped___init__) = some (.type "function")
  c_Stopped___init__ : CalM K "__init__" "Stopped.__init__" s_Stopped___init__ ["self", "at"] A.f_Stopped___init__ A.d_Stopped___init__
  v_Stopped : PySem.W.findCls K (.type "RuntimeError") (.type "type") "__init__" = some (.val (.builtin "RuntimeError.__init__"))
  c__law_mixed : Cal K mg "_law_mixed" s_l_mixed ["_law_drawn", "_law_k"] A.f__law_mixed A.d__law_mixed
  c__law_take : Cal K mg "_law_take" s_l_take ["_law_stream", "_law_many"] A.f__law_take A.d__law_take
  c__law_words : Cal K mg "_law_words" s_l_words ["_law_e"] A.f__law_words A.d__law_words
  c__law_kinds : Cal K mg "_law_kinds" s_l_kinds ["_law_e"] A.f__law_kinds A.d__law_kinds
  c__law_thing_by : Cal K mg "_law_thing_by" s_l_thing_by ["_law_stream"] A.f__law_thing_by A.d__law_thing_by
  c__law_rows : Cal K mg "_law_rows" s_l_rows ["_law_one", "_law_other"] A.f__law_rows A.d__law_rows
  c__law_fields : Cal K mg "_law_fields" s_l_fields ["_law_made"] A.f__law_fields A.d__law_fields
  c_law : Cal K mg "law" s_law ["_law_script"] A.f_law A.d_law
  x_stat : PySem.W.nsIn K cStatics "sys.int_max_str_digits" = some none
  x_kit_BadPaper : ([.ref A.C_BadPaper, .ref A.C_Flawed, .ref A.C_BadLine, .ref A.C_Busy, .ref A.C_Gone, .ref A.C_BadAnswer, .ref A.C_BadKind, .ref A.C_BadText, .ref A.C_BadNumber, .ref A.C_NoSuch, .ref A.C_TooMany, .ref A.C_Stopped, .ref A.C_SortError, .type "TypeError", .type "ValueError", .type "IndexError", .type "KeyError", .type "LookupError", .type "OverflowError", .type "ArithmeticError", .type "RuntimeError", .type "ZeroDivisionError", .type "Exception"] : List Value).map (fun c => PySem.W.kitOne K (.ref A.C_BadPaper) c) = [some true, some false, some false, some false, some false, some false, some false, some false, some false, some false, some false, some false, some true, some false, some false, some false, some false, some false, some false, some false, some false, some false, some true]
  x_kit_Flawed : ([.ref A.C_BadPaper, .ref A.C_Flawed, .ref A.C_BadLine, .ref A.C_Busy, .ref A.C_Gone, .ref A.C_BadAnswer, .ref A.C_BadKind, .ref A.C_BadText, .ref A.C_BadNumber, .ref A.C_NoSuch, .ref A.C_TooMany, .ref A.C_Stopped, .ref A.C_SortError, .type "TypeError", .type "ValueError", .type "IndexError", .type "KeyError", .type "LookupError", .type "OverflowError", .type "ArithmeticError", .type "RuntimeError", .type "ZeroDivisionError", .type "Exception"] : List Value).map (fun c => PySem.W.kitOne K (.ref A.C_Flawed) c) = [some false, some true, some false, some false, some false, some false, some false, some false, some false, some false, some false, some false, some true, some false, some false, some false, some false, some false, some false, some false, some false, some false, some true]
  x_kit_BadLine : ([.ref A.C_BadPaper, .ref A.C_Flawed, .ref A.C_BadLine, .ref A.C_Busy, .ref A.C_Gone, .ref A.C_BadAnswer, .ref A.C_BadKind, .ref A.C_BadText, .ref A.C_BadNumber, .ref A.C_NoSuch, .ref A.C_TooMany, .ref A.C_Stopped, .ref A.C_SortError, .type "TypeError", .type "ValueError", .type "IndexError", .type "KeyError", .type "LookupError", .type "OverflowError", .type "ArithmeticError", .type "RuntimeError", .type "ZeroDivisionError", .type "Exception"] : List Value).map (fun c => PySem.W.kitOne K (.ref A.C_BadLine) c) = [some false, some false, some true, some false, some false, some false, some false, some false, some false, some false, some false, some false, some true, some false, some false, some false, some false, some false, some false, some false, some false, some false, some true]
  x_kit_Busy : ([.ref A.C_BadPaper, .ref A.C_Flawed, .ref A.C_BadLine, .ref A.C_Busy, .ref A.C_Gone, .ref A.C_BadAnswer, .ref A.C_BadKind, .ref A.C_BadText, .ref A.C_BadNumber, .ref A.C_NoSuch, .ref A.C_TooMany, .ref A.C_Stopped, .ref A.C_SortError, .type "TypeError", .type "ValueError", .type "IndexError", .type "KeyError", .type "LookupError", .type "OverflowError", .type "ArithmeticError", .type "RuntimeError", .type "ZeroDivisionError", .type "Exception"] : List Value).map (fun c => PySem.W.kitOne K (.ref A.C_Busy) c) = [some false, some false, some false, some true, some false, some false, some false, some false, some false, some false, some false, some false, some true, some false, some false, some false, some false, some false, some false, some false, some false, some false, some true]
  x_kit_Gone : ([.ref A.C_BadPaper, .ref A.C_Flawed, .ref A.C_BadLine, .ref A.C_Busy, .ref A.C_Gone, .ref A.C_BadAnswer, .ref A.C_BadKind, .ref A.C_BadText, .ref A.C_BadNumber, .ref A.C_NoSuch, .ref A.C_TooMany, .ref A.C_Stopped, .ref A.C_SortError, .type "TypeError", .type "ValueError", .type "IndexError", .type "KeyError", .type "LookupError", .type "OverflowError", .type "ArithmeticError", .type "RuntimeError", .type "ZeroDivisionError", .type "Exception"] : List Value).map (fun c => PySem.W.kitOne K (.ref A.C_Gone) c) = [some false, some false, some false, some false, some true, some false, some false, some false, some false, some false, some false, some false, some true, some false, some false, some false, some false, some false, some false, some false, some false, some false, some true]
  x_kit_BadAnswer : ([.ref A.C_BadPaper, .ref A.C_Flawed, .ref A.C_BadLine, .ref A.C_Busy, .ref A.C_Gone, .ref A.C_BadAnswer, .ref A.C_BadKind, .ref A.C_BadText, .ref A.C_BadNumber, .ref A.C_NoSuch, .ref A.C_TooMany, .ref A.C_Stopped, .ref A.C_SortError, .type "TypeError", .type "ValueError", .type "IndexError", .type "KeyError", .type "LookupError", .type "OverflowError", .type "ArithmeticError", .type "RuntimeError", .type "ZeroDivisionError", .type "Exception"] : List Value).map (fun c => PySem.W.kitOne K (.ref A.C_BadAnswer) c) = [some false, some false, some false, some false, some false, some true, some false, some false, some false, some false, some false, some false, some false, some true, some false, some false, some false, some false, some false, some false, some false, some false, some true]
  x_kit_BadKind : ([.ref A.C_BadPaper, .ref A.C_Flawed, .ref A.C_BadLine, .ref A.C_Busy, .ref A.C_Gone, .ref A.C_BadAnswer, .ref A.C_BadKind, .ref A.C_BadText, .ref A.C_BadNumber, .ref A.C_NoSuch, .ref A.C_TooMany, .ref A.C_Stopped, .ref A.C_SortError, .type "TypeError", .type "ValueError", .type "IndexError", .type "KeyError", .type "LookupError", .type "OverflowError", .type "ArithmeticError", .type "RuntimeError", .type "ZeroDivisionError", .type "Exception"] : List Value).map (fun c => PySem.W.kitOne K (.ref A.C_BadKind) c) = [some false, some false, some false, some false, some false, some false, some true, some false, some false, some false, some false, some false, some false, some true, some false, some false, some false, some false, some false, some false, some false, some false, some true]
  x_kit_BadText : ([.ref A.C_BadPaper, .ref A.C_Flawed, .ref A.C_BadLine, .ref A.C_Busy, .ref A.C_Gone, .ref A.C_BadAnswer, .ref A.C_BadKind, .ref A.C_BadText, .ref A.C_BadNumber, .ref A.C_NoSuch, .ref A.C_TooMany, .ref A.C_Stopped, .ref A.C_SortError, .type "TypeError", .type "ValueError", .type "IndexError", .type "KeyError", .type "LookupError", .type "OverflowError", .type "ArithmeticError", .type "RuntimeError", .type "ZeroDivisionError", .type "Exception"] : List Value).map (fun c => PySem.W.kitOne K (.ref A.C_BadText) c) = [some false, some false, some false, some false, some false, some false, some false, some true, some false, some false, some false, some false, some false, some false, some true, some false, some false, some false, some false, some false, some false, some false, some true]
  x_kit_BadNumber : ([.ref A.C_BadPaper, .ref A.C_Flawed, .ref A.C_BadLine, .ref A.C_Busy, .ref A.C_Gone, .ref A.C_BadAnswer, .ref A.C_BadKind, .ref A.C_BadText, .ref A.C_BadNumber, .ref A.C_NoSuch, .ref A.C_TooMany, .ref A.C_Stopped, .ref A.C_SortError, .type "TypeError", .type "ValueError", .type "IndexError", .type "KeyError", .type "LookupError", .type "OverflowError", .type "ArithmeticError", .type "RuntimeError", .type "ZeroDivisionError", .type "Exception"] : List Value).map (fun c => PySem.W.kitOne K (.ref A.C_BadNumber) c) = [some false, some false, some false, some false, some false, some false, some false, some false, some true, some false, some false, some false, some false, some false, some false, some true, some false, some true, some false, some false, some false, some false, some true]
  x_kit_NoSuch : ([.ref A.C_BadPaper, .ref A.C_Flawed, .ref A.C_BadLine, .ref A.C_Busy, .ref A.C_Gone, .ref A.C_BadAnswer, .ref A.C_BadKind, .ref A.C_BadText, .ref A.C_BadNumber, .ref A.C_NoSuch, .ref A.C_TooMany, .ref A.C_Stopped, .ref A.C_SortError, .type "TypeError", .type "ValueError", .type "IndexError", .type "KeyError", .type "LookupError", .type "OverflowError", .type "ArithmeticError", .type "RuntimeError", .type "ZeroDivisionError", .type "Exception"] : List Value).map (fun c => PySem.W.kitOne K (.ref A.C_NoSuch) c) = [some false, some false, some false, some false, some false, some false, some false, some false, some false, some true, some false, some false, some false, some false, some false, some false, some true, some true, some false, some false, some false, some false, some true]
  x_kit_TooMany : ([.ref A.C_BadPaper, .ref A.C_Flawed, .ref A.C_BadLine, .ref A.C_Busy, .ref A.C_Gone, .ref A.C_BadAnswer, .ref A.C_BadKind, .ref A.C_BadText, .ref A.C_BadNumber, .ref A.C_NoSuch, .ref A.C_TooMany, .ref A.C_Stopped, .ref A.C_SortError, .type "TypeError", .type "ValueError", .type "IndexError", .type "KeyError", .type "LookupError", .type "OverflowError", .type "ArithmeticError", .type "RuntimeError", .type "ZeroDivisionError", .type "Exception"] : List Value).map (fun c => PySem.W.kitOne K (.ref A.C_TooMany) c) = [some false, some false, some false, some false, some false, some false, some false, some false, some false, some false, some true, some false, some false, some false, some false, some false, some false, some false, some true, some true, some false, some false, some true]
  x_kit_Stopped : ([.ref A.C_BadPaper, .ref A.C_Flawed, .ref A.C_BadLine, .ref A.C_Busy, .ref A.C_Gone, .ref A.C_BadAnswer, .ref A.C_BadKind, .ref A.C_BadText, .ref A.C_BadNumber, .ref A.C_NoSuch, .ref A.C_TooMany, .ref A.C_Stopped, .ref A.C_SortError, .type "TypeError", .type "ValueError", .type "IndexError", .type "KeyError", .type "LookupError", .type "OverflowError", .type "ArithmeticError", .type "RuntimeError", .type "ZeroDivisionError", .type "Exception"] : List Value).map (fun c => PySem.W.kitOne K (.ref A.C_Stopped) c) = [some false, some false, some false, some false, some false, some false, some false, some false, some false, some false, some false, some true, some false, some false, some false, some false, some false, some false, some false, some false, some true, some false, some true]
  x_kit_SortError : ([.ref A.C_BadPaper, .ref A.C_Flawed, .ref A.C_BadLine, .ref A.C_Busy, .ref A.C_Gone, .ref A.C_BadAnswer, .ref A.C_BadKind, .ref A.C_BadText, .ref A.C_BadNumber, .ref A.C_NoSuch, .ref A.C_TooMany, .ref A.C_Stopped, .ref A.C_SortError, .type "TypeError", .type "ValueError", .type "IndexError", .type "KeyError", .type "LookupError", .type "OverflowError", .type "ArithmeticError", .type "RuntimeError", .type "ZeroDivisionError", .type "Exception"] : List Value).map (fun c => PySem.W.kitOne K (.ref A.C_SortError) c) = [some false, some false, some false, some false, some false, some false, some false, some false, some false, some false, some false, some false, some true, some false, some false, some false, some false, some false, some false, some false, some false, some false, some true]
  n_len : mg "len" = none
  n_min : mg "min" = none
  n_max : mg "max" = none
  n_range : mg "range" = none
  n_repr : mg "repr" = none
  n_isinstance : mg "isinstance" = none
  n_int : mg "int" = none
  n_bool : mg "bool" = none
  n_list : mg "list" = none
  n_zip : mg "zip" = none
  n_Exception : mg "Exception" = none
  n_TypeError : mg "TypeError" = none
  n_ValueError : mg "ValueError" = none
  n_IndexError : mg "IndexError" = none
  n_KeyError : mg "KeyError" = none
  n_LookupError : mg "LookupError" = none
  n_OverflowError : mg "OverflowError" = none
  n_ArithmeticError : mg "ArithmeticError" = none
  n_RuntimeError : mg "RuntimeError" = none
  n_ZeroDivisionError : mg "ZeroDivisionError" = none
set_option maxHeartbeats 0 in
theorem all_mk {K : PySem.W.Frag} {mg : Str → Option Value} {w : World} {h : Heap} {C_SortError : Addr} {C_BadPaper : Addr} {f_BadPaper___init__ : Addr} {oc_BadPaper___init__ doc_BadPaper___init__ pm_BadPaper___init__ cd_BadPaper___init__ ct_BadPaper___init__ kV_BadPaper___init__ : Value} {od_BadPaper___init__ an_BadPaper___init__ : Option Addr} {osl_BadPaper___init__ : Array (Option Value)} {C_Flawed : Addr} {f_Flawed___init__ : Addr} {oc_Flawed___init__ doc_Flawed___init__ pm_Flawed___init__ cd_Flawed___init__ ct_Flawed___init__ kV_Flawed___init__ : Value} {od_Flawed___init__ an_Flawed___init__ : Option Addr} {osl_Flawed___init__ : Array (Option Value)} {C_BadLine : Addr} {f_BadLine___init__ : Addr} {oc_BadLine___init__ doc_BadLine___init__ pm_BadLine___init__ cd_BadLine___init__ ct_BadLine___init__ kV_BadLine___init__ : Value} {od_BadLine___init__ an_BadLine___init__ : Option Addr} {osl_BadLine___init__ : Array (Option Value)} {C_Busy : Addr} {C_Gone : Addr} {C_BadAnswer : Addr} {f_BadAnswer___init__ : Addr} {oc_BadAnswer___init__ doc_BadAnswer___init__ pm_BadAnswer___init__ cd_BadAnswer___init__ ct_BadAnswer___init__ kV_BadAnswer___init__ : Value} {od_BadAnswer___init__ an_BadAnswer___init__ : Option Addr} {osl_BadAnswer___init__ : Array (Option Value)} {C_BadKind : Addr} {f_BadKind___init__ : Addr} {oc_BadKind___init__ doc_BadKind___init__ pm_BadKind___init__ cd_BadKind___init__ ct_BadKind___init__ kV_BadKind___init__ : Value} {od_BadKind___init__ an_BadKind___init__ : Option Addr} {osl_BadKind___init__ : Array (Option Value)} {C_BadText : Addr} {C_BadNumber : Addr} {f_BadNumber___init__ : Addr} {oc_BadNumber___init__ doc_BadNumber___init__ pm_BadNumber___init__ cd_BadNumber___init__ ct_BadNumber___init__ kV_BadNumber___init__ : Value} {od_BadNumber___init__ an_BadNumber___init__ : Option Addr} {osl_BadNumber___init__ : Array (Option Value)} {C_NoSuch : Addr} {f_NoSuch___init__ : Addr} {oc_NoSuch___init__ doc_NoSuch___init__ pm_NoSuch___init__ cd_NoSuch___init__ ct_NoSuch___init__ kV_NoSuch___init__ : Value} {od_NoSuch___init__ an_NoSuch___init__ : Option Addr} {osl_NoSuch___init__ : Array (Option Value)} {C_TooMany : Addr} {f_TooMany___init__ : Addr} {oc_TooMany___init__ doc_TooMany___init__ pm_TooMany___init__ cd_TooMany___init__ ct_TooMany___init__ kV_TooMany___init__ : Value} {od_TooMany___init__ an_TooMany___init__ : Option Addr} {osl_TooMany___init__ : Array (Option Value)} {C_Stopped : Addr} {f_Stopped___init__ : Addr} {oc_Stopped___init__ doc_Stopped___init__ pm_Stopped___init__ cd_Stopped___init__ ct_Stopped___init__ kV_Stopped___init__ : Value} {od_Stopped___init__ an_Stopped___init__ : Option Addr} {osl_Stopped___init__ : Array (Option Value)} {f__law_mixed : Addr} {oc__law_mixed doc__law_mixed pm__law_mixed cd__law_mixed ct__law_mixed kV__law_mixed : Value} {od__law_mixed an__law_mixed : Option Addr} {osl__law_mixed : Array (Option Value)} {f__law_take : Addr} {oc__law_take doc__law_take pm__law_take cd__law_take ct__law_take kV__law_take : Value} {od__law_take an__law_take : Option Addr} {osl__law_take : Array (Option Value)} {f__law_words : Addr} {oc__law_words doc__law_words pm__law_words cd__law_words ct__law_words kV__law_words : Value} {od__law_words an__law_words : Option Addr} {osl__law_words : Array (Option Value)} {f__law_kinds : Addr} {oc__law_kinds doc__law_kinds pm__law_kinds cd__law_kinds ct__law_kinds kV__law_kinds : Value} {od__law_kinds an__law_kinds : Option Addr} {osl__law_kinds : Array (Option Value)} {f__law_thing_by : Addr} {oc__law_thing_by doc__law_thing_by pm__law_thing_by cd__law_thing_by ct__law_thing_by kV__law_thing_by : Value} {od__law_thing_by an__law_thing_by : Option Addr} {osl__law_thing_by : Array (Option Value)} {f__law_rows : Addr} {oc__law_rows doc__law_rows pm__law_rows cd__law_rows ct__law_rows kV__law_rows : Value} {od__law_rows an__law_rows : Option Addr} {osl__law_rows : Array (Option Value)} {f__law_fields : Addr} {oc__law_fields doc__law_fields pm__law_fields cd__law_fields ct__law_fields kV__law_fields : Value} {od__law_fields an__law_fields : Option Addr} {osl__law_fields : Array (Option Value)} {f_law : Addr} {oc_law doc_law pm_law cd_law ct_law kV_law : Value} {od_law an_law : Option Addr} {osl_law : Array (Option Value)} (X : K.In h) (G : h.Ns mainGlobals mg)
    (a_SortError : PySem.W.nsIn K mainGlobals "SortError" = some (some (.ref C_SortError)))
    (ini_SortError : PySem.W.excIn K C_SortError [.type "Exception", .type "BaseException", .type "object"] "Exception.__new__" = true)
    (dic_SortError : PySem.W.hasDictIn K C_SortError = true)
    (bex_SortError : PySem.W.subIn K (.ref C_SortError) (.type "BaseException") = some true)
    (kpc_SortError : PySem.W.keepIn K (.ref C_SortError) = true)
    (xcl_SortError : (PySem.W.clsIn K C_SortError).isSome = true)
    (xga_SortError : PySem.W.findIn K (.ref C_SortError) "__getattribute__" = some (some (.builtin "BaseException.__getattribute__")))
    (xgg_SortError : PySem.W.findIn K (.ref C_SortError) "__getattr__" = some none)
    (xha_SortError : PySem.W.findIn K (.ref C_SortError) "__class__" = some (some (.builtin "object.__class__")))
    (xhn_SortError : PySem.W.specialIn K (.builtin "object.__class__") "__get__" = some (some (.builtin "getset_descriptor.__get__")))
    (xht_SortError : PySem.W.takesIn K (.builtin "object.__class__") = some true)
    (xhm_SortError : PySem.W.mroIn K C_SortError (.type "object") = some true)
    (rd_SortError : PySem.W.readsIn K C_SortError (.type "type") = true)
    (rg_SortError : PySem.W.specialIn K (.ref C_SortError) "__getattribute__" = some (some (.builtin "type.__getattribute__")))
    (a_BadPaper : PySem.W.nsIn K mainGlobals "BadPaper" = some (some (.ref C_BadPaper)))
    (ini_BadPaper : PySem.W.excInitIn K C_BadPaper [.type "Exception", .type "BaseException", .type "object"] "Exception.__new__" = true)
    (ovr_BadPaper : PySem.W.excOver K C_BadPaper [.type "Exception", .type "BaseException", .type "object"] = true)
    (dic_BadPaper : PySem.W.hasDictIn K C_BadPaper = true)
    (sav_BadPaper : PySem.W.findIn K (.ref C_BadPaper) "__setattr__" = some (some (.builtin "object.__setattr__")))
    (bex_BadPaper : PySem.W.subIn K (.ref C_BadPaper) (.type "BaseException") = some true)
    (tyc_BadPaper : PySem.W.typeIn K (.ref C_BadPaper) = some (.type "type"))
    (kpc_BadPaper : PySem.W.keepIn K (.ref C_BadPaper) = true)
    (xcl_BadPaper : (PySem.W.clsIn K C_BadPaper).isSome = true)
    (xga_BadPaper : PySem.W.findIn K (.ref C_BadPaper) "__getattribute__" = some (some (.builtin "BaseException.__getattribute__")))
    (xgg_BadPaper : PySem.W.findIn K (.ref C_BadPaper) "__getattr__" = some none)
    (xha_BadPaper : PySem.W.findIn K (.ref C_BadPaper) "__class__" = some (some (.builtin "object.__class__")))
    (xhn_BadPaper : PySem.W.specialIn K (.builtin "object.__class__") "__get__" = some (some (.builtin "getset_descriptor.__get__")))
    (xht_BadPaper : PySem.W.takesIn K (.builtin "object.__class__") = some true)
    (xhm_BadPaper : PySem.W.mroIn K C_BadPaper (.type "object") = some true)
    (tk_BadPaper_at : PySem.W.takerIn K C_BadPaper "at" = some none)
    (na_BadPaper_at : PySem.W.findIn K (.ref C_BadPaper) "at" = some none)
    (a_BadPaper___init__ : PySem.W.findIn K (.ref C_BadPaper) "__init__" = some (some (.ref f_BadPaper___init__)))
    (y_BadPaper___init__ : PySem.W.typeIn K (.ref f_BadPaper___init__) = some (.type "function"))
    (l_BadPaper___init__ : K.lookup f_BadPaper___init__ = some ⟨oc_BadPaper___init__, od_BadPaper___init__, .func (PySem.W.fnOf "__init__" "BadPaper.__init__" (defArgs s_BadPaper___init__) (defBody s_BadPaper___init__) (defScope s_BadPaper___init__) .none kV_BadPaper___init__ doc_BadPaper___init__ pm_BadPaper___init__ an_BadPaper___init__ cd_BadPaper___init__ ct_BadPaper___init__), osl_BadPaper___init__⟩)
    (e_BadPaper___init__ : PySem.W.codeIn K cd_BadPaper___init__ "BadPaper.__init__" = true)
    (k_BadPaper___init__ : PySem.W.keepIn K (.ref f_BadPaper___init__) = true)
    (v_BadPaper : PySem.W.findCls K (.ref C_SortError) (.type "type") "__init__" = some (.val (.builtin "Exception.__init__")))
    (a_Flawed : PySem.W.nsIn K mainGlobals "Flawed" = some (some (.ref C_Flawed)))
    (ini_Flawed : PySem.W.excInitIn K C_Flawed [.type "Exception", .type "BaseException", .type "object"] "Exception.__new__" = true)
    (ovr_Flawed : PySem.W.excOver K C_Flawed [.type "Exception", .type "BaseException", .type "object"] = true)
    (dic_Flawed : PySem.W.hasDictIn K C_Flawed = true)
    (sav_Flawed : PySem.W.findIn K (.ref C_Flawed) "__setattr__" = some (some (.builtin "object.__setattr__")))
    (bex_Flawed : PySem.W.subIn K (.ref C_Flawed) (.type "BaseException") = some true)
    (tyc_Flawed : PySem.W.typeIn K (.ref C_Flawed) = some (.type "type"))
    (kpc_Flawed : PySem.W.keepIn K (.ref C_Flawed) = true)
    (xcl_Flawed : (PySem.W.clsIn K C_Flawed).isSome = true)
    (xga_Flawed : PySem.W.findIn K (.ref C_Flawed) "__getattribute__" = some (some (.builtin "BaseException.__getattribute__")))
    (xgg_Flawed : PySem.W.findIn K (.ref C_Flawed) "__getattr__" = some none)
    (xha_Flawed : PySem.W.findIn K (.ref C_Flawed) "__class__" = some (some (.builtin "object.__class__")))
    (xhn_Flawed : PySem.W.specialIn K (.builtin "object.__class__") "__get__" = some (some (.builtin "getset_descriptor.__get__")))
    (xht_Flawed : PySem.W.takesIn K (.builtin "object.__class__") = some true)
    (xhm_Flawed : PySem.W.mroIn K C_Flawed (.type "object") = some true)
    (tk_Flawed_word : PySem.W.takerIn K C_Flawed "word" = some none)
    (na_Flawed_word : PySem.W.findIn K (.ref C_Flawed) "word" = some none)
    (tk_Flawed_places : PySem.W.takerIn K C_Flawed "places" = some none)
    (na_Flawed_places : PySem.W.findIn K (.ref C_Flawed) "places" = some none)
    (a_Flawed___init__ : PySem.W.findIn K (.ref C_Flawed) "__init__" = some (some (.ref f_Flawed___init__)))
    (y_Flawed___init__ : PySem.W.typeIn K (.ref f_Flawed___init__) = some (.type "function"))
    (l_Flawed___init__ : K.lookup f_Flawed___init__ = some ⟨oc_Flawed___init__, od_Flawed___init__, .func (PySem.W.fnOf "__init__" "Flawed.__init__" (defArgs s_Flawed___init__) (defBody s_Flawed___init__) (defScope s_Flawed___init__) .none kV_Flawed___init__ doc_Flawed___init__ pm_Flawed___init__ an_Flawed___init__ cd_Flawed___init__ ct_Flawed___init__), osl_Flawed___init__⟩)
    (e_Flawed___init__ : PySem.W.codeIn K cd_Flawed___init__ "Flawed.__init__" = true)
    (k_Flawed___init__ : PySem.W.keepIn K (.ref f_Flawed___init__) = true)
    (v_Flawed : PySem.W.findCls K (.ref C_SortError) (.type "type") "__init__" = some (.val (.builtin "Exception.__init__")))
    (a_BadLine : PySem.W.nsIn K mainGlobals "BadLine" = some (some (.ref C_BadLine)))
    (ini_BadLine : PySem.W.excInitIn K C_BadLine [.type "Exception", .type "BaseException", .type "object"] "Exception.__new__" = true)
    (ovr_BadLine : PySem.W.excOver K C_BadLine [.type "Exception", .type "BaseException", .type "object"] = true)
    (dic_BadLine : PySem.W.hasDictIn K C_BadLine = true)
    (sav_BadLine : PySem.W.findIn K (.ref C_BadLine) "__setattr__" = some (some (.builtin "object.__setattr__")))
    (bex_BadLine : PySem.W.subIn K (.ref C_BadLine) (.type "BaseException") = some true)
    (tyc_BadLine : PySem.W.typeIn K (.ref C_BadLine) = some (.type "type"))
    (kpc_BadLine : PySem.W.keepIn K (.ref C_BadLine) = true)
    (xcl_BadLine : (PySem.W.clsIn K C_BadLine).isSome = true)
    (xga_BadLine : PySem.W.findIn K (.ref C_BadLine) "__getattribute__" = some (some (.builtin "BaseException.__getattribute__")))
    (xgg_BadLine : PySem.W.findIn K (.ref C_BadLine) "__getattr__" = some none)
    (xha_BadLine : PySem.W.findIn K (.ref C_BadLine) "__class__" = some (some (.builtin "object.__class__")))
    (xhn_BadLine : PySem.W.specialIn K (.builtin "object.__class__") "__get__" = some (some (.builtin "getset_descriptor.__get__")))
    (xht_BadLine : PySem.W.takesIn K (.builtin "object.__class__") = some true)
    (xhm_BadLine : PySem.W.mroIn K C_BadLine (.type "object") = some true)
    (tk_BadLine_row : PySem.W.takerIn K C_BadLine "row" = some none)
    (na_BadLine_row : PySem.W.findIn K (.ref C_BadLine) "row" = some none)
    (tk_BadLine_word : PySem.W.takerIn K C_BadLine "word" = some none)
    (na_BadLine_word : PySem.W.findIn K (.ref C_BadLine) "word" = some none)
    (a_BadLine___init__ : PySem.W.findIn K (.ref C_BadLine) "__init__" = some (some (.ref f_BadLine___init__)))
    (y_BadLine___init__ : PySem.W.typeIn K (.ref f_BadLine___init__) = some (.type "function"))
    (l_BadLine___init__ : K.lookup f_BadLine___init__ = some ⟨oc_BadLine___init__, od_BadLine___init__, .func (PySem.W.fnOf "__init__" "BadLine.__init__" (defArgs s_BadLine___init__) (defBody s_BadLine___init__) (defScope s_BadLine___init__) .none kV_BadLine___init__ doc_BadLine___init__ pm_BadLine___init__ an_BadLine___init__ cd_BadLine___init__ ct_BadLine___init__), osl_BadLine___init__⟩)
    (e_BadLine___init__ : PySem.W.codeIn K cd_BadLine___init__ "BadLine.__init__" = true)
    (k_BadLine___init__ : PySem.W.keepIn K (.ref f_BadLine___init__) = true)
    (v_BadLine : PySem.W.findCls K (.ref C_SortError) (.type "type") "__init__" = some (.val (.builtin "Exception.__init__")))
    (a_Busy : PySem.W.nsIn K mainGlobals "Busy" = some (some (.ref C_Busy)))
    (ini_Busy : PySem.W.excIn K C_Busy [.type "Exception", .type "BaseException", .type "object"] "Exception.__new__" = true)
    (dic_Busy : PySem.W.hasDictIn K C_Busy = true)
    (bex_Busy : PySem.W.subIn K (.ref C_Busy) (.type "BaseException") = some true)
    (kpc_Busy : PySem.W.keepIn K (.ref C_Busy) = true)
    (xcl_Busy : (PySem.W.clsIn K C_Busy).isSome = true)
    (xga_Busy : PySem.W.findIn K (.ref C_Busy) "__getattribute__" = some (some (.builtin "BaseException.__getattribute__")))
    (xgg_Busy : PySem.W.findIn K (.ref C_Busy) "__getattr__" = some none)
    (xha_Busy : PySem.W.findIn K (.ref C_Busy) "__class__" = some (some (.builtin "object.__class__")))
    (xhn_Busy : PySem.W.specialIn K (.builtin "object.__class__") "__get__" = some (some (.builtin "getset_descriptor.__get__")))
    (xht_Busy : PySem.W.takesIn K (.builtin "object.__class__") = some true)
    (xhm_Busy : PySem.W.mroIn K C_Busy (.type "object") = some true)
    (a_Gone : PySem.W.nsIn K mainGlobals "Gone" = some (some (.ref C_Gone)))
    (ini_Gone : PySem.W.excIn K C_Gone [.type "Exception", .type "BaseException", .type "object"] "Exception.__new__" = true)
    (dic_Gone : PySem.W.hasDictIn K C_Gone = true)
    (bex_Gone : PySem.W.subIn K (.ref C_Gone) (.type "BaseException") = some true)
    (kpc_Gone : PySem.W.keepIn K (.ref C_Gone) = true)
    (xcl_Gone : (PySem.W.clsIn K C_Gone).isSome = true)
    (xga_Gone : PySem.W.findIn K (.ref C_Gone) "__getattribute__" = some (some (.builtin "BaseException.__getattribute__")))
    (xgg_Gone : PySem.W.findIn K (.ref C_Gone) "__getattr__" = some none)
    (xha_Gone : PySem.W.findIn K (.ref C_Gone) "__class__" = some (some (.builtin "object.__class__")))
    (xhn_Gone : PySem.W.specialIn K (.builtin "object.__class__") "__get__" = some (some (.builtin "getset_descriptor.__get__")))
    (xht_Gone : PySem.W.takesIn K (.builtin "object.__class__") = some true)
    (xhm_Gone : PySem.W.mroIn K C_Gone (.type "object") = some true)
    (a_BadAnswer : PySem.W.nsIn K mainGlobals "BadAnswer" = some (some (.ref C_BadAnswer)))
    (ini_BadAnswer : PySem.W.excInitIn K C_BadAnswer [.type "TypeError", .type "Exception", .type "BaseException", .type "object"] "TypeError.__new__" = true)
    (ovr_BadAnswer : PySem.W.excOver K C_BadAnswer [.type "TypeError", .type "Exception", .type "BaseException", .type "object"] = true)
    (dic_BadAnswer : PySem.W.hasDictIn K C_BadAnswer = true)
    (sav_BadAnswer : PySem.W.findIn K (.ref C_BadAnswer) "__setattr__" = some (some (.builtin "object.__setattr__")))
    (bex_BadAnswer : PySem.W.subIn K (.ref C_BadAnswer) (.type "BaseException") = some true)
    (tyc_BadAnswer : PySem.W.typeIn K (.ref C_BadAnswer) = some (.type "type"))
    (kpc_BadAnswer : PySem.W.keepIn K (.ref C_BadAnswer) = true)
    (xcl_BadAnswer : (PySem.W.clsIn K C_BadAnswer).isSome = true)
    (xga_BadAnswer : PySem.W.findIn K (.ref C_BadAnswer) "__getattribute__" = some (some (.builtin "BaseException.__getattribute__")))
    (xgg_BadAnswer : PySem.W.findIn K (.ref C_BadAnswer) "__getattr__" = some none)
    (xha_BadAnswer : PySem.W.findIn K (.ref C_BadAnswer) "__class__" = some (some (.builtin "object.__class__")))
    (xhn_BadAnswer : PySem.W.specialIn K (.builtin "object.__class__") "__get__" = some (some (.builtin "getset_descriptor.__get__")))
    (xht_BadAnswer : PySem.W.takesIn K (.builtin "object.__class__") = some true)
    (xhm_BadAnswer : PySem.W.mroIn K C_BadAnswer (.type "object") = some true)
    (tk_BadAnswer_answer : PySem.W.takerIn K C_BadAnswer "answer" = some none)
    (na_BadAnswer_answer : PySem.W.findIn K (.ref C_BadAnswer) "answer" = some none)
    (a_BadAnswer___init__ : PySem.W.findIn K (.ref C_BadAnswer) "__init__" = some (some (.ref f_BadAnswer___init__)))
    (y_BadAnswer___init__ : PySem.W.typeIn K (.ref f_BadAnswer___init__) = some (.type "function"))
    (l_BadAnswer___init__ : K.lookup f_BadAnswer___init__ = some ⟨oc_BadAnswer___init__, od_BadAnswer___init__, .func (PySem.W.fnOf "__init__" "BadAnswer.__init__" (defArgs s_BadAnswer___init__) (defBody s_BadAnswer___init__) (defScope s_BadAnswer___init__) .none kV_BadAnswer___init__ doc_BadAnswer___init__ pm_BadAnswer___init__ an_BadAnswer___init__ cd_BadAnswer___init__ ct_BadAnswer___init__), osl_BadAnswer___init__⟩)
    (e_BadAnswer___init__ : PySem.W.codeIn K cd_BadAnswer___init__ "BadAnswer.__init__" = true)
    (k_BadAnswer___init__ : PySem.W.keepIn K (.ref f_BadAnswer___init__) = true)
    (v_BadAnswer : PySem.W.findCls K (.type "TypeError") (.type "type") "__init__" = some (.val (.builtin "TypeError.__init__")))
    (a_BadKind : PySem.W.nsIn K mainGlobals "BadKind" = some (some (.ref C_BadKind)))
    (ini_BadKind : PySem.W.excInitIn K C_BadKind [.type "TypeError", .type "Exception", .type "BaseException", .type "object"] "TypeError.__new__" = true)
    (ovr_BadKind : PySem.W.excOver K C_BadKind [.type "TypeError", .type "Exception", .type "BaseException", .type "object"] = true)
    (dic_BadKind : PySem.W.hasDictIn K C_BadKind = true)
    (sav_BadKind : PySem.W.findIn K (.ref C_BadKind) "__setattr__" = some (some (.builtin "object.__setattr__")))
    (bex_BadKind : PySem.W.subIn K (.ref C_BadKind) (.type "BaseException") = some true)
    (tyc_BadKind : PySem.W.typeIn K (.ref C_BadKind) = some (.type "type"))
    (kpc_BadKind : PySem.W.keepIn K (.ref C_BadKind) = true)
    (xcl_BadKind : (PySem.W.clsIn K C_BadKind).isSome = true)
    (xga_BadKind : PySem.W.findIn K (.ref C_BadKind) "__getattribute__" = some (some (.builtin "BaseException.__getattribute__")))
    (xgg_BadKind : PySem.W.findIn K (.ref C_BadKind) "__getattr__" = some none)
    (xha_BadKind : PySem.W.findIn K (.ref C_BadKind) "__class__" = some (some (.builtin "object.__class__")))
    (xhn_BadKind : PySem.W.specialIn K (.builtin "object.__class__") "__get__" = some (some (.builtin "getset_descriptor.__get__")))
    (xht_BadKind : PySem.W.takesIn K (.builtin "object.__class__") = some true)
    (xhm_BadKind : PySem.W.mroIn K C_BadKind (.type "object") = some true)
    (tk_BadKind_wanted : PySem.W.takerIn K C_BadKind "wanted" = some none)
    (na_BadKind_wanted : PySem.W.findIn K (.ref C_BadKind) "wanted" = some none)
    (a_BadKind___init__ : PySem.W.findIn K (.ref C_BadKind) "__init__" = some (some (.ref f_BadKind___init__)))
    (y_BadKind___init__ : PySem.W.typeIn K (.ref f_BadKind___init__) = some (.type "function"))
    (l_BadKind___init__ : K.lookup f_BadKind___init__ = some ⟨oc_BadKind___init__, od_BadKind___init__, .func (PySem.W.fnOf "__init__" "BadKind.__init__" (defArgs s_BadKind___init__) (defBody s_BadKind___init__) (defScope s_BadKind___init__) .none kV_BadKind___init__ doc_BadKind___init__ pm_BadKind___init__ an_BadKind___init__ cd_BadKind___init__ ct_BadKind___init__), osl_BadKind___init__⟩)
    (e_BadKind___init__ : PySem.W.codeIn K cd_BadKind___init__ "BadKind.__init__" = true)
    (k_BadKind___init__ : PySem.W.keepIn K (.ref f_BadKind___init__) = true)
    (v_BadKind : PySem.W.findCls K (.type "TypeError") (.type "type") "__init__" = some (.val (.builtin "TypeError.__init__")))
    (a_BadText : PySem.W.nsIn K mainGlobals "BadText" = some (some (.ref C_BadText)))
    (ini_BadText : PySem.W.excIn K C_BadText [.type "ValueError", .type "Exception", .type "BaseException", .type "object"] "ValueError.__new__" = true)
    (dic_BadText : PySem.W.hasDictIn K C_BadText = true)
    (bex_BadText : PySem.W.subIn K (.ref C_BadText) (.type "BaseException") = some true)
    (kpc_BadText : PySem.W.keepIn K (.ref C_BadText) = true)
    (xcl_BadText : (PySem.W.clsIn K C_BadText).isSome = true)
    (xga_BadText : PySem.W.findIn K (.ref C_BadText) "__getattribute__" = some (some (.builtin "BaseException.__getattribute__")))
    (xgg_BadText : PySem.W.findIn K (.ref C_BadText) "__getattr__" = some none)
    (xha_BadText : PySem.W.findIn K (.ref C_BadText) "__class__" = some (some (.builtin "object.__class__")))
    (xhn_BadText : PySem.W.specialIn K (.builtin "object.__class__") "__get__" = some (some (.builtin "getset_descriptor.__get__")))
    (xht_BadText : PySem.W.takesIn K (.builtin "object.__class__") = some true)
    (xhm_BadText : PySem.W.mroIn K C_BadText (.type "object") = some true)
    (a_BadNumber : PySem.W.nsIn K mainGlobals "BadNumber" = some (some (.ref C_BadNumber)))
    (ini_BadNumber : PySem.W.excInitIn K C_BadNumber [.type "IndexError", .type "LookupError", .type "Exception", .type "BaseException", .type "object"] "IndexError.__new__" = true)
    (ovr_BadNumber : PySem.W.excOver K C_BadNumber [.type "IndexError", .type "LookupError", .type "Exception", .type "BaseException", .type "object"] = true)
    (dic_BadNumber : PySem.W.hasDictIn K C_BadNumber = true)
    (sav_BadNumber : PySem.W.findIn K (.ref C_BadNumber) "__setattr__" = some (some (.builtin "object.__setattr__")))
    (bex_BadNumber : PySem.W.subIn K (.ref C_BadNumber) (.type "BaseException") = some true)
    (tyc_BadNumber : PySem.W.typeIn K (.ref C_BadNumber) = some (.type "type"))
    (kpc_BadNumber : PySem.W.keepIn K (.ref C_BadNumber) = true)
    (xcl_BadNumber : (PySem.W.clsIn K C_BadNumber).isSome = true)
    (xga_BadNumber : PySem.W.findIn K (.ref C_BadNumber) "__getattribute__" = some (some (.builtin "BaseException.__getattribute__")))
    (xgg_BadNumber : PySem.W.findIn K (.ref C_BadNumber) "__getattr__" = some none)
    (xha_BadNumber : PySem.W.findIn K (.ref C_BadNumber) "__class__" = some (some (.builtin "object.__class__")))
    (xhn_BadNumber : PySem.W.specialIn K (.builtin "object.__class__") "__get__" = some (some (.builtin "getset_descriptor.__get__")))
    (xht_BadNumber : PySem.W.takesIn K (.builtin "object.__class__") = some true)
    (xhm_BadNumber : PySem.W.mroIn K C_BadNumber (.type "object") = some true)
    (tk_BadNumber_at : PySem.W.takerIn K C_BadNumber "at" = some none)
    (na_BadNumber_at : PySem.W.findIn K (.ref C_BadNumber) "at" = some none)
    (a_BadNumber___init__ : PySem.W.findIn K (.ref C_BadNumber) "__init__" = some (some (.ref f_BadNumber___init__)))
    (y_BadNumber___init__ : PySem.W.typeIn K (.ref f_BadNumber___init__) = some (.type "function"))
    (l_BadNumber___init__ : K.lookup f_BadNumber___init__ = some ⟨oc_BadNumber___init__, od_BadNumber___init__, .func (PySem.W.fnOf "__init__" "BadNumber.__init__" (defArgs s_BadNumber___init__) (defBody s_BadNumber___init__) (defScope s_BadNumber___init__) .none kV_BadNumber___init__ doc_BadNumber___init__ pm_BadNumber___init__ an_BadNumber___init__ cd_BadNumber___init__ ct_BadNumber___init__), osl_BadNumber___init__⟩)
    (e_BadNumber___init__ : PySem.W.codeIn K cd_BadNumber___init__ "BadNumber.__init__" = true)
    (k_BadNumber___init__ : PySem.W.keepIn K (.ref f_BadNumber___init__) = true)
    (v_BadNumber : PySem.W.findCls K (.type "IndexError") (.type "type") "__init__" = some (.val (.builtin "IndexError.__init__")))
    (a_NoSuch : PySem.W.nsIn K mainGlobals "NoSuch" = some (some (.ref C_NoSuch)))
    (ini_NoSuch : PySem.W.excInitIn K C_NoSuch [.type "KeyError", .type "LookupError", .type "Exception", .type "BaseException", .type "object"] "LookupError.__new__" = true)
    (ovr_NoSuch : PySem.W.excOver K C_NoSuch [.type "KeyError", .type "LookupError", .type "Exception", .type "BaseException", .type "object"] = true)
    (dic_NoSuch : PySem.W.hasDictIn K C_NoSuch = true)
    (sav_NoSuch : PySem.W.findIn K (.ref C_NoSuch) "__setattr__" = some (some (.builtin "object.__setattr__")))
    (bex_NoSuch : PySem.W.subIn K (.ref C_NoSuch) (.type "BaseException") = some true)
    (tyc_NoSuch : PySem.W.typeIn K (.ref C_NoSuch) = some (.type "type"))
    (kpc_NoSuch : PySem.W.keepIn K (.ref C_NoSuch) = true)
    (xcl_NoSuch : (PySem.W.clsIn K C_NoSuch).isSome = true)
    (xga_NoSuch : PySem.W.findIn K (.ref C_NoSuch) "__getattribute__" = some (some (.builtin "BaseException.__getattribute__")))
    (xgg_NoSuch : PySem.W.findIn K (.ref C_NoSuch) "__getattr__" = some none)
    (xha_NoSuch : PySem.W.findIn K (.ref C_NoSuch) "__class__" = some (some (.builtin "object.__class__")))
    (xhn_NoSuch : PySem.W.specialIn K (.builtin "object.__class__") "__get__" = some (some (.builtin "getset_descriptor.__get__")))
    (xht_NoSuch : PySem.W.takesIn K (.builtin "object.__class__") = some true)
    (xhm_NoSuch : PySem.W.mroIn K C_NoSuch (.type "object") = some true)
    (tk_NoSuch_name : PySem.W.takerIn K C_NoSuch "name" = some none)
    (na_NoSuch_name : PySem.W.findIn K (.ref C_NoSuch) "name" = some none)
    (a_NoSuch___init__ : PySem.W.findIn K (.ref C_NoSuch) "__init__" = some (some (.ref f_NoSuch___init__)))
    (y_NoSuch___init__ : PySem.W.typeIn K (.ref f_NoSuch___init__) = some (.type "function"))
    (l_NoSuch___init__ : K.lookup f_NoSuch___init__ = some ⟨oc_NoSuch___init__, od_NoSuch___init__, .func (PySem.W.fnOf "__init__" "NoSuch.__init__" (defArgs s_NoSuch___init__) (defBody s_NoSuch___init__) (defScope s_NoSuch___init__) .none kV_NoSuch___init__ doc_NoSuch___init__ pm_NoSuch___init__ an_NoSuch___init__ cd_NoSuch___init__ ct_NoSuch___init__), osl_NoSuch___init__⟩)
    (e_NoSuch___init__ : PySem.W.codeIn K cd_NoSuch___init__ "NoSuch.__init__" = true)
    (k_NoSuch___init__ : PySem.W.keepIn K (.ref f_NoSuch___init__) = true)
    (v_NoSuch : PySem.W.findCls K (.type "KeyError") (.type "type") "__init__" = some (.val (.builtin "KeyError.__init__")))
    (a_TooMany : PySem.W.nsIn K mainGlobals "TooMany" = some (some (.ref C_TooMany)))
    (ini_TooMany : PySem.W.excInitIn K C_TooMany [.type "OverflowError", .type "ArithmeticError", .type "Exception", .type "BaseException", .type "object"] "OverflowError.__new__" = true)
    (ovr_TooMany : PySem.W.excOver K C_TooMany [.type "OverflowError", .type "ArithmeticError", .type "Exception", .type "BaseException", .type "object"] = true)
    (dic_TooMany : PySem.W.hasDictIn K C_TooMany = true)
    (sav_TooMany : PySem.W.findIn K (.ref C_TooMany) "__setattr__" = some (some (.builtin "object.__setattr__")))
    (bex_TooMany : PySem.W.subIn K (.ref C_TooMany) (.type "BaseException") = some true)
    (tyc_TooMany : PySem.W.typeIn K (.ref C_TooMany) = some (.type "type"))
    (kpc_TooMany : PySem.W.keepIn K (.ref C_TooMany) = true)
    (xcl_TooMany : (PySem.W.clsIn K C_TooMany).isSome = true)
    (xga_TooMany : PySem.W.findIn K (.ref C_TooMany) "__getattribute__" = some (some (.builtin "BaseException.__getattribute__")))
    (xgg_TooMany : PySem.W.findIn K (.ref C_TooMany) "__getattr__" = some none)
    (xha_TooMany : PySem.W.findIn K (.ref C_TooMany) "__class__" = some (some (.builtin "object.__class__")))
    (xhn_TooMany : PySem.W.specialIn K (.builtin "object.__class__") "__get__" = some (some (.builtin "getset_descriptor.__get__")))
    (xht_TooMany : PySem.W.takesIn K (.builtin "object.__class__") = some true)
    (xhm_TooMany : PySem.W.mroIn K C_TooMany (.type "object") = some true)
    (tk_TooMany_most : PySem.W.takerIn K C_TooMany "most" = some none)
    (na_TooMany_most : PySem.W.findIn K (.ref C_TooMany) "most" = some none)
    (a_TooMany___init__ : PySem.W.findIn K (.ref C_TooMany) "__init__" = some (some (.ref f_TooMany___init__)))
    (y_TooMany___init__ : PySem.W.typeIn K (.ref f_TooMany___init__) = some (.type "function"))
    (l_TooMany___init__ : K.lookup f_TooMany___init__ = some ⟨oc_TooMany___init__, od_TooMany___init__, .func (PySem.W.fnOf "__init__" "TooMany.__init__" (defArgs s_TooMany___init__) (defBody s_TooMany___init__) (defScope s_TooMany___init__) .none kV_TooMany___init__ doc_TooMany___init__ pm_TooMany___init__ an_TooMany___init__ cd_TooMany___init__ ct_TooMany___init__), osl_TooMany___init__⟩)
    (e_TooMany___init__ : PySem.W.codeIn K cd_TooMany___init__ "TooMany.__init__" = true)
    (k_TooMany___init__ : PySem.W.keepIn K (.ref f_TooMany___init__) = true)
    (v_TooMany : PySem.W.findCls K (.type "OverflowError") (.type "type") "__init__" = some (.val (.builtin "OverflowError.__init__")))
    (a_Stopped : PySem.W.nsIn K mainGlobals "Stopped" = some (some (.ref C_Stopped)))
    (ini_Stopped : PySem.W.excInitIn K C_Stopped [.type "RuntimeError", .type "Exception", .type "BaseException", .type "object"] "RuntimeError.__new__" = true)
    (ovr_Stopped : PySem.W.excOver K C_Stopped [.type "RuntimeError", .type "Exception", .type "BaseException", .type "object"] = true)
    (dic_Stopped : PySem.W.hasDictIn K C_Stopped = true)
    (sav_Stopped : PySem.W.findIn K (.ref C_Stopped) "__setattr__" = some (some (.builtin "object.__setattr__")))
    (bex_Stopped : PySem.W.subIn K (.ref C_Stopped) (.type "BaseException") = some true)
    (tyc_Stopped : PySem.W.typeIn K (.ref C_Stopped) = some (.type "type"))
    (kpc_Stopped : PySem.W.keepIn K (.ref C_Stopped) = true)
    (xcl_Stopped : (PySem.W.clsIn K C_Stopped).isSome = true)
    (xga_Stopped : PySem.W.findIn K (.ref C_Stopped) "__getattribute__" = some (some (.builtin "BaseException.__getattribute__")))
    (xgg_Stopped : PySem.W.findIn K (.ref C_Stopped) "__getattr__" = some none)
    (xha_Stopped : PySem.W.findIn K (.ref C_Stopped) "__class__" = some (some (.builtin "object.__class__")))
    (xhn_Stopped : PySem.W.specialIn K (.builtin "object.__class__") "__get__" = some (some (.builtin "getset_descriptor.__get__")))
    (xht_Stopped : PySem.W.takesIn K (.builtin "object.__class__") = some true)
    (xhm_Stopped : PySem.W.mroIn K C_Stopped (.type "object") = some true)
    (tk_Stopped_at : PySem.W.takerIn K C_Stopped "at" = some none)
    (na_Stopped_at : PySem.W.findIn K (.ref C_Stopped) "at" = some none)
    (a_Stopped___init__ : PySem.W.findIn K (.ref C_Stopped) "__init__" = some (some (.ref f_Stopped___init__)))
    (y_Stopped___init__ : PySem.W.typeIn K (.ref f_Stopped___init__) = some (.type "function"))
    (l_Stopped___init__ : K.lookup f_Stopped___init__ = some ⟨oc_Stopped___init__, od_Stopped___init__, .func (PySem.W.fnOf "__init__" "Stopped.__init__" (defArgs s_Stopped___init__) (defBody s_Stopped___init__) (defScope s_Stopped___init__) .none kV_Stopped___init__ doc_Stopped___init__ pm_Stopped___init__ an_Stopped___init__ cd_Stopped___init__ ct_Stopped___init__), osl_Stopped___init__⟩)
    (e_Stopped___init__ : PySem.W.codeIn K cd_Stopped___init__ "Stopped.__init__" = true)
    (k_Stopped___init__ : PySem.W.keepIn K (.ref f_Stopped___init__) = true)
    (v_Stopped : PySem.W.findCls K (.type "RuntimeError") (.type "type") "__init__" = some (.val (.builtin "RuntimeError.__init__")))
    (a__law_mixed : PySem.W.nsIn K mainGlobals "_law_mixed" = some (some (.ref f__law_mixed)))
    (l__law_mixed : K.lookup f__law_mixed = some ⟨oc__law_mixed, od__law_mixed, .func (PySem.W.fnOf "_law_mixed" "_law_mixed" (defArgs s_l_mixed) (defBody s_l_mixed) (defScope s_l_mixed) .none kV__law_mixed doc__law_mixed pm__law_mixed an__law_mixed cd__law_mixed ct__law_mixed), osl__law_mixed⟩)
    (e__law_mixed : PySem.W.codeIn K cd__law_mixed "_law_mixed" = true)
    (k__law_mixed : PySem.W.keepIn K (.ref f__law_mixed) = true)
    (a__law_take : PySem.W.nsIn K mainGlobals "_law_take" = some (some (.ref f__law_take)))
    (l__law_take : K.lookup f__law_take = some ⟨oc__law_take, od__law_take, .func (PySem.W.fnOf "_law_take" "_law_take" (defArgs s_l_take) (defBody s_l_take) (defScope s_l_take) .none kV__law_take doc__law_take pm__law_take an__law_take cd__law_take ct__law_take), osl__law_take⟩)
    (e__law_take : PySem.W.codeIn K cd__law_take "_law_take" = true)
    (k__law_take : PySem.W.keepIn K (.ref f__law_take) = true)
    (a__law_words : PySem.W.nsIn K mainGlobals "_law_words" = some (some (.ref f__law_words)))
    (l__law_words : K.lookup f__law_words = some ⟨oc__law_words, od__law_words, .func (PySem.W.fnOf "_law_words" "_law_words" (defArgs s_l_words) (defBody s_l_words) (defScope s_l_words) .none kV__law_words doc__law_words pm__law_words an__law_words cd__law_words ct__law_words), osl__law_words⟩)
    (e__law_words : PySem.W.codeIn K cd__law_words "_law_words" = true)
    (k__law_words : PySem.W.keepIn K (.ref f__law_words) = true)
    (a__law_kinds : PySem.W.nsIn K mainGlobals "_law_kinds" = some (some (.ref f__law_kinds)))
    (l__law_kinds : K.lookup f__law_kinds = some ⟨oc__law_kinds, od__law_kinds, .func (PySem.W.fnOf "_law_kinds" "_law_kinds" (defArgs s_l_kinds) (defBody s_l_kinds) (defScope s_l_kinds) .none kV__law_kinds doc__law_kinds pm__law_kinds an__law_kinds cd__law_kinds ct__law_kinds), osl__law_kinds⟩)
    (e__law_kinds : PySem.W.codeIn K cd__law_kinds "_law_kinds" = true)
    (k__law_kinds : PySem.W.keepIn K (.ref f__law_kinds) = true)
    (a__law_thing_by : PySem.W.nsIn K mainGlobals "_law_thing_by" = some (some (.ref f__law_thing_by)))
    (l__law_thing_by : K.lookup f__law_thing_by = some ⟨oc__law_thing_by, od__law_thing_by, .func (PySem.W.fnOf "_law_thing_by" "_law_thing_by" (defArgs s_l_thing_by) (defBody s_l_thing_by) (defScope s_l_thing_by) .none kV__law_thing_by doc__law_thing_by pm__law_thing_by an__law_thing_by cd__law_thing_by ct__law_thing_by), osl__law_thing_by⟩)
    (e__law_thing_by : PySem.W.codeIn K cd__law_thing_by "_law_thing_by" = true)
    (k__law_thing_by : PySem.W.keepIn K (.ref f__law_thing_by) = true)
    (a__law_rows : PySem.W.nsIn K mainGlobals "_law_rows" = some (some (.ref f__law_rows)))
    (l__law_rows : K.lookup f__law_rows = some ⟨oc__law_rows, od__law_rows, .func (PySem.W.fnOf "_law_rows" "_law_rows" (defArgs s_l_rows) (defBody s_l_rows) (defScope s_l_rows) .none kV__law_rows doc__law_rows pm__law_rows an__law_rows cd__law_rows ct__law_rows), osl__law_rows⟩)
    (e__law_rows : PySem.W.codeIn K cd__law_rows "_law_rows" = true)
    (k__law_rows : PySem.W.keepIn K (.ref f__law_rows) = true)
    (a__law_fields : PySem.W.nsIn K mainGlobals "_law_fields" = some (some (.ref f__law_fields)))
    (l__law_fields : K.lookup f__law_fields = some ⟨oc__law_fields, od__law_fields, .func (PySem.W.fnOf "_law_fields" "_law_fields" (defArgs s_l_fields) (defBody s_l_fields) (defScope s_l_fields) .none kV__law_fields doc__law_fields pm__law_fields an__law_fields cd__law_fields ct__law_fields), osl__law_fields⟩)
    (e__law_fields : PySem.W.codeIn K cd__law_fields "_law_fields" = true)
    (k__law_fields : PySem.W.keepIn K (.ref f__law_fields) = true)
    (a_law : PySem.W.nsIn K mainGlobals "law" = some (some (.ref f_law)))
    (l_law : K.lookup f_law = some ⟨oc_law, od_law, .func (PySem.W.fnOf "law" "law" (defArgs s_law) (defBody s_law) (defScope s_law) .none kV_law doc_law pm_law an_law cd_law ct_law), osl_law⟩)
    (e_law : PySem.W.codeIn K cd_law "law" = true)
    (k_law : PySem.W.keepIn K (.ref f_law) = true)
    (x_stat : PySem.W.nsIn K cStatics "sys.int_max_str_digits" = some none)
    (x_kit_BadPaper : ([.ref C_BadPaper, .ref C_Flawed, .ref C_BadLine, .ref C_Busy, .ref C_Gone, .ref C_BadAnswer, .ref C_BadKind, .ref C_BadText, .ref C_BadNumber, .ref C_NoSuch, .ref C_TooMany, .ref C_Stopped, .ref C_SortError, .type "TypeError", .type "ValueError", .type "IndexError", .type "KeyError", .type "LookupError", .type "OverflowError", .type "ArithmeticError", .type "RuntimeError", .type "ZeroDivisionError", .type "Exception"] : List Value).map (fun c => PySem.W.kitOne K (.ref C_BadPaper) c) = [some true, some false, some false, some false, some false, some false, some false, some false, some false, some false, some false, some false, some true, some false, some false, some false, some false, some false, some false, some false, some false, some false, some true])
    (x_kit_Flawed : ([.ref C_BadPaper, .ref C_Flawed, .ref C_BadLine, .ref C_Busy, .ref C_Gone, .ref C_BadAnswer, .ref C_BadKind, .ref C_BadText, .ref C_BadNumber, .ref C_NoSuch, .ref C_TooMany, .ref C_Stopped, .ref C_SortError, .type "TypeError", .type "ValueError", .type "IndexError", .type "KeyError", .type "LookupError", .type "OverflowError", .type "ArithmeticError", .type "RuntimeError", .type "ZeroDivisionError", .type "Exception"] : List Value).map (fun c => PySem.W.kitOne K (.ref C_Flawed) c) = [some false, some true, some false, some false, some false, some false, some false, some false, some false, some false, some false, some false, some true, some false, some false, some false, some false, some false, some false, some false, some false, some false, some true])
    (x_kit_BadLine : ([.ref C_BadPaper, .ref C_Flawed, .ref C_BadLine, .ref C_Busy, .ref C_Gone, .ref C_BadAnswer, .ref C_BadKind, .ref C_BadText, .ref C_BadNumber, .ref C_NoSuch, .ref C_TooMany, .ref C_Stopped, .ref C_SortError, .type "TypeError", .type "ValueError", .type "IndexError", .type "KeyError", .type "LookupError", .type "OverflowError", .type "ArithmeticError", .type "RuntimeError", .type "ZeroDivisionError", .type "Exception"] : List Value).map (fun c => PySem.W.kitOne K (.ref C_BadLine) c) = [some false, some false, some true, some false, some false, some false, some false, some false, some false, some false, some false, some false, some true, some false, some false, some false, some false, some false, some false, some false, some false, some false, some true])
    (x_kit_Busy : ([.ref C_BadPaper, .ref C_Flawed, .ref C_BadLine, .ref C_Busy, .ref C_Gone, .ref C_BadAnswer, .ref C_BadKind, .ref C_BadText, .ref C_BadNumber, .ref C_NoSuch, .ref C_TooMany, .ref C_Stopped, .ref C_SortError, .type "TypeError", .type "ValueError", .type "IndexError", .type "KeyError", .type "LookupError", .type "OverflowError", .type "ArithmeticError", .type "RuntimeError", .type "ZeroDivisionError", .type "Exception"] : List Value).map (fun c => PySem.W.kitOne K (.ref C_Busy) c) = [some false, some false, some false, some true, some false, some false, some false, some false, some false, some false, some false, some false, some true, some false, some false, some false, some false, some false, some false, some false, some false, some false, some true])
    (x_kit_Gone : ([.ref C_BadPaper, .ref C_Flawed, .ref C_BadLine, .ref C_Busy, .ref C_Gone, .ref C_BadAnswer, .ref C_BadKind, .ref C_BadText, .ref C_BadNumber, .ref C_NoSuch, .ref C_TooMany, .ref C_Stopped, .ref C_SortError, .type "TypeError", .type "ValueError", .type "IndexError", .type "KeyError", .type "LookupError", .type "OverflowError", .type "ArithmeticError", .type "RuntimeError", .type "ZeroDivisionError", .type "Exception"] : List Value).map (fun c => PySem.W.kitOne K (.ref C_Gone) c) = [some false, some false, some false, some false, some true, some false, some false, some false, some false, some false, some false, some false, some true, some false, some false, some false, some false, some false, some false, some false, some false, some false, some true])
    (x_kit_BadAnswer : ([.ref C_BadPaper, .ref C_Flawed, .ref C_BadLine, .ref C_Busy, .ref C_Gone, .ref C_BadAnswer, .ref C_BadKind, .ref C_BadText, .ref C_BadNumber, .ref C_NoSuch, .ref C_TooMany, .ref C_Stopped, .ref C_SortError, .type "TypeError", .type "ValueError", .type "IndexError", .type "KeyError", .type "LookupError", .type "OverflowError", .type "ArithmeticError", .type "RuntimeError", .type "ZeroDivisionError", .type "Exception"] : List Value).map (fun c => PySem.W.kitOne K (.ref C_BadAnswer) c) = [some false, some false, some false, some false, some false, some true, some false, some false, some false, some false, some false, some false, some false, some true, some false, some false, some false, some false, some false, some false, some false, some false, some true])
    (x_kit_BadKind : ([.ref C_BadPaper, .ref C_Flawed, .ref C_BadLine, .ref C_Busy, .ref C_Gone, .ref C_BadAnswer, .ref C_BadKind, .ref C_BadText, .ref C_BadNumber, .ref C_NoSuch, .ref C_TooMany, .ref C_Stopped, .ref C_SortError, .type "TypeError", .type "ValueError", .type "IndexError", .type "KeyError", .type "LookupError", .type "OverflowError", .type "ArithmeticError", .type "RuntimeError", .type "ZeroDivisionError", .type "Exception"] : List Value).map (fun c => PySem.W.kitOne K (.ref C_BadKind) c) = [some false, some false, some false, some false, some false, some false, some true, some false, some false, some false, some false, some false, some false, some true, some false, some false, some false, some false, some false, some false, some false, some false, some true])
    (x_kit_BadText : ([.ref C_BadPaper, .ref C_Flawed, .ref C_BadLine, .ref C_Busy, .ref C_Gone, .ref C_BadAnswer, .ref C_BadKind, .ref C_BadText, .ref C_BadNumber, .ref C_NoSuch, .ref C_TooMany, .ref C_Stopped, .ref C_SortError, .type "TypeError", .type "ValueError", .type "IndexError", .type "KeyError", .type "LookupError", .type "OverflowError", .type "ArithmeticError", .type "RuntimeError", .type "ZeroDivisionError", .type "Exception"] : List Value).map (fun c => PySem.W.kitOne K (.ref C_BadText) c) = [some false, some false, some false, some false, some false, some false, some false, some true, some false, some false, some false, some false, some false, some false, some true, some false, some false, some false, some false, some false, some false, some false, some true])
    (x_kit_BadNumber : ([.ref C_BadPaper, .ref C_Flawed, .ref C_BadLine, .ref C_Busy, .ref C_Gone, .ref C_BadAnswer, .ref C_BadKind, .ref C_BadText, .ref C_BadNumber, .ref C_NoSuch, .ref C_TooMany, .ref C_Stopped, .ref C_SortError, .type "TypeError", .type "ValueError", .type "IndexError", .type "KeyError", .type "LookupError", .type "OverflowError", .type "ArithmeticError", .type "RuntimeError", .type "ZeroDivisionError", .type "Exception"] : List Value).map (fun c => PySem.W.kitOne K (.ref C_BadNumber) c) = [some false, some false, some false, some false, some false, some false, some false, some false, some true, some false, some false, some false, some false, some false, some false, some true, some false, some true, some false, some false, some false, some false, some true])
    (x_kit_NoSuch : ([.ref C_BadPaper, .ref C_Flawed, .ref C_BadLine, .ref C_Busy, .ref C_Gone, .ref C_BadAnswer, .ref C_BadKind, .ref C_BadText, .ref C_BadNumber, .ref C_NoSuch, .ref C_TooMany, .ref C_Stopped, .ref C_SortError, .type "TypeError", .type "ValueError", .type "IndexError", .type "KeyError", .type "LookupError", .type "OverflowError", .type "ArithmeticError", .type "RuntimeError", .type "ZeroDivisionError", .type "Exception"] : List Value).map (fun c => PySem.W.kitOne K (.ref C_NoSuch) c) = [some false, some false, some false, some false, some false, some false, some false, some false, some false, some true, some false, some false, some false, some false, some false, some false, some true, some true, some false, some false, some false, some false, some true])
    (x_kit_TooMany : ([.ref C_BadPaper, .ref C_Flawed, .ref C_BadLine, .ref C_Busy, .ref C_Gone, .ref C_BadAnswer, .ref C_BadKind, .ref C_BadText, .ref C_BadNumber, .ref C_NoSuch, .ref C_TooMany, .ref C_Stopped, .ref C_SortError, .type "TypeError", .type "ValueError", .type "IndexError", .type "KeyError", .type "LookupError", .type "OverflowError", .type "ArithmeticError", .type "RuntimeError", .type "ZeroDivisionError", .type "Exception"] : List Value).map (fun c => PySem.W.kitOne K (.ref C_TooMany) c) = [some false, some false, some false, some false, some false, some false, some false, some false, some false, some false, some true, some false, some false, some false, some false, some false, some false, some false, some true, some true, some false, some false, some true])
    (x_kit_Stopped : ([.ref C_BadPaper, .ref C_Flawed, .ref C_BadLine, .ref C_Busy, .ref C_Gone, .ref C_BadAnswer, .ref C_BadKind, .ref C_BadText, .ref C_BadNumber, .ref C_NoSuch, .ref C_TooMany, .ref C_Stopped, .ref C_SortError, .type "TypeError", .type "ValueError", .type "IndexError", .type "KeyError", .type "LookupError", .type "OverflowError", .type "ArithmeticError", .type "RuntimeError", .type "ZeroDivisionError", .type "Exception"] : List Value).map (fun c => PySem.W.kitOne K (.ref C_Stopped) c) = [some false, some false, some false, some false, some false, some false, some false, some false, some false, some false, some false, some true, some false, some false, some false, some false, some false, some false, some false, some false, some true, some false, some true])
    (x_kit_SortError : ([.ref C_BadPaper, .ref C_Flawed, .ref C_BadLine, .ref C_Busy, .ref C_Gone, .ref C_BadAnswer, .ref C_BadKind, .ref C_BadText, .ref C_BadNumber, .ref C_NoSuch, .ref C_TooMany, .ref C_Stopped, .ref C_SortError, .type "TypeError", .type "ValueError", .type "IndexError", .type "KeyError", .type "LookupError", .type "OverflowError", .type "ArithmeticError", .type "RuntimeError", .type "ZeroDivisionError", .type "Exception"] : List Value).map (fun c => PySem.W.kitOne K (.ref C_SortError) c) = [some false, some false, some false, some false, some false, some false, some false, some false, some false, some false, some false, some false, some true, some false, some false, some false, some false, some false, some false, some false, some false, some false, some true])
    (z_len : PySem.W.nsIn K mainGlobals "len" = some none)
    (z_min : PySem.W.nsIn K mainGlobals "min" = some none)
    (z_max : PySem.W.nsIn K mainGlobals "max" = some none)
    (z_range : PySem.W.nsIn K mainGlobals "range" = some none)
    (z_repr : PySem.W.nsIn K mainGlobals "repr" = some none)
    (z_isinstance : PySem.W.nsIn K mainGlobals "isinstance" = some none)
    (z_int : PySem.W.nsIn K mainGlobals "int" = some none)
    (z_bool : PySem.W.nsIn K mainGlobals "bool" = some none)
    (z_list : PySem.W.nsIn K mainGlobals "list" = some none)
    (z_zip : PySem.W.nsIn K mainGlobals "zip" = some none)
    (z_Exception : PySem.W.nsIn K mainGlobals "Exception" = some none)
    (z_TypeError : PySem.W.nsIn K mainGlobals "TypeError" = some none)
    (z_ValueError : PySem.W.nsIn K mainGlobals "ValueError" = some none)
    (z_IndexError : PySem.W.nsIn K mainGlobals "IndexError" = some none)
    (z_KeyError : PySem.W.nsIn K mainGlobals "KeyError" = some none)
    (z_LookupError : PySem.W.nsIn K mainGlobals "LookupError" = some none)
    (z_OverflowError : PySem.W.nsIn K mainGlobals "OverflowError" = some none)
    (z_ArithmeticError : PySem.W.nsIn K mainGlobals "ArithmeticError" = some none)
    (z_RuntimeError : PySem.W.nsIn K mainGlobals "RuntimeError" = some none)
    (z_ZeroDivisionError : PySem.W.nsIn K mainGlobals "ZeroDivisionError" = some none)
    : ∃ A, Txt K mg w A :=
  ⟨⟨C_SortError, C_BadPaper, f_BadPaper___init__, C_Flawed, f_Flawed___init__, C_BadLine, f_BadLine___init__, C_Busy, C_Gone, C_BadAnswer, f_BadAnswer___init__, C_BadKind, f_BadKind___init__, C_BadText, C_BadNumber, f_BadNumber___init__, C_NoSuch, f_NoSuch___init__, C_TooMany, f_TooMany___init__, C_Stopped, f_Stopped___init__, f__law_mixed, f__law_take, f__law_words, f__law_kinds, f__law_thing_by, f__law_rows, f__law_fields, f_law, (PySem.W.fnOf "__init__" "BadPaper.__init__" (defArgs s_BadPaper___init__) (defBody s_BadPaper___init__) (defScope s_BadPaper___init__) .none kV_BadPaper___init__ doc_BadPaper___init__ pm_BadPaper___init__ an_BadPaper___init__ cd_BadPaper___init__ ct_BadPaper___init__), (PySem.W.fnOf "__init__" "Flawed.__init__" (defArgs s_Flawed___init__) (defBody s_Flawed___init__) (defScope s_Flawed___init__) .none kV_Flawed___init__ doc_Flawed___init__ pm_Flawed___init__ an_Flawed___init__ cd_Flawed___init__ ct_Flawed___init__), (PySem.W.fnOf "__init__" "BadLine.__init__" (defArgs s_BadLine___init__) (defBody s_BadLine___init__) (defScope s_BadLine___init__) .none kV_BadLine___init__ doc_BadLine___init__ pm_BadLine___init__ an_BadLine___init__ cd_BadLine___init__ ct_BadLine___init__), (PySem.W.fnOf "__init__" "BadAnswer.__init__" (defArgs s_BadAnswer___init__) (defBody s_BadAnswer___init__) (defScope s_BadAnswer___init__) .none kV_BadAnswer___init__ doc_BadAnswer___init__ pm_BadAnswer___init__ an_BadAnswer___init__ cd_BadAnswer___init__ ct_BadAnswer___init__), (PySem.W.fnOf "__init__" "BadKind.__init__" (defArgs s_BadKind___init__) (defBody s_BadKind___init__) (defScope s_BadKind___init__) .none kV_BadKind___init__ doc_BadKind___init__ pm_BadKind___init__ an_BadKind___init__ cd_BadKind___init__ ct_BadKind___init__), (PySem.W.fnOf "__init__" "BadNumber.__init__" (defArgs s_BadNumber___init__) (defBody s_BadNumber___init__) (defScope s_BadNumber___init__) .none kV_BadNumber___init__ doc_BadNumber___init__ pm_BadNumber___init__ an_BadNumber___init__ cd_BadNumber___init__ ct_BadNumber___init__), (PySem.W.fnOf "__init__" "NoSuch.__init__" (defArgs s_NoSuch___init__) (defBody s_NoSuch___init__) (defScope s_NoSuch___init__) .none kV_NoSuch___init__ doc_NoSuch___init__ pm_NoSuch___init__ an_NoSuch___init__ cd_NoSuch___init__ ct_NoSuch___init__), (PySem.W.fnOf "__init__" "TooMany.__init__" (defArgs s_TooMany___init__) (defBody s_TooMany___init__) (defScope s_TooMany___init__) .none kV_TooMany___init__ doc_TooMany___init__ pm_TooMany___init__ an_TooMany___init__ cd_TooMany___init__ ct_TooMany___init__), (PySem.W.fnOf "__init__" "Stopped.__init__" (defArgs s_Stopped___init__) (defBody s_Stopped___init__) (defScope s_Stopped___init__) .none kV_Stopped___init__ doc_Stopped___init__ pm_Stopped___init__ an_Stopped___init__ cd_Stopped___init__ ct_Stopped___init__), (PySem.W.fnOf "_law_mixed" "_law_mixed" (defArgs s_l_mixed) (defBody s_l_mixed) (defScope s_l_mixed) .none kV__law_mixed doc__law_mixed pm__law_mixed an__law_mixed cd__law_mixed ct__law_mixed), (PySem.W.fnOf "_law_take" "_law_take" (defArgs s_l_take) (defBody s_l_take) (defScope s_l_take) .none kV__law_take doc__law_take pm__law_take an__law_take cd__law_take ct__law_take), (PySem.W.fnOf "_law_words" "_law_words" (defArgs s_l_words) (defBody s_l_words) (defScope s_l_words) .none kV__law_words doc__law_words pm__law_words an__law_words cd__law_words ct__law_words), (PySem.W.fnOf "_law_kinds" "_law_kinds" (defArgs s_l_kinds) (defBody s_l_kinds) (defScope s_l_kinds) .none kV__law_kinds doc__law_kinds pm__law_kinds an__law_kinds cd__law_kinds ct__law_kinds), (PySem.W.fnOf "_law_thing_by" "_law_thing_by" (defArgs s_l_thing_by) (defBody s_l_thing_by) (defScope s_l_thing_by) .none kV__law_thing_by doc__law_thing_by pm__law_thing_by an__law_thing_by cd__law_thing_by ct__law_thing_by), (PySem.W.fnOf "_law_rows" "_law_rows" (defArgs s_l_rows) (defBody s_l_rows) (defScope s_l_rows) .none kV__law_rows doc__law_rows pm__law_rows an__law_rows cd__law_rows ct__law_rows), (PySem.W.fnOf "_law_fields" "_law_fields" (defArgs s_l_fields) (defBody s_l_fields) (defScope s_l_fields) .none kV__law_fields doc__law_fields pm__law_fields an__law_fields cd__law_fields ct__law_fields), (PySem.W.fnOf "law" "law" (defArgs s_law) (defBody s_law) (defScope s_law) .none kV_law doc_law pm_law an_law cd_law ct_law)⟩,
    { m_SortError := PySem.W.mg_of X G a_SortError
      q_SortError := ini_SortError
      p_SortError := kpc_SortError
      k_SortError := ⟨xcl_SortError, xga_SortError, xgg_SortError, bex_SortError, dic_SortError, xha_SortError, xhn_SortError, xht_SortError, xhm_SortError⟩
      r_SortError := ⟨rd_SortError, rg_SortError⟩
      m_BadPaper := PySem.W.mg_of X G a_BadPaper
      o_BadPaper := ⟨⟨_, Xc.XB.of PySem.F.excBase_Exception⟩, PySem.F.store_Exception, ini_BadPaper, ovr_BadPaper, dic_BadPaper, sav_BadPaper, bex_BadPaper, tyc_BadPaper, kpc_BadPaper⟩
      k_BadPaper := ⟨xcl_BadPaper, xga_BadPaper, xgg_BadPaper, bex_BadPaper, dic_BadPaper, xha_BadPaper, xhn_BadPaper, xht_BadPaper, xhm_BadPaper⟩
      t_BadPaper_at := tk_BadPaper_at
      na_BadPaper_at := na_BadPaper_at
      i_BadPaper := a_BadPaper___init__
      y_BadPaper := y_BadPaper___init__
      c_BadPaper___init__ := ⟨fun_mk l_BadPaper___init__ e_BadPaper___init__ k_BadPaper___init__, (fun_mk (st := s_BadPaper___init__) l_BadPaper___init__ e_BadPaper___init__ k_BadPaper___init__).binds (ps := ["self", "at"]) (fun _ _ _ _ _ _ us hl => match us, hl with | [_, _], _ => rfl)⟩
      v_BadPaper := v_BadPaper
      m_Flawed := PySem.W.mg_of X G a_Flawed
      o_Flawed := ⟨⟨_, Xc.XB.of PySem.F.excBase_Exception⟩, PySem.F.store_Exception, ini_Flawed, ovr_Flawed, dic_Flawed, sav_Flawed, bex_Flawed, tyc_Flawed, kpc_Flawed⟩
      k_Flawed := ⟨xcl_Flawed, xga_Flawed, xgg_Flawed, bex_Flawed, dic_Flawed, xha_Flawed, xhn_Flawed, xht_Flawed, xhm_Flawed⟩
      t_Flawed_word := tk_Flawed_word
      na_Flawed_word := na_Flawed_word
      t_Flawed_places := tk_Flawed_places
      na_Flawed_places := na_Flawed_places
      i_Flawed := a_Flawed___init__
      y_Flawed := y_Flawed___init__
      c_Flawed___init__ := ⟨fun_mk l_Flawed___init__ e_Flawed___init__ k_Flawed___init__, (fun_mk (st := s_Flawed___init__) l_Flawed___init__ e_Flawed___init__ k_Flawed___init__).binds (ps := ["self", "word", "places"]) (fun _ _ _ _ _ _ us hl => match us, hl with | [_, _, _], _ => rfl)⟩
      v_Flawed := v_Flawed
      m_BadLine := PySem.W.mg_of X G a_BadLine
      o_BadLine := ⟨⟨_, Xc.XB.of PySem.F.excBase_Exception⟩, PySem.F.store_Exception, ini_BadLine, ovr_BadLine, dic_BadLine, sav_BadLine, bex_BadLine, tyc_BadLine, kpc_BadLine⟩
      k_BadLine := ⟨xcl_BadLine, xga_BadLine, xgg_BadLine, bex_BadLine, dic_BadLine, xha_BadLine, xhn_BadLine, xht_BadLine, xhm_BadLine⟩
      t_BadLine_row := tk_BadLine_row
      na_BadLine_row := na_BadLine_row
      t_BadLine_word := tk_BadLine_word
      na_BadLine_word := na_BadLine_word
      i_BadLine := a_BadLine___init__
      y_BadLine := y_BadLine___init__
      c_BadLine___init__ := ⟨fun_mk l_BadLine___init__ e_BadLine___init__ k_BadLine___init__, (fun_mk (st := s_BadLine___init__) l_BadLine___init__ e_BadLine___init__ k_BadLine___init__).binds (ps := ["self", "row", "word"]) (fun _ _ _ _ _ _ us hl => match us, hl with | [_, _, _], _ => rfl)⟩
      v_BadLine := v_BadLine
      m_Busy := PySem.W.mg_of X G a_Busy
      q_Busy := ini_Busy
      p_Busy := kpc_Busy
      k_Busy := ⟨xcl_Busy, xga_Busy, xgg_Busy, bex_Busy, dic_Busy, xha_Busy, xhn_Busy, xht_Busy, xhm_Busy⟩
      m_Gone := PySem.W.mg_of X G a_Gone
      q_Gone := ini_Gone
      p_Gone := kpc_Gone
      k_Gone := ⟨xcl_Gone, xga_Gone, xgg_Gone, bex_Gone, dic_Gone, xha_Gone, xhn_Gone, xht_Gone, xhm_Gone⟩
      m_BadAnswer := PySem.W.mg_of X G a_BadAnswer
      o_BadAnswer := ⟨⟨_, Xc.XB.of PySem.F.excBase_TypeError⟩, PySem.F.store_TypeError, ini_BadAnswer, ovr_BadAnswer, dic_BadAnswer, sav_BadAnswer, bex_BadAnswer, tyc_BadAnswer, kpc_BadAnswer⟩
      k_BadAnswer := ⟨xcl_BadAnswer, xga_BadAnswer, xgg_BadAnswer, bex_BadAnswer, dic_BadAnswer, xha_BadAnswer, xhn_BadAnswer, xht_BadAnswer, xhm_BadAnswer⟩
      t_BadAnswer_answer := tk_BadAnswer_answer
      na_BadAnswer_answer := na_BadAnswer_answer
      i_BadAnswer := a_BadAnswer___init__
      y_BadAnswer := y_BadAnswer___init__
      c_BadAnswer___init__ := ⟨fun_mk l_BadAnswer___init__ e_BadAnswer___init__ k_BadAnswer___init__, (fun_mk (st := s_BadAnswer___init__) l_BadAnswer___init__ e_BadAnswer___init__ k_BadAnswer___init__).binds (ps := ["self", "answer"]) (fun _ _ _ _ _ _ us hl => match us, hl with | [_, _], _ => rfl)⟩
      v_BadAnswer := v_BadAnswer
      m_BadKind := PySem.W.mg_of X G a_BadKind
      o_BadKind := ⟨⟨_, Xc.XB.of PySem.F.excBase_TypeError⟩, PySem.F.store_TypeError, ini_BadKind, ovr_BadKind, dic_BadKind, sav_BadKind, bex_BadKind, tyc_BadKind, kpc_BadKind⟩
      k_BadKind := ⟨xcl_BadKind, xga_BadKind, xgg_BadKind, bex_BadKind, dic_BadKind, xha_BadKind, xhn_BadKind, xht_BadKind, xhm_BadKind⟩
      t_BadKind_wanted := tk_BadKind_wanted
      na_BadKind_wanted := na_BadKind_wanted
      i_BadKind := a_BadKind___init__
      y_BadKind := y_BadKind___init__
      c_BadKind___init__ := ⟨fun_mk l_BadKind___init__ e_BadKind___init__ k_BadKind___init__, (fun_mk (st := s_BadKind___init__) l_BadKind___init__ e_BadKind___init__ k_BadKind___init__).binds (ps := ["self", "wanted"]) (fun _ _ _ _ _ _ us hl => match us, hl with | [_, _], _ => rfl)⟩
      v_BadKind := v_BadKind
      m_BadText := PySem.W.mg_of X G a_BadText
      q_BadText := ini_BadText
      p_BadText := kpc_BadText
      k_BadText := ⟨xcl_BadText, xga_BadText, xgg_BadText, bex_BadText, dic_BadText, xha_BadText, xhn_BadText, xht_BadText, xhm_BadText⟩
      m_BadNumber := PySem.W.mg_of X G a_BadNumber
      o_BadNumber := ⟨⟨_, Xc.XB.of PySem.F.excBase_IndexError⟩, PySem.F.store_IndexError, ini_BadNumber, ovr_BadNumber, dic_BadNumber, sav_BadNumber, bex_BadNumber, tyc_BadNumber, kpc_BadNumber⟩
      k_BadNumber := ⟨xcl_BadNumber, xga_BadNumber, xgg_BadNumber, bex_BadNumber, dic_BadNumber, xha_BadNumber, xhn_BadNumber, xht_BadNumber, xhm_BadNumber⟩
      t_BadNumber_at := tk_BadNumber_at
      na_BadNumber_at := na_BadNumber_at
      i_BadNumber := a_BadNumber___init__
      y_BadNumber := y_BadNumber___init__
      c_BadNumber___init__ := ⟨fun_mk l_BadNumber___init__ e_BadNumber___init__ k_BadNumber___init__, (fun_mk (st := s_BadNumber___init__) l_BadNumber___init__ e_BadNumber___init__ k_BadNumber___init__).binds (ps := ["self", "at"]) (fun _ _ _ _ _ _ us hl => match us, hl with | [_, _], _ => rfl)⟩
      v_BadNumber := v_BadNumber
      m_NoSuch := PySem.W.mg_of X G a_NoSuch
      o_NoSuch := ⟨⟨_, Xc.xb_KeyError⟩, Xc.store_KeyError, ini_NoSuch, ovr_NoSuch, dic_NoSuch, sav_NoSuch, bex_NoSuch, tyc_NoSuch, kpc_NoSuch⟩
      k_NoSuch := ⟨xcl_NoSuch, xga_NoSuch, xgg_NoSuch, bex_NoSuch, dic_NoSuch, xha_NoSuch, xhn_NoSuch, xht_NoSuch, xhm_NoSuch⟩
      t_NoSuch_name := tk_NoSuch_name
      na_NoSuch_name := na_NoSuch_name
      i_NoSuch := a_NoSuch___init__
      y_NoSuch := y_NoSuch___init__
      c_NoSuch___init__ := ⟨fun_mk l_NoSuch___init__ e_NoSuch___init__ k_NoSuch___init__, (fun_mk (st := s_NoSuch___init__) l_NoSuch___init__ e_NoSuch___init__ k_NoSuch___init__).binds (ps := ["self", "name"]) (fun _ _ _ _ _ _ us hl => match us, hl with | [_, _], _ => rfl)⟩
      v_NoSuch := v_NoSuch
      m_TooMany := PySem.W.mg_of X G a_TooMany
      o_TooMany := ⟨⟨_, Xc.XB.of PySem.F.excBase_OverflowError⟩, PySem.F.store_OverflowError, ini_TooMany, ovr_TooMany, dic_TooMany, sav_TooMany, bex_TooMany, tyc_TooMany, kpc_TooMany⟩
      k_TooMany := ⟨xcl_TooMany, xga_TooMany, xgg_TooMany, bex_TooMany, dic_TooMany, xha_TooMany, xhn_TooMany, xht_TooMany, xhm_TooMany⟩
      t_TooMany_most := tk_TooMany_most
      na_TooMany_most := na_TooMany_most
      i_TooMany := a_TooMany___init__
      y_TooMany := y_TooMany___init__
      c_TooMany___init__ := ⟨fun_mk l_TooMany___init__ e_TooMany___init__ k_TooMany___init__, (fun_mk (st := s_TooMany___init__) l_TooMany___init__ e_TooMany___init__ k_TooMany___init__).binds (ps := ["self", "most"]) (fun _ _ _ _ _ _ us hl => match us, hl with | [_, _], _ => rfl)⟩
      v_TooMany := v_TooMany
      m_Stopped := PySem.W.mg_of X G a_Stopped
      o_Stopped := ⟨⟨_, Xc.XB.of PySem.F.excBase_RuntimeError⟩, PySem.F.store_RuntimeError, ini_Stopped, ovr_Stopped, dic_Stopped, sav_Stopped, bex_Stopped, tyc_Stopped, kpc_Stopped⟩
      k_Stopped := ⟨xcl_Stopped, xga_Stopped, xgg_Stopped, bex_Stopped, dic_Stopped, xha_Stopped, xhn_Stopped, xht_Stopped, xhm_Stopped⟩
      t_Stopped_at := tk_Stopped_at
      na_Stopped_at := na_Stopped_at
      i_Stopped := a_Stopped___init__
      y_Stopped := y_Stopped___init__
      c_Stopped___init__ := ⟨fun_mk l_Stopped___init__ e_Stopped___init__ k_Stopped___init__, (fun_mk (st := s_Stopped___init__) l_Stopped___init__ e_Stopped___init__ k_Stopped___init__).binds (ps := ["self", "at"]) (fun _ _ _ _ _ _ us hl => match us, hl with | [_, _], _ => rfl)⟩
      v_Stopped := v_Stopped
      c__law_mixed := ⟨fun_mk l__law_mixed e__law_mixed k__law_mixed, (fun_mk (st := s_l_mixed) l__law_mixed e__law_mixed k__law_mixed).binds (ps := ["_law_drawn", "_law_k"]) (fun _ _ _ _ _ _ us hl => match us, hl with | [_, _], _ => rfl), PySem.W.mg_of X G a__law_mixed⟩
      c__law_take := ⟨fun_mk l__law_take e__law_take k__law_take, (fun_mk (st := s_l_take) l__law_take e__law_take k__law_take).binds (ps := ["_law_stream", "_law_many"]) (fun _ _ _ _ _ _ us hl => match us, hl with | [_, _], _ => rfl), PySem.W.mg_of X G a__law_take⟩
      c__law_words := ⟨fun_mk l__law_words e__law_words k__law_words, (fun_mk (st := s_l_words) l__law_words e__law_words k__law_words).binds (ps := ["_law_e"]) (fun _ _ _ _ _ _ us hl => match us, hl with | [_], _ => rfl), PySem.W.mg_of X G a__law_words⟩
      c__law_kinds := ⟨fun_mk l__law_kinds e__law_kinds k__law_kinds, (fun_mk (st := s_l_kinds) l__law_kinds e__law_kinds k__law_kinds).binds (ps := ["_law_e"]) (fun _ _ _ _ _ _ us hl => match us, hl with | [_], _ => rfl), PySem.W.mg_of X G a__law_kinds⟩
      c__law_thing_by := ⟨fun_mk l__law_thing_by e__law_thing_by k__law_thing_by, (fun_mk (st := s_l_thing_by) l__law_thing_by e__law_thing_by k__law_thing_by).binds (ps := ["_law_stream"]) (fun _ _ _ _ _ _ us hl => match us, hl with | [_], _ => rfl), PySem.W.mg_of X G a__law_thing_by⟩
      c__law_rows := ⟨fun_mk l__law_rows e__law_rows k__law_rows, (fun_mk (st := s_l_rows) l__law_rows e__law_rows k__law_rows).binds (ps := ["_law_one", "_law_other"]) (fun _ _ _ _ _ _ us hl => match us, hl with | [_, _], _ => rfl), PySem.W.mg_of X G a__law_rows⟩
      c__law_fields := ⟨fun_mk l__law_fields e__law_fields k__law_fields, (fun_mk (st := s_l_fields) l__law_fields e__law_fields k__law_fields).binds (ps := ["_law_made"]) (fun _ _ _ _ _ _ us hl => match us, hl with | [_], _ => rfl), PySem.W.mg_of X G a__law_fields⟩
      c_law := ⟨fun_mk l_law e_law k_law, (fun_mk (st := s_law) l_law e_law k_law).binds (ps := ["_law_script"]) (fun _ _ _ _ _ _ us hl => match us, hl with | [_], _ => rfl), PySem.W.mg_of X G a_law⟩
      x_stat := x_stat
      x_kit_BadPaper := x_kit_BadPaper
      x_kit_Flawed := x_kit_Flawed
      x_kit_BadLine := x_kit_BadLine
      x_kit_Busy := x_kit_Busy
      x_kit_Gone := x_kit_Gone
      x_kit_BadAnswer := x_kit_BadAnswer
      x_kit_BadKind := x_kit_BadKind
      x_kit_BadText := x_kit_BadText
      x_kit_BadNumber := x_kit_BadNumber
      x_kit_NoSuch := x_kit_NoSuch
      x_kit_TooMany := x_kit_TooMany
      x_kit_Stopped := x_kit_Stopped
      x_kit_SortError := x_kit_SortError
      n_len := PySem.W.mg_none_of X G z_len
      n_min := PySem.W.mg_none_of X G z_min
      n_max := PySem.W.mg_none_of X G z_max
      n_range := PySem.W.mg_none_of X G z_range
      n_repr := PySem.W.mg_none_of X G z_repr
      n_isinstance := PySem.W.mg_none_of X G z_isinstance
      n_int := PySem.W.mg_none_of X G z_int
      n_bool := PySem.W.mg_none_of X G z_bool
      n_list := PySem.W.mg_none_of X G z_list
      n_zip := PySem.W.mg_none_of X G z_zip
      n_Exception := PySem.W.mg_none_of X G z_Exception
      n_TypeError := PySem.W.mg_none_of X G z_TypeError
      n_ValueError := PySem.W.mg_none_of X G z_ValueError
      n_IndexError := PySem.W.mg_none_of X G z_IndexError
      n_KeyError := PySem.W.mg_none_of X G z_KeyError
      n_LookupError := PySem.W.mg_none_of X G z_LookupError
      n_OverflowError := PySem.W.mg_none_of X G z_OverflowError
      n_ArithmeticError := PySem.W.mg_none_of X G z_ArithmeticError
      n_RuntimeError := PySem.W.mg_none_of X G z_RuntimeError
      n_ZeroDivisionError := PySem.W.mg_none_of X G z_ZeroDivisionError }⟩

def one (f : Str) (xs : List V) : List (Str × V) := match xs with | [v] => [(f, v)] | _ => []
def two (f g : Str) (xs : List V) : List (Str × V) := match xs with | [v, w] => [(g, w), (f, v)] | _ => []
theorem len1 {α : Type} {xs : List α} (h : xs.length = 1) : ∃ v, xs = [v] := List.length_eq_one_iff.mp h
theorem len2 {α : Type} {xs : List α} (h : xs.length = 2) : ∃ v w, xs = [v, w] := by
  match xs, h with
  | [v, w], _ => exact ⟨v, w, rfl⟩
section
variable {P : Program} {w : World} {K : PySem.W.Frag} {mg : Str → Option Value} {base : Heap} {A : Ad} {H H0 : Hp} {MM : List Addr} {L L' F : Led} {Q : VK} {E : XK}
local macro_rules | `(tactic| walk_at "rd1") => `(tactic| first
  | with_reducible refine Xc.rd_bi ?_
  | with_reducible refine Xc.rd_put1 ?_)
theorem ok_xBadPaper (T : Txt K mg w A) : FnOk P w K mg base CX0 1 A.f_BadPaper___init__ A.d_BadPaper___init__ ["self", "at"] (Xc.spIn A.C_BadPaper 1 (one "at")) := by
  refine T.c_BadPaper___init__.F.ok sc_BadPaper___init__ (fun vs H Q E h => ?_) (fun cdv Ar outer s H vs Q E hr h => ?_)
  · obtain ⟨a, xs, rfl, hl, _⟩ := h; simp [hl]
  · obtain ⟨a, xs, rfl, hl, ha, k⟩ := h
    obtain ⟨v, rfl⟩ := len1 hl
    refine ⟨_, (pss_cons (ps_expr (Xc.pe_binitS T.o_BadPaper rfl T.m_SortError T.r_SortError T.v_BadPaper rfl (pa_cons (pv 0) (pa_cons (pv 1) pa_nil))))
      (pss_one (Xc.ps_put T.o_BadPaper (pv 0) (pv 1) rfl))), ?_⟩
    walk_at "st"
    walk_at "rd"
    refine ⟨a, _, [v], rfl, by simp, T.o_BadPaper, ha, ?_⟩
    walk_at "rd"
    refine ⟨a, _, rfl, T.o_BadPaper, T.t_BadPaper_at, Or.inl ⟨ha, fun dx n1 n2 => ?_⟩⟩
    exact k dx _ n1 n2 upd_same (by rw [upd_ne n2, upd_same]; rfl) (fun b h1 h2 => by rw [upd_ne h1, upd_ne h2])
theorem ok_xFlawed (T : Txt K mg w A) : FnOk P w K mg base CX0 1 A.f_Flawed___init__ A.d_Flawed___init__ ["self", "word", "places"] (Xc.spIn A.C_Flawed 2 (two "word" "places")) := by
  refine T.c_Flawed___init__.F.ok sc_Flawed___init__ (fun vs H Q E h => ?_) (fun cdv Ar outer s H vs Q E hr h => ?_)
  · obtain ⟨a, xs, rfl, hl, _⟩ := h; simp [hl]
  · obtain ⟨a, xs, rfl, hl, ha, k⟩ := h
    obtain ⟨v, v2, rfl⟩ := len2 hl
    refine ⟨_, (pss_cons (ps_expr (Xc.pe_binitS T.o_Flawed rfl T.m_SortError T.r_SortError T.v_Flawed rfl (pa_cons (pv 0) (pa_cons (pv 1) (pa_cons (pv 2) pa_nil)))))
      (pss_cons (Xc.ps_put T.o_Flawed (pv 0) (pv 1) rfl)
      (pss_one (Xc.ps_put T.o_Flawed (pv 0) (pv 2) rfl)))), ?_⟩
    walk_at "st"
    walk_at "rd"
    refine ⟨a, _, [v, v2], rfl, by simp, T.o_Flawed, ha, ?_⟩
    walk_at "rd"
    refine ⟨a, _, rfl, T.o_Flawed, T.t_Flawed_word, Or.inl ⟨ha, fun dx n1 n2 => ?_⟩⟩
    walk_at "rd"
    refine ⟨a, _, rfl, T.o_Flawed, T.t_Flawed_places, Or.inr ⟨dx, _, upd_same, by rw [upd_ne n2, upd_same], by simp, ?_⟩⟩
    exact k dx _ n1 n2 (by rw [upd_ne (Ne.symm n2), upd_same]) (by rw [upd_same]; rfl) (fun b h1 h2 => by rw [upd_ne h2, upd_ne h1, upd_ne h2])
theorem ok_xBadLine (T : Txt K mg w A) : FnOk P w K mg base CX0 1 A.f_BadLine___init__ A.d_BadLine___init__ ["self", "row", "word"] (Xc.spIn A.C_BadLine 2 (two "row" "word")) := by
  refine T.c_BadLine___init__.F.ok sc_BadLine___init__ (fun vs H Q E h => ?_) (fun cdv Ar outer s H vs Q E hr h => ?_)
  · obtain ⟨a, xs, rfl, hl, _⟩ := h; simp [hl]
  · obtain ⟨a, xs, rfl, hl, ha, k⟩ := h
    obtain ⟨v, v2, rfl⟩ := len2 hl
    refine ⟨_, (pss_cons (ps_expr (Xc.pe_binitS T.o_BadLine rfl T.m_SortError T.r_SortError T.v_BadLine rfl (pa_cons (pv 0) (pa_cons (pv 1) (pa_cons (pv 2) pa_nil)))))
      (pss_cons (Xc.ps_put T.o_BadLine (pv 0) (pv 1) rfl)
      (pss_one (Xc.ps_put T.o_BadLine (pv 0) (pv 2) rfl)))), ?_⟩
    walk_at "st"
    walk_at "rd"
    refine ⟨a, _, [v, v2], rfl, by simp, T.o_BadLine, ha, ?_⟩
    walk_at "rd"
    refine ⟨a, _, rfl, T.o_BadLine, T.t_BadLine_row, Or.inl ⟨ha, fun dx n1 n2 => ?_⟩⟩
    walk_at "rd"
    refine ⟨a, _, rfl, T.o_BadLine, T.t_BadLine_word, Or.inr ⟨dx, _, upd_same, by rw [upd_ne n2, upd_same], by simp, ?_⟩⟩
    exact k dx _ n1 n2 (by rw [upd_ne (Ne.symm n2), upd_same]) (by rw [upd_same]; rfl) (fun b h1 h2 => by rw [upd_ne h2, upd_ne h1, upd_ne h2])
theorem ok_xBadAnswer (T : Txt K mg w A) : FnOk P w K mg base CX0 1 A.f_BadAnswer___init__ A.d_BadAnswer___init__ ["self", "answer"] (Xc.spIn A.C_BadAnswer 1 (one "answer")) := by
  refine T.c_BadAnswer___init__.F.ok sc_BadAnswer___init__ (fun vs H Q E h => ?_) (fun cdv Ar outer s H vs Q E hr h => ?_)
  · obtain ⟨a, xs, rfl, hl, _⟩ := h; simp [hl]
  · obtain ⟨a, xs, rfl, hl, ha, k⟩ := h
    obtain ⟨v, rfl⟩ := len1 hl
    refine ⟨_, (pss_cons (ps_expr (Xc.pe_binit T.o_BadAnswer rfl T.n_TypeError (by decide +kernel) (by kernel_rfl) (by decide +kernel) (by decide +kernel) T.v_BadAnswer (pa_cons (pv 0) (pa_cons (pv 1) pa_nil))))
      (pss_one (Xc.ps_put T.o_BadAnswer (pv 0) (pv 1) rfl))), ?_⟩
    walk_at "st"
    walk_at "rd"
    refine ⟨a, _, [v], rfl, by simp, T.o_BadAnswer, ha, ?_⟩
    walk_at "rd"
    refine ⟨a, _, rfl, T.o_BadAnswer, T.t_BadAnswer_answer, Or.inl ⟨ha, fun dx n1 n2 => ?_⟩⟩
    exact k dx _ n1 n2 upd_same (by rw [upd_ne n2, upd_same]; rfl) (fun b h1 h2 => by rw [upd_ne h1, upd_ne h2])
theorem ok_xBadKind (T : Txt K mg w A) : FnOk P w K mg base CX0 1 A.f_BadKind___init__ A.d_BadKind___init__ ["self", "wanted"] (Xc.spIn A.C_BadKind 1 (one "wanted")) := by
  refine T.c_BadKind___init__.F.ok sc_BadKind___init__ (fun vs H Q E h => ?_) (fun cdv Ar outer s H vs Q E hr h => ?_)
  · obtain ⟨a, xs, rfl, hl, _⟩ := h; simp [hl]
  · obtain ⟨a, xs, rfl, hl, ha, k⟩ := h
    obtain ⟨v, rfl⟩ := len1 hl
    refine ⟨_, (pss_cons (ps_expr (Xc.pe_binit T.o_BadKind rfl T.n_TypeError (by decide +kernel) (by kernel_rfl) (by decide +kernel) (by decide +kernel) T.v_BadKind (pa_cons (pv 0) (pa_cons (pv 1) pa_nil))))
      (pss_one (Xc.ps_put T.o_BadKind (pv 0) (pv 1) rfl))), ?_⟩
    walk_at "st"
    walk_at "rd"
    refine ⟨a, _, [v], rfl, by simp, T.o_BadKind, ha, ?_⟩
    walk_at "rd"
    refine ⟨a, _, rfl, T.o_BadKind, T.t_BadKind_wanted, Or.inl ⟨ha, fun dx n1 n2 => ?_⟩⟩
    exact k dx _ n1 n2 upd_same (by rw [upd_ne n2, upd_same]; rfl) (fun b h1 h2 => by rw [upd_ne h1, upd_ne h2])
theorem ok_xBadNumber (T : Txt K mg w A) : FnOk P w K mg base CX0 1 A.f_BadNumber___init__ A.d_BadNumber___init__ ["self", "at"] (Xc.spIn A.C_BadNumber 1 (one "at")) := by
  refine T.c_BadNumber___init__.F.ok sc_BadNumber___init__ (fun vs H Q E h => ?_) (fun cdv Ar outer s H vs Q E hr h => ?_)
  · obtain ⟨a, xs, rfl, hl, _⟩ := h; simp [hl]
  · obtain ⟨a, xs, rfl, hl, ha, k⟩ := h
    obtain ⟨v, rfl⟩ := len1 hl
    refine ⟨_, (pss_cons (ps_expr (Xc.pe_binit T.o_BadNumber rfl T.n_IndexError (by decide +kernel) (by kernel_rfl) (by decide +kernel) (by decide +kernel) T.v_BadNumber (pa_cons (pv 0) (pa_cons (pv 1) pa_nil))))
      (pss_one (Xc.ps_put T.o_BadNumber (pv 0) (pv 1) rfl))), ?_⟩
    walk_at "st"
    walk_at "rd"
    refine ⟨a, _, [v], rfl, by simp, T.o_BadNumber, ha, ?_⟩
    walk_at "rd"
    refine ⟨a, _, rfl, T.o_BadNumber, T.t_BadNumber_at, Or.inl ⟨ha, fun dx n1 n2 => ?_⟩⟩
    exact k dx _ n1 n2 upd_same (by rw [upd_ne n2, upd_same]; rfl) (fun b h1 h2 => by rw [upd_ne h1, upd_ne h2])
theorem ok_xNoSuch (T : Txt K mg w A) : FnOk P w K mg base CX0 1 A.f_NoSuch___init__ A.d_NoSuch___init__ ["self", "name"] (Xc.spIn A.C_NoSuch 1 (one "name")) := by
  refine T.c_NoSuch___init__.F.ok sc_NoSuch___init__ (fun vs H Q E h => ?_) (fun cdv Ar outer s H vs Q E hr h => ?_)
  · obtain ⟨a, xs, rfl, hl, _⟩ := h; simp [hl]
  · obtain ⟨a, xs, rfl, hl, ha, k⟩ := h
    obtain ⟨v, rfl⟩ := len1 hl
    refine ⟨_, (pss_cons (ps_expr (Xc.pe_binit T.o_NoSuch rfl T.n_KeyError (by decide +kernel) (by kernel_rfl) (by decide +kernel) (by decide +kernel) T.v_NoSuch (pa_cons (pv 0) (pa_cons (pv 1) pa_nil))))
      (pss_one (Xc.ps_put T.o_NoSuch (pv 0) (pv 1) rfl))), ?_⟩
    walk_at "st"
    walk_at "rd"
    refine ⟨a, _, [v], rfl, by simp, T.o_NoSuch, ha, ?_⟩
    walk_at "rd"
    refine ⟨a, _, rfl, T.o_NoSuch, T.t_NoSuch_name, Or.inl ⟨ha, fun dx n1 n2 => ?_⟩⟩
    exact k dx _ n1 n2 upd_same (by rw [upd_ne n2, upd_same]; rfl) (fun b h1 h2 => by rw [upd_ne h1, upd_ne h2])
theorem ok_xTooMany (T : Txt K mg w A) : FnOk P w K mg base CX0 1 A.f_TooMany___init__ A.d_TooMany___init__ ["self", "most"] (Xc.spIn A.C_TooMany 1 (one "most")) := by
  refine T.c_TooMany___init__.F.ok sc_TooMany___init__ (fun vs H Q E h => ?_) (fun cdv Ar outer s H vs Q E hr h => ?_)
  · obtain ⟨a, xs, rfl, hl, _⟩ := h; simp [hl]
  · obtain ⟨a, xs, rfl, hl, ha, k⟩ := h
    obtain ⟨v, rfl⟩ := len1 hl
    refine ⟨_, (pss_cons (ps_expr (Xc.pe_binit T.o_TooMany rfl T.n_OverflowError (by decide +kernel) (by kernel_rfl) (by decide +kernel) (by decide +kernel) T.v_TooMany (pa_cons (pv 0) (pa_cons (pv 1) pa_nil))))
      (pss_one (Xc.ps_put T.o_TooMany (pv 0) (pv 1) rfl))), ?_⟩
    walk_at "st"
    walk_at "rd"
    refine ⟨a, _, [v], rfl, by simp, T.o_TooMany, ha, ?_⟩
    walk_at "rd"
    refine ⟨a, _, rfl, T.o_TooMany, T.t_TooMany_most, Or.inl ⟨ha, fun dx n1 n2 => ?_⟩⟩
    exact k dx _ n1 n2 upd_same (by rw [upd_ne n2, upd_same]; rfl) (fun b h1 h2 => by rw [upd_ne h1, upd_ne h2])
theorem ok_xStopped (T : Txt K mg w A) : FnOk P w K mg base CX0 1 A.f_Stopped___init__ A.d_Stopped___init__ ["self", "at"] (Xc.spIn A.C_Stopped 1 (one "at")) := by
  refine T.c_Stopped___init__.F.ok sc_Stopped___init__ (fun vs H Q E h => ?_) (fun cdv Ar outer s H vs Q E hr h => ?_)
  · obtain ⟨a, xs, rfl, hl, _⟩ := h; simp [hl]
  · obtain ⟨a, xs, rfl, hl, ha, k⟩ := h
    obtain ⟨v, rfl⟩ := len1 hl
    refine ⟨_, (pss_cons (ps_expr (Xc.pe_binit T.o_Stopped rfl T.n_RuntimeError (by decide +kernel) (by kernel_rfl) (by decide +kernel) (by decide +kernel) T.v_Stopped (pa_cons (pv 0) (pa_cons (pv 1) pa_nil))))
      (pss_one (Xc.ps_put T.o_Stopped (pv 0) (pv 1) rfl))), ?_⟩
    walk_at "st"
    walk_at "rd"
    refine ⟨a, _, [v], rfl, by simp, T.o_Stopped, ha, ?_⟩
    walk_at "rd"
    refine ⟨a, _, rfl, T.o_Stopped, T.t_Stopped_at, Or.inl ⟨ha, fun dx n1 n2 => ?_⟩⟩
    exact k dx _ n1 n2 upd_same (by rw [upd_ne n2, upd_same]; rfl) (fun b h1 h2 => by rw [upd_ne h1, upd_ne h2])
end
end K02

namespace K02
open PySem L2 Rs
/-! the draws -/
abbrev stm (b : Addr) (l k m : Int) : HO := .lst [.ref b, .int l, .int k, .int m]
def R_mixed : SepM := fun vs Ch L post => ∃ c k : Int, vs = [.int c, .int k] ∧ L = [] ∧ Ch = [] ∧ 0 ≤ k ∧ k < 2 ^ 16 ∧ post = fun v N L' => ∃ r : Int, v = .int r ∧ 0 ≤ r ∧ r < 2147483629 ∧ N = [] ∧ L' = []
def R_take : SepM := fun vs Ch L post => ∃ (a b : Addr) (l k m n : Int) (ns : List Int), vs = [.ref a, .int n] ∧ L = [(a, stm b l k m), (b, .lst (ns.map V.int))] ∧ Ch = [a, b] ∧ 1 ≤ n ∧ n < 2 ^ 40 ∧ 0 ≤ k ∧ k < 2 ^ 15 ∧
  post = fun v N L' => ∃ (r l' m' : Int) (ns' : List Int), v = .int r ∧ 0 ≤ r ∧ r < n ∧ N = [] ∧ L' = [(a, stm b l' (k + 1) m'), (b, .lst (ns'.map V.int))]
section
variable {P : Program} {w : World} {K : PySem.W.Frag} {mg : Str → Option Value} {base : Heap} {A : Ad} {H H0 : Hp} {MM : List Addr} {L L' F : Led} {Q : VK} {E : XK}
theorem ok_mixed (T : Txt K mg w A) : FnOk P w K mg base CX0 1 A.f__law_mixed A.d__law_mixed ["_law_drawn", "_law_k"] (SepN R_mixed) := by
  refine T.c__law_mixed.F.ok sc_l_mixed (fun vs H Q E h => ?_) (fun cdv Ar outer s H vs Q E hr h => ?_)
  · obtain ⟨_, _, _, ⟨_, _, rfl, _⟩, _⟩ := h; rfl
  · obtain ⟨Ch, L, post, ⟨c, kk, rfl, rfl, rfl, hk0, hk1, rfl⟩, nd, is, hc, k⟩ := h
    refine ⟨_, (pss_cons (ps_set (i := 0) sc_l_mixed.nd rfl (Or.inl rfl) (pe_op op_mod (pe_op op_pow (pe_op op_add (pe_op op_add (pe_op op_add (pe_op op_mod (pv 0) pe_int) (pe_op op_mul (pe_op op_mul pe_int (pv 1)) (pv 1))) (pe_op op_mul pe_int (pv 1))) pe_int) pe_int) pe_int))
      (pss_one (ps_ret (pe_op op_fdivW (pe_op op_mod (pe_op op_mul (pv 0) (pe_op op_add pe_int (pe_op op_mul pe_int (pv 1)))) pe_int) pe_int)))), ?_⟩
    have S := Sep.led nd is hc
    have q1 : 0 ≤ 7919 * kk * kk := Int.mul_nonneg (by omega) hk0
    have q2 : 7919 * kk * kk ≤ 7919 * 2 ^ 16 * 2 ^ 16 := Int.mul_le_mul (by omega) (by omega) hk0 (by omega)
    walk_at "st"
    walk_at "rd"
    exact k _ _ [] [] ⟨_, rfl, by omega, by omega, rfl, rfl⟩ (Hs.sub (by assumption) (List.nil_sublist _)) (fun q h => nomatch h) (fun q h => nomatch h)
theorem use_mixed {c kk : Int} (S : Hs H0 MM H L) (h0 : 0 ≤ kk) (h1 : kk < 2 ^ 16) (h : ∀ (r : Int) (H' : Hp), Hs H0 MM H' L → 0 ≤ r → r < 2147483629 → Q (.int r) H') : SepN R_mixed [.int c, .int kk] H Q E :=
  sepn_use (F := L) S ⟨c, kk, rfl, rfl, rfl, h0, h1, rfl⟩ (fun _ => Nat.le_refl _) (fun c hc => nomatch hc) fun v H' N L' ⟨r, e1, b0, b1, e2, e3⟩ _ S' => by subst e1 e2 e3; exact h r H' S' b0 b1
local macro_rules | `(tactic| walk_at "rd1") => `(tactic| ((with_reducible refine' use_mixed (by assumption) ?a ?b ?_); (case a => omega); (case b => omega); intro r H S h0 h1))
theorem set1 {a b : Addr} {l k m z : Int} {N : Hp → Prop} (S : Hs H0 MM H L) (c : Chg a (stm b l k m) (stm b z k m) L L') (hm : H0 a = none ∨ a ∈ MM) (h : ∀ H', Hs H0 MM H' L' → N H') : rSetL (.ref a) (.int 1) (.int z) H N := gt_setL (j := 1) S c hm rfl h
theorem set2 {a b : Addr} {l k m z : Int} {N : Hp → Prop} (S : Hs H0 MM H L) (c : Chg a (stm b l k m) (stm b l z m) L L') (hm : H0 a = none ∨ a ∈ MM) (h : ∀ H', Hs H0 MM H' L' → N H') : rSetL (.ref a) (.int 2) (.int z) H N := gt_setL (j := 2) S c hm rfl h
theorem set3 {a b : Addr} {l k m z : Int} {N : Hp → Prop} (S : Hs H0 MM H L) (c : Chg a (stm b l k m) (stm b l k z) L L') (hm : H0 a = none ∨ a ∈ MM) (h : ∀ H', Hs H0 MM H' L' → N H') : rSetL (.ref a) (.int 3) (.int z) H N := gt_setL (j := 3) S c hm rfl h
local macro_rules | `(tactic| walk_at "rd1") => `(tactic| first
  | ((with_reducible refine' set1 (by assumption) ?c ?o ?_); (case c => (walk_at "chg"; done)); (case o => walk_at "own"); intro H S)
  | ((with_reducible refine' set2 (by assumption) ?c ?o ?_); (case c => (walk_at "chg"; done)); (case o => walk_at "own"); intro H S)
  | ((with_reducible refine' set3 (by assumption) ?c ?o ?_); (case c => (walk_at "chg"; done)); (case o => walk_at "own"); intro H S))
theorem ok_take (T : Txt K mg w A) : FnOk P w K mg base CX0 2 A.f__law_take A.d__law_take ["_law_stream", "_law_many"] (SepN R_take) := by
  have G__law_mixed : FnOk P w K mg base CX0 1 A.f__law_mixed A.d__law_mixed ["_law_drawn", "_law_k"] (SepN R_mixed) := ok_mixed T
  refine T.c__law_take.F.ok sc_l_take (fun vs H Q E h => ?_) (fun cdv Ar outer s H vs Q E hr h => ?_)
  · obtain ⟨_, _, _, ⟨_, _, _, _, _, _, _, rfl, _⟩, _⟩ := h; rfl
  · obtain ⟨Ch, L, post, ⟨a, b, l, kk, m, n, ns, rfl, rfl, rfl, hn1, hn2, hk1, hk2, rfl⟩, nd, is, hc, k⟩ := h
    refine ⟨_, (pss_cons (ps_asg (pe_op op_add (pe_ix ix_list (pv 0) pe_int (fun _ _ => rfl)) pe_int) (pg_sub (pv 0) pe_int set_list))
      (pss_cons (ps_if (PW.pt (pw_and (pt_cmpR op_lt (pe_ix ix_list (pv 0) pe_int (fun _ _ => rfl)) pe_int (nomark _)) (pw_and1 (pt_cmpR (op_neD hr.units) (pe_ix ix_list (pv 0) pe_int (fun _ _ => rfl)) (pe_lst pa_nil) (nomark _)))))
        (pss_cons (ps_set (i := 2) sc_l_take.nd rfl (Or.inl rfl) (pe_bm PySem.F.plainAttrs_list PySem.F.slot_list_pop PySem.F.type_list_pop mt_popAt (pe_ix ix_list (pv 0) pe_int (fun _ _ => rfl)) (pa_cons pe_int pa_nil)))
        (pss_cons (ps_asg (pe_ifExp (pt_cmpR op_ge (pv 2) (pe_op op_pow pe_int pe_int) (nomark _)) (pv 2) pe_int) (pg_sub (pv 0) pe_int set_list))
        (pss_one (ps_asg (pe_call G__law_mixed (hr.mono (by decide)) rfl T.c__law_mixed.m T.c__law_mixed.F.kp T.c__law_mixed.b .nil pass0 (pa_cons (pe_op op_add (pe_ix ix_list (pv 0) pe_int (fun _ _ => rfl)) (pv 2)) (pa_cons (pe_ix ix_list (pv 0) pe_int (fun _ _ => rfl)) pa_nil))) (pg_sub (pv 0) pe_int set_list)))))
        pss_nil)
      (pss_cons (ps_if (pt_cmpR op_gt (pe_ix ix_list (pv 0) pe_int (fun _ _ => rfl)) pe_int (nomark _))
        (pss_cons (ps_set (i := 3) sc_l_take.nd rfl (Or.inl rfl) (pe_op op_mod (pe_ix ix_list (pv 0) pe_int (fun _ _ => rfl)) (pv 1)))
        (pss_cons (ps_asg (pe_op op_fdivW (pe_ix ix_list (pv 0) pe_int (fun _ _ => rfl)) (pv 1)) (pg_sub (pv 0) pe_int set_list))
        (pss_one (ps_ret (pv 3)))))
        pss_nil)
      (pss_one (ps_ret (pe_op op_mod (pe_op op_fdivW (pe_call G__law_mixed (hr.mono (by decide)) rfl T.c__law_mixed.m T.c__law_mixed.F.kp T.c__law_mixed.b .nil pass0 (pa_cons (pe_op op_add (pe_ix ix_list (pv 0) pe_int (fun _ _ => rfl)) (pe_op op_mul pe_int (pe_ix ix_list (pv 0) pe_int (fun _ _ => rfl)))) (pa_cons (pe_ix ix_list (pv 0) pe_int (fun _ _ => rfl)) pa_nil))) pe_int) (pv 1))))))), ?_⟩
    have S := Sep.led nd is hc
    have k2 : ∀ (r l' m' : Int) (ns' : List Int) (H' : Hp) (F : Led), Hs H [a, b] H' ((a, stm b l' (kk + 1) m') :: (b, .lst (ns'.map V.int)) :: F) → 0 ≤ r → r < n → Q (.int r) H' := fun r l' m' ns' H' F S h0 h1 =>
      k _ _ [] [_, _] ⟨r, l', m', ns', rfl, h0, h1, rfl, rfl⟩ (S.re (L' := [(a, stm b l' (kk + 1) m'), (b, .lst (ns'.map V.int))]) (by walk_at "led")) (by simp) (fun q h => nomatch h)
    clear k
    walk_at "st"
    walk_at "rd"
    rename_i H1 S1
    clear S
    refine rd_dec ?_ ?_ <;> intro hl
    · walk_at "rd"
      rename_i p H2 hp S2
      refine rd_neIs (xs := ns.map V.int) (ys := []) (ns := ns) (ms := []) S2 (by walk_at "mem") (by walk_at "mem") rfl rfl ?_
      have S3 : Hs H [a, b] H2 [(a, stm b l (kk + 1) m), (b, .lst (ns.map V.int))] := S2.sub (by walk_at "sub")
      clear S1 S2
      walk_at "rd"
      cases ns with
      | nil =>
        refine rd_decF (by simp) ?_
        walk_at "rd"
        refine rd_decF (by omega) ?_
        walk_at "rd"
        exact k2 _ l m [] _ [] (by assumption) (by assumption) (by assumption)
      | cons z ns =>
        refine rd_decT (by simp) ?_
        walk_at "rd"
        refine rd_popAt (i := 0) (xs := (z :: ns).map V.int) (xs' := ns.map V.int) (y := .int z) S3 (by walk_at "chg") (by walk_at "own") rfl (by decide) rfl fun H4 S4 => ?_
        clear S3
        walk_at "rd"
        refine rd_dec ?_ ?_ <;> intro hz
        · walk_at "rd"
          refine rd_decT (by have : (10 : Int) ^ (18 : Int).toNat = 1000000000000000000 := by decide
                             omega) ?_
          walk_at "rd"
          exact k2 _ _ _ ns _ [] (by assumption) (by assumption) (by assumption)
        · walk_at "rd"
          refine rd_decF (by omega) ?_
          walk_at "rd"
          exact k2 _ _ _ ns _ [] (by assumption) (by assumption) (by assumption)
    · walk_at "rd"
      refine rd_decT (by omega) ?_
      walk_at "rd"
      exact k2 _ _ _ _ _ [] (by assumption) (by assumption) (by assumption)
theorem use_take {a b : Addr} {l k m n : Int} {ns : List Int} (S : Hs H0 MM H L) (pm : ∀ x, cn x ([(a, stm b l k m), (b, HO.lst (ns.map V.int))] ++ F) ≤ cn x L) (own : H0 a = none ∨ a ∈ MM) (own2 : H0 b = none ∨ b ∈ MM) (h1 : 1 ≤ n) (h2 : n < 2 ^ 40) (h3 : 0 ≤ k) (h4 : k < 2 ^ 15)
    (h : ∀ (r l' m' : Int) (ns' : List Int) (H' : Hp), Hs H0 MM H' ((a, stm b l' (k + 1) m') :: (b, .lst (ns'.map V.int)) :: F) → 0 ≤ r → r < n → Q (.int r) H') : SepN R_take [.ref a, .int n] H Q E :=
  sepn_use S ⟨a, b, l, k, m, n, ns, rfl, rfl, rfl, h1, h2, h3, h4, rfl⟩ pm (fun c hc => by
    simp only [List.mem_cons, List.not_mem_nil, or_false] at hc
    rcases hc with rfl | rfl
    · exact ⟨by simp, own⟩
    · exact ⟨by simp, own2⟩) fun v H' N L' ⟨r, l', m', ns', e1, b0, b1, e2, e3⟩ _ S' => by subst e1 e2 e3; exact h r l' m' ns' H' S' b0 b1
end
end K02

namespace K02
open PySem L2 Rs Xc
def owns (A : Ad) : List Value := [.ref A.C_BadPaper, .ref A.C_Flawed, .ref A.C_BadLine, .ref A.C_Busy, .ref A.C_Gone, .ref A.C_BadAnswer, .ref A.C_BadKind, .ref A.C_BadText, .ref A.C_BadNumber, .ref A.C_NoSuch, .ref A.C_TooMany, .ref A.C_Stopped]
def kins (A : Ad) : List Value := [.ref A.C_SortError, .type "TypeError", .type "ValueError", .type "IndexError", .type "KeyError", .type "LookupError", .type "OverflowError", .type "ArithmeticError", .type "RuntimeError", .type "ZeroDivisionError"]
/-- what the class at C is an instance of -/
structure Who (K : PySem.W.Frag) (A : Ad) (C : Addr) (bs cs : List Bool) : Prop where
  lk : Lk K C
  own : (owns A).map (fun c => PySem.W.kitOne K (.ref C) c) = bs.map some
  kin : (kins A).map (fun c => PySem.W.kitOne K (.ref C) c) = cs.map some
  ex : PySem.W.kitOne K (.ref C) (.type "Exception") = some true
def wordsL : List Str := ["paper", "flawed", "line", "busy", "gone", "answer", "kind", "text", "number", "such", "many", "stopped"]
def kindsL : List Str := ["sort", "kind", "value", "index", "key", "lookup", "overflow", "arithmetic", "run", "nought"]
def pickW : List Str → List Bool → List Str
  | w :: ws, b :: bs => if b = true then w :: pickW ws bs else pickW ws bs
  | _, _ => []
theorem pickW_next : ∀ (ws : List Str) (bs : List Bool) (i : Nat) (w : Str) (b : Bool), ws[i]? = some w → bs[i]? = some b → pickW (ws.take (i + 1)) (bs.take (i + 1)) = pickW (ws.take i) (bs.take i) ++ (if b = true then [w] else [])
  | [], _, _, _, _, h, _ => by simp at h
  | _ :: _, [], _, _, _, _, h => by simp at h
  | w0 :: ws, b0 :: bs, 0, w, b, h, h2 => by
    cases h; cases h2
    cases b0 <;> rfl
  | w0 :: ws, b0 :: bs, i + 1, w, b, h, h2 => by
    have ih := pickW_next ws bs i w b h h2
    simp only [List.take_succ_cons, pickW, ih]
    cases b0 <;> rfl
theorem pickW_len : ∀ (ws : List Str) (bs : List Bool), (pickW ws bs).length ≤ ws.length
  | [], _ => by simp [pickW]
  | _ :: _, [] => by simp [pickW]
  | w :: ws, b :: bs => by
    have := pickW_len ws bs
    cases b <;> simp [pickW] <;> omega
def sp_words (K : PySem.W.Frag) (A : Ad) : Sp := fun vs H Q _ => ∃ (a C : Addr) (o : Option (Addr × List (Str × V))) (bs cs : List Bool), vs = [.ref a] ∧ ExcAt H a C o ∧ Who K A C bs cs ∧ ∀ q H', H q = none → H' q = some (.lst ((pickW wordsL bs).map V.str)) → Same H H' → Q (.ref q) H'
def sp_kinds (K : PySem.W.Frag) (A : Ad) : Sp := fun vs H Q _ => ∃ (a C : Addr) (o : Option (Addr × List (Str × V))) (bs cs : List Bool), vs = [.ref a] ∧ ExcAt H a C o ∧ Who K A C bs cs ∧ ∀ q H', H q = none → H' q = some (.lst ((pickW kindsL cs).map V.str)) → Same H H' → Q (.ref q) H'
theorem ExcAt.same {H H' : Hp} {a C : Addr} {o : Option (Addr × List (Str × V))} (h : ExcAt H a C o) (k : Same H H') : ExcAt H' a C o := by
  cases o with
  | none => exact k _ _ h
  | some p => exact ⟨k _ _ h.1, k _ _ h.2⟩
theorem len12 {bs : List Bool} (h : bs.length = 12) : ∃ b0 b1 b2 b3 b4 b5 b6 b7 b8 b9 b10 b11, bs = [b0, b1, b2, b3, b4, b5, b6, b7, b8, b9, b10, b11] := by
  match bs, h with
  | [b0, b1, b2, b3, b4, b5, b6, b7, b8, b9, b10, b11], _ => exact ⟨b0, b1, b2, b3, b4, b5, b6, b7, b8, b9, b10, b11, rfl⟩
theorem len10 {bs : List Bool} (h : bs.length = 10) : ∃ b0 b1 b2 b3 b4 b5 b6 b7 b8 b9, bs = [b0, b1, b2, b3, b4, b5, b6, b7, b8, b9] := by
  match bs, h with
  | [b0, b1, b2, b3, b4, b5, b6, b7, b8, b9], _ => exact ⟨b0, b1, b2, b3, b4, b5, b6, b7, b8, b9, rfl⟩
section
variable {P : Program} {w : World} {K : PySem.W.Frag} {mg : Str → Option Value} {base : Heap} {A : Ad} {H H0 : Hp} {MM : List Addr} {L L' F : Led} {Q : VK} {E : XK}
local macro_rules | `(tactic| walk_at "rd1") => `(tactic| ((with_reducible refine' Xc.rd_isE ?e ?l ?c ?f ?_); (case e => exact ExcAt.same (by assumption) (Rs.Hs.same (by assumption))); (case l => exact Who.lk (by assumption)); (case c => first | exact .own _ | exact .ty _); (case f => assumption)))
theorem ok_words (T : Txt K mg w A) : FnOk P w K mg base CX0 1 A.f__law_words A.d__law_words ["_law_e"] (sp_words K A) := by
  refine T.c__law_words.F.ok sc_l_words (fun vs H Q E h => ?_) (fun cdv Ar outer s H vs Q E hr h => ?_)
  · obtain ⟨a, C, o, bs, cs, rfl, _⟩ := h; rfl
  · obtain ⟨a, C, o, bs, cs, rfl, he, W, k⟩ := h
    refine ⟨_, (pss_cons (ps_set (i := 1) sc_l_words.nd rfl (Or.inl rfl) (pe_lst (pa_cons (pe_callB Xc.call_isE (by rfl) T.n_isinstance PyProof.Rows.boot_isinstance (pa_cons (pv 0) (pa_cons (pe_glob (v := .ref A.C_BadPaper) rfl T.m_BadPaper rfl) pa_nil))) (pa_cons (pe_callB Xc.call_isE (by rfl) T.n_isinstance PyProof.Rows.boot_isinstance (pa_cons (pv 0) (pa_cons (pe_glob (v := .ref A.C_Flawed) rfl T.m_Flawed rfl) pa_nil))) (pa_cons (pe_callB Xc.call_isE (by rfl) T.n_isinstance PyProof.Rows.boot_isinstance (pa_cons (pv 0) (pa_cons (pe_glob (v := .ref A.C_BadLine) rfl T.m_BadLine rfl) pa_nil))) (pa_cons (pe_callB Xc.call_isE (by rfl) T.n_isinstance PyProof.Rows.boot_isinstance (pa_cons (pv 0) (pa_cons (pe_glob (v := .ref A.C_Busy) rfl T.m_Busy rfl) pa_nil))) pa_nil))))))
      (pss_cons (ps_set (i := 1) sc_l_words.nd rfl (Or.inl rfl) (pe_op op_cat (pv 1) (pe_lst (pa_cons (pe_callB Xc.call_isE (by rfl) T.n_isinstance PyProof.Rows.boot_isinstance (pa_cons (pv 0) (pa_cons (pe_glob (v := .ref A.C_Gone) rfl T.m_Gone rfl) pa_nil))) (pa_cons (pe_callB Xc.call_isE (by rfl) T.n_isinstance PyProof.Rows.boot_isinstance (pa_cons (pv 0) (pa_cons (pe_glob (v := .ref A.C_BadAnswer) rfl T.m_BadAnswer rfl) pa_nil))) (pa_cons (pe_callB Xc.call_isE (by rfl) T.n_isinstance PyProof.Rows.boot_isinstance (pa_cons (pv 0) (pa_cons (pe_glob (v := .ref A.C_BadKind) rfl T.m_BadKind rfl) pa_nil))) (pa_cons (pe_callB Xc.call_isE (by rfl) T.n_isinstance PyProof.Rows.boot_isinstance (pa_cons (pv 0) (pa_cons (pe_glob (v := .ref A.C_BadText) rfl T.m_BadText rfl) pa_nil))) pa_nil)))))))
      (pss_cons (ps_set (i := 1) sc_l_words.nd rfl (Or.inl rfl) (pe_op op_cat (pv 1) (pe_lst (pa_cons (pe_callB Xc.call_isE (by rfl) T.n_isinstance PyProof.Rows.boot_isinstance (pa_cons (pv 0) (pa_cons (pe_glob (v := .ref A.C_BadNumber) rfl T.m_BadNumber rfl) pa_nil))) (pa_cons (pe_callB Xc.call_isE (by rfl) T.n_isinstance PyProof.Rows.boot_isinstance (pa_cons (pv 0) (pa_cons (pe_glob (v := .ref A.C_NoSuch) rfl T.m_NoSuch rfl) pa_nil))) (pa_cons (pe_callB Xc.call_isE (by rfl) T.n_isinstance PyProof.Rows.boot_isinstance (pa_cons (pv 0) (pa_cons (pe_glob (v := .ref A.C_TooMany) rfl T.m_TooMany rfl) pa_nil))) (pa_cons (pe_callB Xc.call_isE (by rfl) T.n_isinstance PyProof.Rows.boot_isinstance (pa_cons (pv 0) (pa_cons (pe_glob (v := .ref A.C_Stopped) rfl T.m_Stopped rfl) pa_nil))) pa_nil)))))))
      (pss_cons (ps_set (i := 2) sc_l_words.nd rfl (Or.inl rfl) (pe_lst (pa_cons pe_str (pa_cons pe_str (pa_cons pe_str (pa_cons pe_str (pa_cons pe_str (pa_cons pe_str (pa_cons pe_str (pa_cons pe_str (pa_cons pe_str (pa_cons pe_str (pa_cons pe_str (pa_cons pe_str pa_nil))))))))))))))
      (pss_one (ps_ret (pe_lc (own := [("_law_word", 3), ("_law_good", 4)]) (g := gTup K 2 (gCons (gName 3) (gCons (gName 4) gNil))) (tt := tTest (tVar 4)) rfl sc_l_words.nd (pi_zip (by rfl) T.n_zip (pa_cons (pv 2) (pa_cons (pv 1) pa_nil))) (blkOk_by (N := ["_law_e", "_law_found", "_law_words_here", "_law_word", "_law_good"]) (sc := defScope s_l_words) (by decide +kernel)) (fun _ _ _ _ _ => (show PG _ _ (gTup K 2 (gCons (gName 3) (gCons (gName 4) gNil))) from (pg_tup rfl (pgs_cons (pg_name (i := 3) sc_l_words.nd rfl (Or.inl rfl)) (pgs_cons (pg_name (i := 4) sc_l_words.nd rfl (Or.inl rfl)) pgs_nil))))) (fun _ _ _ _ _ => (pts_one (pt_val (pv 4)))) (fun _ _ _ _ _ => (pv 3))))))))), ?_⟩
    have own := W.own
    have hl : bs.length = 12 := by
      have := congrArg List.length own
      simpa [owns] using this.symm
    obtain ⟨b0, b1, b2, b3, b4, b5, b6, b7, b8, b9, b10, b11, rfl⟩ := len12 hl
    simp only [owns, List.map_cons, List.map_nil, List.cons.injEq, and_true] at own
    obtain ⟨e0, e1, e2, e3, e4, e5, e6, e7, e8, e9, e10, e11⟩ := own
    have S := Hs.start0 H
    walk_at "st"
    walk_at "rd"
    refine rd_zip ?_
    walk_at "rd"
    rename_i f3 Hf3 hf3 Sf3 wl Hw hw Sw
    have S1 := Sw.sub (L' := [(wl, HO.lst _), (f3, HO.lst _)]) (by walk_at "sub")
    have S2 : Hs H [] Hw [(wl, .lst (wordsL.map V.str)), (f3, .lst (([b0, b1, b2, b3, b4, b5, b6, b7, b8, b9, b10, b11] : List Bool).map V.bl))] := S1
    clear S1 Sw Sf3
    generalize hbs : ([b0, b1, b2, b3, b4, b5, b6, b7, b8, b9, b10, b11] : List Bool) = bs at S2 k hl
    repeat (rename_i z9; clear z9)
    refine ⟨wl, f3, _, _, rfl, S2.lst (by walk_at "mem"), S2.lst (by walk_at "mem"), ?_⟩
    refine lcw_zip (xs := wordsL.map V.str) (ys := bs.map V.bl) S2 (by rw [List.length_map, List.length_map, hl]; rfl) (fun i acc => acc = (pickW (wordsL.take i) (bs.take i)).map V.str) rfl (fun H' acc D S => ⟨S.lst (by walk_at "mem"), S.lst (by walk_at "mem")⟩) ?_ ?_
    · rintro D i x y acc H' T hx hy rfl hD hT S3
      obtain ⟨wd, hwd, rfl⟩ : ∃ wd, wordsL[i]? = some wd ∧ x = V.str wd := by
        rw [List.getElem?_map] at hx
        cases hz : wordsL[i]? with
        | none => rw [hz] at hx; cases hx
        | some z => rw [hz] at hx; cases hx; exact ⟨z, rfl, rfl⟩
      obtain ⟨b, hb, rfl⟩ : ∃ b, bs[i]? = some b ∧ y = V.bl b := by
        rw [List.getElem?_map] at hy
        cases hz : bs[i]? with
        | none => rw [hz] at hy; cases hy
        | some z => rw [hz] at hy; cases hy; exact ⟨z, rfl, rfl⟩
      walk_at "lc"
      have nx := pickW_next wordsL bs i wd b hwd hb
      have ln := pickW_len (wordsL.take i) (bs.take i)
      rw [List.length_take] at ln
      have l12 : wordsL.length ≤ 12 := by decide
      cases b with
      | true =>
        rw [if_pos rfl]
        walk_at "rd"
        refine rd_lcPut S3 (by walk_at "chg") hD (Rs.sz' (by rw [List.length_map]; omega)) (by walk_at "sub") ?_
        rw [nx]
        simp
      | false =>
        rw [if_neg Bool.false_ne_true]
        refine rd_lcSkip S3 hD (by walk_at "sub") ?_
        rw [nx]
        simp
    · rintro D acc H' rfl hD S3
      rw [List.length_map, List.take_length, List.take_of_length_le (by rw [hl]; decide)] at S3
      exact k D H' hD (S3.get (by walk_at "mem")) S3.same
theorem ok_kinds (T : Txt K mg w A) : FnOk P w K mg base CX0 1 A.f__law_kinds A.d__law_kinds ["_law_e"] (sp_kinds K A) := by
  refine T.c__law_kinds.F.ok sc_l_kinds (fun vs H Q E h => ?_) (fun cdv Ar outer s H vs Q E hr h => ?_)
  · obtain ⟨a, C, o, bs, cs, rfl, _⟩ := h; rfl
  · obtain ⟨a, C, o, bs, cs, rfl, he, W, k⟩ := h
    refine ⟨_, (pss_cons (ps_set (i := 1) sc_l_kinds.nd rfl (Or.inl rfl) (pe_lst (pa_cons (pe_callB Xc.call_isE (by rfl) T.n_isinstance PyProof.Rows.boot_isinstance (pa_cons (pv 0) (pa_cons (pe_glob (v := .ref A.C_SortError) rfl T.m_SortError rfl) pa_nil))) (pa_cons (pe_callB Xc.call_isE (by rfl) T.n_isinstance PyProof.Rows.boot_isinstance (pa_cons (pv 0) (pa_cons (pe_bltn (v := .ty "TypeError") rfl T.n_TypeError (by decide +kernel) rfl) pa_nil))) (pa_cons (pe_callB Xc.call_isE (by rfl) T.n_isinstance PyProof.Rows.boot_isinstance (pa_cons (pv 0) (pa_cons (pe_bltn (v := .ty "ValueError") rfl T.n_ValueError (by decide +kernel) rfl) pa_nil))) (pa_cons (pe_callB Xc.call_isE (by rfl) T.n_isinstance PyProof.Rows.boot_isinstance (pa_cons (pv 0) (pa_cons (pe_bltn (v := .ty "IndexError") rfl T.n_IndexError (by decide +kernel) rfl) pa_nil))) pa_nil))))))
      (pss_cons (ps_set (i := 1) sc_l_kinds.nd rfl (Or.inl rfl) (pe_op op_cat (pv 1) (pe_lst (pa_cons (pe_callB Xc.call_isE (by rfl) T.n_isinstance PyProof.Rows.boot_isinstance (pa_cons (pv 0) (pa_cons (pe_bltn (v := .ty "KeyError") rfl T.n_KeyError (by decide +kernel) rfl) pa_nil))) (pa_cons (pe_callB Xc.call_isE (by rfl) T.n_isinstance PyProof.Rows.boot_isinstance (pa_cons (pv 0) (pa_cons (pe_bltn (v := .ty "LookupError") rfl T.n_LookupError (by decide +kernel) rfl) pa_nil))) (pa_cons (pe_callB Xc.call_isE (by rfl) T.n_isinstance PyProof.Rows.boot_isinstance (pa_cons (pv 0) (pa_cons (pe_bltn (v := .ty "OverflowError") rfl T.n_OverflowError (by decide +kernel) rfl) pa_nil))) pa_nil))))))
      (pss_cons (ps_set (i := 1) sc_l_kinds.nd rfl (Or.inl rfl) (pe_op op_cat (pv 1) (pe_lst (pa_cons (pe_callB Xc.call_isE (by rfl) T.n_isinstance PyProof.Rows.boot_isinstance (pa_cons (pv 0) (pa_cons (pe_bltn (v := .ty "ArithmeticError") rfl T.n_ArithmeticError (by decide +kernel) rfl) pa_nil))) (pa_cons (pe_callB Xc.call_isE (by rfl) T.n_isinstance PyProof.Rows.boot_isinstance (pa_cons (pv 0) (pa_cons (pe_bltn (v := .ty "RuntimeError") rfl T.n_RuntimeError (by decide +kernel) rfl) pa_nil))) (pa_cons (pe_callB Xc.call_isE (by rfl) T.n_isinstance PyProof.Rows.boot_isinstance (pa_cons (pv 0) (pa_cons (pe_bltn (v := .ty "ZeroDivisionError") rfl T.n_ZeroDivisionError (by decide +kernel) rfl) pa_nil))) pa_nil))))))
      (pss_cons (ps_set (i := 2) sc_l_kinds.nd rfl (Or.inl rfl) (pe_lst (pa_cons pe_str (pa_cons pe_str (pa_cons pe_str (pa_cons pe_str (pa_cons pe_str (pa_cons pe_str (pa_cons pe_str (pa_cons pe_str (pa_cons pe_str (pa_cons pe_str pa_nil))))))))))))
      (pss_one (ps_ret (pe_lc (own := [("_law_word", 3), ("_law_good", 4)]) (g := gTup K 2 (gCons (gName 3) (gCons (gName 4) gNil))) (tt := tTest (tVar 4)) rfl sc_l_kinds.nd (pi_zip (by rfl) T.n_zip (pa_cons (pv 2) (pa_cons (pv 1) pa_nil))) (blkOk_by (N := ["_law_e", "_law_found", "_law_words_here", "_law_word", "_law_good"]) (sc := defScope s_l_kinds) (by decide +kernel)) (fun _ _ _ _ _ => (show PG _ _ (gTup K 2 (gCons (gName 3) (gCons (gName 4) gNil))) from (pg_tup rfl (pgs_cons (pg_name (i := 3) sc_l_kinds.nd rfl (Or.inl rfl)) (pgs_cons (pg_name (i := 4) sc_l_kinds.nd rfl (Or.inl rfl)) pgs_nil))))) (fun _ _ _ _ _ => (pts_one (pt_val (pv 4)))) (fun _ _ _ _ _ => (pv 3))))))))), ?_⟩
    have own := W.kin
    have hl : cs.length = 10 := by
      have := congrArg List.length own
      simpa [kins] using this.symm
    obtain ⟨b0, b1, b2, b3, b4, b5, b6, b7, b8, b9, rfl⟩ := len10 hl
    simp only [kins, List.map_cons, List.map_nil, List.cons.injEq, and_true] at own
    obtain ⟨e0, e1, e2, e3, e4, e5, e6, e7, e8, e9⟩ := own
    have S := Hs.start0 H
    walk_at "st"
    walk_at "rd"
    refine rd_zip ?_
    walk_at "rd"
    rename_i f3 Hf3 hf3 Sf3 wl Hw hw Sw
    have S1 := Sw.sub (L' := [(wl, HO.lst _), (f3, HO.lst _)]) (by walk_at "sub")
    have S2 : Hs H [] Hw [(wl, .lst (kindsL.map V.str)), (f3, .lst (([b0, b1, b2, b3, b4, b5, b6, b7, b8, b9] : List Bool).map V.bl))] := S1
    clear S1 Sw Sf3
    generalize hcs : ([b0, b1, b2, b3, b4, b5, b6, b7, b8, b9] : List Bool) = cs at S2 k hl
    repeat (rename_i z9; clear z9)
    refine ⟨wl, f3, _, _, rfl, S2.lst (by walk_at "mem"), S2.lst (by walk_at "mem"), ?_⟩
    refine lcw_zip (xs := kindsL.map V.str) (ys := cs.map V.bl) S2 (by rw [List.length_map, List.length_map, hl]; rfl) (fun i acc => acc = (pickW (kindsL.take i) (cs.take i)).map V.str) rfl (fun H' acc D S => ⟨S.lst (by walk_at "mem"), S.lst (by walk_at "mem")⟩) ?_ ?_
    · rintro D i x y acc H' T hx hy rfl hD hT S3
      obtain ⟨wd, hwd, rfl⟩ : ∃ wd, kindsL[i]? = some wd ∧ x = V.str wd := by
        rw [List.getElem?_map] at hx
        cases hz : kindsL[i]? with
        | none => rw [hz] at hx; cases hx
        | some z => rw [hz] at hx; cases hx; exact ⟨z, rfl, rfl⟩
      obtain ⟨b, hb, rfl⟩ : ∃ b, cs[i]? = some b ∧ y = V.bl b := by
        rw [List.getElem?_map] at hy
        cases hz : cs[i]? with
        | none => rw [hz] at hy; cases hy
        | some z => rw [hz] at hy; cases hy; exact ⟨z, rfl, rfl⟩
      walk_at "lc"
      have nx := pickW_next kindsL cs i wd b hwd hb
      have ln := pickW_len (kindsL.take i) (cs.take i)
      rw [List.length_take] at ln
      have l12 : kindsL.length ≤ 12 := by decide
      cases b with
      | true =>
        rw [if_pos rfl]
        walk_at "rd"
        refine rd_lcPut S3 (by walk_at "chg") hD (Rs.sz' (by rw [List.length_map]; omega)) (by walk_at "sub") ?_
        rw [nx]
        simp
      | false =>
        rw [if_neg Bool.false_ne_true]
        refine rd_lcSkip S3 hD (by walk_at "sub") ?_
        rw [nx]
        simp
    · rintro D acc H' rfl hD S3
      rw [List.length_map, List.take_length, List.take_of_length_le (by rw [hl]; decide)] at S3
      exact k D H' hD (S3.get (by walk_at "mem")) S3.same
end
end K02

namespace K02
open PySem L2 Rs Xc
/-- a thing: plain, or a tuple, a list, a dict of one small text -/
inductive Tg (n : Nat) (H : Hp) : V → Prop
  | non : Tg n H .non
  | bl (b : Bool) : Tg n H (.bl b)
  | int (i : Int) (h : i.natAbs < 10 ^ 4) : Tg n H (.int i)
  | str (x : Str) (h1 : x.cps.size ≤ 40) (h2 : ∀ c ∈ x.cps.toList, c < 16 ^ 8) : Tg n H (.str x)
  | tup (a : Addr) (x : Str) (h1 : x.cps.size ≤ 40) (h2 : ∀ c ∈ x.cps.toList, c < 16 ^ 8) (h : H a = some (.tup [.str x, .int 3])) : Tg n H (.ref a)
  | lst (a : Addr) (xs : List Str) (h1 : ∀ x ∈ xs, x.cps.size ≤ 40 ∧ ∀ c ∈ x.cps.toList, c < 16 ^ 8) (h2 : xs.length ≤ n) (h : H a = some (.lst (xs.map V.str))) : Tg n H (.ref a)
  | dk (a : Addr) (x : Str) (h1 : x.cps.size ≤ 40) (h2 : ∀ c ∈ x.cps.toList, c < 16 ^ 8) (h : H a = some (.dK [(.inl 1, .str x)])) : Tg n H (.ref a)
theorem Tg.more {n : Nat} {H H' : Hp} {v : V} (t : Tg n H v) (k : ∀ a o, v = .ref a → H a = some o → H' a = some o) : Tg n H' v := by
  cases t with
  | non => exact .non
  | bl b => exact .bl b
  | int i h => exact .int i h
  | str x h1 h2 => exact .str x h1 h2
  | tup a x h1 h2 h => exact .tup a x h1 h2 (k _ _ rfl h)
  | lst a xs h1 h2 h => exact .lst a xs h1 h2 (k _ _ rfl h)
  | dk a x h1 h2 h => exact .dk a x h1 h2 (k _ _ rfl h)
theorem Tg.there {n : Nat} {H : Hp} {a : Addr} (t : Tg n H (.ref a)) : H a ≠ none := by
  cases t with
  | tup _ x h1 h2 h => rw [h]; simp
  | lst _ xs h1 h2 h => rw [h]; simp
  | dk _ x h1 h2 h => rw [h]; simp
theorem Tg.noext {n : Nat} {H : Hp} {a : Addr} {φ : Heap → Prop} (t : Tg n H (.ref a)) : H a ≠ some (.ext φ) := by
  cases t with
  | tup _ x h1 h2 h => rw [h]; intro z; cases z
  | lst _ xs h1 h2 h => rw [h]; intro z; cases z
  | dk _ x h1 h2 h => rw [h]; intro z; cases z
theorem Tg.kin {K : PySem.W.Frag} {n : Nat} {H : Hp} {v : V} (t : Tg n H v) : (∃ (a : Addr) (xs : List Str), v = .ref a ∧ (∀ x ∈ xs, x.cps.size ≤ 40 ∧ ∀ c ∈ x.cps.toList, c < 16 ^ 8) ∧ xs.length ≤ n ∧ H a = some (.lst (xs.map V.str))) ∨ ∃ k, Kin K H v k ∧ kitB k.nm "list" = some false := by
  cases t with
  | non => exact .inr ⟨_, .non, kit_list _⟩
  | bl b => exact .inr ⟨_, .bl b, kit_list _⟩
  | int i h => exact .inr ⟨_, .int i, kit_list _⟩
  | str x h1 h2 => exact .inr ⟨_, .str x, kit_list _⟩
  | tup a x h1 h2 h => exact .inr ⟨_, .tup h, kit_list _⟩
  | lst a xs h1 h2 h => exact .inl ⟨a, xs, rfl, h1, h2, h⟩
  | dk a x h1 h2 h => exact .inr ⟨_, .dK h, kit_list _⟩
def sp_thing : Sp := fun vs H Q _ => ∃ (a b : Addr) (l k m : Int) (ns : List Int), vs = [.ref a] ∧ H a = some (stm b l k m) ∧ H b = some (.lst (ns.map V.int)) ∧ 0 ≤ k ∧ k < 2 ^ 14 ∧
  ∀ (v : V) (l' k' m' : Int) (ns' : List Int) (H' : Hp), Tg 1 H' v → (∀ x, v = .ref x → H x = none) → H' a = some (stm b l' k' m') → H' b = some (.lst (ns'.map V.int)) → (∀ x o, H x = some o → x ≠ a → x ≠ b → H' x = some o) → k ≤ k' → k' ≤ k + 4 → Q v H'
section
variable {P : Program} {w : World} {K : PySem.W.Frag} {mg : Str → Option Value} {base : Heap} {A : Ad} {H H0 : Hp} {MM : List Addr} {L L' F : Led} {Q : VK} {E : XK}
theorem sign_small (i : Nat) (h : i < 10) : ∃ c, (Str.ofString "abcdefghij").cps[i]? = some c ∧ c < 16 ^ 8 := by
  have : ∀ j : Fin 10, ∃ c, (Str.ofString "abcdefghij").cps[j.val]? = some c ∧ c < 16 ^ 8 := by
    intro j
    match j with
    | 0 | 1 | 2 | 3 | 4 | 5 | 6 | 7 | 8 | 9 => exact ⟨_, rfl, by decide +kernel⟩
  exact this ⟨i, h⟩
theorem mul_one (c : Nat) (hc : c < 16 ^ 8) (n : Int) (h0 : 0 ≤ n) (h1 : n < 4) : (Txt.mul (⟨#[c]⟩ : Str) n).cps.size ≤ 40 ∧ ∀ z ∈ (Txt.mul (⟨#[c]⟩ : Str) n).cps.toList, z < 16 ^ 8 := by
  obtain rfl | rfl | rfl | rfl : n = 0 ∨ n = 1 ∨ n = 2 ∨ n = 3 := by omega
  · exact ⟨Nat.le_of_ble_eq_true rfl, fun z hz => nomatch (show z ∈ [] from hz)⟩
  all_goals refine ⟨Nat.le_of_ble_eq_true rfl, fun z hz => ?_⟩
  all_goals
    have hz2 : z = c := by
      first
        | (have h := (show z ∈ [c] from hz); simpa using h)
        | (have h := (show z ∈ [c, c] from hz); simpa using h)
        | (have h := (show z ∈ [c, c, c] from hz); simpa using h)
    rw [hz2]; exact hc
theorem ok_thing (T : Txt K mg w A) : FnOk P w K mg base CX0 3 A.f__law_thing_by A.d__law_thing_by ["_law_stream"] sp_thing := by
  have G__law_take : FnOk P w K mg base CX0 2 A.f__law_take A.d__law_take ["_law_stream", "_law_many"] (SepN R_take) := ok_take T
  refine T.c__law_thing_by.F.ok sc_l_thing_by (fun vs H Q E h => ?_) (fun cdv Ar outer s H vs Q E hr h => ?_)
  · obtain ⟨a, b, l, kk, m, ns, rfl, _⟩ := h; rfl
  · obtain ⟨a, b, l, kk, m, ns, rfl, ha, hb, hk0, hk1, k⟩ := h
    refine ⟨_, (pss_cons (ps_set (i := 1) sc_l_thing_by.nd rfl (Or.inl rfl) (pe_op Xc.op_mulS (pe_ix ix_str pe_str (pe_call G__law_take (hr.mono (by decide)) rfl T.c__law_take.m T.c__law_take.F.kp T.c__law_take.b .nil pass0 (pa_cons (pv 0) (pa_cons pe_int pa_nil))) (fun _ _ => rfl)) (pe_call G__law_take (hr.mono (by decide)) rfl T.c__law_take.m T.c__law_take.F.kp T.c__law_take.b .nil pass0 (pa_cons (pv 0) (pa_cons pe_int pa_nil)))))
      (pss_one (ps_ret (pe_ix ix_list (pe_lst (pa_cons (pv 1) (pa_cons (pe_call G__law_take (hr.mono (by decide)) rfl T.c__law_take.m T.c__law_take.F.kp T.c__law_take.b .nil pass0 (pa_cons (pv 0) (pa_cons pe_int pa_nil))) (pa_cons pe_non (pa_cons (pe_tup (pa_cons (pv 1) (pa_cons pe_int pa_nil))) (pa_cons (pe_lst (pa_cons (pv 1) pa_nil)) (pa_cons (pe_un un_neg pe_int) (pa_cons pe_bl (pa_cons (pe_disp (pps_cons pe_int (pv 1) pps_nil) (by rfl) (by rfl) (fun z => by cases z) (by decide)) pa_nil))))))))) (pe_call G__law_take (hr.mono (by decide)) rfl T.c__law_take.m T.c__law_take.F.kp T.c__law_take.b .nil pass0 (pa_cons (pv 0) (pa_cons pe_int pa_nil))) (fun _ _ => rfl))))), ?_⟩
    have ne : a ≠ b := ne_of ha hb (by
      intro z
      injection z with z
      cases ns <;> cases z)
    have S : Hs H [a, b] H [(a, stm b l kk m), (b, .lst (ns.map V.int))] := Hs.start H [a, b] _ (by simp [ne]) (fun q hq => by
      simp only [List.mem_cons, List.not_mem_nil, or_false] at hq
      rcases hq with rfl | rfl
      · exact ha
      · exact hb) (fun x hx => by
      simp only [List.mem_cons, List.not_mem_nil, or_false] at hx
      rcases hx with rfl | rfl
      · rw [ha]; simp
      · rw [hb]; simp)
    walk_at "st"
    walk_at "rd"
    refine use_take (a := a) (b := b) (l := l) (k := kk) (m := m) (n := 10) (ns := ns) (F := []) S (by walk_at "led") (Or.inr (by simp)) (Or.inr (by simp)) (by omega) (by omega) (by omega) (by omega) fun r1 l1 m1 n1 H1 S1 h0 h1 => ?_
    clear S
    obtain ⟨i1, rfl⟩ := Int.eq_ofNat_of_zero_le h0
    obtain ⟨c, hc, hc8⟩ := sign_small i1 (by omega)
    refine ⟨_, _, c, rfl, rfl, by decide +kernel, atI_nat (j := i1) (by rw [Array.getElem?_toList]; exact hc), ?_⟩
    walk_at "rd"
    refine use_take (a := a) (b := b) (l := l1) (k := kk + 1) (m := m1) (n := 4) (ns := n1) (F := []) S1 (by walk_at "led") (Or.inr (by simp)) (Or.inr (by simp)) (by omega) (by omega) (by omega) (by omega) fun r2 l2 m2 n2 H2 S2 g0 g1 => ?_
    clear S1
    refine Xc.rd_mulS g0 (by omega) (by show (1 : Nat) ≤ 1000; decide) ?_
    obtain ⟨x1, x2⟩ := mul_one c hc8 r2 g0 g1
    generalize Txt.mul (⟨#[c]⟩ : Str) r2 = nm at x1 x2
    walk_at "rd"
    refine use_take (a := a) (b := b) (l := l2) (k := kk + 1 + 1) (m := m2) (n := 100) (ns := n2) (F := []) S2 (by walk_at "led") (Or.inr (by simp)) (Or.inr (by simp)) (by omega) (by omega) (by omega) (by omega) fun r3 l3 m3 n3 H3 S3 f0 f1 => ?_
    clear S2
    walk_at "rd"
    rename_i tp Wt htp St lp Wl hlp Sl dp Wd hdp Sd We Se op Wo hop So
    clear S3 St Sl Sd Se
    rw [show mergeK [] (toK [(V.int 1, V.str nm)]) = [((.inl 1 : Key), V.str nm)] from rfl] at So
    refine use_take (a := a) (b := b) (l := l3) (k := kk + 1 + 1 + 1) (m := m3) (n := 8) (ns := n3) (F := [(op, HO.lst [V.str nm, V.int r3, V.non, V.ref tp, V.ref lp, V.int (-1), V.bl true, V.ref dp]), (dp, HO.dK [((.inl 1 : Key), V.str nm)]), (lp, HO.lst [V.str nm]), (tp, HO.tup [V.str nm, V.int 3])]) So (by walk_at "led") (Or.inr (by simp)) (Or.inr (by simp)) (by omega) (by omega) (by omega) (by omega) fun r4 l4 m4 n4 H4 S4 e0 e1 => ?_
    clear So
    refine rd_ixAny (xs := [V.str nm, V.int r3, V.non, V.ref tp, V.ref lp, V.int (-1), V.bl true, V.ref dp]) S4 (by walk_at "mem") e0 (by simpa using e1) fun v hv _ => ?_
    have fin : Tg 1 H4 v → (∀ x, v = .ref x → H x = none) → Q v H4 := fun t f => k v l4 (kk + 1 + 1 + 1 + 1) m4 n4 H4 t f (S4.get (by walk_at "mem")) (S4.get (by walk_at "mem")) (fun x o hx n1 n2 => S4.old x o hx (by simp [n1, n2])) (by omega) (by omega)
    simp only [List.mem_cons, List.not_mem_nil, or_false] at hv
    rcases hv with rfl | rfl | rfl | rfl | rfl | rfl | rfl | rfl
    · exact fin (.str _ x1 x2) (fun x e => by cases e)
    · exact fin (.int _ (by omega)) (fun x e => by cases e)
    · exact fin .non (fun x e => by cases e)
    · exact fin (.tup tp nm x1 x2 (S4.get (by walk_at "mem"))) (fun x e => by cases e; exact htp)
    · have hm : ∀ z ∈ [nm], z.cps.size ≤ 40 ∧ ∀ c ∈ z.cps.toList, c < 16 ^ 8 := fun z hz => by
        rw [List.mem_singleton.mp hz]
        exact ⟨x1, x2⟩
      exact fin (.lst lp [nm] hm (by simp) (S4.get (o := .lst [V.str nm]) (by walk_at "mem"))) (fun x e => by cases e; exact hlp)
    · exact fin (.int _ (by decide)) (fun x e => by cases e)
    · exact fin (.bl _) (fun x e => by cases e)
    · exact fin (.dk dp nm x1 x2 (S4.get (by walk_at "mem"))) (fun x e => by cases e; exact hdp)
end
end K02

namespace K02
open PySem L2 Rs Xc
abbrev RD := Addr × Option (List (Str × V)) × Str × List Str
def rowsD (A : Ad) (u v : V) : List RD := [
  (A.C_BadPaper, some [("at", u)], "paper", ["sort"]), (A.C_Flawed, some [("places", v), ("word", u)], "flawed", ["sort"]), (A.C_BadLine, some [("word", v), ("row", u)], "line", ["sort"]),
  (A.C_Busy, none, "busy", ["sort"]), (A.C_Gone, none, "gone", ["sort"]), (A.C_BadAnswer, some [("answer", u)], "answer", ["kind"]), (A.C_BadKind, some [("wanted", u)], "kind", ["kind"]),
  (A.C_BadText, none, "text", ["value"]), (A.C_BadNumber, some [("at", u)], "number", ["index", "lookup"]), (A.C_NoSuch, some [("name", u)], "such", ["key", "lookup"]),
  (A.C_TooMany, some [("most", u)], "many", ["overflow", "arithmetic"]), (A.C_Stopped, some [("at", u)], "stopped", ["run"])]
inductive All2 {α β : Type} (R : α → β → Prop) : List α → List β → Prop
  | nil : All2 R [] []
  | cons {a : α} {b : β} {as : List α} {bs : List β} : R a b → All2 R as bs → All2 R (a :: as) (b :: bs)
theorem All2.at {α β : Type} {R : α → β → Prop} : ∀ {as : List α} {bs : List β}, All2 R as bs → ∀ {i : Nat} {a : α}, as[i]? = some a → ∃ b, bs[i]? = some b ∧ R a b
  | _, _, .nil, i, a, h => by simp at h
  | _, _, .cons r t, 0, a, h => by cases h; exact ⟨_, rfl, r⟩
  | _, _, .cons r t, i + 1, a, h => t.at h
theorem All2.len {α β : Type} {R : α → β → Prop} {as : List α} {bs : List β} (h : All2 R as bs) : as.length = bs.length := by
  induction h with
  | nil => rfl
  | cons _ _ ih => simp [ih]
theorem All2.imp {α β : Type} {R R' : α → β → Prop} {as : List α} {bs : List β} (h : All2 R as bs) (k : ∀ a b, R a b → R' a b) : All2 R' as bs := by
  induction h with
  | nil => exact .nil
  | cons r _ ih => exact .cons (k _ _ r) ih
/-- a row: the exception, its word, its kinds -/
def RowAt (H : Hp) (t : Addr) (d : RD) : Prop := ∃ e l dx : Addr, H t = some (.tup [.ref e, .str d.2.2.1, .ref l]) ∧ H l = some (.lst (d.2.2.2.map V.str)) ∧ ExcAt H e d.1 (d.2.1.map fun f => (dx, f))
theorem row1 {H : Hp} {t e l dx C : Addr} {w : Str} {ks : List Str} {kv : List V} {f fs : List (Str × V)} (h1 : H t = some (.tup [.ref e, .str w, .ref l])) (h2 : H l = some (.lst kv)) (hk : kv = ks.map V.str) (h3 : H e = some (exo e C (some dx))) (h4 : H dx = some (exd dx f)) (hf : f = fs) : RowAt H t (C, some fs, w, ks) :=
  ⟨e, l, dx, h1, by rw [h2, hk], h3, by rw [h4, hf]⟩
theorem row0 {H : Hp} {t e l C : Addr} {w : Str} {ks : List Str} {kv : List V} (h1 : H t = some (.tup [.ref e, .str w, .ref l])) (h2 : H l = some (.lst kv)) (hk : kv = ks.map V.str) (h3 : H e = some (exo e C none)) : RowAt H t (C, none, w, ks) :=
  ⟨e, l, e, h1, by rw [h2, hk], h3⟩
def sp_rows (A : Ad) : Sp := fun vs H Q _ => ∃ u v : V, vs = [u, v] ∧ ∀ (r : Addr) (ts : List Addr) (H' : Hp), H r = none → H' r = some (.lst (ts.map V.ref)) → All2 (RowAt H') ts (rowsD A u v) → Same H H' → Q (.ref r) H'
section
variable {P : Program} {w : World} {K : PySem.W.Frag} {mg : Str → Option Value} {base : Heap} {A : Ad} {H H0 : Hp} {MM : List Addr} {L L' F : Led} {Q : VK} {E : XK}
local macro_rules | `(tactic| walk_at "rd1") => `(tactic| first
  | with_reducible refine Xc.rd_tmkx ?_
  | with_reducible refine Xc.rd_tmk0 ?_
  | ((with_reducible refine' Xc.rd_mkx (by assumption) ?l ?n ?_); (case l => rfl); (case n => decide); intro a d H ha hd S)
  | ((with_reducible refine' Xc.rd_mk0 (by assumption) ?l ?_); (case l => simp); intro a H ha S))
theorem ok_rows (T : Txt K mg w A) : FnOk P w K mg base CX0 3 A.f__law_rows A.d__law_rows ["_law_one", "_law_other"] (sp_rows A) := by
  have G_BadPaper___init__ : FnOk P w K mg base CX0 1 A.f_BadPaper___init__ A.d_BadPaper___init__ ["self", "at"] (Xc.spIn A.C_BadPaper 1 (one "at")) := ok_xBadPaper T
  have G_Flawed___init__ : FnOk P w K mg base CX0 1 A.f_Flawed___init__ A.d_Flawed___init__ ["self", "word", "places"] (Xc.spIn A.C_Flawed 2 (two "word" "places")) := ok_xFlawed T
  have G_BadLine___init__ : FnOk P w K mg base CX0 1 A.f_BadLine___init__ A.d_BadLine___init__ ["self", "row", "word"] (Xc.spIn A.C_BadLine 2 (two "row" "word")) := ok_xBadLine T
  have G_BadAnswer___init__ : FnOk P w K mg base CX0 1 A.f_BadAnswer___init__ A.d_BadAnswer___init__ ["self", "answer"] (Xc.spIn A.C_BadAnswer 1 (one "answer")) := ok_xBadAnswer T
  have G_BadKind___init__ : FnOk P w K mg base CX0 1 A.f_BadKind___init__ A.d_BadKind___init__ ["self", "wanted"] (Xc.spIn A.C_BadKind 1 (one "wanted")) := ok_xBadKind T
  have G_BadNumber___init__ : FnOk P w K mg base CX0 1 A.f_BadNumber___init__ A.d_BadNumber___init__ ["self", "at"] (Xc.spIn A.C_BadNumber 1 (one "at")) := ok_xBadNumber T
  have G_NoSuch___init__ : FnOk P w K mg base CX0 1 A.f_NoSuch___init__ A.d_NoSuch___init__ ["self", "name"] (Xc.spIn A.C_NoSuch 1 (one "name")) := ok_xNoSuch T
  have G_TooMany___init__ : FnOk P w K mg base CX0 1 A.f_TooMany___init__ A.d_TooMany___init__ ["self", "most"] (Xc.spIn A.C_TooMany 1 (one "most")) := ok_xTooMany T
  have G_Stopped___init__ : FnOk P w K mg base CX0 1 A.f_Stopped___init__ A.d_Stopped___init__ ["self", "at"] (Xc.spIn A.C_Stopped 1 (one "at")) := ok_xStopped T
  refine T.c__law_rows.F.ok sc_l_rows (fun vs H Q E h => ?_) (fun cdv Ar outer s H vs Q E hr h => ?_)
  · obtain ⟨u, v, rfl, _⟩ := h; rfl
  · obtain ⟨u, v, rfl, k⟩ := h
    refine ⟨_, (pss_cons (ps_set (i := 2) sc_l_rows.nd rfl (Or.inl rfl) (pe_lst (pa_cons (pe_tup (pa_cons (Xc.pe_mkx T.o_BadPaper T.i_BadPaper T.y_BadPaper G_BadPaper___init__ (hr.mono (by decide)) T.c_BadPaper___init__.b .nil pass0 rfl T.m_BadPaper (pa_cons (pv 0) pa_nil)) (pa_cons pe_str (pa_cons (pe_lst (pa_cons pe_str pa_nil)) pa_nil)))) (pa_cons (pe_tup (pa_cons (Xc.pe_mkx T.o_Flawed T.i_Flawed T.y_Flawed G_Flawed___init__ (hr.mono (by decide)) T.c_Flawed___init__.b .nil pass0 rfl T.m_Flawed (pa_cons (pv 0) (pa_cons (pv 1) pa_nil))) (pa_cons pe_str (pa_cons (pe_lst (pa_cons pe_str pa_nil)) pa_nil)))) pa_nil))))
      (pss_cons (ps_set (i := 2) sc_l_rows.nd rfl (Or.inl rfl) (pe_op op_cat (pv 2) (pe_lst (pa_cons (pe_tup (pa_cons (Xc.pe_mkx T.o_BadLine T.i_BadLine T.y_BadLine G_BadLine___init__ (hr.mono (by decide)) T.c_BadLine___init__.b .nil pass0 rfl T.m_BadLine (pa_cons (pv 0) (pa_cons (pv 1) pa_nil))) (pa_cons pe_str (pa_cons (pe_lst (pa_cons pe_str pa_nil)) pa_nil)))) (pa_cons (pe_tup (pa_cons (Xc.pe_mk0 PySem.F.excBase_Exception T.q_Busy rfl T.m_Busy T.p_Busy (pa_cons pe_str pa_nil)) (pa_cons pe_str (pa_cons (pe_lst (pa_cons pe_str pa_nil)) pa_nil)))) pa_nil)))))
      (pss_cons (ps_set (i := 2) sc_l_rows.nd rfl (Or.inl rfl) (pe_op op_cat (pv 2) (pe_lst (pa_cons (pe_tup (pa_cons (Xc.pe_mk0 PySem.F.excBase_Exception T.q_Gone rfl T.m_Gone T.p_Gone (pa_cons pe_str pa_nil)) (pa_cons pe_str (pa_cons (pe_lst (pa_cons pe_str pa_nil)) pa_nil)))) (pa_cons (pe_tup (pa_cons (Xc.pe_mkx T.o_BadAnswer T.i_BadAnswer T.y_BadAnswer G_BadAnswer___init__ (hr.mono (by decide)) T.c_BadAnswer___init__.b .nil pass0 rfl T.m_BadAnswer (pa_cons (pv 0) pa_nil)) (pa_cons pe_str (pa_cons (pe_lst (pa_cons pe_str pa_nil)) pa_nil)))) pa_nil)))))
      (pss_cons (ps_set (i := 2) sc_l_rows.nd rfl (Or.inl rfl) (pe_op op_cat (pv 2) (pe_lst (pa_cons (pe_tup (pa_cons (Xc.pe_mkx T.o_BadKind T.i_BadKind T.y_BadKind G_BadKind___init__ (hr.mono (by decide)) T.c_BadKind___init__.b .nil pass0 rfl T.m_BadKind (pa_cons (pv 0) pa_nil)) (pa_cons pe_str (pa_cons (pe_lst (pa_cons pe_str pa_nil)) pa_nil)))) (pa_cons (pe_tup (pa_cons (Xc.pe_mk0 PySem.F.excBase_ValueError T.q_BadText rfl T.m_BadText T.p_BadText (pa_cons pe_str pa_nil)) (pa_cons pe_str (pa_cons (pe_lst (pa_cons pe_str pa_nil)) pa_nil)))) pa_nil)))))
      (pss_cons (ps_set (i := 2) sc_l_rows.nd rfl (Or.inl rfl) (pe_op op_cat (pv 2) (pe_lst (pa_cons (pe_tup (pa_cons (Xc.pe_mkx T.o_BadNumber T.i_BadNumber T.y_BadNumber G_BadNumber___init__ (hr.mono (by decide)) T.c_BadNumber___init__.b .nil pass0 rfl T.m_BadNumber (pa_cons (pv 0) pa_nil)) (pa_cons pe_str (pa_cons (pe_lst (pa_cons pe_str (pa_cons pe_str pa_nil))) pa_nil)))) (pa_cons (pe_tup (pa_cons (Xc.pe_mkx T.o_NoSuch T.i_NoSuch T.y_NoSuch G_NoSuch___init__ (hr.mono (by decide)) T.c_NoSuch___init__.b .nil pass0 rfl T.m_NoSuch (pa_cons (pv 0) pa_nil)) (pa_cons pe_str (pa_cons (pe_lst (pa_cons pe_str (pa_cons pe_str pa_nil))) pa_nil)))) pa_nil)))))
      (pss_one (ps_ret (pe_op op_cat (pv 2) (pe_lst (pa_cons (pe_tup (pa_cons (Xc.pe_mkx T.o_TooMany T.i_TooMany T.y_TooMany G_TooMany___init__ (hr.mono (by decide)) T.c_TooMany___init__.b .nil pass0 rfl T.m_TooMany (pa_cons (pv 0) pa_nil)) (pa_cons pe_str (pa_cons (pe_lst (pa_cons pe_str (pa_cons pe_str pa_nil))) pa_nil)))) (pa_cons (pe_tup (pa_cons (Xc.pe_mkx T.o_Stopped T.i_Stopped T.y_Stopped G_Stopped___init__ (hr.mono (by decide)) T.c_Stopped___init__.b .nil pass0 rfl T.m_Stopped (pa_cons (pv 0) pa_nil)) (pa_cons pe_str (pa_cons (pe_lst (pa_cons pe_str pa_nil)) pa_nil)))) pa_nil))))))))))), ?_⟩
    have S := Hs.start0 H
    walk_at "st"
    walk_at "rd"
    rename_i pz Hz hpz Sz
    simp only [List.cons_append, List.nil_append] at Sz
    have g := Sz.get (a := pz) (o := .lst [V.ref _, V.ref _, V.ref _, V.ref _, V.ref _, V.ref _, V.ref _, V.ref _, V.ref _, V.ref _, V.ref _, V.ref _]) (by walk_at "mem")
    refine k pz [_, _, _, _, _, _, _, _, _, _, _, _] Hz hpz g ?_ Sz.same
    refine .cons (row1 (Sz.get (by walk_at "mem")) (Sz.get (by walk_at "mem")) (by rfl) (Sz.get (by walk_at "mem")) (Sz.get (by walk_at "mem")) (by rfl)) ?_
    refine .cons (row1 (Sz.get (by walk_at "mem")) (Sz.get (by walk_at "mem")) (by rfl) (Sz.get (by walk_at "mem")) (Sz.get (by walk_at "mem")) (by rfl)) ?_
    refine .cons (row1 (Sz.get (by walk_at "mem")) (Sz.get (by walk_at "mem")) (by rfl) (Sz.get (by walk_at "mem")) (Sz.get (by walk_at "mem")) (by rfl)) ?_
    refine .cons (row0 (Sz.get (by walk_at "mem")) (Sz.get (by walk_at "mem")) (by rfl) (Sz.get (by walk_at "mem"))) ?_
    refine .cons (row0 (Sz.get (by walk_at "mem")) (Sz.get (by walk_at "mem")) (by rfl) (Sz.get (by walk_at "mem"))) ?_
    refine .cons (row1 (Sz.get (by walk_at "mem")) (Sz.get (by walk_at "mem")) (by rfl) (Sz.get (by walk_at "mem")) (Sz.get (by walk_at "mem")) (by rfl)) ?_
    refine .cons (row1 (Sz.get (by walk_at "mem")) (Sz.get (by walk_at "mem")) (by rfl) (Sz.get (by walk_at "mem")) (Sz.get (by walk_at "mem")) (by rfl)) ?_
    refine .cons (row0 (Sz.get (by walk_at "mem")) (Sz.get (by walk_at "mem")) (by rfl) (Sz.get (by walk_at "mem"))) ?_
    refine .cons (row1 (Sz.get (by walk_at "mem")) (Sz.get (by walk_at "mem")) (by rfl) (Sz.get (by walk_at "mem")) (Sz.get (by walk_at "mem")) (by rfl)) ?_
    refine .cons (row1 (Sz.get (by walk_at "mem")) (Sz.get (by walk_at "mem")) (by rfl) (Sz.get (by walk_at "mem")) (Sz.get (by walk_at "mem")) (by rfl)) ?_
    refine .cons (row1 (Sz.get (by walk_at "mem")) (Sz.get (by walk_at "mem")) (by rfl) (Sz.get (by walk_at "mem")) (Sz.get (by walk_at "mem")) (by rfl)) ?_
    refine .cons (row1 (Sz.get (by walk_at "mem")) (Sz.get (by walk_at "mem")) (by rfl) (Sz.get (by walk_at "mem")) (Sz.get (by walk_at "mem")) (by rfl)) ?_
    exact .nil
end
end K02

namespace K02
open PySem L2 Rs Xc
def ExAt (H : Hp) (e : Addr) (d : RD) : Prop := ∃ dx : Addr, ExcAt H e d.1 (d.2.1.map fun f => (dx, f))
def due (u v : V) : List V := [u, u, v, u, v, u, u, u, u, u, u]
theorem inv12 {α β : Type} {R : α → β → Prop} {as : List α} {b0 b1 b2 b3 b4 b5 b6 b7 b8 b9 b10 b11 : β} (h : All2 R as [b0, b1, b2, b3, b4, b5, b6, b7, b8, b9, b10, b11]) : ∃ a0 a1 a2 a3 a4 a5 a6 a7 a8 a9 a10 a11, as = [a0, a1, a2, a3, a4, a5, a6, a7, a8, a9, a10, a11] ∧
    R a0 b0 ∧ R a1 b1 ∧ R a2 b2 ∧ R a3 b3 ∧ R a4 b4 ∧ R a5 b5 ∧ R a6 b6 ∧ R a7 b7 ∧ R a8 b8 ∧ R a9 b9 ∧ R a10 b10 ∧ R a11 b11 := by
  obtain _ | ⟨r0, h⟩ := h
  obtain _ | ⟨r1, h⟩ := h
  obtain _ | ⟨r2, h⟩ := h
  obtain _ | ⟨r3, h⟩ := h
  obtain _ | ⟨r4, h⟩ := h
  obtain _ | ⟨r5, h⟩ := h
  obtain _ | ⟨r6, h⟩ := h
  obtain _ | ⟨r7, h⟩ := h
  obtain _ | ⟨r8, h⟩ := h
  obtain _ | ⟨r9, h⟩ := h
  obtain _ | ⟨r10, h⟩ := h
  obtain _ | ⟨r11, h⟩ := h
  obtain _ | _ := h
  exact ⟨_, _, _, _, _, _, _, _, _, _, _, _, rfl, r0, r1, r2, r3, r4, r5, r6, r7, r8, r9, r10, r11⟩
def sp_fields (A : Ad) : Sp := fun vs H Q _ => ∃ (m : Addr) (es : List Addr) (u v : V), vs = [.ref m] ∧ H m = some (.lst (es.map V.ref)) ∧ All2 (ExAt H) es (rowsD A u v) ∧ ∀ q H', H q = none → H' q = some (.lst (due u v)) → Same H H' → Q (.ref q) H'
section
variable {P : Program} {w : World} {K : PySem.W.Frag} {mg : Str → Option Value} {base : Heap} {A : Ad} {H H0 : Hp} {MM : List Addr} {L L' F : Led} {Q : VK} {E : XK}
theorem ok_fields (T : Txt K mg w A) : FnOk P w K mg base CX0 1 A.f__law_fields A.d__law_fields ["_law_made"] (sp_fields A) := by
  refine T.c__law_fields.F.ok sc_l_fields (fun vs H Q E h => ?_) (fun cdv Ar outer s H vs Q E hr h => ?_)
  · obtain ⟨m, es, u, v, rfl, _⟩ := h; rfl
  · obtain ⟨m, es, u, v, rfl, hm, he, k⟩ := h
    refine ⟨_, (pss_cons (ps_set (i := 1) sc_l_fields.nd rfl (Or.inl rfl) (pe_lst (pa_cons (Xc.pe_xe (pe_ix ix_list (pv 0) pe_int (fun _ _ => rfl))) (pa_cons (Xc.pe_xe (pe_ix ix_list (pv 0) pe_int (fun _ _ => rfl))) (pa_cons (Xc.pe_xe (pe_ix ix_list (pv 0) pe_int (fun _ _ => rfl))) (pa_cons (Xc.pe_xe (pe_ix ix_list (pv 0) pe_int (fun _ _ => rfl))) (pa_cons (Xc.pe_xe (pe_ix ix_list (pv 0) pe_int (fun _ _ => rfl))) (pa_cons (Xc.pe_xe (pe_ix ix_list (pv 0) pe_int (fun _ _ => rfl))) (pa_cons (Xc.pe_xe (pe_ix ix_list (pv 0) pe_int (fun _ _ => rfl))) pa_nil)))))))))
      (pss_one (ps_ret (pe_op op_cat (pv 1) (pe_lst (pa_cons (Xc.pe_xe (pe_ix ix_list (pv 0) pe_int (fun _ _ => rfl))) (pa_cons (Xc.pe_xe (pe_ix ix_list (pv 0) pe_int (fun _ _ => rfl))) (pa_cons (Xc.pe_xe (pe_ix ix_list (pv 0) pe_int (fun _ _ => rfl))) (pa_cons (Xc.pe_xe (pe_ix ix_list (pv 0) pe_int (fun _ _ => rfl))) pa_nil))))))))), ?_⟩
    obtain ⟨e0, e1, e2, e3, e4, e5, e6, e7, e8, e9, e10, e11, rfl, ⟨d0, x0⟩, ⟨d1, x1⟩, ⟨d2, x2⟩, ⟨d3, x3⟩, ⟨d4, x4⟩, ⟨d5, x5⟩, ⟨d6, x6⟩, ⟨d7, x7⟩, ⟨d8, x8⟩, ⟨d9, x9⟩, ⟨d10, x10⟩, ⟨d11, x11⟩⟩ := inv12 he
    have hm2 : H m = some (.lst [.ref e0, .ref e1, .ref e2, .ref e3, .ref e4, .ref e5, .ref e6, .ref e7, .ref e8, .ref e9, .ref e10, .ref e11]) := hm
    have S := Hs.start1 hm2 [] (.inl rfl)
    walk_at "st"
    walk_at "rd"
    refine rd_xe ?_
    walk_at "rd"
    refine ⟨e0, _, d0, _, u, rfl, T.k_BadPaper, T.na_BadPaper_at, x0, (by first | rfl | decide +kernel | simp [List.lookup]), ?_⟩
    walk_at "rd"
    refine rd_xe ?_
    walk_at "rd"
    refine ⟨e1, _, d1, _, u, rfl, T.k_Flawed, T.na_Flawed_word, x1, (by first | rfl | decide +kernel | simp [List.lookup]), ?_⟩
    walk_at "rd"
    refine rd_xe ?_
    walk_at "rd"
    refine ⟨e1, _, d1, _, v, rfl, T.k_Flawed, T.na_Flawed_places, x1, (by first | rfl | decide +kernel | simp [List.lookup]), ?_⟩
    walk_at "rd"
    refine rd_xe ?_
    walk_at "rd"
    refine ⟨e2, _, d2, _, u, rfl, T.k_BadLine, T.na_BadLine_row, x2, (by first | rfl | decide +kernel | simp [List.lookup]), ?_⟩
    walk_at "rd"
    refine rd_xe ?_
    walk_at "rd"
    refine ⟨e2, _, d2, _, v, rfl, T.k_BadLine, T.na_BadLine_word, x2, (by first | rfl | decide +kernel | simp [List.lookup]), ?_⟩
    walk_at "rd"
    refine rd_xe ?_
    walk_at "rd"
    refine ⟨e5, _, d5, _, u, rfl, T.k_BadAnswer, T.na_BadAnswer_answer, x5, (by first | rfl | decide +kernel | simp [List.lookup]), ?_⟩
    walk_at "rd"
    refine rd_xe ?_
    walk_at "rd"
    refine ⟨e6, _, d6, _, u, rfl, T.k_BadKind, T.na_BadKind_wanted, x6, (by first | rfl | decide +kernel | simp [List.lookup]), ?_⟩
    walk_at "rd"
    rename_i q1 H1 hq1 S1
    clear S
    refine rd_xe ?_
    walk_at "rd"
    refine ⟨e8, _, d8, _, u, rfl, T.k_BadNumber, T.na_BadNumber_at, (ExcAt.same x8 S1.same), (by first | rfl | decide +kernel | simp [List.lookup]), ?_⟩
    walk_at "rd"
    refine rd_xe ?_
    walk_at "rd"
    refine ⟨e9, _, d9, _, u, rfl, T.k_NoSuch, T.na_NoSuch_name, (ExcAt.same x9 S1.same), (by first | rfl | decide +kernel | simp [List.lookup]), ?_⟩
    walk_at "rd"
    refine rd_xe ?_
    walk_at "rd"
    refine ⟨e10, _, d10, _, u, rfl, T.k_TooMany, T.na_TooMany_most, (ExcAt.same x10 S1.same), (by first | rfl | decide +kernel | simp [List.lookup]), ?_⟩
    walk_at "rd"
    refine rd_xe ?_
    walk_at "rd"
    refine ⟨e11, _, d11, _, u, rfl, T.k_Stopped, T.na_Stopped_at, (ExcAt.same x11 S1.same), (by first | rfl | decide +kernel | simp [List.lookup]), ?_⟩
    walk_at "rd"
    rename_i q2 H2 hq2 S2 q3 H3 hq3 S3
    exact k q3 H3 hq3 (S3.get (o := .lst ([u, u, v, u, v, u, u] ++ [u, u, u, u])) (by walk_at "mem")) S3.same
end
end K02

namespace K02
open PySem L2 Rs Xc PyProof.Rows
section
variable {K : PySem.W.Frag} {H H0 : Hp} {M : List Addr} {L : Led} {Q : VK} {a b : Addr}
theorem dps_strs : ∀ ss : List Str, DpAll K H (ss.map V.str) (ss.map .str)
  | [] => .nil
  | s :: ss => .cons (.str s) (dps_strs ss)
theorem eqv_strs : ∀ ss : List Str, PyData.eqvAll (ss.map .str) (ss.map .str) = true
  | [] => by simp [PyData.eqvAll]
  | s :: ss => by simp [PyData.eqvAll, PyData.eqv, eqv_strs ss]
theorem rd_neSs {ss : List Str} (h1 : H a = some (.lst (ss.map V.str))) (h2 : H b = some (.lst (ss.map V.str))) (sh : SeqAt.shaped (.list (ss.map .str)) = true) (h : Q (.bl false) H) : rNeD K (.ref a) (.ref b) H Q :=
  ⟨_, _, .lst (SqL.of h1) (dps_strs ss), .lst (SqL.of h2) (dps_strs ss), sh, sh, by simp only [PyData.eqv, eqv_strs, Bool.not_true]; exact h⟩
end
/-! what is shown of things -/
theorem short_str {x : Str} (h1 : x.cps.size ≤ 40) (h2 : ∀ c ∈ x.cps.toList, c < 16 ^ 8) : (PyData.shown (.str x)).length ≤ 402 := by
  rw [PyData.shown_str]
  have := StrLaws.reprText_len x h2
  have e : x.length = x.cps.size := rfl
  omega
theorem short_int {i : Int} (h : i.natAbs < 10 ^ 4) : (PyData.int i).showable = true ∧ (PyData.shown (.int i)).length ≤ 13 := by
  constructor
  · have h2 : i.natAbs.log2 < 1920 := by
      by_cases z : i.natAbs = 0
      · rw [z]; decide
      · have := (Nat.log2_lt z (k := 14)).mpr (by omega)
        omega
    simp only [PyData.showable, decide_eq_true_eq]
    exact h2
  · exact PyData.shown_int_le (by omega)
theorem short_strs : ∀ xs : List Str, (∀ x ∈ xs, x.cps.size ≤ 40 ∧ ∀ c ∈ x.cps.toList, c < 16 ^ 8) → PyData.showableAll (xs.map .str) = true ∧ ((PyData.shownAll (xs.map .str)).map (·.length)).sum ≤ 402 * xs.length ∧ PyData.depthAll (xs.map .str) = 0
  | [], _ => by simp [PyData.showableAll, PyData.shownAll, PyData.depthAll]
  | x :: xs, h => by
    obtain ⟨i1, i2, i3⟩ := short_strs xs fun z hz => h z (List.mem_cons_of_mem _ hz)
    obtain ⟨c, d⟩ := h x List.mem_cons_self
    have := short_str c d
    refine ⟨?_, ?_, ?_⟩
    · simp only [List.map_cons, PyData.showableAll, PyData.showable, i1, Bool.and_self]
    · simp only [List.map_cons, PyData.shownAll, List.sum_cons, List.length_cons]
      omega
    · simp only [List.map_cons, PyData.depthAll, PyData.depth, i3, Nat.max_self]
theorem Tg.data {K : PySem.W.Frag} {n : Nat} {H : Hp} {v : V} (t : Tg n H v) (hn : n ≤ 9) : ∃ d, Tz K H v d ∧ d.depth ≤ 1 ∧ d.shown.length ≤ 4000 := by
  cases t with
  | non => exact ⟨_, .dp .non rfl, by simp only [PyData.depth]; omega, by decide +kernel⟩
  | bl b => exact ⟨_, .dp (.bl b) rfl, by simp only [PyData.depth]; omega, by cases b <;> decide +kernel⟩
  | int i h =>
    obtain ⟨x, y⟩ := short_int h
    exact ⟨_, .dp (.int i) x, by simp only [PyData.depth]; omega, by omega⟩
  | str x h1 h2 => exact ⟨_, .dp (.str x) rfl, by simp only [PyData.depth]; omega, by have := short_str h1 h2; omega⟩
  | tup a x h1 h2 h =>
    refine ⟨.tuple [.str x, .int 3], .dp (.tup (SqT.of h) (.cons (.str x) (.cons (.int 3) .nil))) (by simp only [PyData.showable, PyData.showableAll]; decide), by simp only [PyData.depth, PyData.depthAll]; decide, ?_⟩
    have q := short_str h1 h2
    have q2 : (PyData.shown (.int 3)).length ≤ 13 := (short_int (i := 3) (by decide)).2
    have q3 := tupleText_len_le (PyData.shownAll [.str x, .int 3])
    simp only [PyData.shownAll, List.map_cons, List.map_nil, List.sum_cons, List.sum_nil, List.length_cons, List.length_nil] at q3
    show (tupleText (PyData.shownAll [.str x, .int 3])).length ≤ 4000
    simp only [PyData.shownAll]
    omega
  | lst a xs h1 h2 h =>
    obtain ⟨i1, i2, i3⟩ := short_strs xs h1
    refine ⟨.list (xs.map .str), .dp (.lst (SqL.of h) (dps_strs xs)) (by simpa only [PyData.showable] using i1), by simp only [PyData.depth, i3]; decide, ?_⟩
    have q3 := listText_len_le (PyData.shownAll (xs.map .str))
    have q4 := PyData.shownAll_length (xs.map PyData.str)
    rw [List.length_map] at q4
    show (listText (PyData.shownAll (xs.map .str))).length ≤ 4000
    omega
  | dk a x h1 h2 h =>
    refine ⟨.dict [(.int 1, .str x)], .dk h (.cons (k := .inl 1) rfl .nil) (by simp only [PyData.showable, PyData.showableKv]; decide), by simp only [PyData.depth, PyData.depthKv]; decide, ?_⟩
    have q := short_str h1 h2
    have q2 : (PyData.shown (.int 1)).length ≤ 13 := (short_int (i := 1) (by decide)).2
    have q3 := dictText_len_le (PyData.shownKv [(.int 1, .str x)])
    show (dictText (PyData.shownKv [(.int 1, .str x)])).length ≤ 4000
    simp only [PyData.shownKv, List.map_cons, List.map_nil, List.sum_cons, List.sum_nil, List.length_cons, List.length_nil, strLen_append] at q3 ⊢
    have q4 : ((": " : String) : Str).length = 2 := by decide +kernel
    omega
theorem due_shown {K : PySem.W.Frag} {n n2 : Nat} {H : Hp} {u v : V} (t : Tg n H u) (t2 : Tg n2 H v) (hn : n ≤ 9) (hn2 : n2 ≤ 9) : ∃ ds, TzA K H (due u v) ds ∧ PyData.depthAll ds ≤ 30 ∧ (PyData.list ds).shown.length ≤ sizeLine := by
  obtain ⟨d, z1, z2, z3⟩ := t.data (K := K) hn
  obtain ⟨c, y1, y2, y3⟩ := t2.data (K := K) hn2
  refine ⟨[d, d, c, d, c, d, d, d, d, d, d], .cons z1 (.cons z1 (.cons y1 (.cons z1 (.cons y1 (.cons z1 (.cons z1 (.cons z1 (.cons z1 (.cons z1 (.cons z1 .nil)))))))))), by simp only [PyData.depthAll]; omega, ?_⟩
  have q3 := listText_len_le (PyData.shownAll [d, d, c, d, c, d, d, d, d, d, d])
  simp only [PyData.shownAll, List.map_cons, List.map_nil, List.sum_cons, List.sum_nil, List.length_cons, List.length_nil] at q3
  show (listText (PyData.shownAll [d, d, c, d, c, d, d, d, d, d, d])).length ≤ sizeLine
  simp only [PyData.shownAll]
  rw [sizeLine_eq]
  omega
/-! the classes -/
theorem who_mk {K : PySem.W.Frag} {A : Ad} {C : Addr} (l : Lk K C) {b0 b1 b2 b3 b4 b5 b6 b7 b8 b9 b10 b11 s t0 t1 t2 t3 t4 t5 t6 t7 t8 : Bool} (h : ([.ref A.C_BadPaper, .ref A.C_Flawed, .ref A.C_BadLine, .ref A.C_Busy, .ref A.C_Gone, .ref A.C_BadAnswer, .ref A.C_BadKind, .ref A.C_BadText, .ref A.C_BadNumber, .ref A.C_NoSuch, .ref A.C_TooMany, .ref A.C_Stopped, .ref A.C_SortError, .type "TypeError", .type "ValueError", .type "IndexError", .type "KeyError", .type "LookupError", .type "OverflowError", .type "ArithmeticError", .type "RuntimeError", .type "ZeroDivisionError", .type "Exception"] : List Value).map (fun c => PySem.W.kitOne K (.ref C) c) = [some b0, some b1, some b2, some b3, some b4, some b5, some b6, some b7, some b8, some b9, some b10, some b11, some s, some t0, some t1, some t2, some t3, some t4, some t5, some t6, some t7, some t8, some true]) : Who K A C [b0, b1, b2, b3, b4, b5, b6, b7, b8, b9, b10, b11] [s, t0, t1, t2, t3, t4, t5, t6, t7, t8] := by
  simp only [List.map_cons, List.map_nil, List.cons.injEq, and_true] at h
  obtain ⟨e0, e1, e2, e3, e4, e5, e6, e7, e8, e9, e10, e11, e12, e13, e14, e15, e16, e17, e18, e19, e20, e21, e22⟩ := h
  refine ⟨l, ?_, ?_, e22⟩
  · simp only [owns, List.map_cons, List.map_nil, e0, e1, e2, e3, e4, e5, e6, e7, e8, e9, e10, e11]
  · simp only [kins, List.map_cons, List.map_nil, e12, e13, e14, e15, e16, e17, e18, e19, e20, e21]
/-- what is told of a row's class -/
structure Told (K : PySem.W.Frag) (A : Ad) (d : RD) (bs cs : List Bool) : Prop where
  who : Who K A d.1 bs cs
  wd : pickW wordsL bs = [d.2.2.1]
  kd : pickW kindsL cs = d.2.2.2
  sw : SeqAt.shaped (.list ([d.2.2.1].map .str)) = true
  sk : SeqAt.shaped (.list (d.2.2.2.map .str)) = true
theorem told {w : World} {K : PySem.W.Frag} {mg : Str → Option Value} {A : Ad} (T : Txt K mg w A) (u v : V) {i : Nat} {d : RD} (h : (rowsD A u v)[i]? = some d) : ∃ bs cs, Told K A d bs cs := by
  rcases i with _ | _ | _ | _ | _ | _ | _ | _ | _ | _ | _ | _ | i
  · cases h; exact ⟨_, _, who_mk T.k_BadPaper T.x_kit_BadPaper, by dsimp only; decide +kernel, by dsimp only; decide +kernel, by dsimp only; decide +kernel, by dsimp only; decide +kernel⟩
  · cases h; exact ⟨_, _, who_mk T.k_Flawed T.x_kit_Flawed, by dsimp only; decide +kernel, by dsimp only; decide +kernel, by dsimp only; decide +kernel, by dsimp only; decide +kernel⟩
  · cases h; exact ⟨_, _, who_mk T.k_BadLine T.x_kit_BadLine, by dsimp only; decide +kernel, by dsimp only; decide +kernel, by dsimp only; decide +kernel, by dsimp only; decide +kernel⟩
  · cases h; exact ⟨_, _, who_mk T.k_Busy T.x_kit_Busy, by dsimp only; decide +kernel, by dsimp only; decide +kernel, by dsimp only; decide +kernel, by dsimp only; decide +kernel⟩
  · cases h; exact ⟨_, _, who_mk T.k_Gone T.x_kit_Gone, by dsimp only; decide +kernel, by dsimp only; decide +kernel, by dsimp only; decide +kernel, by dsimp only; decide +kernel⟩
  · cases h; exact ⟨_, _, who_mk T.k_BadAnswer T.x_kit_BadAnswer, by dsimp only; decide +kernel, by dsimp only; decide +kernel, by dsimp only; decide +kernel, by dsimp only; decide +kernel⟩
  · cases h; exact ⟨_, _, who_mk T.k_BadKind T.x_kit_BadKind, by dsimp only; decide +kernel, by dsimp only; decide +kernel, by dsimp only; decide +kernel, by dsimp only; decide +kernel⟩
  · cases h; exact ⟨_, _, who_mk T.k_BadText T.x_kit_BadText, by dsimp only; decide +kernel, by dsimp only; decide +kernel, by dsimp only; decide +kernel, by dsimp only; decide +kernel⟩
  · cases h; exact ⟨_, _, who_mk T.k_BadNumber T.x_kit_BadNumber, by dsimp only; decide +kernel, by dsimp only; decide +kernel, by dsimp only; decide +kernel, by dsimp only; decide +kernel⟩
  · cases h; exact ⟨_, _, who_mk T.k_NoSuch T.x_kit_NoSuch, by dsimp only; decide +kernel, by dsimp only; decide +kernel, by dsimp only; decide +kernel, by dsimp only; decide +kernel⟩
  · cases h; exact ⟨_, _, who_mk T.k_TooMany T.x_kit_TooMany, by dsimp only; decide +kernel, by dsimp only; decide +kernel, by dsimp only; decide +kernel, by dsimp only; decide +kernel⟩
  · cases h; exact ⟨_, _, who_mk T.k_Stopped T.x_kit_Stopped, by dsimp only; decide +kernel, by dsimp only; decide +kernel, by dsimp only; decide +kernel, by dsimp only; decide +kernel⟩
  · simp [rowsD] at h
theorem told_sort {w : World} {K : PySem.W.Frag} {mg : Str → Option Value} {A : Ad} (T : Txt K mg w A) : ∃ bs cs, Who K A A.C_SortError bs cs ∧ pickW wordsL bs = [] ∧ pickW kindsL cs = (["sort"] : List Str) :=
  ⟨_, _, who_mk T.k_SortError T.x_kit_SortError, by decide +kernel, by decide +kernel⟩
end K02

namespace K02
open PySem L2 Rs Xc
def sp_law (K : PySem.W.Frag) : Sp := fun vs H Q _ => ∃ (a : Addr) (ns : List Int), vs = [.ref a] ∧ SqL K H a (ns.map V.int) ∧ ns.length ≤ 63 ∧ ∀ H', Q (.bl true) H'
section
variable {P : Program} {w : World} {K : PySem.W.Frag} {mg : Str → Option Value} {base : Heap} {A : Ad} {H H0 : Hp} {MM : List Addr} {L L' F : Led} {Q : VK} {E : XK}
theorem es_of {ts : List Addr} {D : List RD} (h : All2 (RowAt H) ts D) : ∃ es : List Addr, All2 (fun t e => ∃ w l, H t = some (.tup [.ref e, .str w, .ref l])) ts es ∧ All2 (ExAt H) es D := by
  induction h with
  | nil => exact ⟨[], .nil, .nil⟩
  | cons r _ ih =>
    obtain ⟨es, i1, i2⟩ := ih
    obtain ⟨e, l, dx, r1, r2, r3⟩ := r
    exact ⟨e :: es, .cons ⟨_, l, r1⟩ i1, .cons ⟨dx, r3⟩ i2⟩
theorem ExAt.same {H H' : Hp} (sm : Same H H') {e : Addr} {d : RD} (h : ExAt H e d) : ExAt H' e d := by
  obtain ⟨dx, x⟩ := h
  exact ⟨dx, ExcAt.same x sm⟩
theorem ExAt.keep {n : Nat} {H H' : Hp} {v : V} (t : Tg n H v) (kp : ∀ y o, H y = some o → V.ref y ≠ v → H' y = some o) {e : Addr} {d : RD} (h : ExAt H e d) : ExAt H' e d := by
  obtain ⟨dx, x⟩ := h
  obtain ⟨C, fs, wd, ks⟩ := d
  have go : ∀ {a : Addr} {φ : Heap → Prop}, H a = some (.ext φ) → H' a = some (.ext φ) := fun {a φ} q => kp a _ q fun z => by
    rw [← z] at t
    exact t.noext q
  cases fs with
  | none => exact ⟨dx, go x⟩
  | some f => exact ⟨dx, go x.1, go x.2⟩
local macro_rules | `(tactic| walk_at "rd1") => `(tactic| first
  | with_reducible refine Xc.rd_tmk0 ?_
  | ((with_reducible refine' Xc.rd_mk0 (by assumption) ?l ?_); (case l => simp); intro a H ha S))
theorem Tg.up {n m : Nat} {v : V} (t : Tg n H v) (h : n ≤ m) : Tg m H v := by
  cases t with
  | non => exact .non
  | bl b => exact .bl b
  | int i h => exact .int i h
  | str x h1 h2 => exact .str x h1 h2
  | tup a x h1 h2 h => exact .tup a x h1 h2 h
  | lst a xs h1 h2 h => exact .lst a xs h1 (by omega) h
  | dk a x h1 h2 h => exact .dk a x h1 h2 h
theorem more_ok : (("more" : String) : Str).cps.size ≤ 40 ∧ ∀ c ∈ (("more" : String) : Str).cps.toList, c < 16 ^ 8 := by decide +kernel
set_option hygiene false in
local macro_rules | `(tactic| walk_at "tail") => `(tactic| (
  have tM : Tg 1 H16 v2 := tB.more fun y o e ho => keep y o ho (nV y e)
  have e16 := ex15.imp fun e d h => ExAt.keep tA keep h
  have S16 := Hs.start H16 [] [(D, HO.lst (es.map V.ref)), (pd, HO.lst (due _ v2))] (by simp [dp]) (fun q hq => by
    simp only [List.mem_cons, List.not_mem_nil, or_false] at hq
    rcases hq with rfl | rfl
    · exact keep _ _ gD nD
    · exact keep _ _ gP nP) (fun b hb => nomatch hb)
  walk_at "rd"
  refine ⟨D, es, _, v2, rfl, S16.get (by walk_at "mem"), e16, fun q3 H17 hq3 hq3' sm17 => ?_⟩
  obtain ⟨_, S17⟩ := S16.more1 sm17 hq3 hq3'
  clear S16
  walk_at "rd"
  have tN7 := tN.more (H' := H17) fun y o _ ho => sm17 _ _ ho
  have tM7 := tM.more (H' := H17) fun y o _ ho => sm17 _ _ ho
  obtain ⟨ds2, u1, u2, u3⟩ := due_shown (K := K) tN7 tM7 (by decide) (by decide)
  obtain ⟨tx2, etx2⟩ : ∃ tx, (PyData.list ds2).shown = tx := ⟨_, rfl⟩
  refine ⟨q3, due _ v2, ds2, rfl, SqL.of (S17.get (by walk_at "mem")), u1, by simp [due], u3, u2, ?_⟩
  rw [etx2]
  walk_at "rd"
  refine ⟨pd, due _ v2, ds2, rfl, SqL.of (S17.get (by walk_at "mem")), u1, by simp [due], u3, u2, ?_⟩
  rw [etx2]
  walk_at "rd"
  refine rd_decF (by simp) ?_
  walk_at "rd"
  rename_i eb H18 heb S18
  clear S17
  refine ⟨eb, A.C_SortError, none, bS, cS, rfl, S18.get (by walk_at "mem"), WS, fun q4 H19 hq4 hq4' sm19 => ?_⟩
  obtain ⟨_, S19⟩ := S18.more1 sm19 hq4 hq4'
  clear S18
  walk_at "rd"
  rename_i ns2 H20 hns2 S20
  clear S19
  refine rd_neSs (ss := []) (by rw [S20.get (a := q4) (o := .lst ((pickW wordsL bS).map V.str)) (by walk_at "mem"), w1]) (S20.get (o := .lst []) (by walk_at "mem")) (by decide +kernel) ?_
  walk_at "rd"
  exact ⟨_, _, _, _, _, _, _, _, _, _, _, _, _, _, rfl, S20.same _ _ (keep _ _ p15 n4), S20.same _ _ (keep _ _ p15' n3), by omega, by omega⟩))
theorem ok_law (T : Txt K mg w A) : FnG P w K mg base 8 A.f_law A.d_law ["_law_script"] (sp_law K) := by
  have G__law_thing_by : FnOk P w K mg base CX0 3 A.f__law_thing_by A.d__law_thing_by ["_law_stream"] sp_thing := ok_thing T
  have G__law_rows : FnOk P w K mg base CX0 3 A.f__law_rows A.d__law_rows ["_law_one", "_law_other"] (sp_rows A) := ok_rows T
  have G__law_words : FnOk P w K mg base CX0 1 A.f__law_words A.d__law_words ["_law_e"] (sp_words K A) := ok_words T
  have G__law_kinds : FnOk P w K mg base CX0 1 A.f__law_kinds A.d__law_kinds ["_law_e"] (sp_kinds K A) := ok_kinds T
  have G__law_fields : FnOk P w K mg base CX0 1 A.f__law_fields A.d__law_fields ["_law_made"] (sp_fields A) := ok_fields T
  refine defG T.c_law.F sc_law (fun vs H Q E h => ?_) (fun cdv Ar outer s H vs Q E cl hr h => ?_)
  · obtain ⟨a, ns, rfl, _⟩ := h; rfl
  · obtain ⟨sa, ns, rfl, hs, hn, k⟩ := h
    refine ⟨_, (pss_cons (ps_set (i := 1) sc_law.nd rfl (Or.inl rfl) (pe_lst (pa_cons (pe_slice sl_list (pe_op Xc.op_catL (pv 0) (pe_lst (pa_cons pe_int pa_nil))) po_none (po_some pe_int)) (pa_cons pe_int (pa_cons pe_int (pa_cons pe_int pa_nil))))))
      (pss_cons (ps_for PassesOwn.never rfl (pi_range1 rfl T.n_range (pa_cons (pe_op op_add pe_int (pe_callB (call_min2 rfl) (by rfl) T.n_min PyProof.Rows.boot_min (pa_cons pe_int (pa_cons (pe_callB call_len_seq (by rfl) T.n_len PySem.boot_len (pa_cons (pv 0) pa_nil)) pa_nil)))) pa_nil)) (pg_name (i := 2) sc_law.nd rfl (Or.inl rfl))
        (pss_cons (ps_par (i := 3) (j := 4) rfl sc_law.nd rfl rfl (by decide) rfl rfl (pa_cons (pe_call G__law_thing_by (hr.mono (by decide)) rfl T.c__law_thing_by.m T.c__law_thing_by.F.kp T.c__law_thing_by.b .nil pass0 (pa_cons (pv 1) pa_nil)) (pa_cons (pe_call G__law_thing_by (hr.mono (by decide)) rfl T.c__law_thing_by.m T.c__law_thing_by.F.kp T.c__law_thing_by.b .nil pass0 (pa_cons (pv 1) pa_nil)) pa_nil)) (by rfl))
        (pss_cons (ps_set (i := 5) sc_law.nd rfl (Or.inl rfl) (pe_call G__law_rows (hr.mono (by decide)) rfl T.c__law_rows.m T.c__law_rows.F.kp T.c__law_rows.b .nil pass0 (pa_cons (pv 3) (pa_cons (pv 4) pa_nil))))
        (pss_cons (ps_for PassesOwn.never rfl (pi_list (pv 5)) (pg_tup rfl (pgs_cons (pg_name (i := 6) sc_law.nd rfl (Or.inl rfl)) (pgs_cons (pg_name (i := 7) sc_law.nd rfl (Or.inl rfl)) (pgs_cons (pg_name (i := 8) sc_law.nd rfl (Or.inl rfl)) pgs_nil))))
          (pss_one (ps_if (PW.pt (pw_or (pt_cmpR (op_neD hr.units) (pe_call G__law_words (hr.mono (by decide)) rfl T.c__law_words.m T.c__law_words.F.kp T.c__law_words.b .nil pass0 (pa_cons (pv 6) pa_nil)) (pe_lst (pa_cons (pv 7) pa_nil)) (nomark _)) (pw_or (pt_cmpR (op_neD hr.units) (pe_call G__law_kinds (hr.mono (by decide)) rfl T.c__law_kinds.m T.c__law_kinds.F.kp T.c__law_kinds.b .nil pass0 (pa_cons (pv 6) pa_nil)) (pv 8) (nomark _)) (pw_or1 (pt_not (pt_val (pe_callB Xc.call_isE (by rfl) T.n_isinstance PyProof.Rows.boot_isinstance (pa_cons (pv 6) (pa_cons (pe_bltn (v := .ty "Exception") rfl T.n_Exception (by decide +kernel) rfl) pa_nil)))))))))
            (pss_one (ps_ret pe_bl))
            pss_nil)))
        (pss_cons (ps_setLc (i := 9) (own := [("_law_row", 11)]) (g := gName 11) (tt := tYes) rfl sc_law.nd rfl rfl (by rfl) (pi_list (pv 5)) (blkOk_by (N := ["_law_script", "_law_stream", "_law_turn", "_law_one", "_law_other", "_law_rows_here", "_law_e", "_law_word", "_law_kinds_here", "_law_made", "_law_due", "_law_row"]) (sc := defScope s_law) (by decide +kernel)) (fun _ _ _ _ _ => (pg_name (i := 11) sc_law.nd rfl (Or.inl rfl))) (fun _ _ _ _ _ => pts_nil) (fun _ _ _ _ _ => (pe_ix (ix_tupK (K := K) rfl) (pv 11) pe_int (fun _ _ => rfl))))
        (pss_cons (ps_set (i := 10) sc_law.nd rfl (Or.inl rfl) (pe_lst (pa_cons (pv 3) (pa_cons (pv 3) (pa_cons (pv 4) (pa_cons (pv 3) (pa_cons (pv 4) (pa_cons (pv 3) (pa_cons (pv 3) (pa_cons (pv 3) (pa_cons (pv 3) (pa_cons (pv 3) (pa_cons (pv 3) pa_nil)))))))))))))
        (pss_cons (ps_if (PW.pt (pw_or (pt_cmpR op_ne (pe_callB (Xc.call_reprL T.x_stat cl hr) (by rfl) T.n_repr PyProof.Rows.boot_repr (pa_cons (pe_call G__law_fields (hr.mono (by decide)) rfl T.c__law_fields.m T.c__law_fields.F.kp T.c__law_fields.b .nil pass0 (pa_cons (pv 9) pa_nil)) pa_nil)) (pe_callB (Xc.call_reprL T.x_stat cl hr) (by rfl) T.n_repr PyProof.Rows.boot_repr (pa_cons (pv 10) pa_nil)) (nomark _)) (pw_or1 (pt_cmpR (op_neD hr.units) (pe_call G__law_kinds (hr.mono (by decide)) rfl T.c__law_kinds.m T.c__law_kinds.F.kp T.c__law_kinds.b .nil pass0 (pa_cons (Xc.pe_mk0 PySem.F.excBase_Exception T.q_SortError rfl T.m_SortError T.p_SortError (pa_cons pe_str pa_nil)) pa_nil)) (pe_lst (pa_cons pe_str pa_nil)) (nomark _)))))
          (pss_one (ps_ret pe_bl))
          pss_nil)
        (pss_cons (ps_if (pt_val (pe_callB call_isi (by rfl) T.n_isinstance PyProof.Rows.boot_isinstance (pa_cons (pv 3) (pa_cons (pe_bltn (v := .ty "list") rfl T.n_list PyProof.Rows.boot_list rfl) pa_nil))))
          (pss_one (ps_expr (pe_bm PySem.F.plainAttrs_list PySem.F.slot_list_append PySem.F.type_list_append mt_append (pv 3) (pa_cons pe_str pa_nil))))
          pss_nil)
        (pss_one (ps_if (PW.pt (pw_or (pt_cmpR op_ne (pe_callB (Xc.call_reprL T.x_stat cl hr) (by rfl) T.n_repr PyProof.Rows.boot_repr (pa_cons (pe_call G__law_fields (hr.mono (by decide)) rfl T.c__law_fields.m T.c__law_fields.F.kp T.c__law_fields.b .nil pass0 (pa_cons (pv 9) pa_nil)) pa_nil)) (pe_callB (Xc.call_reprL T.x_stat cl hr) (by rfl) T.n_repr PyProof.Rows.boot_repr (pa_cons (pv 10) pa_nil)) (nomark _)) (pw_or1 (pt_cmpR (op_neD hr.units) (pe_call G__law_words (hr.mono (by decide)) rfl T.c__law_words.m T.c__law_words.F.kp T.c__law_words.b .nil pass0 (pa_cons (Xc.pe_mk0 PySem.F.excBase_Exception T.q_SortError rfl T.m_SortError T.p_SortError (pa_cons pe_str pa_nil)) pa_nil)) (pe_lst pa_nil) (nomark _)))))
          (pss_one (ps_ret pe_bl))
          pss_nil))))))))))
      (pss_one (ps_ret pe_bl)))), ?_⟩
    have S := Hs.start0 H
    walk_at "st"
    walk_at "rd"
    rename_i p1 H2 hp1 S1
    refine ⟨sa, p1, _, _, rfl, rfl, S1.sq hs (by simp), S1.lst (by walk_at "mem"), by rw [sizeLine_eq]; simp; omega, fun p2 hp2 => ?_⟩
    obtain ⟨hp20, S2⟩ := S1.newAt (o := .lst (ns.map V.int ++ [V.int 0])) hp2
    rw [show ns.map V.int ++ [V.int 0] = (ns ++ [0]).map V.int by simp] at S2 ⊢
    walk_at "rd"
    rename_i p3 H3 hp3 S3 p4 H4 hp4 S4
    clear S1 S2 S S3
    generalize cutI (ns ++ [0]) none (some 63) = ns3 at S4
    walk_at "rd"
    refine ⟨sa, _, rfl, Or.inl (S4.sq hs (by simp)), ?_⟩
    walk_at "rd"
    rw [List.length_map]
    have i1 := S4.is (p4, HO.lst [.ref p3, .int 0, .int 0, .int 7]) (by walk_at "mem")
    have i2 := S4.is (p3, HO.lst (ns3.map V.int)) (by walk_at "mem")
    have hne : p4 ≠ p3 := fun z => by
      have := S4.nd
      simp [z] at this
    dsimp only at i1 i2
    refine fw_range (fun i σ H' => ∃ (o2 o3 o4 o5 o6 o7 o8 o9 o10 o11 : Option V) (l kk m : Int) (ns' : List Int), σ = [some (.ref sa), some (.ref p4), o2, o3, o4, o5, o6, o7, o8, o9, o10, o11] ∧ H' p4 = some (stm p3 l kk m) ∧ H' p3 = some (.lst (ns'.map V.int)) ∧ 0 ≤ kk ∧ kk ≤ 20 * i)
      ⟨_, _, _, _, _, _, _, _, _, _, 0, 0, 7, ns3, rfl, i1, i2, by omega, by omega⟩ ?_ ?_
    · clear S4 i1 i2 hs
      rintro i σ H5 hi ⟨o2, o3, o4, o5, o6, o7, o8, o9, o10, o11, l, kk, m, ns', rfl, i1, i2, hk0, hk1⟩
      have hi40 : i < 41 := by
        revert hi
        split <;> intro hi <;> omega
      walk_at "rd"
      refine ⟨p4, p3, l, kk, m, ns', rfl, i1, i2, by omega, by omega, fun v1 l1 k1 m1 n1 H6 tg1 fr1 j1 j2 old1 z1 z2 => ?_⟩
      walk_at "rd"
      refine ⟨p4, p3, l1, k1, m1, n1, rfl, j1, j2, by omega, by omega, fun v2 l2 k2 m2 n2 H7 tg2 fr2 q1 q2 old2 z3 z4 => ?_⟩
      have tg1' : Tg 1 H7 v1 := tg1.more fun x o e ho => old2 x o ho (fun z => by
        have := fr1 x e
        rw [z, i1] at this; cases this) (fun z => by
        have := fr1 x e
        rw [z, i2] at this; cases this)
      walk_at "rd"
      refine ⟨v1, v2, rfl, fun r ts H8 hr8 hr8' rows sm8 => ?_⟩
      have S8 : Hs H8 [] H8 [(r, .lst (ts.map V.ref))] := Hs.start1 hr8' [] (.inl rfl)
      walk_at "rd"
      refine fw_list (xs := ts.map V.ref) (fun j σ H' => ∃ (o6 o7 o8 : Option V), σ = [some (.ref sa), some (.ref p4), some (.int (0 + i)), some v1, some v2, some (.ref r), o6, o7, o8, o9, o10, o11] ∧ Hs H8 [] H' [(r, .lst (ts.map V.ref))]) ⟨_, _, _, rfl, S8⟩ (fun j σ H' _ h => by
        obtain ⟨o6, o7, o8, _, S⟩ := h
        exact S.lst (by walk_at "mem")) ?_ ?_
      · rintro j x σ H9 hx ⟨o6, o7, o8, rfl, S9⟩
        obtain ⟨t, ht, rfl⟩ : ∃ t, ts[j]? = some t ∧ x = V.ref t := by
          rw [List.getElem?_map] at hx
          cases hz : ts[j]? with
          | none => rw [hz] at hx; cases hx
          | some z => rw [hz] at hx; cases hx; exact ⟨z, rfl, rfl⟩
        obtain ⟨d, hd, e, le, dx, r1, r2, r3⟩ := rows.at ht
        obtain ⟨bs, cs, W⟩ := told T v1 v2 hd
        have sm9 := S9.same
        have tl : t ≠ le := ne_of r1 r2 (by intro z; cases z)
        have ST : Hs H9 [] H9 [(t, .tup [.ref e, .str d.2.2.1, .ref le]), (le, .lst (d.2.2.2.map V.str))] := Hs.start H9 [] _ (by simp [tl]) (fun q hq => by
          simp only [List.mem_cons, List.not_mem_nil, or_false] at hq
          rcases hq with rfl | rfl
          · exact sm9 _ _ r1
          · exact sm9 _ _ r2) (fun b hb => nomatch hb)
        walk_at "rd"
        refine ⟨e, d.1, _, bs, cs, rfl, ExcAt.same r3 sm9, W.who, fun q H10 hq hq2 sm10 => ?_⟩
        obtain ⟨_, S10⟩ := ST.more1 sm10 hq hq2
        clear ST
        walk_at "rd"
        rename_i n1 H11 hn1 S11
        refine rd_neSs (ss := [d.2.2.1]) (by rw [S11.get (a := q) (o := .lst ((pickW wordsL bs).map V.str)) (by walk_at "mem"), W.wd]) (S11.get (o := .lst [.str d.2.2.1]) (by walk_at "mem")) W.sw ?_
        clear S10
        walk_at "rd"
        refine ⟨e, d.1, _, bs, cs, rfl, ExcAt.same r3 (Same.trans sm9 S11.same), W.who, fun q' H12 hq' hq2' sm12 => ?_⟩
        obtain ⟨_, S12⟩ := S11.more1 sm12 hq' hq2'
        clear S11
        walk_at "rd"
        refine rd_neSs (ss := d.2.2.2) (by rw [S12.get (a := q') (o := .lst ((pickW kindsL cs).map V.str)) (by walk_at "mem"), W.kd]) (S12.get (by walk_at "mem")) W.sk ?_
        walk_at "rd"
        refine Xc.rd_isE (ExcAt.same r3 (Same.trans sm9 S12.same)) W.who.lk (.ty _) W.who.ex ?_
        walk_at "rd"
        exact ⟨_, _, _, rfl, S9.more S12.same⟩
      · rintro σ H9 ⟨o6, o7, o8, rfl, S9⟩
        walk_at "rd"
        obtain ⟨es, te, ex⟩ := es_of rows
        have tlen := te.len
        have elen : es.length = 12 := ex.len
        refine lcw_list (xs := ts.map V.ref) S9 (fun j acc => acc = (es.take j).map V.ref) rfl (fun H' acc D S => S.lst (by walk_at "mem")) ?_ ?_
        · rintro D j x acc H' hx rfl hD S10
          obtain ⟨t, ht, rfl⟩ : ∃ t, ts[j]? = some t ∧ x = V.ref t := by
            rw [List.getElem?_map] at hx
            cases hz : ts[j]? with
            | none => rw [hz] at hx; cases hx
            | some z => rw [hz] at hx; cases hx; exact ⟨z, rfl, rfl⟩
          obtain ⟨e, he, wd, le, r1⟩ := te.at ht
          walk_at "lc"
          refine ⟨t, [.ref e, .str wd, .ref le], 0, .ref e, rfl, rfl, SqT.of (S10.same _ _ r1), rfl, ?_⟩
          refine rd_lcPut S10 (by walk_at "chg") hD (Rs.sz' (by rw [List.length_map, List.length_take]; omega)) (by walk_at "sub") ?_
          rw [List.take_add_one, he]
          simp
        · rintro D acc H10 rfl hD S10
          rw [List.length_map, tlen, List.take_length] at S10
          clear S9 S8
          walk_at "rd"
          rename_i pd H11 hpd S11
          clear S10
          have tg7 : ∀ {H' : Hp}, Same H8 H' → Tg 1 H' v1 ∧ Tg 1 H' v2 := fun sm => ⟨tg1'.more fun x o _ ho => sm _ _ (sm8 _ _ ho), tg2.more fun x o _ ho => sm _ _ (sm8 _ _ ho)⟩
          refine ⟨D, es, v1, v2, rfl, S11.get (by walk_at "mem"), ex.imp fun e d h => ExAt.same S11.same h, fun q H12 hq hq2 sm12 => ?_⟩
          obtain ⟨_, S12⟩ := S11.more1 sm12 hq hq2
          clear S11
          walk_at "rd"
          obtain ⟨ds, y1, y2, y3⟩ := due_shown (K := K) (tg7 S12.same).1 (tg7 S12.same).2 (by decide) (by decide)
          refine ⟨q, due v1 v2, ds, rfl, SqL.of (S12.get (by walk_at "mem")), y1, by simp [due], y3, y2, ?_⟩
          obtain ⟨tx, etx⟩ : ∃ tx, (PyData.list ds).shown = tx := ⟨_, rfl⟩
          rw [etx]
          walk_at "rd"
          refine ⟨pd, due v1 v2, ds, rfl, SqL.of (S12.get (o := .lst [v1, v1, v2, v1, v2, v1, v1, v1, v1, v1, v1]) (by walk_at "mem")), y1, by simp [due], y3, y2, ?_⟩
          rw [etx]
          walk_at "rd"
          refine rd_decF (by simp) ?_
          obtain ⟨bS, cS, WS, w1, w2⟩ := told_sort T
          walk_at "rd"
          rename_i ea H13 hea S13
          clear S12
          refine ⟨ea, A.C_SortError, none, bS, cS, rfl, S13.get (by walk_at "mem"), WS, fun q' H14 hq' hq2' sm14 => ?_⟩
          obtain ⟨_, S14⟩ := S13.more1 sm14 hq' hq2'
          clear S13
          walk_at "rd"
          rename_i ns1 H15 hns1 S15
          clear S14
          refine rd_neSs (ss := ["sort"]) (by rw [S15.get (a := q') (o := .lst ((pickW kindsL cS).map V.str)) (by walk_at "mem"), w2]) (S15.get (o := .lst [.str "sort"]) (by walk_at "mem")) (by decide +kernel) ?_
          walk_at "rd"
          have gD := S15.get (a := D) (o := .lst (es.map V.ref)) (by walk_at "mem")
          have gP := S15.get (a := pd) (o := .lst (due v1 v2)) (S15.is (pd, .lst [v1, v1, v2, v1, v2, v1, v1, v1, v1, v1, v1]) (by walk_at "mem") |> fun _ => by
            show (pd, HO.lst [v1, v1, v2, v1, v2, v1, v1, v1, v1, v1, v1]) ∈ _
            walk_at "mem")
          have sm15 := S15.same
          obtain ⟨tA, tB⟩ := tg7 sm15
          have ex15 : All2 (ExAt H15) es (rowsD A v1 v2) := ex.imp fun e d h => ExAt.same sm15 h
          have p15 := sm15 _ _ (sm8 _ _ q1)
          have p15' := sm15 _ _ (sm8 _ _ q2)
          have nD : V.ref D ≠ v1 := fun z => (by
            rw [← z] at tg1'
            obtain ⟨o, ho⟩ := Option.ne_none_iff_exists'.mp tg1'.there
            rw [sm8 _ _ ho] at hD; cases hD)
          have nP : V.ref pd ≠ v1 := fun z => (by
            rw [← z] at tg1'
            obtain ⟨o, ho⟩ := Option.ne_none_iff_exists'.mp tg1'.there
            rw [sm8 _ _ ho] at hpd; cases hpd)
          have n4 : V.ref p4 ≠ v1 := fun z => (by
            have := fr1 p4 z.symm
            rw [i1] at this; cases this)
          have n3 : V.ref p3 ≠ v1 := fun z => (by
            have := fr1 p3 z.symm
            rw [i2] at this; cases this)
          have nV : ∀ y, v2 = V.ref y → V.ref y ≠ v1 := fun y e z => (by
            have h1 := fr2 y e
            rw [← z] at tg1
            exact tg1.there h1)
          clear S15
          have dp : D ≠ pd := fun z => by
            rw [z, gP] at gD
            injection gD with gD
            injection gD with gD
            have := congrArg List.length gD
            simp [due, elen] at this
          rcases tA.kin (K := K) with ⟨x, xs, rfl, hx1, hx2, hx3⟩ | ⟨kk0, kn, kf⟩
          · have SX := Hs.start1 hx3 [x] (.inr rfl)
            refine rd_isi (Kin.lst hx3) (kit_list _) ?_
            walk_at "rd"
            walk_at "if1"
            rename_i H16 SY
            have keep : ∀ y o, H15 y = some o → V.ref y ≠ V.ref x → H16 y = some o := fun y o ho ne => SY.old y o ho (by simpa using fun z => ne (by rw [z]))
            have tN : Tg 2 H16 (.ref x) := .lst x (xs ++ [(("more" : String) : Str)]) (fun z hz => by
              rcases List.mem_append.mp hz with h | h
              · exact hx1 z h
              · rw [List.mem_singleton.mp h]; exact more_ok) (by simp; omega) (by rw [SY.get (a := x) (o := .lst (xs.map V.str ++ [V.str "more"])) (by walk_at "mem"), List.map_append]; rfl)
            clear SX SY
            walk_at "tail"
          · refine rd_isi kn kf ?_
            walk_at "rd"
            walk_at "if0"
            obtain ⟨H16, eH, keep, tN⟩ : ∃ H16, H15 = H16 ∧ (∀ y o, H15 y = some o → V.ref y ≠ v1 → H16 y = some o) ∧ Tg 2 H16 v1 := ⟨H15, rfl, fun y o h _ => h, tA.up (by decide)⟩
            rw [eH]
            walk_at "tail"
    · rintro σ H5 ⟨o2, o3, o4, o5, o6, o7, o8, o9, o10, o11, l, kk, m, ns', rfl, i1, i2, hk0, hk1⟩
      walk_at "rd"
      exact k _
theorem end_law (K : PySem.W.Frag) (H : Hp) (a : Addr) (ns : List Int) (hn : ns.length ≤ 63) (_ : ∀ z ∈ ns, Builtin.Int.intBits z ≤ 1048576) (h : SqL K H a (ns.map V.int)) : sp_law K [.ref a] H (fun v _ => v = .bl true) E0 :=
  ⟨a, ns, rfl, h, hn, fun _ => rfl⟩
end
end K02

namespace K02
end K02
open PySem PySem.W PyProof.Rows
set_option maxRecDepth 100000 in
set_option maxHeartbeats 0 in
theorem PySem.Challenge.cw_runsort_k02_families_of_refusals_holds : PySem.Challenge.rw_runsort_k02_families_of_refusals.Holds := by
  w_on; o_law; k_head; (case hw => w_witness2)
  k_fill
  refine Rs.walkE (n := 63) (k := 8) (st := K02.s_law) (x := "_law_script") (sp := K02.sp_law) rfl (by decide) rfl ⟨rfl, by decide, by decide⟩ (fun w h Y => PySem.W.kIn_of Y) rfl (fun _ _ _ _ _ _ _ => rfl) ?F K02.end_law
  case F =>
    intro w mg h KX G
    obtain ⟨A, T⟩ : ∃ A, K02.Txt _ mg w A := by
      refine' K02.all_mk (w := w) KX G ?a_SortError ?ini_SortError ?dic_SortError ?bex_SortError ?kpc_SortError ?xcl_SortError ?xga_SortError ?xgg_SortError ?xha_SortError ?xhn_SortError ?xht_SortError ?xhm_SortError ?rd_SortError ?rg_SortError ?a_BadPaper ?ini_BadPaper ?ovr_BadPaper ?dic_BadPaper ?sav_BadPaper ?bex_BadPaper ?tyc_BadPaper ?kpc_BadPaper ?xcl_BadPaper ?xga_BadPaper ?xgg_BadPaper ?xha_BadPaper ?xhn_BadPaper ?xht_BadPaper ?xhm_BadPaper ?tk_BadPaper_at ?na_BadPaper_at ?a_BadPaper___init__ ?y_BadPaper___init__ ?l_BadPaper___init__ ?e_BadPaper___init__ ?k_BadPaper___init__ ?v_BadPaper ?a_Flawed ?ini_Flawed ?ovr_Flawed ?dic_Flawed ?sav_Flawed ?bex_Flawed ?tyc_Flawed ?kpc_Flawed ?xcl_Flawed ?xga_Flawed ?xgg_Flawed ?xha_Flawed ?xhn_Flawed ?xht_Flawed ?xhm_Flawed ?tk_Flawed_word ?na_Flawed_word ?tk_Flawed_places ?na_Flawed_places ?a_Flawed___init__ ?y_Flawed___init__ ?l_Flawed___init__ ?e_Flawed___init__ ?k_Flawed___init__ ?v_Flawed ?a_BadLine ?ini_BadLine ?ovr_BadLine ?dic_BadLine ?sav_BadLine ?bex_BadLine ?tyc_BadLine ?kpc_BadLine ?xcl_BadLine ?xga_BadLine ?xgg_BadLine ?xha_BadLine ?xhn_BadLine ?xht_BadLine ?xhm_BadLine ?tk_BadLine_row ?na_BadLine_row ?tk_BadLine_word ?na_BadLine_word ?a_BadLine___init__ ?y_BadLine___init__ ?l_BadLine___init__ ?e_BadLine___init__ ?k_BadLine___init__ ?v_BadLine ?a_Busy ?ini_Busy ?dic_Busy ?bex_Busy ?kpc_Busy ?xcl_Busy ?xga_Busy ?xgg_Busy ?xha_Busy ?xhn_Busy ?xht_Busy ?xhm_Busy ?a_Gone ?ini_Gone ?dic_Gone ?bex_Gone ?kpc_Gone ?xcl_Gone ?xga_Gone ?xgg_Gone ?xha_Gone ?xhn_Gone ?xht_Gone ?xhm_Gone ?a_BadAnswer ?ini_BadAnswer ?ovr_BadAnswer ?dic_BadAnswer ?sav_BadAnswer ?bex_BadAnswer ?tyc_BadAnswer ?kpc_BadAnswer ?xcl_BadAnswer ?xga_BadAnswer ?xgg_BadAnswer ?xha_BadAnswer ?xhn_BadAnswer ?xht_BadAnswer ?xhm_BadAnswer ?tk_BadAnswer_answer ?na_BadAnswer_answer ?a_BadAnswer___init__ ?y_BadAnswer___init__ ?l_BadAnswer___init__ ?e_BadAnswer___init__ ?k_BadAnswer___init__ ?v_BadAnswer ?a_BadKind ?ini_BadKind ?ovr_BadKind ?dic_BadKind ?sav_BadKind ?bex_BadKind ?tyc_BadKind ?kpc_BadKind ?xcl_BadKind ?xga_BadKind ?xgg_BadKind ?xha_BadKind ?xhn_BadKind ?xht_BadKind ?xhm_BadKind ?tk_BadKind_wanted ?na_BadKind_wanted ?a_BadKind___init__ ?y_BadKind___init__ ?l_BadKind___init__ ?e_BadKind___init__ ?k_BadKind___init__ ?v_BadKind ?a_BadText ?ini_BadText ?dic_BadText ?bex_BadText ?kpc_BadText ?xcl_BadText ?xga_BadText ?xgg_BadText ?xha_BadText ?xhn_BadText ?xht_BadText ?xhm_BadText ?a_BadNumber ?ini_BadNumber ?ovr_BadNumber ?dic_BadNumber ?sav_BadNumber ?bex_BadNumber ?tyc_BadNumber ?kpc_BadNumber ?xcl_BadNumber ?xga_BadNumber ?xgg_BadNumber ?xha_BadNumber ?xhn_BadNumber ?xht_BadNumber ?xhm_BadNumber ?tk_BadNumber_at ?na_BadNumber_at ?a_BadNumber___init__ ?y_BadNumber___init__ ?l_BadNumber___init__ ?e_BadNumber___init__ ?k_BadNumber___init__ ?v_BadNumber ?a_NoSuch ?ini_NoSuch ?ovr_NoSuch ?dic_NoSuch ?sav_NoSuch ?bex_NoSuch ?tyc_NoSuch ?kpc_NoSuch ?xcl_NoSuch ?xga_NoSuch ?xgg_NoSuch ?xha_NoSuch ?xhn_NoSuch ?xht_NoSuch ?xhm_NoSuch ?tk_NoSuch_name ?na_NoSuch_name ?a_NoSuch___init__ ?y_NoSuch___init__ ?l_NoSuch___init__ ?e_NoSuch___init__ ?k_NoSuch___init__ ?v_NoSuch ?a_TooMany ?ini_TooMany ?ovr_TooMany ?dic_TooMany ?sav_TooMany ?bex_TooMany ?tyc_TooMany ?kpc_TooMany ?xcl_TooMany ?xga_TooMany ?xgg_TooMany ?xha_TooMany ?xhn_TooMany ?xht_TooMany ?xhm_TooMany ?tk_TooMany_most ?na_TooMany_most ?a_TooMany___init__ ?y_TooMany___init__ ?l_TooMany___init__ ?e_TooMany___init__ ?k_TooMany___init__ ?v_TooMany ?a_Stopped ?ini_Stopped ?ovr_Stopped ?dic_Stopped ?sav_Stopped ?bex_Stopped ?tyc_Stopped ?kpc_Stopped ?xcl_Stopped ?xga_Stopped ?xgg_Stopped ?xha_Stopped ?xhn_Stopped ?xht_Stopped ?xhm_Stopped ?tk_Stopped_at ?na_Stopped_at ?a_Stopped___init__ ?y_Stopped___init__ ?l_Stopped___init__ ?e_Stopped___init__ ?k_Stopped___init__ ?v_Stopped ?a__law_mixed ?l__law_mixed ?e__law_mixed ?k__law_mixed ?a__law_take ?l__law_take ?e__law_take ?k__law_take ?a__law_words ?l__law_words ?e__law_words ?k__law_words ?a__law_kinds ?l__law_kinds ?e__law_kinds ?k__law_kinds ?a__law_thing_by ?l__law_thing_by ?e__law_thing_by ?k__law_thing_by ?a__law_rows ?l__law_rows ?e__law_rows ?k__law_rows ?a__law_fields ?l__law_fields ?e__law_fields ?k__law_fields ?a_law ?l_law ?e_law ?k_law ?x_stat ?x_kit_BadPaper ?x_kit_Flawed ?x_kit_BadLine ?x_kit_Busy ?x_kit_Gone ?x_kit_BadAnswer ?x_kit_BadKind ?x_kit_BadText ?x_kit_BadNumber ?x_kit_NoSuch ?x_kit_TooMany ?x_kit_Stopped ?x_kit_SortError ?z_len ?z_min ?z_max ?z_range ?z_repr ?z_isinstance ?z_int ?z_bool ?z_list ?z_zip ?z_Exception ?z_TypeError ?z_ValueError ?z_IndexError ?z_KeyError ?z_LookupError ?z_OverflowError ?z_ArithmeticError ?z_RuntimeError ?z_ZeroDivisionError
      (case a_SortError => k_is)
      (case ini_SortError => first | k_is | kx_is | kts_exm | kit_is | kernel_rfl)
      (case dic_SortError => first | k_is | kx_is | kts_exm | kit_is | kernel_rfl)
      (case bex_SortError => first | k_is | kx_is | kts_exm | kit_is | kernel_rfl)
      (case kpc_SortError => first | k_is | kx_is | kts_exm | kit_is | kernel_rfl)
      (case xcl_SortError => first | k_is | kx_is | kts_exm | kit_is | kernel_rfl)
      (case xga_SortError => first | k_is | kx_is | kts_exm | kit_is | kernel_rfl)
      (case xgg_SortError => first | k_is | kx_is | kts_exm | kit_is | kernel_rfl)
      (case xha_SortError => first | k_is | kx_is | kts_exm | kit_is | kernel_rfl)
      (case xhn_SortError => first | k_is | kx_is | kts_exm | kit_is | kernel_rfl)
      (case xht_SortError => first | k_is | kx_is | kts_exm | kit_is | kernel_rfl)
      (case xhm_SortError => first | k_is | kx_is | kts_exm | kit_is | kernel_rfl)
      (case rd_SortError => first | k_is | kx_is | kts_exm | kit_is | kernel_rfl)
      (case rg_SortError => first | k_is | kx_is | kts_exm | kit_is | kernel_rfl)
      (case a_BadPaper => k_is)
      (case ini_BadPaper => first | k_is | kx_is | kts_exm | kit_is | kernel_rfl)
      (case ovr_BadPaper => first | k_is | kx_is | kts_exm | kit_is | kernel_rfl)
      (case dic_BadPaper => first | k_is | kx_is | kts_exm | kit_is | kernel_rfl)
      (case sav_BadPaper => first | k_is | kx_is | kts_exm | kit_is | kernel_rfl)
      (case bex_BadPaper => first | k_is | kx_is | kts_exm | kit_is | kernel_rfl)
      (case tyc_BadPaper => first | k_is | kx_is | kts_exm | kit_is | kernel_rfl)
      (case kpc_BadPaper => first | k_is | kx_is | kts_exm | kit_is | kernel_rfl)
      (case xcl_BadPaper => first | k_is | kx_is | kts_exm | kit_is | kernel_rfl)
      (case xga_BadPaper => first | k_is | kx_is | kts_exm | kit_is | kernel_rfl)
      (case xgg_BadPaper => first | k_is | kx_is | kts_exm | kit_is | kernel_rfl)
      (case xha_BadPaper => first | k_is | kx_is | kts_exm | kit_is | kernel_rfl)
      (case xhn_BadPaper => first | k_is | kx_is | kts_exm | kit_is | kernel_rfl)
      (case xht_BadPaper => first | k_is | kx_is | kts_exm | kit_is | kernel_rfl)
      (case xhm_BadPaper => first | k_is | kx_is | kts_exm | kit_is | kernel_rfl)
      (case tk_BadPaper_at => first | k_is | kx_is | kts_exm | kit_is | kernel_rfl)
      (case na_BadPaper_at => first | k_is | kx_is | kts_exm | kit_is | kernel_rfl)
      (case a_BadPaper___init__ => k_is)
      (case y_BadPaper___init__ => k_is)
      (case l_BadPaper___init__ => k_is)
      (case e_BadPaper___init__ => k_is)
      (case k_BadPaper___init__ => k_is)
      (case v_BadPaper => first | k_is | kx_is | kts_exm | kit_is | kernel_rfl)
      (case a_Flawed => k_is)
      (case ini_Flawed => first | k_is | kx_is | kts_exm | kit_is | kernel_rfl)
      (case ovr_Flawed => first | k_is | kx_is | kts_exm | kit_is | kernel_rfl)
      (case dic_Flawed => first | k_is | kx_is | kts_exm | kit_is | kernel_rfl)
      (case sav_Flawed => first | k_is | kx_is | kts_exm | kit_is | kernel_rfl)
      (case bex_Flawed => first | k_is | kx_is | kts_exm | kit_is | kernel_rfl)
      (case tyc_Flawed => first | k_is | kx_is | kts_exm | kit_is | kernel_rfl)
      (case kpc_Flawed => first | k_is | kx_is | kts_exm | kit_is | kernel_rfl)
      (case xcl_Flawed => first | k_is | kx_is | kts_exm | kit_is | kernel_rfl)
      (case xga_Flawed => first | k_is | kx_is | kts_exm | kit_is | kernel_rfl)
      (case xgg_Flawed => first | k_is | kx_is | kts_exm | kit_is | kernel_rfl)
      (case xha_Flawed => first | k_is | kx_is | kts_exm | kit_is | kernel_rfl)
      (case xhn_Flawed => first | k_is | kx_is | kts_exm | kit_is | kernel_rfl)
      (case xht_Flawed => first | k_is | kx_is | kts_exm | kit_is | kernel_rfl)
      (case xhm_Flawed => first | k_is | kx_is | kts_exm | kit_is | kernel_rfl)
      (case tk_Flawed_word => first | k_is | kx_is | kts_exm | kit_is | kernel_rfl)
      (case na_Flawed_word => first | k_is | kx_is | kts_exm | kit_is | kernel_rfl)
      (case tk_Flawed_places => first | k_is | kx_is | kts_exm | kit_is | kernel_rfl)
      (case na_Flawed_places => first | k_is | kx_is | kts_exm | kit_is | kernel_rfl)
      (case a_Flawed___init__ => k_is)
      (case y_Flawed___init__ => k_is)
      (case l_Flawed___init__ => k_is)
      (case e_Flawed___init__ => k_is)
      (case k_Flawed___init__ => k_is)
      (case v_Flawed => first | k_is | kx_is | kts_exm | kit_is | kernel_rfl)
      (case a_BadLine => k_is)
      (case ini_BadLine => first | k_is | kx_is | kts_exm | kit_is | kernel_rfl)
      (case ovr_BadLine => first | k_is | kx_is | kts_exm | kit_is | kernel_rfl)
      (case dic_BadLine => first | k_is | kx_is | kts_exm | kit_is | kernel_rfl)
      (case sav_BadLine => first | k_is | kx_is | kts_exm | kit_is | kernel_rfl)
      (case bex_BadLine => first | k_is | kx_is | kts_exm | kit_is | kernel_rfl)
      (case tyc_BadLine => first | k_is | kx_is | kts_exm | kit_is | kernel_rfl)
      (case kpc_BadLine => first | k_is | kx_is | kts_exm | kit_is | kernel_rfl)
      (case xcl_BadLine => first | k_is | kx_is | kts_exm | kit_is | kernel_rfl)
      (case xga_BadLine => first | k_is | kx_is | kts_exm | kit_is | kernel_rfl)
      (case xgg_BadLine => first | k_is | kx_is | kts_exm | kit_is | kernel_rfl)
      (case xha_BadLine => first | k_is | kx_is | kts_exm | kit_is | kernel_rfl)
      (case xhn_BadLine => first | k_is | kx_is | kts_exm | kit_is | kernel_rfl)
      (case xht_BadLine => first | k_is | kx_is | kts_exm | kit_is | kernel_rfl)
      (case xhm_BadLine => first | k_is | kx_is | kts_exm | kit_is | kernel_rfl)
      (case tk_BadLine_row => first | k_is | kx_is | kts_exm | kit_is | kernel_rfl)
      (case na_BadLine_row => first | k_is | kx_is | kts_exm | kit_is | kernel_rfl)
      (case tk_BadLine_word => first | k_is | kx_is | kts_exm | kit_is | kernel_rfl)
      (case na_BadLine_word => first | k_is | kx_is | kts_exm | kit_is | kernel_rfl)
      (case a_BadLine___init__ => k_is)
      (case y_BadLine___init__ => k_is)
      (case l_BadLine___init__ => k_is)
      (case e_BadLine___init__ => k_is)
      (case k_BadLine___init__ => k_is)
      (case v_BadLine => first | k_is | kx_is | kts_exm | kit_is | kernel_rfl)
      (case a_Busy => k_is)
      (case ini_Busy => first | k_is | kx_is | kts_exm | kit_is | kernel_rfl)
      (case dic_Busy => first | k_is | kx_is | kts_exm | kit_is | kernel_rfl)
      (case bex_Busy => first | k_is | kx_is | kts_exm | kit_is | kernel_rfl)
      (case kpc_Busy => first | k_is | kx_is | kts_exm | kit_is | kernel_rfl)
      (case xcl_Busy => first | k_is | kx_is | kts_exm | kit_is | kernel_rfl)
      (case xga_Busy => first | k_is | kx_is | kts_exm | kit_is | kernel_rfl)
      (case xgg_Busy => first | k_is | kx_is | kts_exm | kit_is | kernel_rfl)
      (case xha_Busy => first | k_is | kx_is | kts_exm | kit_is | kernel_rfl)
      (case xhn_Busy => first | k_is | kx_is | kts_exm | kit_is | kernel_rfl)
      (case xht_Busy => first | k_is | kx_is | kts_exm | kit_is | kernel_rfl)
      (case xhm_Busy => first | k_is | kx_is | kts_exm | kit_is | kernel_rfl)
      (case a_Gone => k_is)
      (case ini_Gone => first | k_is | kx_is | kts_exm | kit_is | kernel_rfl)
      (case dic_Gone => first | k_is | kx_is | kts_exm | kit_is | kernel_rfl)
      (case bex_Gone => first | k_is | kx_is | kts_exm | kit_is | kernel_rfl)
      (case kpc_Gone => first | k_is | kx_is | kts_exm | kit_is | kernel_rfl)
      (case xcl_Gone => first | k_is | kx_is | kts_exm | kit_is | kernel_rfl)
      (case xga_Gone => first | k_is | kx_is | kts_exm | kit_is | kernel_rfl)
      (case xgg_Gone => first | k_is | kx_is | kts_exm | kit_is | kernel_rfl)
      (case xha_Gone => first | k_is | kx_is | kts_exm | kit_is | kernel_rfl)
      (case xhn_Gone => first | k_is | kx_is | kts_exm | kit_is | kernel_rfl)
      (case xht_Gone => first | k_is | kx_is | kts_exm | kit_is | kernel_rfl)
      (case xhm_Gone => first | k_is | kx_is | kts_exm | kit_is | kernel_rfl)
      (case a_BadAnswer => k_is)
      (case ini_BadAnswer => first | k_is | kx_is | kts_exm | kit_is | kernel_rfl)
      (case ovr_BadAnswer => first | k_is | kx_is | kts_exm | kit_is | kernel_rfl)
      (case dic_BadAnswer => first | k_is | kx_is | kts_exm | kit_is | kernel_rfl)
      (case sav_BadAnswer => first | k_is | kx_is | kts_exm | kit_is | kernel_rfl)
      (case bex_BadAnswer => first | k_is | kx_is | kts_exm | kit_is | kernel_rfl)
      (case tyc_BadAnswer => first | k_is | kx_is | kts_exm | kit_is | kernel_rfl)
      (case kpc_BadAnswer => first | k_is | kx_is | kts_exm | kit_is | kernel_rfl)
      (case xcl_BadAnswer => first | k_is | kx_is | kts_exm | kit_is | kernel_rfl)
      (case xga_BadAnswer => first | k_is | kx_is | kts_exm | kit_is | kernel_rfl)
      (case xgg_BadAnswer => first | k_is | kx_is | kts_exm | kit_is | kernel_rfl)
      (case xha_BadAnswer => first | k_is | kx_is | kts_exm | kit_is | kernel_rfl)
      (case xhn_BadAnswer => first | k_is | kx_is | kts_exm | kit_is | kernel_rfl)
      (case xht_BadAnswer => first | k_is | kx_is | kts_exm | kit_is | kernel_rfl)
      (case xhm_BadAnswer => first | k_is | kx_is | kts_exm | kit_is | kernel_rfl)
      (case tk_BadAnswer_answer => first | k_is | kx_is | kts_exm | kit_is | kernel_rfl)
      (case na_BadAnswer_answer => first | k_is | kx_is | kts_exm | kit_is | kernel_rfl)
      (case a_BadAnswer___init__ => k_is)
      (case y_BadAnswer___init__ => k_is)
      (case l_BadAnswer___init__ => k_is)
      (case e_BadAnswer___init__ => k_is)
      (case k_BadAnswer___init__ => k_is)
      (case v_BadAnswer => first | k_is | kx_is | kts_exm | kit_is | kernel_rfl)
      (case a_BadKind => k_is)
      (case ini_BadKind => first | k_is | kx_is | kts_exm | kit_is | kernel_rfl)
      (case ovr_BadKind => first | k_is | kx_is | kts_exm | kit_is | kernel_rfl)
      (case dic_BadKind => first | k_is | kx_is | kts_exm | kit_is | kernel_rfl)
      (case sav_BadKind => first | k_is | kx_is | kts_exm | kit_is | kernel_rfl)
      (case bex_BadKind => first | k_is | kx_is | kts_exm | kit_is | kernel_rfl)
      (case tyc_BadKind => first | k_is | kx_is | kts_exm | kit_is | kernel_rfl)
      (case kpc_BadKind => first | k_is | kx_is | kts_exm | kit_is | kernel_rfl)
      (case xcl_BadKind => first | k_is | kx_is | kts_exm | kit_is | kernel_rfl)
      (case xga_BadKind => first | k_is | kx_is | kts_exm | kit_is | kernel_rfl)
      (case xgg_BadKind => first | k_is | kx_is | kts_exm | kit_is | kernel_rfl)
      (case xha_BadKind => first | k_is | kx_is | kts_exm | kit_is | kernel_rfl)
      (case xhn_BadKind => first | k_is | kx_is | kts_exm | kit_is | kernel_rfl)
      (case xht_BadKind => first | k_is | kx_is | kts_exm | kit_is | kernel_rfl)
      (case xhm_BadKind => first | k_is | kx_is | kts_exm | kit_is | kernel_rfl)
      (case tk_BadKind_wanted => first | k_is | kx_is | kts_exm | kit_is | kernel_rfl)
      (case na_BadKind_wanted => first | k_is | kx_is | kts_exm | kit_is | kernel_rfl)
      (case a_BadKind___init__ => k_is)
      (case y_BadKind___init__ => k_is)
      (case l_BadKind___init__ => k_is)
      (case e_BadKind___init__ => k_is)
      (case k_BadKind___init__ => k_is)
      (case v_BadKind => first | k_is | kx_is | kts_exm | kit_is | kernel_rfl)
      (case a_BadText => k_is)
      (case ini_BadText => first | k_is | kx_is | kts_exm | kit_is | kernel_rfl)
      (case dic_BadText => first | k_is | kx_is | kts_exm | kit_is | kernel_rfl)
      (case bex_BadText => first | k_is | kx_is | kts_exm | kit_is | kernel_rfl)
      (case kpc_BadText => first | k_is | kx_is | kts_exm | kit_is | kernel_rfl)
      (case xcl_BadText => first | k_is | kx_is | kts_exm | kit_is | kernel_rfl)
      (case xga_BadText => first | k_is | kx_is | kts_exm | kit_is | kernel_rfl)
      (case xgg_BadText => first | k_is | kx_is | kts_exm | kit_is | kernel_rfl)
      (case xha_BadText => first | k_is | kx_is | kts_exm | kit_is | kernel_rfl)
      (case xhn_BadText => first | k_is | kx_is | kts_exm | kit_is | kernel_rfl)
      (case xht_BadText => first | k_is | kx_is | kts_exm | kit_is | kernel_rfl)
      (case xhm_BadText => first | k_is | kx_is | kts_exm | kit_is | kernel_rfl)
      (case a_BadNumber => k_is)
      (case ini_BadNumber => first | k_is | kx_is | kts_exm | kit_is | kernel_rfl)
      (case ovr_BadNumber => first | k_is | kx_is | kts_exm | kit_is | kernel_rfl)
      (case dic_BadNumber => first | k_is | kx_is | kts_exm | kit_is | kernel_rfl)
      (case sav_BadNumber => first | k_is | kx_is | kts_exm | kit_is | kernel_rfl)
      (case bex_BadNumber => first | k_is | kx_is | kts_exm | kit_is | kernel_rfl)
      (case tyc_BadNumber => first | k_is | kx_is | kts_exm | kit_is | kernel_rfl)
      (case kpc_BadNumber => first | k_is | kx_is | kts_exm | kit_is | kernel_rfl)
      (case xcl_BadNumber => first | k_is | kx_is | kts_exm | kit_is | kernel_rfl)
      (case xga_BadNumber => first | k_is | kx_is | kts_exm | kit_is | kernel_rfl)
      (case xgg_BadNumber => first | k_is | kx_is | kts_exm | kit_is | kernel_rfl)
      (case xha_BadNumber => first | k_is | kx_is | kts_exm | kit_is | kernel_rfl)
      (case xhn_BadNumber => first | k_is | kx_is | kts_exm | kit_is | kernel_rfl)
      (case xht_BadNumber => first | k_is | kx_is | kts_exm | kit_is | kernel_rfl)
      (case xhm_BadNumber => first | k_is | kx_is | kts_exm | kit_is | kernel_rfl)
      (case tk_BadNumber_at => first | k_is | kx_is | kts_exm | kit_is | kernel_rfl)
      (case na_BadNumber_at => first | k_is | kx_is | kts_exm | kit_is | kernel_rfl)
      (case a_BadNumber___init__ => k_is)
      (case y_BadNumber___init__ => k_is)
      (case l_BadNumber___init__ => k_is)
      (case e_BadNumber___init__ => k_is)
      (case k_BadNumber___init__ => k_is)
      (case v_BadNumber => first | k_is | kx_is | kts_exm | kit_is | kernel_rfl)
      (case a_NoSuch => k_is)
      (case ini_NoSuch => first | k_is | kx_is | kts_exm | kit_is | kernel_rfl)
      (case ovr_NoSuch => first | k_is | kx_is | kts_exm | kit_is | kernel_rfl)
      (case dic_NoSuch => first | k_is | kx_is | kts_exm | kit_is | kernel_rfl)
      (case sav_NoSuch => first | k_is | kx_is | kts_exm | kit_is | kernel_rfl)
      (case bex_NoSuch => first | k_is | kx_is | kts_exm | kit_is | kernel_rfl)
      (case tyc_NoSuch => first | k_is | kx_is | kts_exm | kit_is | kernel_rfl)
      (case kpc_NoSuch => first | k_is | kx_is | kts_exm | kit_is | kernel_rfl)
      (case xcl_NoSuch => first | k_is | kx_is | kts_exm | kit_is | kernel_rfl)
      (case xga_NoSuch => first | k_is | kx_is | kts_exm | kit_is | kernel_rfl)
      (case xgg_NoSuch => first | k_is | kx_is | kts_exm | kit_is | kernel_rfl)
      (case xha_NoSuch => first | k_is | kx_is | kts_exm | kit_is | kernel_rfl)
      (case xhn_NoSuch => first | k_is | kx_is | kts_exm | kit_is | kernel_rfl)
      (case xht_NoSuch => first | k_is | kx_is | kts_exm | kit_is | kernel_rfl)
      (case xhm_NoSuch => first | k_is | kx_is | kts_exm | kit_is | kernel_rfl)
      (case tk_NoSuch_name => first | k_is | kx_is | kts_exm | kit_is | kernel_rfl)
      (case na_NoSuch_name => first | k_is | kx_is | kts_exm | kit_is | kernel_rfl)
      (case a_NoSuch___init__ => k_is)
      (case y_NoSuch___init__ => k_is)
      (case l_NoSuch___init__ => k_is)
      (case e_NoSuch___init__ => k_is)
      (case k_NoSuch___init__ => k_is)
      (case v_NoSuch => first | k_is | kx_is | kts_exm | kit_is | kernel_rfl)
      (case a_TooMany => k_is)
      (case ini_TooMany => first | k_is | kx_is | kts_exm | kit_is | kernel_rfl)
      (case ovr_TooMany => first | k_is | kx_is | kts_exm | kit_is | kernel_rfl)
      (case dic_TooMany => first | k_is | kx_is | kts_exm | kit_is | kernel_rfl)
      (case sav_TooMany => first | k_is | kx_is | kts_exm | kit_is | kernel_rfl)
      (case bex_TooMany => first | k_is | kx_is | kts_exm | kit_is | kernel_rfl)
      (case tyc_TooMany => first | k_is | kx_is | kts_exm | kit_is | kernel_rfl)
      (case kpc_TooMany => first | k_is | kx_is | kts_exm | kit_is | kernel_rfl)
      (case xcl_TooMany => first | k_is | kx_is | kts_exm | kit_is | kernel_rfl)
      (case xga_TooMany => first | k_is | kx_is | kts_exm | kit_is | kernel_rfl)
      (case xgg_TooMany => first | k_is | kx_is | kts_exm | kit_is | kernel_rfl)
      (case xha_TooMany => first | k_is | kx_is | kts_exm | kit_is | kernel_rfl)
      (case xhn_TooMany => first | k_is | kx_is | kts_exm | kit_is | kernel_rfl)
      (case xht_TooMany => first | k_is | kx_is | kts_exm | kit_is | kernel_rfl)
      (case xhm_TooMany => first | k_is | kx_is | kts_exm | kit_is | kernel_rfl)
      (case tk_TooMany_most => first | k_is | kx_is | kts_exm | kit_is | kernel_rfl)
      (case na_TooMany_most => first | k_is | kx_is | kts_exm | kit_is | kernel_rfl)
      (case a_TooMany___init__ => k_is)
      (case y_TooMany___init__ => k_is)
      (case l_TooMany___init__ => k_is)
      (case e_TooMany___init__ => k_is)
      (case k_TooMany___init__ => k_is)
      (case v_TooMany => first | k_is | kx_is | kts_exm | kit_is | kernel_rfl)
      (case a_Stopped => k_is)
      (case ini_Stopped => first | k_is | kx_is | kts_exm | kit_is | kernel_rfl)
      (case ovr_Stopped => first | k_is | kx_is | kts_exm | kit_is | kernel_rfl)
      (case dic_Stopped => first | k_is | kx_is | kts_exm | kit_is | kernel_rfl)
      (case sav_Stopped => first | k_is | kx_is | kts_exm | kit_is | kernel_rfl)
      (case bex_Stopped => first | k_is | kx_is | kts_exm | kit_is | kernel_rfl)
      (case tyc_Stopped => first | k_is | kx_is | kts_exm | kit_is | kernel_rfl)
      (case kpc_Stopped => first | k_is | kx_is | kts_exm | kit_is | kernel_rfl)
      (case xcl_Stopped => first | k_is | kx_is | kts_exm | kit_is | kernel_rfl)
      (case xga_Stopped => first | k_is | kx_is | kts_exm | kit_is | kernel_rfl)
      (case xgg_Stopped => first | k_is | kx_is | kts_exm | kit_is | kernel_rfl)
      (case xha_Stopped => first | k_is | kx_is | kts_exm | kit_is | kernel_rfl)
      (case xhn_Stopped => first | k_is | kx_is | kts_exm | kit_is | kernel_rfl)
      (case xht_Stopped => first | k_is | kx_is | kts_exm | kit_is | kernel_rfl)
      (case xhm_Stopped => first | k_is | kx_is | kts_exm | kit_is | kernel_rfl)
      (case tk_Stopped_at => first | k_is | kx_is | kts_exm | kit_is | kernel_rfl)
      (case na_Stopped_at => first | k_is | kx_is | kts_exm | kit_is | kernel_rfl)
      (case a_Stopped___init__ => k_is)
      (case y_Stopped___init__ => k_is)
      (case l_Stopped___init__ => k_is)
      (case e_Stopped___init__ => k_is)
      (case k_Stopped___init__ => k_is)
      (case v_Stopped => first | k_is | kx_is | kts_exm | kit_is | kernel_rfl)
      (case a__law_mixed => k_is)
      (case l__law_mixed => k_is)
      (case e__law_mixed => k_is)
      (case k__law_mixed => k_is)
      (case a__law_take => k_is)
      (case l__law_take => k_is)
      (case e__law_take => k_is)
      (case k__law_take => k_is)
      (case a__law_words => k_is)
      (case l__law_words => k_is)
      (case e__law_words => k_is)
      (case k__law_words => k_is)
      (case a__law_kinds => k_is)
      (case l__law_kinds => k_is)
      (case e__law_kinds => k_is)
      (case k__law_kinds => k_is)
      (case a__law_thing_by => k_is)
      (case l__law_thing_by => k_is)
      (case e__law_thing_by => k_is)
      (case k__law_thing_by => k_is)
      (case a__law_rows => k_is)
      (case l__law_rows => k_is)
      (case e__law_rows => k_is)
      (case k__law_rows => k_is)
      (case a__law_fields => k_is)
      (case l__law_fields => k_is)
      (case e__law_fields => k_is)
      (case k__law_fields => k_is)
      (case a_law => k_is)
      (case l_law => k_is)
      (case e_law => k_is)
      (case k_law => k_is)
      (case x_stat => first | k_is | kx_is | kts_exm | kit_is | kernel_rfl)
      (case x_kit_BadPaper => first | k_is | kx_is | kts_exm | kit_is | kernel_rfl)
      (case x_kit_Flawed => first | k_is | kx_is | kts_exm | kit_is | kernel_rfl)
      (case x_kit_BadLine => first | k_is | kx_is | kts_exm | kit_is | kernel_rfl)
      (case x_kit_Busy => first | k_is | kx_is | kts_exm | kit_is | kernel_rfl)
      (case x_kit_Gone => first | k_is | kx_is | kts_exm | kit_is | kernel_rfl)
      (case x_kit_BadAnswer => first | k_is | kx_is | kts_exm | kit_is | kernel_rfl)
      (case x_kit_BadKind => first | k_is | kx_is | kts_exm | kit_is | kernel_rfl)
      (case x_kit_BadText => first | k_is | kx_is | kts_exm | kit_is | kernel_rfl)
      (case x_kit_BadNumber => first | k_is | kx_is | kts_exm | kit_is | kernel_rfl)
      (case x_kit_NoSuch => first | k_is | kx_is | kts_exm | kit_is | kernel_rfl)
      (case x_kit_TooMany => first | k_is | kx_is | kts_exm | kit_is | kernel_rfl)
      (case x_kit_Stopped => first | k_is | kx_is | kts_exm | kit_is | kernel_rfl)
      (case x_kit_SortError => first | k_is | kx_is | kts_exm | kit_is | kernel_rfl)
      (case z_len => k_is)
      (case z_min => k_is)
      (case z_max => k_is)
      (case z_range => k_is)
      (case z_repr => k_is)
      (case z_isinstance => k_is)
      (case z_int => k_is)
      (case z_bool => k_is)
      (case z_list => k_is)
      (case z_zip => k_is)
      (case z_Exception => k_is)
      (case z_TypeError => k_is)
      (case z_ValueError => k_is)
      (case z_IndexError => k_is)
      (case z_KeyError => k_is)
      (case z_LookupError => k_is)
      (case z_OverflowError => k_is)
      (case z_ArithmeticError => k_is)
      (case z_RuntimeError => k_is)
      (case z_ZeroDivisionError => k_is)
    exact ⟨_, _, T.c_law, fun base => K02.ok_law T⟩
