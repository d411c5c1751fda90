import PyProof.Rows.All
import Wide.All
import OpenK.AllK
import Wide.FinOn
import HandS.ForMost
import HandS.EndBits
import HandS.Defaults
import HandS.WideBits
import HandS.Style
import HandS.IsInst
import HandS.NoneIn
import HandS.More
import HandS.MakeKwOnly
import HandS.CallLocal
import HandS.SortKw
import HandS.TupMul
import HandS.TupAny
import KE.DataMinMax
import KE.KMinKey
import HandS.FStr
import HandS.SlotsOwn
import HandS.Codes
import HandS.Walk
import HandS.ExcInit
import HandS.ExcField
import HandS.ExcIs
import HandS.ExcOwn
import HandS.Lambda
import HandS.TryMany
import KE.KExcInit
import KE.KExcIs
import PyProof.Rows.RuleDivmod
import HandS.EndTab
import KE.KNestM
import HandS.WordsExc
import HandS.Conv
import HandS.SetFor
import PyProof.Rows.IntBool
import PyProof.StrReplace2
import HandS.DeepEq
import PyProof.Rows.SeqMore
import KE.KExcLine
import KE.RegKTryMore
import PySem.Challenge.RW_runsort_k01_digits_and_rows
set_option Elab.async false
set_option maxRecDepth 100000
set_option maxHeartbeats 4000000
namespace Rs
open PySem PySem.Spec PyProof.Rows L2

/-! ### a promise that is kept while no text of a container is under way -/
def Clr (A : Around) : Prop := A.guards = some []
theorem Clr.deep {A : Around} (c : Clr A) (e : Env) : Clr (A.deeper e) := c

structure FnG (P : Program) (w : World) (K : PySem.W.Frag) (mg : Str → Option Value) (base : Heap) (k : Nat) (f : Addr) (fd : FuncData) (ps : List Str) (sp : Sp) : Prop where
  many : ∀ vs H Q E, sp vs H Q E → vs.length = ps.length
  go : ∀ (A : Around) (o : List Env) (s : Shared) (H : Hp) (us : List Value) (a : Args) (vs : List V) (Q : VK) (E : XK), Clr A → Room k A → Env0 P w K mg base A o s H →
    BindsTo s fd a (ps.zip us) → Vals vs us → sp vs H Q E → codeAny (model P w) A (.call (.ref f) a) (CR CX0 o P w H s Q E) s
theorem FnG.up {P : Program} {w : World} {K : PySem.W.Frag} {mg : Str → Option Value} {base : Heap} {j k : Nat} {f : Addr} {fd : FuncData} {ps : List Str} {sp : Sp}
    (F : FnG P w K mg base j f fd ps sp) (h : j ≤ k) : FnG P w K mg base k f fd ps sp :=
  ⟨F.many, fun A o s H us a vs Q E c r => F.go A o s H us a vs Q E c (r.mono h)⟩
theorem FnG.of {P : Program} {w : World} {K : PySem.W.Frag} {mg : Str → Option Value} {base : Heap} {k : Nat} {f : Addr} {fd : FuncData} {ps : List Str} {sp : Sp}
    (F : FnOk P w K mg base CX0 k f fd ps sp) : FnG P w K mg base k f fd ps sp :=
  ⟨F.len, fun A o s H us a vs Q E _ r e b v h => F.run A o s H a us vs Q E r e b v h⟩

section
variable {P : Program} {w : World} {K : PySem.W.Frag} {mg : Str → Option Value} {base : Heap}
/-- a def by its body, as FnG -/
theorem defG {x qual : Str} {st : Stmt} {f : Addr} {fd : FuncData} {N ps : List Str} {k : Nat} {sp : Sp} (F : Fun K x qual st f fd) (S : FnScope N ps (defScope st))
    (many : ∀ vs H Q E, sp vs H Q E → vs.length = ps.length)
    (body : ∀ (cdv : Value) (A : Around) (o : List Env) (s : Shared) (H : Hp) (vs : List V) (Q : VK) (E : XK), Clr A →
      Room k (A.deeper (envOfC qual (defScope st) s.heap.objs.size f cdv)) → sp vs H Q E →
      ∃ t, PSs (cxOf CX0 P w K mg base N qual (defScope st) f cdv A o s H E).nox (defBody st) t ∧ t { nx := fun _ H' => Q .non H', rt := Q } (start N vs) H) :
    FnG P w K mg base (k + 1) f fd ps sp := by
  obtain ⟨oc, od, kV, doc, pm, an, cdv, ct, osl, rfl, lk, hcd⟩ := F.ex
  refine ⟨many, ?_⟩
  intro A o s H us a vs Q E c r e0 hb rv hsp
  obtain ⟨t, ht, hq⟩ := body cdv A o s H vs Q E c (r.deeper _) hsp
  have inK : ∀ b ob, K.lookup b = some ob → s.heap.get? b = some ob := fun b ob e => (e0.bs b ob (e0.mod.kin b ob e)).1
  have noL : s.heap.NoLimit := e0.mod.nolimit.keeps fun b ob e => (e0.bs b ob e).1
  refine codeAny_call_function r.depth (inK _ _ lk) rfl S.co S.gen rfl (PySem.W.codeRec_of inK hcd) (hb _ _ _ _ ?_)
  refine wpAny_newFunctionEnv_cells S.kind ?_ ?_
  · rintro ⟨n, v⟩ hy
    rcases S.par n (List.of_mem_zip hy).1 with q | q
    · exact Or.inl q
    · exact Or.inr ⟨q, PySem.W.cellsFrom_some _ _ _ (Or.inl q)⟩
  · intro env he s1 x1
    subst he
    refine ⟨noL.keeps x1.toInCall.keep, codeAny_func ?_⟩
    have J := inv_start (CX := CX0) (mg := mg) (E := E) (qual := qual) S r.hd e0 (many _ _ _ _ hsp) rv x1
    refine wpAny_mono (ht.nox.run [] s1 _ H _ J hq) ?_ ?_
    · intro fl s2 h2
      cases fl with
      | next => obtain ⟨_, H2, J2, q2⟩ := h2; exact ⟨V.non, H2, J2.os, J2.bare, J2.base, J2.hok, rfl, q2⟩
      | ret u => obtain ⟨v, _, H2, J2, r2, q2⟩ := h2; exact ⟨v, H2, J2.os, J2.bare, J2.base, J2.hok, r2, q2⟩
      | brk => obtain ⟨_, _, _, q2⟩ := h2; exact q2.elim
      | cont => obtain ⟨_, _, _, q2⟩ := h2; exact q2.elim
    · intro e s2 h2; exact h2
end

section
variable {X : Cx} {k : Nat} {f : Addr} {fd : FuncData} {ps : List Str} {sp : Sp} {dvs : List V} {ds : List Value} {x : Str} {p pos : Pos} {e : Expr} {es : List Expr} {t : TA}
theorem goG {pins : List (Addr × Obj)} {σ : L2.St} {H : Hp} {s : Shared} {Q : VK} {us : List Value} {vs : List V} (F : FnG X.prog X.w X.K X.mg X.base k f fd ps sp) (c : Clr X.A) (hr : Room k X.A)
    (hb : Binds X.K fd ps ds) (hd : Vals dvs ds) (I : Inv X pins σ H s) (r : Vals vs us) (h : sp (vs ++ dvs) H Q E0) : wpAny (model X.prog X.w) X.A (call (.ref f) us) (EP X pins σ Q) X.xe s := by
  have r2 := r.append hd
  have hl : (us ++ ds).length = ps.length := r2.length.symm.trans (F.many _ _ _ _ h)
  apply wpAny_call
  refine codeAny_mono (F.go X.A X.stack s H (us ++ ds) ⟨us, []⟩ (vs ++ dvs) Q E0 c hr I.env0 (hb s us I.kIn hl) r2 h) ?_
  intro q s2 h2
  match q, h2 with
  | .error _, h2 => exact h2.elim
  | .ok (.ret _), h2 => exact I.after h2
  | .ok .next, h2 => exact h2.elim
  | .ok .brk, h2 => exact h2.elim
  | .ok .cont, h2 => exact h2.elim
/-- f(e, ..) of such a def -/
theorem pe_callG (F : FnG X.prog X.w X.K X.mg X.base k f fd ps sp) (c : Clr X.A) (hr : Room k X.A) (hg : Gl X x) (hm : X.mg x = some (.ref f)) (hk : PySem.W.keepIn X.K (.ref f) = true)
    (hb : Binds X.K fd ps ds) (hd : Vals dvs ds) (ha : PA X (e :: es) t) (hdb : (x == ("__debug__" : Str)) = false := by decide)
    (he : starEach (e :: es) X.env = (false, eval e X.env) :: starEach es X.env := by rfl) (hpl : (backTo pos (starEach es X.env)).any (·.1) = false := by rfl) :
    PE X (.Call (.Name x p) (e :: es) [] pos) (tCall sp dvs E0 t) := by
  constructor
  intro pins s σ H Q I h
  apply wpAny_Call_Name_kw
  refine ld_glob I hg hm ?_ hdb
  refine PySem.W.callWith_K (h₀ := X.base) I.ok.mod.kin hk ?_ he hpl
  refine thn (ha.run pos pins s σ H _ I h) ?_
  rintro us s1 ⟨vs, H1, I1, r, q⟩
  exact ⟨I1.kIn, goG F c hr hb hd I1 r q⟩
theorem pe_callG0 (F : FnG X.prog X.w X.K X.mg X.base k f fd ps sp) (c : Clr X.A) (hr : Room k X.A) (hg : Gl X x) (hm : X.mg x = some (.ref f)) (hk : PySem.W.keepIn X.K (.ref f) = true)
    (hb : Binds X.K fd ps ds) (hd : Vals dvs ds) (hdb : (x == ("__debug__" : Str)) = false := by decide) : PE X (.Call (.Name x p) [] [] pos) (tCall sp dvs E0 tNil) := by
  constructor
  intro pins s σ H Q I h
  apply wpAny_Call_Name_kw
  refine ld_glob I hg hm ?_ hdb
  exact PySem.W.callWith_K0 I.kIn hk (goG (us := []) F c hr hb hd I .nil h)
end

/-! ### repr of data -/
/-- data that can be shown -/
structure Shw (d : PyData) : Prop where
  ok : d.showable = true
  sz : d.shown.length ≤ sizeLine
def rRepr (K : PySem.W.Frag) : List V → Hp → VK → Prop := fun xs H Q => ∃ x d, xs = [x] ∧ Dp K H x d ∧ Shw d ∧ d.depth ≤ 50 ∧ Q (.str d.shown) H
mutual
theorem dp_noDict {K : PySem.W.Frag} {H : Hp} : ∀ (d : PyData) (v : V), Dp K H v d → d.hasDict = false
  | .none, _, _ => by simp only [PyData.hasDict]
  | .bool _, _, _ => by simp only [PyData.hasDict]
  | .int _, _, _ => by simp only [PyData.hasDict]
  | .str _, _, _ => by simp only [PyData.hasDict]
  | .list ds, _, h => by
    cases h with
    | lst _ ha => simp only [PyData.hasDict]; exact dps_noDict ds _ ha
  | .tuple ds, _, h => by
    cases h with
    | tup _ ha => simp only [PyData.hasDict]; exact dps_noDict ds _ ha
  | .dict _, _, h => by cases h
theorem dps_noDict {K : PySem.W.Frag} {H : Hp} : ∀ (ds : List PyData) (vs : List V), DpAll K H vs ds → PyData.hasDictAll ds = false
  | [], _, _ => by simp only [PyData.hasDictAll]
  | d :: ds, _, h => by
    cases h with
    | cons h1 h2 => simp only [PyData.hasDictAll, dp_noDict d _ h1, dps_noDict ds _ h2, Bool.or_self]
end
section
variable {X : Cx}
theorem call_repr {k : Nat} (c : Clr X.A) (hr : Room k X.A) : CallR X (.builtin "repr") (rRepr X.K) := by
  intro pins s σ H xs us Q I r h
  obtain ⟨x, d, rfl, hd, hs, hdp, q⟩ := h
  cases r with
  | cons r1 r2 =>
    cases r2
    rename_i u
    have nd := dp_noDict d x hd
    obtain ⟨as, rd⟩ := Dp.reads I d x u hd r1
    have fin : ∀ h' t tk, (∀ b o, s.heap.get? b = some o → h'.get? b = some o) → EP X pins σ Q (.str d.shown t) { s with heap := h', toks := tk } :=
      fun h' t tk kp => ⟨.str d.shown, H, I.kept kp, ⟨t, rfl⟩, q⟩
    have un := hr.units
    have room : X.A.units + (d.depth + 1) < cLine := by omega
    cases x with
    | ref a =>
      cases (show u = Value.ref a from r1)
      exact repr_of_reads' (s := s) rd hs.ok (PyData.noDict_hsm nd) c room (fun _ _ e => e) fin hs.sz
    | non =>
      cases (show u = Value.none from r1)
      cases hd
      have e : PyData.shown .none = ("None" : Str) := by simp only [PyData.shown]
      rw [e] at q
      exact PySem.P.repr_of_none ⟨.str _, H, I.tok _, ⟨_, rfl⟩, q⟩
    | bl b =>
      cases (show u = Value.bool b from r1)
      cases hd
      have e : PyData.shown (.bool b) = ((if b then "True" else "False" : String) : Str) := by cases b <;> simp only [PyData.shown] <;> rfl
      rw [e] at q
      cases b <;> exact PySem.P.repr_of_bool ⟨.str _, H, I.tok _, ⟨_, rfl⟩, q⟩
    | int i =>
      obtain ⟨t, rfl⟩ := (show ∃ t, u = Value.int i t from r1)
      cases hd
      have e : PyData.shown (.int i) = ((toString i : String) : Str) := by simp only [PyData.shown]
      have z : i.natAbs.log2 < 1920 := by simpa [PyData.showable] using hs.ok
      rw [e] at q
      exact PySem.P.repr_of_int z ⟨.str _, H, I.tok _, ⟨_, rfl⟩, q⟩
    | str x =>
      obtain ⟨t, rfl⟩ := (show ∃ t, u = Value.str x t from r1)
      cases hd
      have e : PyData.shown (.str x) = reprText x := by simp only [PyData.shown]
      have z := hs.sz
      rw [e] at q z
      exact PySem.P.repr_of_str ⟨.str _, H, I.tok _, ⟨_, rfl⟩, q⟩ z
    | byt _ => cases hd
    | flt _ => cases hd
    | ty _ => cases hd
end

/-! ### slices with a step -/
/-- the places that a slice takes -/
def slIx (n : Nat) (lo hi st : Option Int) : List Nat := sliceRange (sliceBounds lo hi st n).1 (sliceBounds lo hi st n).2.1 (sliceBounds lo hi st n).2.2
def pickV (xs : List V) (lo hi st : Option Int) : List V := (slIx xs.length lo hi st).filterMap (xs[·]?)
theorem vals_pick {xs : List V} {us : List Value} (r : Vals xs us) : ∀ ix : List Nat, Vals (ix.filterMap (xs[·]?)) (ix.filterMap (us[·]?))
  | [] => .nil
  | i :: ix => by
    have ih := vals_pick r ix
    cases e : xs[i]? with
    | none =>
      have e' := r.none_of e
      rw [List.filterMap_cons_none e, List.filterMap_cons_none e']
      exact ih
    | some x =>
      obtain ⟨u, e', ru⟩ := r.get e
      rw [List.filterMap_cons_some e, List.filterMap_cons_some e']
      exact .cons ru ih
def tSl3 (K : PySem.W.Frag) (te : TE) (tl th ts : TO) : TE := fun σ H Q => te σ H fun x H1 => tl σ H1 fun l H2 => th σ H2 fun u H3 => ts σ H3 fun st H4 => ∃ a xs, x = .ref a ∧ SqL K H4 a xs ∧ st ≠ some 0 ∧
  ∀ p, H4 p = none → Q (.ref p) (upd H4 p (.lst (pickV xs l u st)))
section
variable {X : Cx}
theorem pe_slice3 {e : Expr} {te : TE} {lo hi st : Option Expr} {tl th ts : TO} {p2 pos : Pos} (he : PE X e te) (hl : PO X lo tl) (hh : PO X hi th) (hs : PO X st ts)
    (hsub : ∀ ov iv, subscripted (.Slice lo hi st p2) false ov iv = operate [ov, iv] (getItem ov iv) := by intro _ _; with_unfolding_all rfl) : PE X (.Subscript e (.Slice lo hi st p2) pos) (tSl3 X.K te tl th ts) := by
  constructor
  intro pins s σ H Q I h
  refine PyProof.Rows.Subscript_ (thn (he.run pins s σ H _ I h) ?_)
  rintro v s1 ⟨x, H1, I1, r1, q1⟩
  refine wpAny_Slice (thn (hl.run pins s1 σ H1 _ I1 q1) ?_)
  rintro vl s2 ⟨l, H2, I2, pl, q2⟩
  refine thn (hh.run pins s2 σ H2 _ I2 q2) ?_
  rintro vu s3 ⟨u, H3, I3, pu, q3⟩
  refine thn (hs.run pins s3 σ H3 _ I3 q3) ?_
  rintro vs s4 ⟨c, H4, I4, ps, a, xs, ex, hx, h0, q4⟩
  subst ex
  cases r1
  have I5 : Inv X pins σ H4 { s4 with heap := s4.heap.push { cls := .type "slice", data := .fields #[vl, vu, vs] } } := I4.kept (t' := s4.toks) fun b ob q => Heap.get?_push_of_some _ q
  obtain ⟨its, rv, ht, hz⟩ := I5.list hx
  have hlen : its.length = xs.length := rv.length.symm
  show wpAny (model X.prog X.w) X.A (subscriptTail e (.Slice lo hi st p2) (.ref a) (.ref s4.heap.objs.size)) (EP X pins σ Q) X.xe _
  refine tail_any (ops := [.ref a, .ref s4.heap.objs.size]) ht.isList.typeIs PySem.slot_list_getitem.lookup ?_ (hsub _ _)
  refine wpAny_getItem_list_slice ht.isList (Heap.IsSliceOf.new _ vl vu vs) pl pu ps h0 ?_ (by rw [List.size_toArray, hlen]; exact hz)
  have hp : PySem.slicePick its.toArray l u c = ((slIx xs.length l u c).filterMap (its[·]?)).toArray := by
    unfold PySem.slicePick slIx
    rw [List.size_toArray, hlen]
    simp only [List.getElem?_toArray]
  have hn := PySem.slicePick_size_le its.toArray l u c
  rw [hp, List.size_toArray, List.size_toArray, hlen] at hn
  rw [hp]
  refine ⟨.ref _, _, I5.laid (t' := s4.toks) (o := .lst (pickV xs l u c)) (fun b ob q => Heap.get?_push_of_some _ q) (Nat.le_refl _) ?_, rfl, q4 _ (I5.hok.fresh (Nat.le_refl _))⟩
  refine ⟨?_, _, 0, vals_pick rv _, Heap.get?_push_size _ rfl⟩
  have e := (vals_pick rv (slIx xs.length l u c)).length
  show (List.filterMap (fun i => xs[i]?) (slIx xs.length l u c)).length ≤ sizeLine
  rw [e]
  exact Nat.le_trans hn hz
end

/-! ### a call by keywords alone -/
section
variable {X : Cx} {CX : CXT} {k : Nat} {f : Addr} {fd : FuncData} {ps ks : List Str} {sp : Sp} {E : XK} {x : Str} {p pos : Pos} {kws : List Keyword} {tk : TA} {g : List Value → List Value → List Value} {gV : List V → List V → List V}
theorem pe_callK0 (F : FnOk X.prog X.w X.K X.mg X.base CX k f fd ps sp) (hr : Room k X.A) (hg : Gl X x) (hm : X.mg x = some (.ref f)) (hk : PySem.W.keepIn X.K (.ref f) = true) (hb : KBn X.K fd ps 0 ks g gV) (hx : Passes CX X E)
    (hkw : PK X kws tk) (hall : (backToKw pos (keywordEach kws X.env)).all (·.1.isSome) = true := by rfl) (hks : (backToKw pos (keywordEach kws X.env)).filterMap (·.1) = ks := by rfl)
    (hdb : (x == ("__debug__" : Str)) = false := by decide) : PE X (.Call (.Name x p) [] kws pos) (tCallN 0 ks.length sp gV E tNil tk) := by
  constructor
  intro pins s σ H Q I h
  apply wpAny_Call_Name_kw
  refine ld_glob I hg hm ?_ hdb
  have np : ((backTo pos (starEach [] X.env)).any (·.1) || (backToKw pos (keywordEach kws X.env)).any (·.1.isNone)) = false := by
    have z : ∀ l : List (Option Str × Sem Value), l.all (·.1.isSome) = true → l.any (·.1.isNone) = false := by
      intro l hl
      induction l with
      | nil => rfl
      | cons q l ih =>
        simp only [List.all_cons, Bool.and_eq_true] at hl
        simp only [List.any_cons, ih hl.2, Bool.or_false]
        cases e : q.1 with
        | none => rw [e] at hl; exact absurd hl.1 (by decide)
        | some _ => rfl
    rw [z _ hall]; rfl
  refine PySem.W.callWith_KW0 (h₀ := X.base) I.ok.mod.kin hk hall ?_ np
  refine thn (hkw.run pos pins s σ H _ I h) ?_
  rintro ws s1 ⟨zs, H1, I1, rz, _, l2, q⟩
  refine ⟨I1.kIn, ?_⟩
  rw [hks]
  exact run_fnN (us := []) F hr hb hx I1 .nil rz rfl l2 q
end

/-! ### the law's own call -/
/-- the heap that knows of nothing but the script (at a, where it stands apart) -/
def scriptH (own : Bool) (a : Addr) (o : Obj) (ns : List Int) : Hp := fun b => if own = true ∧ b = a then some (.frz o (.lst (ns.map V.int))) else none
theorem scriptH_only (own : Bool) (a : Addr) (o : Obj) (ns : List Int) : Only (scriptH own a o ns) := fun b => by
  unfold scriptH
  split
  · exact Or.inr ⟨_, _, rfl⟩
  · exact Or.inl rfl
theorem scriptH_some {own : Bool} {a b : Addr} {o : Obj} {ns : List Int} {u : HO} (h : scriptH own a o ns b = some u) : own = true ∧ b = a ∧ u = .frz o (.lst (ns.map V.int)) := by
  unfold scriptH at h
  split at h
  · rename_i z; exact ⟨z.1, z.2, (Option.some.inj h).symm⟩
  · cases h
theorem lawG {P : Program} {w : World} {K : PySem.W.Frag} {mg mb : Str → Option Value} {k : Nat} {fa a : Addr} {fd : FuncData} {x : Str} {sp : Sp} {s : Shared} {vs : List Value} {ns : List Int}
    (KX : K.In s.heap) (hm : s.heap.Ns mainGlobals mg) (hb : s.heap.Ns builtinsNs mb) (hbb : ∀ x : Str, x ≠ "__name__" → mb x = bootBuiltins x) (hlim : s.heap.NoLimit) (hg : s.gens = #[])
    (ha : s.heap.get? a = some { cls := .type "list", data := .seq vs.toArray }) (hi : IntsAre vs ns) (hl : ns.length ≤ sizeLine) (hr : Room k callerA)
    (F : ∀ base : Heap, K.In base → base.Ns mainGlobals mg → FnG P w K mg base k fa fd [x] sp) (hbind : ∀ (s : Shared) (u : Value), BindsTo s fd ⟨[u], []⟩ [(x, u)])
    (hsp : ∀ H : Hp, Only H → SqL K H a (ns.map V.int) → sp [.ref a] H (fun v _ => v = .bl true) E0) :
    codeAny (model P w) callerA (.call (.ref fa) ⟨[.ref a], []⟩) (fun r s' => r = .ok (.ret (.bool true)) ∧ OldK s.heap s'.heap ∧ s'.os = s.os ∧ AllBare s'.gens) s := by
  have rv := vals_ints hi
  have lv := hi.length
  -- own: the script is no object of the written part
  have key : ∀ own : Bool, (own = true → K.lookup a = none) → (own = false → ∃ o, K.lookup a = some o) →
      codeAny (model P w) callerA (.call (.ref fa) ⟨[.ref a], []⟩) (fun r s' => r = .ok (.ret (.bool true)) ∧ OldK s.heap s'.heap ∧ s'.os = s.os ∧ AllBare s'.gens) s := by
    intro own h1 h2
    have hO := scriptH_only own a { cls := .type "list", data := .seq vs.toArray } ns
    have hS := fun {b : Addr} {u : HO} => scriptH_some (own := own) (a := a) (b := b) (o := { cls := .type "list", data := .seq vs.toArray }) (ns := ns) (u := u)
    generalize eH : scriptH own a { cls := .type "list", data := .seq vs.toArray } ns = H at hO hS
    have frs0 : ∀ {b : Addr} {o : Obj} {es : Array DictEntry} {n : Nat}, s.heap.get? b = some o → o.data = .dict es n → H b = none := by
      intro b o es n e d
      cases q : H b with
      | none => rfl
      | some u =>
        obtain ⟨_, rfl, _⟩ := hS q
        rw [ha] at e
        cases e
        have d' : Data.seq vs.toArray _ = Data.dict es n := d
        cases d'
    have ns0 : ∀ {b : Addr} {m : Str → Option Value}, s.heap.Ns b m → (hidT s.heap H).Ns b m := by
      rintro b m ⟨o, es, n, e, d, r⟩
      exact ⟨o, es, n, hidT_get e (frs0 e d), d, r⟩
    have K0 : K.In (hidT s.heap H) := by
      intro b o e
      refine hidT_get (KX b o e) ?_
      cases q : H b with
      | none => rfl
      | some u =>
        obtain ⟨z, rfl, _⟩ := hS q
        rw [h1 z] at e
        cases e
    have hok : HOk P w H s.heap := by
      intro b u q
      obtain ⟨_, rfl, rfl⟩ := hS q
      exact ⟨ha, by rw [List.length_map]; exact hl, vs, _, rv, ha⟩
    have M0 : Mod K mg (hidT s.heap H) := by
      refine ⟨K0, ns0 hm, ⟨mb, ns0 hb, hbb⟩, ?_⟩
      obtain ⟨mc, q1, q2⟩ := hlim
      exact ⟨mc, ns0 q1, q2⟩
    have env : Env0 P w K mg (hidT s.heap H) callerA [] s H := by
      refine ⟨rfl, M0, fun b o e => of_hidT e, Nat.le_of_eq (hidT_size _ _), trivial, ?_, hok, .of_eq hg⟩
      intro b hb'
      cases hb'
    have sq : SqL K H a (ns.map V.int) := by
      cases own with
      | true => exact Or.inl (Or.inr ⟨_, by rw [← eH]; exact if_pos ⟨rfl, rfl⟩⟩)
      | false =>
        obtain ⟨o, e⟩ := h2 rfl
        have e' := KX a o e
        rw [ha] at e'
        cases e'
        exact Or.inr ⟨_, vs.toArray, _, e, rfl, rfl, rfl, by rw [List.size_toArray, lv]; exact hl, by simpa using rv⟩
    refine codeAny_mono ((F _ K0 (ns0 hm)).go callerA [] s H [.ref a] ⟨[.ref a], []⟩ [.ref a] _ E0 rfl hr env (hbind s (.ref a)) (.cons rfl .nil) (hsp H hO sq)) ?_
    intro r s' h
    match r, h with
    | .error _, h => exact h.elim
    | .ok .next, h => exact h.elim
    | .ok .brk, h => exact h.elim
    | .ok .cont, h => exact h.elim
    | .ok (.ret u), h =>
      obtain ⟨v, H', os, bare, un, hok', r', q⟩ := h
      cases (show v = .bl true from q)
      cases (show u = Value.bool true from r')
      refine ⟨rfl, OldK.of_keep ?_, os, bare⟩
      intro b o e
      cases q : H b with
      | none => exact un.keep b o e q (fun z => nomatch z) (fun z => nomatch z)
      | some u =>
        obtain ⟨_, rfl, rfl⟩ := hS q
        rw [ha] at e
        cases e
        obtain ⟨e2, _⟩ := hok' b _ (un.frzs b _ _ q)
        exact e2
  cases hk : K.lookup a with
  | some o => exact key false (fun z => Bool.noConfusion z) (fun _ => ⟨o, hk⟩)
  | none => exact key true (fun _ => hk) (fun z => Bool.noConfusion z)
theorem walkG {l : PySem.W.OpenLaw} {n k : Nat} {q : Program} {loose : List Str} {XP : (Str → Option Value) → Heap → Prop} {YP : World → Heap → Prop} {d : DefRec} {K : Params → PySem.W.Frag} {sp : PySem.W.Frag → Sp} {x : Str}
    (hn : l.most = some n) (hn2 : n ≤ sizeLine) (hdf : d.params.defaults = []) (hr : Room k callerA) (hY : ∀ (w : World) (h : Heap), YP w h → (K w.params).In h)
    (F : ∀ (w : World) (mg : Str → Option Value) (fa : Addr) (h : Heap), (K w.params).In h → h.Ns mainGlobals mg → mg d.name = some (.ref fa) →
      ∃ fd : FuncData, (∀ (s : Shared) (u : Value), BindsTo s fd ⟨[u], []⟩ [(x, u)]) ∧
        ∀ base : Heap, (K w.params).In base → base.Ns mainGlobals mg → FnG l.prog w (K w.params) mg base k fa fd [x] (sp (K w.params)))
    (hsp : ∀ (K : PySem.W.Frag) (H : Hp) (a : Addr) (ns : List Int), ns.length ≤ n → (∀ z ∈ ns, Builtin.Int.intBits z ≤ 1048576) → SqL K H a (ns.map V.int) → sp K [.ref a] H (fun v _ => v = .bl true) E0) :
    PySem.W.WalkO q loose XP YP l.row.toRowW d [] (fun f vs => PySem.call f vs) := by
  apply Att.attach_callB hn hdf
  intro w s0 s1 mg mb fa o pm cd doc a vs ns G Y ho hd hcd hmg hobj hints hlen hbits hg
  have KX := hY w _ Y
  obtain ⟨fd, hb, hF⟩ := F w mg fa _ KX G.T.g hmg
  exact lawG KX G.T.g G.T.b G.T.builtins G.T.nolimit hg hobj hints (Nat.le_trans hlen hn2) hr hF hb fun H _ hS => hsp _ H a ns hlen hbits hS
end Rs

namespace Rs
open PySem PySem.Spec PyProof.Rows L2

/-! ### what is known of the heap -/
abbrev Led := List (Addr × HO)
/-- H0: the heap at the entry; M: the objects of it that may have changed; L: what stands now -/
structure Hs (H0 : Hp) (M : List Addr) (H : Hp) (L : Led) : Prop where
  nd : (L.map (·.1)).Nodup
  is : ∀ q ∈ L, H q.1 = some q.2
  old : ∀ b o, H0 b = some o → b ∉ M → H b = some o
  mu : ∀ b ∈ M, H b ≠ none
/-- one entry exchanged -/
inductive Chg (a : Addr) (o o' : HO) : Led → Led → Prop where
  | here {L : Led} : Chg a o o' ((a, o) :: L) ((a, o') :: L)
  | there {q : Addr × HO} {L L' : Led} : Chg a o o' L L' → Chg a o o' (q :: L) (q :: L')
theorem Chg.keys {a : Addr} {o o' : HO} {L L' : Led} (c : Chg a o o' L L') : L'.map (·.1) = L.map (·.1) := by
  induction c with
  | here => rfl
  | there _ ih => simp only [List.map_cons, ih]
theorem Chg.mem {a : Addr} {o o' : HO} {L L' : Led} (c : Chg a o o' L L') : (a, o) ∈ L := by
  induction c with
  | here => exact List.mem_cons_self
  | there _ ih => exact List.mem_cons_of_mem _ ih
theorem Chg.of {a : Addr} {o o' : HO} {L L' : Led} (c : Chg a o o' L L') (nd : (L.map (·.1)).Nodup) : ∀ q ∈ L', q = (a, o') ∨ (q ∈ L ∧ q.1 ≠ a) := by
  induction c with
  | @here L =>
    intro q hq
    rcases List.mem_cons.mp hq with e | hq
    · exact Or.inl e
    · refine Or.inr ⟨List.mem_cons_of_mem _ hq, ?_⟩
      intro e
      simp only [List.map_cons, List.nodup_cons] at nd
      exact nd.1 (e ▸ List.mem_map_of_mem hq)
  | @there p L L' c ih =>
    intro q hq
    simp only [List.map_cons, List.nodup_cons] at nd
    rcases List.mem_cons.mp hq with e | hq
    · subst e
      refine Or.inr ⟨List.mem_cons_self, ?_⟩
      intro e
      exact nd.1 (e ▸ List.mem_map_of_mem (f := (·.1)) c.mem)
    · rcases ih nd.2 q hq with e | ⟨h1, h2⟩
      · exact Or.inl e
      · exact Or.inr ⟨List.mem_cons_of_mem _ h1, h2⟩
section
variable {H0 H H' : Hp} {M : List Addr} {L L' : Led} {a : Addr} {o o' : HO}
theorem Hs.new (S : Hs H0 M H L) (hp : H a = none) (o : HO) : H0 a = none ∧ Hs H0 M (upd H a o) ((a, o) :: L) := by
  have n0 : H0 a = none := by
    cases e : H0 a with
    | none => rfl
    | some u =>
      by_cases hm : a ∈ M
      · exact absurd hp (S.mu a hm)
      · have := S.old a u e hm
        rw [hp] at this
        cases this
  have ne : ∀ q ∈ L, q.1 ≠ a := fun q hq e => by
    have := S.is q hq
    rw [e, hp] at this
    cases this
  refine ⟨n0, ?_, ?_, ?_, ?_⟩
  · simp only [List.map_cons, List.nodup_cons]
    refine ⟨fun hm => ?_, S.nd⟩
    obtain ⟨q, hq, e⟩ := List.mem_map.mp hm
    exact ne q hq e
  · intro q hq
    rcases List.mem_cons.mp hq with e | hq
    · subst e; exact upd_same
    · rw [upd_ne (ne q hq)]; exact S.is q hq
  · intro b u e hm
    have hb : b ≠ a := fun z => by rw [z, n0] at e; cases e
    rw [upd_ne hb]
    exact S.old b u e hm
  · intro b hb
    unfold upd
    split
    · simp
    · exact S.mu b hb
theorem Hs.put (S : Hs H0 M H L) (c : Chg a o o' L L') (hm : H0 a = none ∨ a ∈ M) : Hs H0 M (upd H a o') L' := by
  refine ⟨by rw [c.keys]; exact S.nd, ?_, ?_, ?_⟩
  · intro q hq
    rcases c.of S.nd q hq with e | ⟨h1, h2⟩
    · subst e; exact upd_same
    · rw [upd_ne h2]; exact S.is q h1
  · intro b u e hb
    have ne : b ≠ a := fun z => by
      subst z
      rcases hm with z | z
      · rw [z] at e; cases e
      · exact hb z
    rw [upd_ne ne]
    exact S.old b u e hb
  · intro b hb
    unfold upd
    split
    · simp
    · exact S.mu b hb
/-- behind a call that changed at most the objects of C (each fresh or in M), and left L' -/
theorem Hs.call (S : Hs H0 M H L) {C : List Addr} (k : ∀ b u, H b = some u → b ∉ C → H' b = some u) (hC : ∀ b ∈ C, (H0 b = none ∨ b ∈ M) ∧ H' b ≠ none) (nd : (L'.map (·.1)).Nodup)
    (is : ∀ q ∈ L', H' q.1 = some q.2) : Hs H0 M H' L' := by
  refine ⟨nd, is, ?_, ?_⟩
  · intro b u e hb
    refine k b u (S.old b u e hb) fun hc => ?_
    rcases (hC b hc).1 with z | z
    · rw [z] at e; cases e
    · exact hb z
  · intro b hb
    by_cases hc : b ∈ C
    · exact (hC b hc).2
    · intro z
      cases e : H b with
      | none => exact S.mu b hb e
      | some u =>
        rw [k b u e hc] at z
        cases z
/-- nothing was changed -/
theorem Hs.more (S : Hs H0 M H L) (k : Same H H') : Hs H0 M H' L :=
  S.call (C := []) (fun b u e _ => k b u e) (fun b hb => nomatch hb) S.nd fun q hq => k _ _ (S.is q hq)
/-- nothing was changed, one object is new -/
theorem Hs.more1 (S : Hs H0 M H L) (k : Same H H') (hp : H a = none) (h' : H' a = some o) : H0 a = none ∧ Hs H0 M H' ((a, o) :: L) := by
  obtain ⟨n0, S'⟩ := S.new hp o
  refine ⟨n0, (S.more k).call (C := []) (fun b u e _ => e) (fun b hb => nomatch hb) S'.nd ?_⟩
  intro q hq
  rcases List.mem_cons.mp hq with e | hq
  · subst e; exact h'
  · exact k _ _ (S.is q hq)
/-- one object was changed, to o' -/
theorem Hs.one (S : Hs H0 M H L) (c : Chg a o o' L L') (hm : H0 a = none ∨ a ∈ M) (k : ∀ b u, H b = some u → b ≠ a → H' b = some u) (h' : H' a = some o') : Hs H0 M H' L' := by
  have S' := S.put c hm
  refine S.call (C := [a]) (fun b u e hb => k b u e fun z => hb (by simp [z])) ?_ S'.nd ?_
  · intro b hb
    have e : b = a := by simpa using hb
    subst e
    exact ⟨hm, by rw [h']; simp⟩
  · intro q hq
    rcases c.of S.nd q hq with e | ⟨h1, h2⟩
    · subst e; exact h'
    · exact k _ _ (S.is q h1) h2
/-- one object was changed, one is new -/
theorem Hs.one1 {p : Addr} {u : HO} (S : Hs H0 M H L) (c : Chg a o o' L L') (hm : H0 a = none ∨ a ∈ M) (k : ∀ b u, H b = some u → b ≠ a → H' b = some u) (h' : H' a = some o') (hp : H p = none) (hp' : H' p = some u) : H0 p = none ∧ Hs H0 M H' ((p, u) :: L') := by
  have S' := S.one c hm k h'
  have S2 := S.new hp u
  refine ⟨S2.1, ?_, ?_, S'.old, S'.mu⟩
  · simp only [List.map_cons, List.nodup_cons]
    refine ⟨fun hq => ?_, S'.nd⟩
    rw [c.keys] at hq
    obtain ⟨q, hq, e⟩ := List.mem_map.mp hq
    have := S.is q hq
    rw [e, hp] at this
    cases this
  · intro q hq
    rcases List.mem_cons.mp hq with e | hq
    · subst e; exact hp'
    · exact S'.is q hq
theorem Hs.sub (S : Hs H0 M H L) (h : L'.Sublist L) : Hs H0 M H L' := ⟨S.nd.sublist (h.map _), fun q hq => S.is q (h.subset hq), S.old, S.mu⟩
theorem Hs.start (H : Hp) (M : List Addr) (L : Led) (nd : (L.map (·.1)).Nodup) (is : ∀ q ∈ L, H q.1 = some q.2) (hM : ∀ b ∈ M, H b ≠ none) : Hs H M H L := ⟨nd, is, fun b u e _ => e, hM⟩
theorem Hs.start0 (H : Hp) : Hs H [] H [] := ⟨List.nodup_nil, fun q hq => (nomatch hq), fun b u e _ => e, fun b hb => nomatch hb⟩
theorem Hs.start1 {H : Hp} {a : Addr} {o : HO} (h : H a = some o) (M : List Addr) (hM : M = [] ∨ M = [a]) : Hs H M H [(a, o)] := by
  refine ⟨by simp, fun q hq => ?_, fun b u e _ => e, fun b hb => ?_⟩
  · have e : q = (a, o) := by simpa using hq
    subst e; exact h
  · rcases hM with rfl | rfl
    · cases hb
    · have e : b = a := by simpa using hb
      subst e; rw [h]; simp
theorem Hs.get (S : Hs H0 M H L) (m : (a, o) ∈ L) : H a = some o := S.is _ m
theorem Hs.old1 {d b : Addr} {u : HO} (S : Hs H0 [d] H L) (e : H0 b = some u) (hb : b ≠ d) : H b = some u := S.old b u e (by simpa using hb)
theorem Hs.same (S : Hs H0 [] H L) : Same H0 H := fun b o e => S.old b o e (fun z => nomatch z)
theorem Hs.lst {K : PySem.W.Frag} {xs : List V} (S : Hs H0 M H L) (m : (a, HO.lst xs) ∈ L) : SqL K H a xs := SqL.of (S.is _ m)
theorem Hs.tup {K : PySem.W.Frag} {xs : List V} (S : Hs H0 M H L) (m : (a, HO.tup xs) ∈ L) : SqT K H a xs := SqT.of (S.is _ m)
/-- the script, or what else stands in the written part, at a list -/
theorem Hs.sq {K : PySem.W.Frag} {xs : List V} (S : Hs H0 M H L) (h : SqL K H0 a xs) (hm : a ∉ M) : SqL K H a xs := by
  rcases h with (h | ⟨u, h⟩) | h
  · exact Or.inl (Or.inl (S.old _ _ h hm))
  · exact Or.inl (Or.inr ⟨u, S.old _ _ h hm⟩)
  · exact Or.inr h
end

/-! ### readings, step by step -/
/-- the slots at the entry -/
def stV : List Str → List V → L2.St
  | [], _ => []
  | _ :: N, vs => vs.head? :: stV N vs.tail
theorem start_eq : ∀ (N : List Str) (vs : List V), vs.length ≤ N.length → L2.start N vs = stV N vs
  | [], [], _ => by simp [L2.start, stV]
  | [], v :: vs, h => by simp at h
  | n :: N, [], _ => by
    have ih := start_eq N [] (Nat.zero_le _)
    simp only [stV, List.tail_nil, ← ih]
    simp [L2.start, List.replicate_succ]
  | n :: N, v :: vs, h => by
    have ih := start_eq N vs (by simpa using h)
    simp only [stV, List.tail_cons, ← ih]
    simp [L2.start]
section
variable {σ : L2.St} {H H0 : Hp} {M : List Addr} {L L' : Led} {Q : VK} {v x y : V} {nx : L2.St → Hp → Prop} {rt : VK} {bk ct : L2.St → Hp → Prop} {t u : TS} {te ta tb tc : TE} {g : TG} {tt tu : TT} {r r' : R2} {A B : Prop}
theorem rd_start {t : TS} {D : Ends} {N : List Str} {vs : List V} (h : t D (stV N vs) H) (hl : vs.length ≤ N.length := by exact Nat.le_of_ble_eq_true rfl) : t D (L2.start N vs) H := by rw [start_eq N vs hl]; exact h
theorem rd_seq (h : t ⟨fun σ H => u ⟨nx, rt, bk, ct⟩ σ H, rt, bk, ct⟩ σ H) : tSeq t u ⟨nx, rt, bk, ct⟩ σ H := h
theorem rd_asg (h : te σ H fun x H1 => g x σ H1 nx) : tAsg te g ⟨nx, rt, bk, ct⟩ σ H := h
theorem rd_name {i : Nat} {σ' : L2.St} {N : L2.St → Hp → Prop} (e : σ.set i (some v) = σ') (h : N σ' H) : gName i v σ H N := by subst e; exact h
theorem rd_ret (h : te σ H rt) : tRet te ⟨nx, rt, bk, ct⟩ σ H := h
theorem rd_retN (h : rt .non H) : tRetN ⟨nx, rt, bk, ct⟩ σ H := h
theorem rd_drop (h : te σ H fun _ H1 => nx σ H1) : tDrop te ⟨nx, rt, bk, ct⟩ σ H := h
theorem rd_next (h : nx σ H) : tNext ⟨nx, rt, bk, ct⟩ σ H := h
theorem rd_ifS (h : tt σ H fun b H1 => if b = true then t ⟨nx, rt, bk, ct⟩ σ H1 else u ⟨nx, rt, bk, ct⟩ σ H1) : tIfS tt t u ⟨nx, rt, bk, ct⟩ σ H := h
theorem rd_par {i j : Nat} {ta : TA} (h : ta σ H fun vs H1 => ∃ v w, vs = [v, w] ∧ nx ((σ.set i (some v)).set j (some w)) H1) : tPar i j ta ⟨nx, rt, bk, ct⟩ σ H := h
theorem rd_par3 {i j l : Nat} {ta : TA} (h : ta σ H fun vs H1 => ∃ u v w, vs = [u, v, w] ∧ nx (((σ.set i (some u)).set j (some v)).set l (some w)) H1) : tPar3 i j l ta ⟨nx, rt, bk, ct⟩ σ H := h
theorem rd_two {R : V → V → Prop} (h : R x y) : ∃ v w, [x, y] = [v, w] ∧ R v w := ⟨_, _, rfl, h⟩
theorem rd_three {z : V} {R : V → V → V → Prop} (h : R x y z) : ∃ u v w, [x, y, z] = [u, v, w] ∧ R u v w := ⟨_, _, _, rfl, h⟩
theorem rd_var {i : Nat} (e : σ[i]? = some (some v)) (h : Q v H) : tVar i σ H Q := ⟨v, e, h⟩
theorem rd_c (h : Q v H) : tC v σ H Q := h
theorem rd_op (h : ta σ H fun x H1 => tb σ H1 fun y H2 => r x y H2 Q) : tOp r ta tb σ H Q := h
theorem rd_un {r : V → Hp → VK → Prop} (h : ta σ H fun x H1 => r x H1 Q) : tUn r ta σ H Q := h
theorem rd_I0 {f : Int → Int → V} {i j : Int} (h : Q (f i j) H) : rI0 f (.int i) (.int j) H Q := ⟨i, j, rfl, rfl, h⟩
theorem rd_I {C : Int → Int → Prop} {f : Int → Int → V} {i j : Int} (hc : C i j) (h : Q (f i j) H) : rI C f (.int i) (.int j) H Q := ⟨i, j, rfl, rfl, hc, h⟩
theorem rd_U {f : Int → V} {i : Int} (h : Q (f i) H) : rU f (.int i) H Q := ⟨i, rfl, h⟩
theorem rd_eqI {i j : Int} (h : Q (.bl (decide (i = j))) H) : rEq (.int i) (.int j) H Q := by
  refine ⟨rfl, ?_⟩
  have e : decide (V.int i = V.int j) = decide (i = j) := by simp
  rw [e]; exact h
theorem rd_neI {i j : Int} (h : Q (.bl (decide (¬ i = j))) H) : rNe (.int i) (.int j) H Q := by
  refine ⟨rfl, ?_⟩
  have e : (!decide (V.int i = V.int j)) = decide (¬ i = j) := by simp
  rw [e]; exact h
theorem rd_eqS {i j : Str} (h : Q (.bl (decide (i = j))) H) : rEq (.str i) (.str j) H Q := by
  refine ⟨rfl, ?_⟩
  have e : decide (V.str i = V.str j) = decide (i = j) := by simp
  rw [e]; exact h
theorem rd_neS {i j : Str} (h : Q (.bl (decide (¬ i = j))) H) : rNe (.str i) (.str j) H Q := by
  refine ⟨rfl, ?_⟩
  have e : (!decide (V.str i = V.str j)) = decide (¬ i = j) := by simp
  rw [e]; exact h
theorem rd_eqB {i j : Bool} (h : Q (.bl (decide (i = j))) H) : rEq (.bl i) (.bl j) H Q := by
  refine ⟨rfl, ?_⟩
  have e : decide (V.bl i = V.bl j) = decide (i = j) := by simp
  rw [e]; exact h
theorem rd_test {Q : Bool → Hp → Prop} (h : te σ H fun x H' => ∃ k, x = .bl k ∧ Q k H') : tTest te σ H Q := h
theorem rd_tB {Q : Bool → Hp → Prop} (h : te σ H fun x H' => ∃ k, x = .bl k ∧ Q k H') : tB te σ H Q := h
theorem rd_bl {b : Bool} {R : Bool → Prop} (h : R b) : ∃ k, V.bl b = .bl k ∧ R k := ⟨b, rfl, h⟩
theorem rd_and {Q : Bool → Hp → Prop} (h : tt σ H fun c H1 => if c = true then tu σ H1 Q else Q false H1) : tAnd tt tu σ H Q := h
theorem rd_or {Q : Bool → Hp → Prop} (h : tt σ H fun c H1 => if c = true then Q true H1 else tu σ H1 Q) : tOr tt tu σ H Q := h
theorem rd_not {Q : Bool → Hp → Prop} (h : tt σ H fun c H1 => Q (!c) H1) : tNot tt σ H Q := h
theorem rd_andV (h : ta σ H fun x H1 => ∃ c, x = .bl c ∧ if c = true then tb σ H1 Q else Q (.bl false) H1) : tAndV ta tb σ H Q := h
theorem rd_orV (h : ta σ H fun x H1 => ∃ c, x = .bl c ∧ if c = true then Q (.bl true) H1 else tb σ H1 Q) : tOrV ta tb σ H Q := h
theorem rd_notV (h : ta σ H fun x H1 => ∃ c, x = .bl c ∧ Q (.bl (!c)) H1) : tNotV ta σ H Q := h
theorem rd_if (h : tt σ H fun c H1 => if c = true then ta σ H1 Q else tb σ H1 Q) : tIf tt ta tb σ H Q := h
theorem rd_cons {tr : TA} {Q : List V → Hp → Prop} (h : te σ H fun x H1 => tr σ H1 fun xs H2 => Q (x :: xs) H2) : tCons te tr σ H Q := h
theorem rd_nil {Q : List V → Hp → Prop} (h : Q [] H) : tNil σ H Q := h
/-- what is wanted of a new object -/
def nw (Q : VK) (H : Hp) (o : HO) : Prop := ∀ p, H p = none → Q (.ref p) (upd H p o)
def nwL (Q : VK) (H : Hp) (xs : List V) : Prop := xs.length ≤ sizeLine ∧ nw Q H (.lst xs)
def nwT (Q : VK) (H : Hp) (xs : List V) : Prop := xs.length ≤ sizeLine ∧ nw Q H (.tup xs)
theorem rd_tup {ta : TA} (h : ta σ H fun xs H1 => nwT Q H1 xs) : tTup ta σ H Q := h
theorem rd_lst {ta : TA} (h : ta σ H fun xs H1 => nwL Q H1 xs) : tLst ta σ H Q := h
theorem rd_cb {r : List V → Hp → VK → Prop} {ta : TA} (h : ta σ H fun vs H1 => r vs H1 Q) : tCB r ta σ H Q := h
theorem rd_call {sp : Sp} {dvs : List V} {E : XK} {ta : TA} (h : ta σ H fun vs H1 => sp (vs ++ dvs) H1 Q E) : tCall sp dvs E ta σ H Q := h
theorem rd_call0 {sp : Sp} {E : XK} {ta : TA} (h : ta σ H fun vs H1 => sp vs H1 Q E) : tCall sp [] E ta σ H Q := by
  have e : (fun (vs : List V) H1 => sp (vs ++ []) H1 Q E) = fun vs H1 => sp vs H1 Q E := by funext vs H1; rw [List.append_nil]
  show ta σ H (fun vs H1 => sp (vs ++ []) H1 Q E)
  rw [e]; exact h
theorem rd_callN {n m : Nat} {sp : Sp} {gV : List V → List V → List V} {E : XK} {ta tk : TA} (h : ta σ H fun vs H1 => tk σ H1 fun zs H2 => vs.length = n ∧ zs.length = m ∧ sp (gV vs zs) H2 Q E) : tCallN n m sp gV E ta tk σ H Q := h
theorem rd_chain (h : ta σ H fun x H1 => tb σ H1 fun y H2 => r x y H2 fun z H3 => ∃ k, z = .bl k ∧ (if k = true then tc σ H3 fun w H4 => r' y w H4 Q else Q (.bl false) H3)) : tChain r r' ta tb tc σ H Q := h
theorem rd_bits (h : te σ H fun x H1 => ∃ i, x = .int i ∧ Q (.int (Builtin.Int.intBits i : Nat)) H1) : tBits te σ H Q := h
theorem rd_int1 {i : Int} {R : Int → Prop} (h : R i) : ∃ j, V.int i = .int j ∧ R j := ⟨i, rfl, h⟩
theorem rd_int2 {i j : Int} {R : Int → Int → Prop} (h : R i j) : ∃ i' j', [V.int i, V.int j] = [.int i', .int j'] ∧ R i' j' := ⟨i, j, rfl, h⟩
theorem rd_dget {td ty : TE} (h : td σ H fun x H1 => ty σ H1 fun y H2 => ∃ a v, x = .ref a ∧ DGet H2 a y (some v) ∧ Q v H2) : tDGet td ty σ H Q := h
theorem rd_dput {td ty tv : TE} (h : tv σ H fun v H1 => td σ H1 fun x H2 => ty σ H2 fun y H3 => ∃ a H4, x = .ref a ∧ DPut H3 a y v H4 ∧ nx σ H4) : sDPut td ty tv ⟨nx, rt, bk, ct⟩ σ H := h
theorem rd_slice3 {K : PySem.W.Frag} {tl th ts : TO} (h : te σ H fun x H1 => tl σ H1 fun l H2 => th σ H2 fun u H3 => ts σ H3 fun st H4 => ∃ a xs, x = .ref a ∧ SqL K H4 a xs ∧ st ≠ some 0 ∧ nw Q H4 (.lst (pickV xs l u st))) : tSl3 K te tl th ts σ H Q := h
theorem rd_sl {r : V → Option Int → Option Int → Hp → VK → Prop} {tl th : TO} (h : te σ H fun x H1 => tl σ H1 fun l H2 => th σ H2 fun u H3 => r x l u H3 Q) : tSl r te tl th σ H Q := h
theorem rd_noPart {Q : Option Int → Hp → Prop} (h : Q none H) : tNoPart σ H Q := h
theorem rd_part {Q : Option Int → Hp → Prop} (h : te σ H fun x H1 => ∃ i, x = .int i ∧ Q (some i) H1) : tPart te σ H Q := h
theorem sz {n : Nat} (h : n ≤ 1000000) : n ≤ sizeLine := Nat.le_trans h (by decide)
theorem sz' {n : Nat} (h : n ≤ 1000000) : n < sizeLine := Nat.lt_of_le_of_lt h (by decide)
theorem rd_mod {i j : Int} (hj : 0 < j) (h : ∀ r, r = i % j → 0 ≤ r → r < j → Q (.int r) H) : rI (fun _ j => 0 < j) (fun i j => .int (i % j)) (.int i) (.int j) H Q :=
  ⟨i, j, rfl, rfl, hj, h _ rfl (Int.emod_nonneg _ (by omega)) (Int.emod_lt_of_pos _ hj)⟩
theorem rd_div {i j : Int} (hj : 0 < j) (hb : j < 2 ^ 64) (h : Q (.int (i / j)) H) : rI CDivW (fun i j => .int (i / j)) (.int i) (.int j) H Q :=
  ⟨i, j, rfl, rfl, wide_div (b := 64) hj (by omega) (by decide) (by decide), h⟩
theorem rd_mulL {i j : Int} (h0 : -(2 ^ 64) < i) (h1 : i < 2 ^ 64) (h : Q (.int (i * j)) H) : rI CMul (fun i j => .int (i * j)) (.int i) (.int j) H Q := ⟨i, j, rfl, rfl, .inl ⟨h0, h1⟩, h⟩
theorem rd_mulR {i j : Int} (h0 : -(2 ^ 64) < j) (h1 : j < 2 ^ 64) (h : Q (.int (i * j)) H) : rI CMul (fun i j => .int (i * j)) (.int i) (.int j) H Q := ⟨i, j, rfl, rfl, .inr ⟨h0, h1⟩, h⟩
theorem rd_pow {f : Int → Int → V} {i j : Int} (h0 : 0 ≤ j) (h1 : j ≤ 1000000) (h2 : i.natAbs < 2 ^ 64) (h : Q (f i j) H) : rI CPow f (.int i) (.int j) H Q := ⟨i, j, rfl, rfl, ⟨h0, h1, h2⟩, h⟩
/-! tests -/
theorem rd_dec {p : Prop} [Decidable p] (h1 : p → A) (h2 : ¬ p → B) : if decide p = true then A else B := by
  by_cases h : p
  · rw [if_pos (decide_eq_true h)]; exact h1 h
  · rw [if_neg (by simp [h])]; exact h2 h
theorem rd_decT {p : Prop} [Decidable p] (h : p) (h1 : A) : if decide p = true then A else B := by rw [if_pos (decide_eq_true h)]; exact h1
theorem rd_decF {p : Prop} [Decidable p] (h : ¬ p) (h1 : B) : if decide p = true then A else B := by rw [if_neg (by simp [h])]; exact h1
theorem rd_ite {b : Bool} (h1 : b = true → A) (h2 : b = false → B) : if b = true then A else B := by
  cases b with
  | true => rw [if_pos rfl]; exact h1 rfl
  | false => rw [if_neg Bool.false_ne_true]; exact h2 rfl
theorem rd_iteT (h : A) : if true = true then A else B := by rw [if_pos rfl]; exact h
theorem rd_iteF (h : B) : if false = true then A else B := by rw [if_neg Bool.false_ne_true]; exact h
theorem rd_ndec {p : Prop} [Decidable p] (h1 : ¬ p → A) (h2 : p → B) : if (!decide p) = true then A else B := by
  by_cases h : p
  · rw [if_neg (by simp [h])]; exact h2 h
  · rw [if_pos (by simp [h])]; exact h1 h
theorem rd_ndecT {p : Prop} [Decidable p] (h : p) (h2 : B) : if (!decide p) = true then A else B := by rw [if_neg (by simp [h])]; exact h2
theorem rd_ndecF {p : Prop} [Decidable p] (h : ¬ p) (h1 : A) : if (!decide p) = true then A else B := by rw [if_pos (by simp [h])]; exact h1
theorem rd_nT (h : B) : if (!true) = true then A else B := by rw [if_neg (by decide)]; exact h
theorem rd_nF (h : A) : if (!false) = true then A else B := by rw [if_pos (by decide)]; exact h
/-! with the ledger -/
theorem rd_newL {xs : List V} (S : Hs H0 M H L) (hz : xs.length ≤ sizeLine) (h : ∀ p H', H0 p = none → Hs H0 M H' ((p, .lst xs) :: L) → Q (.ref p) H') : nwL Q H xs :=
  ⟨hz, fun p hp => h p _ (S.new hp (.lst xs)).1 (S.new hp (.lst xs)).2⟩
theorem rd_newT {xs : List V} (S : Hs H0 M H L) (hz : xs.length ≤ sizeLine) (h : ∀ p H', H0 p = none → Hs H0 M H' ((p, .tup xs) :: L) → Q (.ref p) H') : nwT Q H xs :=
  ⟨hz, fun p hp => h p _ (S.new hp (.tup xs)).1 (S.new hp (.tup xs)).2⟩
theorem rd_newO {o : HO} (S : Hs H0 M H L) (h : ∀ p H', H0 p = none → Hs H0 M H' ((p, o) :: L) → Q (.ref p) H') : nw Q H o :=
  fun p hp => h p _ (S.new hp o).1 (S.new hp o).2
theorem rd_ixL {K : PySem.W.Frag} {a : Addr} {xs : List V} {i : Int} (S : Hs H0 M H L) (m : (a, HO.lst xs) ∈ L) (e : atI xs i = some v) (h : Q v H) : rIxL K (.ref a) (.int i) H Q := ⟨a, xs, i, v, rfl, rfl, S.lst m, e, h⟩
theorem atI_any {α : Type} {xs : List α} {i : Int} (h0 : 0 ≤ i) (h1 : i < xs.length) : ∃ v, v ∈ xs ∧ xs[i.toNat]? = some v ∧ atI xs i = some v := by
  have hl : i.toNat < xs.length := by omega
  have e : xs[i.toNat]? = some xs[i.toNat] := by simp [hl]
  refine ⟨xs[i.toNat], List.getElem_mem hl, e, ?_⟩
  have z : ((i.toNat : Nat) : Int) = i := by omega
  have q := atI_nat e
  rw [z] at q
  exact q
theorem rd_ixAny {K : PySem.W.Frag} {a : Addr} {xs : List V} {i : Int} (S : Hs H0 M H L) (m : (a, HO.lst xs) ∈ L) (h0 : 0 ≤ i) (h1 : i < xs.length) (h : ∀ v, v ∈ xs → xs[i.toNat]? = some v → Q v H) : rIxL K (.ref a) (.int i) H Q := by
  obtain ⟨v, hv, e, he⟩ := atI_any h0 h1
  exact ⟨a, xs, i, v, rfl, rfl, S.lst m, he, h v hv e⟩
theorem rd_ixT {K : PySem.W.Frag} {a : Addr} {xs : List V} {i : Int} (S : Hs H0 M H L) (m : (a, HO.tup xs) ∈ L) (e : atI xs i = some v) (h : Q v H) : rIxT K (.ref a) (.int i) H Q := ⟨a, xs, i, v, rfl, rfl, S.tup m, e, h⟩
theorem rd_len {K : PySem.W.Frag} {a : Addr} {xs : List V} (S : Hs H0 M H L) {R : List V → Prop} (m : (a, HO.lst xs) ∈ L) (h : R xs) : ∃ p ys, [V.ref a] = [.ref p] ∧ (SqL K H p ys ∨ SqT K H p ys) ∧ R ys := ⟨a, xs, rfl, Or.inl (S.lst m), h⟩
theorem rd_lenT {K : PySem.W.Frag} {a : Addr} {xs : List V} (S : Hs H0 M H L) {R : List V → Prop} (m : (a, HO.tup xs) ∈ L) (h : R xs) : ∃ p ys, [V.ref a] = [.ref p] ∧ (SqL K H p ys ∨ SqT K H p ys) ∧ R ys := ⟨a, xs, rfl, Or.inr (S.tup m), h⟩
theorem rd_getS {a : Addr} {kvs : List (Key × V)} {k : Str} (S : Hs H0 M H L) (m : (a, HO.dK kvs) ∈ L) (e : valV kvs (.inr k) = some v) {R : V → Prop} (h : R v) : ∃ a' v', V.ref a = .ref a' ∧ DGet H a' (.str k) (some v') ∧ R v' :=
  ⟨a, v, rfl, by rw [← e]; exact DGet.k (k := Sum.inr k) (S.is _ m), h⟩
theorem rd_putS {a : Addr} {kvs kvs' : List (Key × V)} {k : Str} {R : Hp → Prop} (S : Hs H0 M H L) (c : Chg a (.dK kvs) (.dK kvs') L L') (hm : H0 a = none ∨ a ∈ M) (hl : kvs.length < sizeLine) (e : putK kvs (.inr k) v = kvs')
    (h : ∀ H', Hs H0 M H' L' → R H') : ∃ a' H4, V.ref a = .ref a' ∧ DPut H a' (.str k) v H4 ∧ R H4 := by
  subst e
  exact ⟨a, _, rfl, DPut.k (k := Sum.inr k) (S.is _ c.mem) hl, h _ (S.put c hm)⟩
theorem gt_ref {K : PySem.W.Frag} {a : Addr} {xs : List V} {n : Nat} {ts : TGs} {N : L2.St → Hp → Prop} (S : Hs H0 M H L) (m : (a, HO.tup xs) ∈ L) (hn : xs.length = n) (h : ts xs σ H N) : gTup K n ts (.ref a) σ H N := ⟨a, xs, rfl, S.tup m, hn, h⟩
theorem gt_cons {ts : TGs} {w : V} {vs : List V} {N : L2.St → Hp → Prop} (h : g w σ H fun σ' H' => ts vs σ' H' N) : gCons g ts (w :: vs) σ H N := ⟨w, vs, rfl, h⟩
theorem gt_nil {N : L2.St → Hp → Prop} (h : N σ H) : gNil [] σ H N := ⟨rfl, h⟩
end
/-! ### a def as it is called by its name -/
structure Cal (K : PySem.W.Frag) (mg : Str → Option Value) (x : Str) (st : Stmt) (ps : List Str) (f : Addr) (fd : FuncData) : Prop where
  F : Fun K x x st f fd
  b : Binds K fd ps []
  m : mg x = some (.ref f)
end Rs

namespace Rs
open PySem PySem.Spec PyProof.Rows L2

/-! ### kinds of values -/
inductive Kn where
  | int | bool | str | none | list | tup | dict
  deriving DecidableEq
def Kn.nm : Kn → String
  | .int => "int" | .bool => "bool" | .str => "str" | .none => "NoneType" | .list => "list" | .tup => "tuple" | .dict => "dict"
inductive Kin (K : PySem.W.Frag) (H : Hp) : V → Kn → Prop where
  | int (i : Int) : Kin K H (.int i) .int
  | bl (b : Bool) : Kin K H (.bl b) .bool
  | str (x : Str) : Kin K H (.str x) .str
  | non : Kin K H .non .none
  | ref {a : Addr} {k : Kn} (h : TyX K H (.ref a) (.type k.nm)) (n : k = .list ∨ k = .tup ∨ k = .dict) : Kin K H (.ref a) k
section
variable {K : PySem.W.Frag} {H H0 : Hp} {M : List Addr} {L : Led} {x : V} {k : Kn} {Q : VK} {a : Addr}
theorem Kin.ty (h : Kin K H x k) : TyX K H x (.type k.nm) := by
  cases h with
  | int i => exact .base (.int i)
  | bl b => exact .base (.bl b)
  | str x => exact .base (.str x)
  | non => exact .base .non
  | ref h n => exact h
theorem Kin.lst {xs : List V} (h : H a = some (.lst xs)) : Kin K H (.ref a) .list := .ref (.base (.lst h)) (.inl rfl)
theorem Kin.tup {xs : List V} (h : H a = some (.tup xs)) : Kin K H (.ref a) .tup := .ref (.base (.tup h)) (.inr (.inl rfl))
theorem Kin.dK {kvs : List (Key × V)} (h : H a = some (.dK kvs)) : Kin K H (.ref a) .dict := .ref (.base (.dK h)) (.inr (.inr rfl))
theorem kit_int (k : Kn) : kitB k.nm "int" = some (k == .int || k == .bool) := by cases k <;> decide +kernel
theorem kit_bool (k : Kn) : kitB k.nm "bool" = some (k == .bool) := by cases k <;> decide +kernel
theorem kit_list (k : Kn) : kitB k.nm "list" = some (k == .list) := by cases k <;> decide +kernel
theorem kit_tuple (k : Kn) : kitB k.nm "tuple" = some (k == .tup) := by cases k <;> decide +kernel
theorem kit_str (k : Kn) : kitB k.nm "str" = some (k == .str) := by cases k <;> decide +kernel
theorem rd_isi {T : String} {b : Bool} (h : Kin K H x k) (e : kitB k.nm T = some b) (q : Q (.bl b) H) : rIsi K [x, .ty T] H Q := ⟨x, .ty T, .type k.nm, .type T, b, rfl, .ty T, h.ty, kit_ty e, q⟩
end
/-- a def with keyword-only defaults, as it is called by its name -/
structure CalK (K : PySem.W.Frag) (mg : Str → Option Value) (x : Str) (st : Stmt) (f : Addr) (fd : FuncData) : Prop where
  F : Fun K x x st f fd
  m : mg x = some (.ref f)
/-- whether a thing is a whole number from l to m -/
def isWh (x : V) (l m : Int) : Bool := match x with
  | .int t => decide (l ≤ t) && decide (t ≤ m)
  | _ => false
theorem isWh_int (t l m : Int) : isWh (.int t) l m = (decide (l ≤ t) && decide (t ≤ m)) := rfl

/-! ### more readings -/
section
variable {X : Cx}
/-- a module's constant -/
theorem pe_gl {x : Str} {v : V} {pos : Pos} (hg : Gl X x) (h : ∃ u, X.mg x = some u ∧ RelV v u) (hd : (x == ("__debug__" : Str)) = false := by decide) : PE X (.Name x pos) (tC v) := by
  obtain ⟨u, h1, h2⟩ := h
  exact pe_glob hg h1 h2 hd
end
/-- the keys of written pairs -/
def toK : List (V × V) → List (Key × V)
  | [] => []
  | (.int i, v) :: r => (.inl i, v) :: toK r
  | (.str x, v) :: r => (.inr x, v) :: toK r
  | _ :: r => toK r
def dspEnd (Q : VK) (p : Addr) (ps : List (V × V)) (H : Hp) : Prop := H p = some (.dK []) ∧ ∃ kvs : List (Key × V), ps = kvs.map (fun kv => (kV kv.1, kv.2)) ∧ kvs.length ≤ 15 ∧ Q (.ref p) (upd H p (.dK (mergeK [] kvs)))
def forW (J : It) (g : TG) (tb : TS) (D : Ends) (σ : L2.St) (H : Hp) : Prop := ∃ W : Nat → Nat → L2.St → Hp → Prop, (∃ m, W 0 m σ H) ∧ ∀ i m σ H, W i m σ H →
  (J.stop i H ∧ D.nx σ H) ∨ (J.go i H ∧ ∃ N : L2.St → Hp → Prop, (∀ σ' H', N σ' H' → ∃ m', m' < m ∧ W (i + 1) m' σ' H') ∧ ∀ x H', J.yld i H x H' → g x σ H' fun σ2 H2 => tb { D with nx := N, ct := N, bk := D.nx } σ2 H2)
def wl (W : Nat → L2.St → Hp → Prop) (m : Nat) (tw : TS) (nx : L2.St → Hp → Prop) (rt : VK) (σ : L2.St) (H : Hp) : Prop := ∃ N : L2.St → Hp → Prop, (∀ σ' H', N σ' H' → ∃ m', m' < m ∧ W m' σ' H') ∧ tw ⟨N, rt, nx, N⟩ σ H
def rng1 (R : It → Hp → Prop) (vs : List V) (H : Hp) : Prop := ∃ j : Int, vs = [.int j] ∧ -(2 ^ 62) ≤ j ∧ j < 2 ^ 62 ∧ R (Itr 0 j.toNat) H
def rng2 (R : It → Hp → Prop) (vs : List V) (H : Hp) : Prop := ∃ i j : Int, vs = [.int i, .int j] ∧ (-(2 ^ 62) ≤ i ∧ i < 2 ^ 62 ∧ -(2 ^ 62) ≤ j ∧ j < 2 ^ 62) ∧ R (Itr i (j - i).toNat) H
def lstI (K : PySem.W.Frag) (R : It → Hp → Prop) (x : V) (H : Hp) : Prop := ∃ a, x = .ref a ∧ (∃ xs, SqL K H a xs) ∧ R (Itl K a) H
def tupI (K : PySem.W.Frag) (R : It → Hp → Prop) (x : V) (H : Hp) : Prop := ∃ a, x = .ref a ∧ (∃ xs, SqT K H a xs) ∧ R (Itt K a) H
section
variable {σ : L2.St} {H H0 : Hp} {M : List Addr} {L L' : Led} {Q : VK} {v x y : V} {nx : L2.St → Hp → Prop} {rt : VK} {bk ct : L2.St → Hp → Prop} {t u : TS} {te ta tb tc : TE} {g : TG} {tt tu : TT} {tw : TS} {wi : TI}
theorem rd_disp {trs : List (TE × TE)} (S : Hs H0 M H L) (h : ∀ p H', H0 p = none → Hs H0 M H' ((p, .dK []) :: L) → tPairs trs σ H' fun ps H2 => dspEnd Q p ps H2) : tDisp trs σ H Q :=
  fun p hp => h p _ (S.new hp (.dK [])).1 (S.new hp (.dK [])).2
theorem rd_dspEnd {p : Addr} {ps : List (V × V)} {kvs : List (Key × V)} (S : Hs H0 M H L) (c : Chg p (.dK []) (.dK kvs) L L') (hm : H0 p = none ∨ p ∈ M) (e : ps = (toK ps).map fun kv => (kV kv.1, kv.2)) (hl : (toK ps).length ≤ 15)
    (ek : mergeK [] (toK ps) = kvs) (h : ∀ H', Hs H0 M H' L' → Q (.ref p) H') : dspEnd Q p ps H := by
  subst ek
  exact ⟨S.is _ c.mem, toK ps, e, hl, h _ (S.put c hm)⟩
theorem rd_prs {r : List (TE × TE)} {R : List (V × V) → Hp → Prop} (h : ta σ H fun k H1 => tb σ H1 fun v H2 => tPairs r σ H2 fun ps H3 => R ((k, v) :: ps) H3) : tPairs ((ta, tb) :: r) σ H R := h
theorem rd_prs0 {R : List (V × V) → Hp → Prop} (h : R [] H) : tPairs [] σ H R := h
theorem rd_for (h : wi σ H fun J H1 => forW J g tw ⟨nx, rt, bk, ct⟩ σ H1) : tFor wi g tw ⟨nx, rt, bk, ct⟩ σ H := h
theorem rd_rng1 {ta : TA} {R : It → Hp → Prop} (h : ta σ H fun vs H1 => rng1 R vs H1) : iRng1 ta σ H R := h
theorem rd_rng2 {ta : TA} {R : It → Hp → Prop} (h : ta σ H fun vs H1 => rng2 R vs H1) : iRng2 ta σ H R := h
theorem rd_rng1v {R : It → Hp → Prop} {j : Int} (h1 : -(2 ^ 62) ≤ j) (h2 : j < 2 ^ 62) (h : R (Itr 0 j.toNat) H) : rng1 R [.int j] H := ⟨j, rfl, h1, h2, h⟩
theorem rd_rng2v {R : It → Hp → Prop} {i j : Int} (h1 : -(2 ^ 62) ≤ i) (h2 : i < 2 ^ 62) (h3 : -(2 ^ 62) ≤ j) (h4 : j < 2 ^ 62) (h : R (Itr i (j - i).toNat) H) : rng2 R [.int i, .int j] H := ⟨i, j, rfl, ⟨h1, h2, h3, h4⟩, h⟩
theorem rd_iList {K : PySem.W.Frag} {R : It → Hp → Prop} (h : te σ H fun x H1 => lstI K R x H1) : iList K te σ H R := h
theorem rd_iTup {K : PySem.W.Frag} {R : It → Hp → Prop} (h : te σ H fun x H1 => tupI K R x H1) : iTup K te σ H R := h
theorem rd_lstI {K : PySem.W.Frag} {R : It → Hp → Prop} {a : Addr} {xs : List V} (S : Hs H0 M H L) (m : (a, HO.lst xs) ∈ L) (h : R (Itl K a) H) : lstI K R (.ref a) H := ⟨a, rfl, ⟨xs, S.lst m⟩, h⟩
theorem rd_tupI {K : PySem.W.Frag} {R : It → Hp → Prop} {a : Addr} {xs : List V} (S : Hs H0 M H L) (m : (a, HO.tup xs) ∈ L) (h : R (Itt K a) H) : tupI K R (.ref a) H := ⟨a, rfl, ⟨xs, S.tup m⟩, h⟩
/-- over lo, lo + 1, .. -/
theorem fw_range {lo : Int} {n : Nat} (Pv : Nat → L2.St → Hp → Prop) (h0 : Pv 0 σ H) (hs : ∀ i σ H, i < n → Pv i σ H → g (.int (lo + i)) σ H fun σ2 H2 => tw ⟨Pv (i + 1), rt, nx, Pv (i + 1)⟩ σ2 H2) (hd : ∀ σ H, Pv n σ H → nx σ H) :
    forW (Itr lo n) g tw ⟨nx, rt, bk, ct⟩ σ H := for_range Pv h0 hs hd
/-- over a list that stays as it is -/
theorem fw_list {K : PySem.W.Frag} {a : Addr} {xs : List V} (Pv : Nat → L2.St → Hp → Prop) (h0 : Pv 0 σ H) (hl : ∀ i σ H, i ≤ xs.length → Pv i σ H → SqL K H a xs)
    (hs : ∀ i x σ H, xs[i]? = some x → Pv i σ H → g x σ H fun σ2 H2 => tw ⟨Pv (i + 1), rt, nx, Pv (i + 1)⟩ σ2 H2) (hd : ∀ σ H, Pv xs.length σ H → nx σ H) : forW (Itl K a) g tw ⟨nx, rt, bk, ct⟩ σ H := for_list Pv h0 hl hs hd
theorem fw_tup {K : PySem.W.Frag} {a : Addr} {xs : List V} (Pv : Nat → L2.St → Hp → Prop) (h0 : Pv 0 σ H) (hl : ∀ i σ H, i ≤ xs.length → Pv i σ H → SqT K H a xs)
    (hs : ∀ i x σ H, xs[i]? = some x → Pv i σ H → g x σ H fun σ2 H2 => tw ⟨Pv (i + 1), rt, nx, Pv (i + 1)⟩ σ2 H2) (hd : ∀ σ H, Pv xs.length σ H → nx σ H) : forW (Itt K a) g tw ⟨nx, rt, bk, ct⟩ σ H := for_tup Pv h0 hl hs hd
/-- while: W a word with a number that falls -/
theorem rd_while (W : Nat → L2.St → Hp → Prop) (m0 : Nat) (h0 : W m0 σ H) (hs : ∀ m σ H, W m σ H → tt σ H fun b H1 => if b = true then wl W m tw nx rt σ H1 else nx σ H1) : tWhile tt tw ⟨nx, rt, bk, ct⟩ σ H := ⟨W, ⟨m0, h0⟩, hs⟩
theorem rd_wl {W : Nat → L2.St → Hp → Prop} {m : Nat} (h : tw ⟨fun σ' H' => ∃ m', m' < m ∧ W m' σ' H', rt, nx, fun σ' H' => ∃ m', m' < m ∧ W m' σ' H'⟩ σ H) : wl W m tw nx rt σ H := ⟨_, fun _ _ h => h, h⟩
end
end Rs

namespace Rs
open PySem PySem.Spec PyProof.Rows L2

/-! ### plain data: how far it reaches -/
mutual
/-- whole numbers below 10 ^ 12, short texts of small signs, no dicts -/
def tame : PyData → Bool
  | .none | .bool _ => true
  | .int i => decide (i.natAbs < 10 ^ 12)
  | .str x => PyData.strOk x && decide (x.cps.size ≤ 40) && x.cps.toList.all fun c => decide (c < 16 ^ 8)
  | .list xs | .tuple xs => tames xs
  | .dict _ => false
def tames : List PyData → Bool
  | [] => true
  | x :: xs => tame x && tames xs
end
mutual
/-- how many there are in all -/
def cnt : PyData → Nat
  | .list xs | .tuple xs => 1 + cnts xs
  | _ => 1
def cnts : List PyData → Nat
  | [] => 0
  | x :: xs => cnt x + cnts xs
end
mutual
theorem tame_show : ∀ d : PyData, tame d = true → d.showable = true ∧ d.canLay0 = true ∧ d.intsShort 13 = true ∧ d.weight + 1 ≤ 46 * cnt d
  | .none, _ => by simp [PyData.showable, PyData.canLay0, PyData.intsShort, PyData.weight, cnt]
  | .bool _, _ => by simp [PyData.showable, PyData.canLay0, PyData.intsShort, PyData.weight, cnt]
  | .int i, h => by
    have h1 : i.natAbs < 10 ^ 12 := by simpa [tame] using h
    have h2 : i.natAbs.log2 < 40 := by
      by_cases z : i.natAbs = 0
      · rw [z]; decide
      · exact (Nat.log2_lt z).mpr (by omega)
    have h3 := PyData.shown_int_le h1
    refine ⟨by simp [PyData.showable]; omega, by simp [PyData.canLay0], by simp [PyData.intsShort]; omega, ?_⟩
    simp only [PyData.weight, cnt]
    split <;> omega
  | .str x, h => by
    simp only [tame, Bool.and_eq_true, decide_eq_true_eq] at h
    refine ⟨by simp [PyData.showable], by simpa [PyData.canLay0] using h.1.1, by simp [PyData.intsShort], ?_⟩
    simp only [PyData.weight, cnt]
    omega
  | .list xs, h => by
    obtain ⟨h1, h2, h3, h4⟩ := tames_show xs (by simpa [tame] using h)
    refine ⟨by simpa [PyData.showable] using h1, by simpa [PyData.canLay0] using h2, by simpa [PyData.intsShort] using h3, ?_⟩
    simp only [PyData.weight, cnt]
    omega
  | .tuple xs, h => by
    obtain ⟨h1, h2, h3, h4⟩ := tames_show xs (by simpa [tame] using h)
    refine ⟨by simpa [PyData.showable] using h1, by simpa [PyData.canLay0] using h2, by simpa [PyData.intsShort] using h3, ?_⟩
    simp only [PyData.weight, cnt]
    omega
  | .dict _, h => by simp [tame] at h
theorem tames_show : ∀ xs : List PyData, tames xs = true → PyData.showableAll xs = true ∧ PyData.canLayAll0 xs = true ∧ PyData.intsShortAll 13 xs = true ∧ PyData.weightAll xs ≤ 46 * cnts xs
  | [], _ => by simp [PyData.showableAll, PyData.canLayAll0, PyData.intsShortAll, PyData.weightAll, cnts]
  | x :: xs, h => by
    have h' : tame x = true ∧ tames xs = true := by simpa [tames] using h
    obtain ⟨a1, a2, a3, a4⟩ := tame_show x h'.1
    obtain ⟨b1, b2, b3, b4⟩ := tames_show xs h'.2
    simp only [PyData.showableAll, PyData.canLayAll0, PyData.intsShortAll, PyData.weightAll, cnts, a1, a2, a3, b1, b2, b3, Bool.and_self, true_and]
    omega
end
theorem shw_of {d : PyData} (h : tame d = true) (hc : cnt d ≤ 20000) : Shw d := by
  obtain ⟨h1, h2, h3, h4⟩ := tame_show d h
  exact ⟨h1, PyData.shown_fits (B := 13) (by decide) (by decide) (PyData.leavesShort_of_canLay0 13 d h2 h3) (by omega)⟩
theorem shaped_of {d : PyData} (h : tame d = true) (hd : d.depth ≤ 64) : SeqAt.shaped d = true := by
  obtain ⟨_, h2, _, _⟩ := tame_show d h
  unfold SeqAt.shaped
  rw [h2, Bool.true_and]
  exact decide_eq_true hd
/-! ### lists of whole numbers -/
def dI (ns : List Int) : PyData := .list (ns.map .int)
section
variable {K : PySem.W.Frag} {H H0 : Hp} {M : List Addr} {L L' : Led} {Q : VK} {a b : Addr}
theorem dps_ints : ∀ ns : List Int, DpAll K H (ns.map V.int) (ns.map .int)
  | [] => .nil
  | n :: ns => .cons (.int n) (dps_ints ns)
theorem dp_ints {ns : List Int} (h : SqL K H a (ns.map V.int)) : Dp K H (.ref a) (dI ns) := .lst h (dps_ints ns)
theorem depth_ints : ∀ ns : List Int, PyData.depthAll (ns.map .int) = 0
  | [] => by simp [PyData.depthAll]
  | n :: ns => by simp [PyData.depthAll, PyData.depth, depth_ints ns]
theorem depth_dI (ns : List Int) : (dI ns).depth = 1 := by simp [dI, PyData.depth, depth_ints]
theorem canLay_ints : ∀ ns : List Int, PyData.canLayAll0 (ns.map .int) = true
  | [] => by simp [PyData.canLayAll0]
  | n :: ns => by simp [PyData.canLayAll0, PyData.canLay0, canLay_ints ns]
theorem shaped_dI (ns : List Int) : SeqAt.shaped (dI ns) = true := by
  unfold SeqAt.shaped
  rw [depth_dI]
  simp [dI, PyData.canLay0, canLay_ints]
theorem eqv_ints : ∀ ns ms : List Int, PyData.eqvAll (ns.map .int) (ms.map .int) = decide (ns = ms)
  | [], [] => by simp [PyData.eqvAll]
  | [], m :: ms => by simp [PyData.eqvAll]
  | n :: ns, [] => by simp [PyData.eqvAll]
  | n :: ns, m :: ms => by
    simp only [List.map_cons, PyData.eqvAll, PyData.eqv, eqv_ints ns ms, List.cons.injEq, Bool.decide_and]
    rfl
theorem eqv_dI (ns ms : List Int) : PyData.eqv (dI ns) (dI ms) = decide (ns = ms) := by
  simp only [dI, PyData.eqv, eqv_ints]
theorem tames_ints : ∀ ns : List Int, (∀ n ∈ ns, n.natAbs < 10 ^ 12) → tames (ns.map .int) = true
  | [], _ => by simp [tames]
  | n :: ns, h => by
    simp only [List.map_cons, tames, tame, Bool.and_eq_true, decide_eq_true_eq]
    exact ⟨h n List.mem_cons_self, tames_ints ns fun m hm => h m (List.mem_cons_of_mem _ hm)⟩
theorem cnts_ints : ∀ ns : List Int, cnts (ns.map .int) = ns.length
  | [] => by simp [cnts]
  | n :: ns => by simp only [List.map_cons, cnts, cnt, cnts_ints ns, List.length_cons]; omega
theorem shw_dI {ns : List Int} (h : ∀ n ∈ ns, n.natAbs < 10 ^ 12) (hl : ns.length ≤ 10000) : Shw (dI ns) :=
  shw_of (by simp [dI, tame, tames_ints ns h]) (by simp only [dI, cnt, cnts_ints]; omega)
/-- == and != of two lists of whole numbers -/
theorem rd_eqIs {xs ys : List V} {ns ms : List Int} (S : Hs H0 M H L) (m1 : (a, HO.lst xs) ∈ L) (m2 : (b, HO.lst ys) ∈ L) (e1 : xs = ns.map V.int) (e2 : ys = ms.map V.int) (h : Q (.bl (decide (ns = ms))) H) : rEqD K (.ref a) (.ref b) H Q := by
  subst e1 e2
  exact ⟨_, _, dp_ints (S.lst m1), dp_ints (S.lst m2), shaped_dI ns, shaped_dI ms, by rw [eqv_dI]; exact h⟩
theorem rd_neIs {xs ys : List V} {ns ms : List Int} (S : Hs H0 M H L) (m1 : (a, HO.lst xs) ∈ L) (m2 : (b, HO.lst ys) ∈ L) (e1 : xs = ns.map V.int) (e2 : ys = ms.map V.int) (h : Q (.bl (decide (¬ ns = ms))) H) : rNeD K (.ref a) (.ref b) H Q := by
  subst e1 e2
  refine ⟨_, _, dp_ints (S.lst m1), dp_ints (S.lst m2), shaped_dI ns, shaped_dI ms, ?_⟩
  rw [eqv_dI]
  have e : (!decide (ns = ms)) = decide (¬ ns = ms) := by simp
  rw [e]; exact h
theorem rd_reprI {xs : List V} {ns : List Int} (S : Hs H0 M H L) (m : (a, HO.lst xs) ∈ L) (e : xs = ns.map V.int) (hb : ∀ n ∈ ns, n.natAbs < 10 ^ 12) (hl : ns.length ≤ 10000) (h : Q (.str (dI ns).shown) H) : rRepr K [.ref a] H Q := by
  subst e
  exact ⟨.ref a, dI ns, rfl, dp_ints (S.lst m), shw_dI hb hl, by rw [depth_dI]; decide, h⟩
theorem pick_ints (ns : List Int) (lo hi st : Option Int) : ∃ ks : List Int, pickV (ns.map V.int) lo hi st = ks.map V.int ∧ (∀ k ∈ ks, k ∈ ns) := by
  have e : ∀ ix : List Nat, ix.filterMap ((ns.map V.int)[·]?) = (ix.filterMap (ns[·]?)).map V.int := fun ix => by
    induction ix with
    | nil => rfl
    | cons i ix ih =>
      cases h : ns[i]? with
      | none => rw [List.filterMap_cons_none (by rw [List.getElem?_map, h]; rfl), List.filterMap_cons_none h, ih]
      | some z => rw [List.filterMap_cons_some (by rw [List.getElem?_map, h]; rfl), List.filterMap_cons_some h, ih]; rfl
  refine ⟨(slIx (ns.map V.int).length lo hi st).filterMap (ns[·]?), e _, fun k hk => ?_⟩
  obtain ⟨i, _, hi⟩ := List.mem_filterMap.mp hk
  exact List.mem_of_getElem? hi
end
/-- how keywords are put in the parameters' order -/
theorem kb_of {K : PySem.W.Frag} {x qual : Str} {st : Stmt} {f : Addr} {fd : FuncData} {ps ks : List Str} {n : Nat} (F : Fun K x qual st f fd) (ix : List Nat)
    (h : ∀ (kV doc pm : Value) (an : Option Addr) (cdv ct : Value) (us ws : List Value), us.length = n → ws.length = ks.length →
      bindArgs (PySem.W.fnOf x qual (defArgs st) (defBody st) (defScope st) .none kV doc pm an cdv ct) ⟨us, ks.zip ws⟩ = pure (ps.zip (us ++ ix.filterMap (ws[·]?)))) :
    KBn K fd ps n ks (fun us ws => us ++ ix.filterMap (ws[·]?)) (fun us ws => us ++ ix.filterMap (ws[·]?)) := by
  obtain ⟨oc, od, kV, doc, pm, an, cdv, ct, osl, rfl, lk, hcd⟩ := F.ex
  exact ⟨fun s us ws _ h1 h2 => .of_eq (h kV doc pm an cdv ct us ws h1 h2), fun r1 r2 => r1.append (vals_pick r2 ix)⟩
end Rs

namespace Rs
open PySem PySem.Spec PyProof.Rows L2
section
variable {K : PySem.W.Frag} {mg : Str → Option Value} {h : Heap}
theorem ex_calK {x : Str} {st : Stmt} {f : Addr} {oc : Value} {od an : Option Addr} {osl : Array (Option Value)} {kV doc pm cdv ct : Value} (X : K.In h) (G : h.Ns mainGlobals mg) (a : PySem.W.nsIn K mainGlobals x = some (some (.ref f)))
    (l : K.lookup f = some ⟨oc, od, .func (PySem.W.fnOf x x (defArgs st) (defBody st) (defScope st) .none kV doc pm an cdv ct), osl⟩) (c : PySem.W.codeIn K cdv x = true) (k : PySem.W.keepIn K (.ref f) = true) : ∃ f fd, CalK K mg x st f fd :=
  ⟨_, _, fun_mk l c k, PySem.W.mg_of X G a⟩
theorem ex_cal {x : Str} {st : Stmt} {ps : List Str} {f : Addr} {oc : Value} {od an : Option Addr} {osl : Array (Option Value)} {kV doc pm cdv ct : Value} (X : K.In h) (G : h.Ns mainGlobals mg) (a : PySem.W.nsIn K mainGlobals x = some (some (.ref f)))
    (l : K.lookup f = some ⟨oc, od, .func (PySem.W.fnOf x x (defArgs st) (defBody st) (defScope st) .none kV doc pm an cdv ct), osl⟩) (c : PySem.W.codeIn K cdv x = true) (k : PySem.W.keepIn K (.ref f) = true)
    (b : ∀ (kV doc pm : Value) (an : Option Addr) (cdv ct : Value) (us : List Value), us.length = ps.length → bindArgs (PySem.W.fnOf x x (defArgs st) (defBody st) (defScope st) .none kV doc pm an cdv ct) ⟨us, []⟩ = pure (ps.zip us)) : ∃ f fd, Cal K mg x st ps f fd :=
  ⟨_, _, fun_mk l c k, (fun_mk l c k).binds b, PySem.W.mg_of X G a⟩
theorem ex_gl {x : Str} {v : V} {u : Value} (X : K.In h) (G : h.Ns mainGlobals mg) (a : PySem.W.nsIn K mainGlobals x = some (some u)) (r : RelV v u) : ∃ u, mg x = some u ∧ RelV v u := ⟨u, PySem.W.mg_of X G a, r⟩
end
/-- the end, the law's def by its facts -/
theorem walkE {l : PySem.W.OpenLaw} {n k : Nat} {q : Program} {loose : List Str} {XP : (Str → Option Value) → Heap → Prop} {YP : World → Heap → Prop} {d : DefRec} {K : Params → PySem.W.Frag} {sp : PySem.W.Frag → Sp} {st : Stmt} {x : Str}
    (hn : l.most = some n) (hn2 : n ≤ sizeLine) (hdf : d.params.defaults = []) (hr : Room k callerA) (hY : ∀ (w : World) (h : Heap), YP w h → (K w.params).In h) (hx : d.name = "law")
    (hb : ∀ (kV doc pm : Value) (an : Option Addr) (cdv ct u : Value), bindArgs (PySem.W.fnOf "law" "law" (defArgs st) (defBody st) (defScope st) .none kV doc pm an cdv ct) ⟨[u], []⟩ = pure [(x, u)])
    (F : ∀ (w : World) (mg : Str → Option Value) (h : Heap), (K w.params).In h → h.Ns mainGlobals mg →
      ∃ (fa : Addr) (fd : FuncData), Cal (K w.params) mg "law" st [x] fa fd ∧ ∀ base : Heap, FnG l.prog w (K w.params) mg base k fa fd [x] (sp (K w.params)))
    (hsp : ∀ (K : PySem.W.Frag) (H : Hp) (a : Addr) (ns : List Int), ns.length ≤ n → (∀ z ∈ ns, Builtin.Int.intBits z ≤ 1048576) → SqL K H a (ns.map V.int) → sp K [.ref a] H (fun v _ => v = .bl true) E0) :
    PySem.W.WalkO q loose XP YP l.row.toRowW d [] (fun f vs => PySem.call f vs) := by
  refine walkG (x := x) hn hn2 hdf hr hY (fun w mg fa h KX G hmg => ?_) hsp
  obtain ⟨f, fd, C, ok⟩ := F w mg h KX G
  rw [hx] at hmg
  have e := C.m.symm.trans hmg
  cases e
  obtain ⟨oc, od, kV, doc, pm, an, cdv, ct, osl, rfl, lk, hcd⟩ := C.F.ex
  exact ⟨_, fun s u => .of_eq (hb kV doc pm an cdv ct u), fun base _ _ => ok base⟩
end Rs

namespace Rs
open PySem PySem.Spec PyProof.Rows L2

/-- xs[i:j] = another list -/
def gSlc (to : TE) (tl th : L2.St → Hp → (Option Int → Hp → Prop) → Prop) : TG := fun v σ H Q => to σ H fun o H1 => tl σ H1 fun l H2 => th σ H2 fun u H3 => ∃ (a b : Addr) (xs ys : List V) (i j : Int), o = .ref a ∧ v = .ref b ∧ l = some i ∧ u = some j ∧
  H3 a = some (.lst xs) ∧ H3 b = some (.lst ys) ∧ a ≠ b ∧ 0 ≤ i ∧ i ≤ j ∧ j ≤ xs.length ∧ xs.length + ys.length ≤ sizeLine ∧ Q σ (upd H3 a (.lst (xs.take i.toNat ++ ys ++ xs.drop j.toNat)))
theorem pg_slc {X : Cx} {o : Expr} {lo hi : Option Expr} {p2 pos : Pos} {to : TE} {tl th : L2.St → Hp → (Option Int → Hp → Prop) → Prop} (ho : PE X o to) (hl : PO X lo tl) (hh : PO X hi th)
    (ha : ∀ v, assign (.Subscript o (.Slice lo hi none p2) pos) X.env v = (do
      let ov ← holding [v] (eval o X.env)
      let iv ← holding [v, ov] (eval (.Slice lo hi none p2) X.env)
      standAt pos
      holding [v, ov, iv] (setItem ov iv v)
      release [iv, v, ov] []) := by intro _; rfl) : PG X (.Subscript o (.Slice lo hi none p2) pos) (gSlc to tl th) := by
  refine ⟨fun pins s σ H v u Q I r h => ?_⟩
  rw [ha]
  refine wpAny_bind (wpAny_holding (thn (ho.run pins s σ H _ I h) fun ov s1 ⟨x, H1, I1, r1, q1⟩ => ?_))
  refine wpAny_bind (wpAny_holding ?_)
  refine wpAny_Slice (thn (hl.run pins s1 σ H1 _ I1 q1) fun vl s2 ⟨l, H2, I2, pl, q2⟩ => thn (hh.run pins s2 σ H2 _ I2 q2) fun vu s3 ⟨w, H3, I3, pu, q3⟩ => ?_)
  rw [evalPart_none]
  refine wpAny_pure ?_
  have I4 : Inv X pins σ H3 { s3 with heap := s3.heap.push { cls := .type "slice", data := .fields #[vl, vu, .none] } } := I3.kept (t' := s3.toks) fun b ob q => Heap.get?_push_of_some _ q
  obtain ⟨a, b, xs, ys, i, j, rfl, rfl, rfl, rfl, hA, hB, hne, h0, h1, h2, h3, q⟩ := q3
  cases r1
  cases r
  cases pl
  cases pu
  refine wpAny_bind (wpAny_standAt (wpAny_bind (wpAny_holding ?_)))
  refine set_slice I4 hA hB hne (Heap.IsSliceOf.new ..) ⟨_, rfl⟩ ⟨_, rfl⟩ h0 h1 h2 h3 fun s5 I5 => ?_
  exact wpAny_release ⟨σ, _, I5, q⟩

/-! ### classes -/
/-- a method as it stands behind the top -/
structure CalM (K : PySem.W.Frag) (x qual : Str) (st : Stmt) (ps : List Str) (f : Addr) (fd : FuncData) : Prop where
  F : Fun K x qual st f fd
  b : Binds K fd ps []
section
variable {K : PySem.W.Frag} {mg : Str → Option Value} {h : Heap}
theorem ex_calM {C : Addr} {x qual : Str} {st : Stmt} {ps : List Str} {f : Addr} {oc : Value} {od an : Option Addr} {osl : Array (Option Value)} {kV doc pm cdv ct : Value} (a : PySem.W.findIn K (.ref C) x = some (some (.ref f))) (i : PySem.W.isFn K (.ref f) = true)
    (l : K.lookup f = some ⟨oc, od, .func (PySem.W.fnOf x qual (defArgs st) (defBody st) (defScope st) .none kV doc pm an cdv ct), osl⟩) (c : PySem.W.codeIn K cdv qual = true) (k : PySem.W.keepIn K (.ref f) = true)
    (b : ∀ (kV doc pm : Value) (an : Option Addr) (cdv ct : Value) (us : List Value), us.length = ps.length → bindArgs (PySem.W.fnOf x qual (defArgs st) (defBody st) (defScope st) .none kV doc pm an cdv ct) ⟨us, []⟩ = pure (ps.zip us)) :
    ∃ f fd, Meth K C x f ∧ CalM K x qual st ps f fd := ⟨_, _, ⟨a, i, k⟩, fun_mk l c k, (fun_mk l c k).binds b⟩
/-- an __init__ with keyword-only defaults -/
structure CalI (K : PySem.W.Frag) (C : Addr) (qual : Str) (st : Stmt) (kws : List (Str × V)) (f : Addr) (fd : FuncData) : Prop where
  M : Mk K C f
  F : FunD K "__init__" qual (defArgs st) (defBody st) (defScope st) [] kws f fd
theorem ex_calI {C D : Addr} {qual : Str} {st : Stmt} {kws : List (Str × V)} {f : Addr} {oc : Value} {od an : Option Addr} {osl : Array (Option Value)} {doc pm cdv ct : Value} (m : PySem.W.makesIn K C = true) (kc : PySem.W.keepIn K (.ref C) = true)
    (a : PySem.W.findIn K (.ref C) "__init__" = some (some (.ref f))) (i : PySem.W.isFn K (.ref f) = true)
    (l : K.lookup f = some ⟨oc, od, .func (PySem.W.fnOf "__init__" qual (defArgs st) (defBody st) (defScope st) .none (.ref D) doc pm an cdv ct), osl⟩) (c : PySem.W.codeIn K cdv qual = true) (k : PySem.W.keepIn K (.ref f) = true)
    (d : ∀ q ∈ kws, ∃ u, PySem.W.nsIn K D q.1 = some (some u) ∧ RelV q.2 u) : ∃ f fd, CalI K C qual st kws f fd :=
  ⟨_, _, ⟨m, a, i, kc⟩, ⟨⟨oc, od, .none, .ref D, doc, pm, an, cdv, ct, osl, rfl, l, c, Or.inl ⟨rfl, rfl⟩, Or.inr ⟨D, rfl, d⟩⟩, k⟩⟩
end
end Rs

namespace Rs
open PySem PySem.Spec PyProof.Rows L2

/-- the part of a list of whole numbers -/
def cutI (ns : List Int) (lo hi : Option Int) : List Int := (ns.drop (HT.sIx ns.length 0 lo)).take (HT.sIx ns.length ns.length hi - HT.sIx ns.length 0 lo)
theorem cutV_map (ns : List Int) (lo hi : Option Int) : cutV (ns.map V.int) lo hi = (cutI ns lo hi).map V.int := by
  unfold cutV cutI
  rw [List.map_take, List.map_drop, List.length_map]
theorem cutI_le (ns : List Int) (lo hi : Option Int) : (cutI ns lo hi).length ≤ ns.length := by
  unfold cutI
  rw [List.length_take, List.length_drop]
  omega
section
variable {σ : L2.St} {H H0 : Hp} {M : List Addr} {L L' : Led} {Q : VK} {v x y : V} {nx : L2.St → Hp → Prop} {rt : VK} {bk ct : L2.St → Hp → Prop} {t u : TS} {te ta tb tc : TE} {g : TG} {tt tu : TT} {tw : TS} {wi : TI} {K : PySem.W.Frag} {a p : Addr}
/-! attributes -/
theorem rd_fld {f : Str} (h : ta σ H fun x H1 => ∃ a C dx fs v, x = .ref a ∧ H1 a = some (.ins C dx fs) ∧ Cls K C ∧ NoAttr K C f ∧ fs.lookup f = some v ∧ Q v H1) : tFld K ta f σ H Q := h
theorem rd_fldV {f : Str} {C dx : Addr} {fs : List (Str × V)} {R : V → Prop} (S : Hs H0 M H L) (m : (a, HO.ins C dx fs) ∈ L) (c : Cls K C) (n : NoAttr K C f) (e : fs.lookup f = some v) (h : R v) :
    ∃ a' C dx fs v', V.ref a = .ref a' ∧ H a' = some (.ins C dx fs) ∧ Cls K C ∧ NoAttr K C f ∧ fs.lookup f = some v' ∧ R v' := ⟨a, C, dx, fs, v, rfl, S.is _ m, c, n, e, h⟩
theorem rd_sfld {f : Str} {tv : TE} (h : tv σ H fun y H1 => ta σ H1 fun x H2 => ∃ a C dx fs, x = .ref a ∧ H2 a = some (.ins C dx fs) ∧ Cls K C ∧ NoAttr K C f ∧ fs.length < 1000 ∧ nx σ (upd H2 a (.ins C dx (putF f y fs)))) : sFld K ta tv f ⟨nx, rt, bk, ct⟩ σ H := h
theorem rd_sfldV {f : Str} {C dx : Addr} {fs fs' : List (Str × V)} {R : Hp → Prop} (S : Hs H0 M H L) (ch : Chg a (.ins C dx fs) (.ins C dx fs') L L') (hm : H0 a = none ∨ a ∈ M) (c : Cls K C) (n : NoAttr K C f) (hl : fs.length < 1000) (e : putF f y fs = fs') (h : ∀ H', Hs H0 M H' L' → R H') :
    ∃ a' C dx fs, V.ref a = .ref a' ∧ H a' = some (.ins C dx fs) ∧ Cls K C ∧ NoAttr K C f ∧ fs.length < 1000 ∧ R (upd H a' (.ins C dx (putF f y fs))) := by
  subst e
  exact ⟨a, C, dx, fs, rfl, S.is _ ch.mem, c, n, hl, h _ (S.put ch hm)⟩
theorem rd_meth {C : Addr} {m : Str} {sp : Sp} {E : XK} {t : TA} (h : ta σ H fun x H1 => ∃ a dx fs, x = .ref a ∧ H1 a = some (.ins C dx fs) ∧ fs.lookup m = none ∧ t σ H1 fun vs H2 => sp (x :: vs) H2 Q E) : tMeth C m sp [] E ta t σ H Q := by
  have e : ∀ x, (fun (vs : List V) H2 => sp (x :: (vs ++ [])) H2 Q E) = fun vs H2 => sp (x :: vs) H2 Q E := fun x => by funext vs H2; rw [List.append_nil]
  show ta σ H fun x H1 => ∃ a dx fs, x = .ref a ∧ H1 a = some (.ins C dx fs) ∧ fs.lookup m = none ∧ t σ H1 fun vs H2 => sp (x :: (vs ++ [])) H2 Q E
  simp only [List.append_nil]
  exact h
theorem rd_methV {C dx : Addr} {m : Str} {fs : List (Str × V)} {R : Prop} (S : Hs H0 M H L) (hm : (a, HO.ins C dx fs) ∈ L) (e : fs.lookup m = none) (h : R) : ∃ a' dx fs, V.ref a = .ref a' ∧ H a' = some (.ins C dx fs) ∧ fs.lookup m = none ∧ R :=
  ⟨a, dx, fs, rfl, S.is _ hm, e, h⟩
theorem rd_mkK {C : Addr} {n m : Nat} {sp : Sp} {gV : List V → List V → List V} {E : XK} {t tk : TA} (h : t σ H fun vs H1 => tk σ H1 fun zs H2 => vs.length = n ∧ zs.length = m ∧ ∀ x dx, H2 x = none → H2 dx = none → dx ≠ x →
    sp (gV (.ref x :: vs) zs) (upd (upd H2 dx (.own x)) x (.ins C dx [])) (fun v H3 => v = .non ∧ Q (.ref x) H3) E) : tMakeK C n m sp gV E t tk σ H Q := h
theorem rd_mkV {C : Addr} {R : Addr → Hp → Prop} (S : Hs H0 M H L) (h : ∀ x dx H', H0 x = none → Hs H0 M H' ((x, .ins C dx []) :: L) → R x H') : ∀ x dx, H x = none → H dx = none → dx ≠ x → R x (upd (upd H dx (.own x)) x (.ins C dx [])) := by
  intro x dx hx hd ne
  obtain ⟨_, S1⟩ := S.new hd (.own x)
  have hx' : upd H dx (HO.own x) x = none := by rw [upd_ne (Ne.symm ne)]; exact hx
  obtain ⟨n0, S2⟩ := S1.new hx' (.ins C dx [])
  exact h x dx _ n0 (S2.sub (List.Sublist.cons_cons _ (List.Sublist.cons _ (List.Sublist.refl _))))
theorem rd_callL {i : Nat} {f : Addr} {sp : Sp} {E : XK} {t : TA} (e : σ[i]? = some (some (.ref f))) (h : t σ H fun vs H1 => sp vs H1 Q E) : tCallL i f sp [] E t σ H Q := by
  refine ⟨e, ?_⟩
  simp only [List.append_nil]
  exact h
/-! methods of lists -/
theorem rd_bm {T : String} {r : V → List V → Hp → VK → Prop} {t : TA} (h : ta σ H fun x H1 => tyV K T x H1 ∧ t σ H1 fun xs H2 => r x xs H2 Q) : tBM K T r ta t σ H Q := h
theorem rd_bm0 {T : String} {r : V → List V → Hp → VK → Prop} (h : ta σ H fun x H1 => tyV K T x H1 ∧ r x [] H1 Q) : tBM0 K T r ta σ H Q := h
theorem rd_tyL {xs : List V} {R : Prop} (S : Hs H0 M H L) (m : (a, HO.lst xs) ∈ L) (h : R) : tyV K "list" (.ref a) H ∧ R := ⟨Or.inl ⟨rfl, xs, S.lst m⟩, h⟩
theorem rd_app {xs : List V} (S : Hs H0 M H L) (c : Chg a (.lst xs) (.lst (xs ++ [y])) L L') (hm : H0 a = none ∨ a ∈ M) (hl : xs.length < sizeLine) (h : ∀ H', Hs H0 M H' L' → Q .non H') : rAppend (.ref a) [y] H Q :=
  ⟨a, xs, y, rfl, rfl, S.is _ c.mem, hl, h _ (S.put c hm)⟩
/-! calls over lists -/
theorem rd_sumI {xs : List V} {ns : List Int} (S : Hs H0 M H L) (m : (a, HO.lst xs) ∈ L) (e : xs = ns.map V.int) (h : Q (.int ns.sum) H) : rSum K [.ref a] H Q := ⟨a, ns, rfl, by subst e; exact S.lst m, h⟩
theorem rd_slL {xs : List V} {ns : List Int} {lo hi : Option Int} (S : Hs H0 M H L) (m : (a, HO.lst xs) ∈ L) (e : xs = ns.map V.int) (h : ∀ p H', H0 p = none → Hs H0 M H' ((p, .lst ((cutI ns lo hi).map V.int)) :: L) → Q (.ref p) H') : rSlL K (.ref a) lo hi H Q := by
  subst e
  refine ⟨a, _, rfl, S.lst m, ?_⟩
  rw [cutV_map]
  exact rd_newO S h
theorem rd_catL {xs ys : List V} {b : Addr} (S : Hs H0 M H L) (m : (a, HO.lst xs) ∈ L) (m2 : (b, HO.lst ys) ∈ L) (hz : xs.length + ys.length ≤ sizeLine) (h : ∀ p H', H0 p = none → Hs H0 M H' ((p, .lst (xs ++ ys)) :: L) → Q (.ref p) H') : rCat (.ref a) (.ref b) H Q :=
  ⟨a, b, xs, ys, rfl, rfl, S.is _ m, S.is _ m2, hz, rd_newO S h⟩
theorem rd_repL {xs : List V} {k : Int} (S : Hs H0 M H L) (m : (a, HO.lst xs) ∈ L) (h1 : 0 ≤ k) (h2 : k < 2 ^ 63) (hz : xs.length * k.toNat ≤ sizeLine) (h : ∀ p H', H0 p = none → Hs H0 M H' ((p, .lst (List.replicate k.toNat xs).flatten) :: L) → Q (.ref p) H') : rRep (.ref a) (.int k) H Q :=
  ⟨a, k, xs, rfl, rfl, S.is _ m, by omega, h2, hz, rd_newO S h⟩
def revR (K : PySem.W.Frag) (Q : VK) (x : V) (H1 : Hp) : Prop := ∃ a xs, x = .ref a ∧ SqL K H1 a xs ∧ ∀ p, H1 p = none → Q (.ref p) (upd H1 p (.lst xs.reverse))
theorem rd_revL (h : te σ H fun x H1 => revR K Q x H1) : tRevL K te σ H Q := h
theorem rd_revV {xs : List V} (S : Hs H0 M H L) (m : (a, HO.lst xs) ∈ L) (h : ∀ p H', H0 p = none → Hs H0 M H' ((p, .lst xs.reverse) :: L) → Q (.ref p) H') : revR K Q (.ref a) H := ⟨a, xs, rfl, S.lst m, rd_newO S h⟩
theorem rd_isN (h : Q (.bl (decide (x = .non))) H) : (fun x y H Q => y = V.non ∧ Q (.bl (decide (x = .non))) H : R2) x .non H Q := ⟨rfl, h⟩
theorem rd_notN (h : Q (.bl (!decide (x = .non))) H) : (fun x y H Q => y = V.non ∧ Q (.bl (!decide (x = .non))) H : R2) x .non H Q := ⟨rfl, h⟩
/-! targets -/
theorem gt_unl {xs : List V} {n : Nat} {ts : TGs} {N : L2.St → Hp → Prop} (S : Hs H0 M H L) (m : (a, HO.lst xs) ∈ L) (hn : xs.length = n) (h : ts xs σ H N) : gUnl K n ts (.ref a) σ H N := ⟨a, xs, rfl, S.lst m, hn, h⟩
theorem gt_sub {to ti : TE} {ts : TSet} {N : L2.St → Hp → Prop} (h : to σ H fun o H1 => ti σ H1 fun i H2 => ts o i v H2 fun H3 => N σ H3) : gSub to ti ts v σ H N := h
theorem gt_setL {xs : List V} {k : Int} {j : Nat} {N : Hp → Prop} (S : Hs H0 M H L) (c : Chg a (.lst xs) (.lst (xs.set j v)) L L') (hm : H0 a = none ∨ a ∈ M) (e : ixN xs.length k = some j) (h : ∀ H', Hs H0 M H' L' → N H') : rSetL (.ref a) (.int k) v H N :=
  ⟨a, xs, k, j, rfl, rfl, S.is _ c.mem, e, h _ (S.put c hm)⟩
theorem gt_slc {to : TE} {tl th : L2.St → Hp → (Option Int → Hp → Prop) → Prop} {N : L2.St → Hp → Prop} (h : to σ H fun o H1 => tl σ H1 fun l H2 => th σ H2 fun u H3 => ∃ (a b : Addr) (xs ys : List V) (i j : Int), o = .ref a ∧ v = .ref b ∧ l = some i ∧ u = some j ∧
    H3 a = some (.lst xs) ∧ H3 b = some (.lst ys) ∧ a ≠ b ∧ 0 ≤ i ∧ i ≤ j ∧ j ≤ xs.length ∧ xs.length + ys.length ≤ sizeLine ∧ N σ (upd H3 a (.lst (xs.take i.toNat ++ ys ++ xs.drop j.toNat)))) : gSlc to tl th v σ H N := h
theorem gt_slcV {b : Addr} {xs ys zs : List V} {i j : Int} {N : Hp → Prop} (S : Hs H0 M H L) (c : Chg a (.lst xs) (.lst zs) L L') (m : (b, HO.lst ys) ∈ L) (hne : a ≠ b) (hm : H0 a = none ∨ a ∈ M) (h0 : 0 ≤ i) (h1 : i ≤ j) (h2 : j ≤ xs.length) (hz : xs.length + ys.length ≤ sizeLine)
    (e : xs.take i.toNat ++ ys ++ xs.drop j.toNat = zs) (h : ∀ H', Hs H0 M H' L' → N H') : ∃ (a' b' : Addr) (xs ys : List V) (i' j' : Int), V.ref a = .ref a' ∧ V.ref b = .ref b' ∧ some i = some i' ∧ some j = some j' ∧
    H a' = some (.lst xs) ∧ H b' = some (.lst ys) ∧ a' ≠ b' ∧ 0 ≤ i' ∧ i' ≤ j' ∧ j' ≤ xs.length ∧ xs.length + ys.length ≤ sizeLine ∧ N (upd H a' (.lst (xs.take i'.toNat ++ ys ++ xs.drop j'.toNat))) := by
  subst e
  exact ⟨a, b, xs, ys, i, j, rfl, rfl, rfl, rfl, S.is _ c.mem, S.is _ m, hne, h0, h1, h2, hz, h _ (S.put c hm)⟩
/-! a comprehension over a range, all its steps without new objects left behind but the list itself -/
def lcW (J : It) (g : TG) (tt : TT) (te : TE) (vs : List Nat) (σ : L2.St) (H1 : Hp) (Q : VK) : Prop := ∀ D, H1 D = none → ∃ W : Nat → Nat → Hp → Prop, (∃ m, W 0 m (upd H1 D (.lst []))) ∧ ∀ i m H, W i m H →
  (J.stop i H ∧ Q (.ref D) H) ∨ (J.go i H ∧ ∃ Nx : Hp → Prop, (∀ H', Nx H' → ∃ m', m' < m ∧ W (i + 1) m' H') ∧ ∀ x H', J.yld i H x H' → g x (wipe σ vs) H' fun σ2 H2 => wipe σ2 vs = wipe σ vs ∧ tt σ2 H2 fun b H3 =>
    if b = true then te σ2 H3 fun y H4 => ∃ acc, H4 D = some (.lst acc) ∧ acc.length < sizeLine ∧ Nx (upd H4 D (.lst (acc ++ [y]))) else Nx H3)
theorem rd_lc {vs : List Nat} (h : wi σ H fun J H1 => lcW J g tt te vs σ H1 Q) : tLc wi g tt te vs σ H Q := h
def lcSkip (H0 : Hp) (M : List Addr) (L : Led) (R1 : List V → Prop) (D : Addr) (H : Hp) : Prop := H0 D = none ∧ ∃ acc, R1 acc ∧ Hs H0 M H ((D, .lst acc) :: L)
def lcPut (H0 : Hp) (M : List Addr) (L : Led) (R1 : List V → Prop) (D : Addr) (y : V) (H : Hp) : Prop := ∃ acc, H D = some (.lst acc) ∧ acc.length < sizeLine ∧ lcSkip H0 M L R1 D (upd H D (.lst (acc ++ [y])))
theorem rd_lcPut {D : Addr} {acc : List V} {L2 L3 : Led} {R1 : List V → Prop} (S : Hs H0 M H L2) (c : Chg D (.lst acc) (.lst (acc ++ [y])) L2 L3) (n : H0 D = none) (hl : acc.length < sizeLine) (sub : ((D, HO.lst (acc ++ [y])) :: L).Sublist L3) (r : R1 (acc ++ [y])) : lcPut H0 M L R1 D y H :=
  ⟨acc, S.is _ c.mem, hl, n, _, r, (S.put c (Or.inl n)).sub sub⟩
theorem rd_lcSkip {D : Addr} {acc : List V} {L2 : Led} {R1 : List V → Prop} (S : Hs H0 M H L2) (n : H0 D = none) (sub : ((D, HO.lst acc) :: L).Sublist L2) (r : R1 acc) : lcSkip H0 M L R1 D H := ⟨n, _, r, S.sub sub⟩
theorem lcw_range {lo : Int} {n : Nat} {vs : List Nat} (S : Hs H0 M H L) (R : Nat → List V → Prop) (r0 : R 0 [])
    (hs : ∀ D i acc H', i < n → R i acc → H0 D = none → Hs H0 M H' ((D, .lst acc) :: L) → g (.int (lo + i)) (wipe σ vs) H' fun σ2 H2 => wipe σ2 vs = wipe σ vs ∧ tt σ2 H2 fun b H3 => if b = true then te σ2 H3 fun y H4 => lcPut H0 M L (R (i + 1)) D y H4 else lcSkip H0 M L (R (i + 1)) D H3)
    (hd : ∀ D acc H', R n acc → H0 D = none → Hs H0 M H' ((D, .lst acc) :: L) → Q (.ref D) H') : lcW (Itr lo n) g tt te vs σ H Q := by
  intro D hD
  have S1 := S.new hD (.lst [])
  refine lc_range (fun i H' => lcSkip H0 M L (R i) D H') ⟨S1.1, [], r0, S1.2⟩ ?_ ?_
  · rintro i H' hi ⟨n0, acc, r, S'⟩
    exact hs D i acc H' hi r n0 S'
  · rintro H' ⟨n0, acc, r, S'⟩
    exact hd D acc H' r n0 S'
theorem lcw_list {a : Addr} {xs : List V} {vs : List Nat} (S : Hs H0 M H L) (R : Nat → List V → Prop) (r0 : R 0 []) (hl : ∀ H' acc D, Hs H0 M H' ((D, .lst acc) :: L) → SqL K H' a xs)
    (hs : ∀ D i x acc H', xs[i]? = some x → R i acc → H0 D = none → Hs H0 M H' ((D, .lst acc) :: L) → g x (wipe σ vs) H' fun σ2 H2 => wipe σ2 vs = wipe σ vs ∧ tt σ2 H2 fun b H3 => if b = true then te σ2 H3 fun y H4 => lcPut H0 M L (R (i + 1)) D y H4 else lcSkip H0 M L (R (i + 1)) D H3)
    (hd : ∀ D acc H', R xs.length acc → H0 D = none → Hs H0 M H' ((D, .lst acc) :: L) → Q (.ref D) H') : lcW (Itl K a) g tt te vs σ H Q := by
  intro D hD
  have S1 := S.new hD (.lst [])
  refine lc_list (xs := xs) (fun i H' => lcSkip H0 M L (R i) D H') ⟨S1.1, [], r0, S1.2⟩ (fun i H' _ ⟨_, acc, _, S'⟩ => hl H' acc D S') ?_ ?_
  · rintro i x H' hi ⟨n0, acc, r, S'⟩
    exact hs D i x acc H' hi r n0 S'
  · rintro H' ⟨n0, acc, r, S'⟩
    exact hd D acc H' r n0 S'
theorem lcw_tup {a : Addr} {xs : List V} {vs : List Nat} (S : Hs H0 M H L) (R : Nat → List V → Prop) (r0 : R 0 []) (hl : ∀ H' acc D, Hs H0 M H' ((D, .lst acc) :: L) → SqT K H' a xs)
    (hs : ∀ D i x acc H', xs[i]? = some x → R i acc → H0 D = none → Hs H0 M H' ((D, .lst acc) :: L) → g x (wipe σ vs) H' fun σ2 H2 => wipe σ2 vs = wipe σ vs ∧ tt σ2 H2 fun b H3 => if b = true then te σ2 H3 fun y H4 => lcPut H0 M L (R (i + 1)) D y H4 else lcSkip H0 M L (R (i + 1)) D H3)
    (hd : ∀ D acc H', R xs.length acc → H0 D = none → Hs H0 M H' ((D, .lst acc) :: L) → Q (.ref D) H') : lcW (Itt K a) g tt te vs σ H Q := by
  intro D hD
  have S1 := S.new hD (.lst [])
  refine lc_tup (xs := xs) (fun i H' => lcSkip H0 M L (R i) D H') ⟨S1.1, [], r0, S1.2⟩ (fun i H' _ ⟨_, acc, _, S'⟩ => hl H' acc D S') ?_ ?_
  · rintro i x H' hi ⟨n0, acc, r, S'⟩
    exact hs D i x acc H' hi r n0 S'
  · rintro H' ⟨n0, acc, r, S'⟩
    exact hd D acc H' r n0 S'
end
end Rs
namespace Rs
open PySem PySem.Spec PyProof.Rows L2
/-- an expression that the proof never comes to -/
def tNevE : TE := fun _ _ _ => False
theorem pe_nev {X : Cx} {e : Expr} : PE X e tNevE := ⟨fun _ _ _ _ _ _ h => h.elim⟩
end Rs
namespace Rs
open PySem PySem.Spec PyProof.Rows L2
theorem ex_u {K : PySem.W.Frag} {D : Addr} {x : Str} {v : V} {u : Value} (a : PySem.W.nsIn K D x = some (some u)) (r : RelV v u) : ∃ u, PySem.W.nsIn K D x = some (some u) ∧ RelV v u := ⟨u, a, r⟩
end Rs

namespace Rs
open PySem PySem.Spec PyProof.Rows L2
section
variable {H0 H H' : Hp} {M : List Addr} {L L' N : Led} {a p : Addr} {o o' : HO} {K : PySem.W.Frag}
theorem Hs.perm (S : Hs H0 M H L) (h : L'.Perm L) : Hs H0 M H L' := ⟨(h.map (·.1)).nodup_iff.mpr S.nd, fun q hq => S.is q (h.mem_iff.mp hq), S.old, S.mu⟩
/-- the objects of N are new, each another -/
structure NewL (H H' : Hp) (N : Led) : Prop where
  nd : (N.map (·.1)).Nodup
  nw : ∀ q ∈ N, H q.1 = none
  is : ∀ q ∈ N, H' q.1 = some q.2
/-- one object was changed, those of N are new -/
theorem Hs.oneN (S : Hs H0 M H L) (c : Chg a o o' L L') (hm : H0 a = none ∨ a ∈ M) (k : ∀ b u, H b = some u → b ≠ a → H' b = some u) (h' : H' a = some o') (n : NewL H H' N) : (∀ q ∈ N, H0 q.1 = none) ∧ Hs H0 M H' (N ++ L') := by
  have S' := S.one c hm k h'
  refine ⟨fun q hq => (S.new (n.nw q hq) q.2).1, ?_, ?_, S'.old, S'.mu⟩
  · rw [List.map_append, List.nodup_append]
    refine ⟨n.nd, S'.nd, ?_⟩
    intro x hx y hy e
    subst e
    obtain ⟨q, hq, rfl⟩ := List.mem_map.mp hx
    rw [c.keys] at hy
    obtain ⟨r, hr, e⟩ := List.mem_map.mp hy
    have := S.is r hr
    rw [e, n.nw q hq] at this
    cases this
  · intro q hq
    rcases List.mem_append.mp hq with h | h
    · exact n.is q h
    · exact S'.is q h
/-- nothing was changed, those of N are new -/
theorem Hs.moreN (S : Hs H0 M H L) (k : Same H H') (n : NewL H H' N) : (∀ q ∈ N, H0 q.1 = none) ∧ Hs H0 M H' (N ++ L) := by
  have S' := S.more k
  refine ⟨fun q hq => (S.new (n.nw q hq) q.2).1, ?_, ?_, S'.old, S'.mu⟩
  · rw [List.map_append, List.nodup_append]
    refine ⟨n.nd, S'.nd, ?_⟩
    intro x hx y hy e
    subst e
    obtain ⟨q, hq, rfl⟩ := List.mem_map.mp hx
    obtain ⟨r, hr, e⟩ := List.mem_map.mp hy
    have := S.is r hr
    rw [e, n.nw q hq] at this
    cases this
  · intro q hq
    rcases List.mem_append.mp hq with h | h
    · exact n.is q h
    · exact S'.is q h
/-- what a ledger tells of new ones -/
theorem Hs.news (S : Hs H0 M H L) (h : N.Sublist L) (n : ∀ q ∈ N, H0 q.1 = none) : NewL H0 H N := ⟨S.nd.sublist (h.map _), n, fun q hq => S.is q (h.subset hq)⟩
/-- plain data that a ledger holds: refs of tuples of whole numbers -/
def TupL (rs : List V) (T : Led) : Prop := (∀ r ∈ rs, ∃ q ∈ T, r = .ref q.1) ∧ ∀ q ∈ T, ∃ ns : List Int, q.2 = .tup (ns.map V.int)
theorem TupL.nil : TupL [] [] := ⟨fun r h => (nomatch h), fun q h => (nomatch h)⟩
theorem TupL.app {rs rs2 : List V} {T T2 : Led} (h : TupL rs T) (h2 : TupL rs2 T2) : TupL (rs ++ rs2) (T2 ++ T) := by
  refine ⟨fun r hr => ?_, fun q hq => ?_⟩
  · rcases List.mem_append.mp hr with z | z
    · obtain ⟨q, hq, e⟩ := h.1 r z; exact ⟨q, List.mem_append_right _ hq, e⟩
    · obtain ⟨q, hq, e⟩ := h2.1 r z; exact ⟨q, List.mem_append_left _ hq, e⟩
  · rcases List.mem_append.mp hq with z | z
    · exact h2.2 q z
    · exact h.2 q z
theorem TupL.snoc {rs : List V} {T : Led} (h : TupL rs T) (q : Addr) (ns : List Int) : TupL (rs ++ [.ref q]) ((q, .tup (ns.map V.int)) :: T) :=
  h.app (T2 := [(q, .tup (ns.map V.int))]) ⟨fun r hr => ⟨_, List.mem_cons_self, by simpa using hr⟩, fun z hz => ⟨ns, by simp at hz; rw [hz]⟩⟩
theorem dpT {rs : List V} {T : Led} (h : TupL rs T) (is : ∀ q ∈ T, H q.1 = some q.2) : ∃ nss : List (List Int), nss.length = rs.length ∧ DpAll K H rs (nss.map fun ns => .tuple (ns.map .int)) := by
  induction rs with
  | nil => exact ⟨[], rfl, .nil⟩
  | cons r rs ih =>
    obtain ⟨nss, e, d⟩ := ih ⟨fun x hx => h.1 x (List.mem_cons_of_mem _ hx), h.2⟩
    obtain ⟨q, hq, rfl⟩ := h.1 r List.mem_cons_self
    obtain ⟨ns, e2⟩ := h.2 q hq
    have hi := is q hq
    rw [e2] at hi
    exact ⟨ns :: nss, by simp [e], .cons (.tup (SqT.of hi) (dps_ints ns)) d⟩
theorem lay_T : ∀ nss : List (List Int), PyData.canLayAll0 (nss.map fun ns => .tuple (ns.map .int)) = true ∧ PyData.depthAll (nss.map fun ns => .tuple (ns.map .int)) ≤ 1
  | [] => by simp [PyData.canLayAll0, PyData.depthAll]
  | ns :: nss => by
    obtain ⟨a, b⟩ := lay_T nss
    simp only [List.map_cons, PyData.canLayAll0, PyData.canLay0, canLay_ints, a, Bool.and_self, PyData.depthAll, PyData.depth, depth_ints, true_and]
    omega
/-- a list of such tuples: data -/
theorem dpLT {rs : List V} {T : Led} (h : TupL rs T) (S : Hs H0 M H L) (m : (a, HO.lst rs) ∈ L) (sub : ∀ q ∈ T, q ∈ L) : ∃ nss : List (List Int), nss.length = rs.length ∧ Dp K H (.ref a) (.list (nss.map fun ns => .tuple (ns.map .int))) ∧ SeqAt.shaped (.list (nss.map fun ns => .tuple (ns.map .int))) = true := by
  obtain ⟨nss, e, d⟩ := dpT (K := K) (H := H) h fun q hq => S.is q (sub q hq)
  obtain ⟨y, z⟩ := lay_T nss
  refine ⟨nss, e, .lst (S.lst m) d, ?_⟩
  unfold SeqAt.shaped
  have e1 : PyData.canLay0 (.list (nss.map fun ns => .tuple (ns.map .int))) = true := by simp only [PyData.canLay0, y]
  rw [e1, Bool.true_and]
  refine decide_eq_true ?_
  simp only [PyData.depth]
  omega
theorem eqv_nil (xs : List PyData) : PyData.eqv (.list xs) (.list []) = decide (xs.length = 0) := by
  cases xs <;> simp [PyData.eqv, PyData.eqvAll]
/-- == [] and != [] of a list of such tuples -/
theorem rd_eqT0 {Q : VK} {rs : List V} {T : Led} {b : Addr} (h : TupL rs T) (S : Hs H0 M H L) (m : (a, HO.lst rs) ∈ L) (m2 : (b, HO.lst []) ∈ L) (sub : ∀ q ∈ T, q ∈ L) (k : Q (.bl (decide (rs.length = 0))) H) : rEqD K (.ref a) (.ref b) H Q := by
  obtain ⟨nss, e, d, sh⟩ := dpLT (K := K) h S m sub
  refine ⟨_, .list [], d, .lst (S.lst m2) .nil, sh, by decide, ?_⟩
  rw [eqv_nil, List.length_map, e]
  exact k
theorem rd_neT0 {Q : VK} {rs : List V} {T : Led} {b : Addr} (h : TupL rs T) (S : Hs H0 M H L) (m : (a, HO.lst rs) ∈ L) (m2 : (b, HO.lst []) ∈ L) (sub : ∀ q ∈ T, q ∈ L) (k : Q (.bl (!decide (rs.length = 0))) H) : rNeD K (.ref a) (.ref b) H Q := by
  obtain ⟨nss, e, d, sh⟩ := dpLT (K := K) h S m sub
  refine ⟨_, .list [], d, .lst (S.lst m2) .nil, sh, by decide, ?_⟩
  rw [eqv_nil, List.length_map, e]
  exact k
end
end Rs
namespace Rs
open PySem PySem.Spec PyProof.Rows L2
theorem rd_nn {R : Prop} (h : R) : V.non = V.non ∧ R := ⟨rfl, h⟩
end Rs
namespace Rs
open PySem PySem.Spec PyProof.Rows L2
section
variable {σ : L2.St} {H : Hp} {nx : L2.St → Hp → Prop} {rt : VK} {bk ct : L2.St → Hp → Prop} {te : TE}
theorem rd_aug {i : Nat} {v : V} {rd : V → V → Hp → VK → Prop} (e : σ[i]? = some (some v)) (h : te σ H fun y H1 => rd v y H1 fun z H2 => nx (σ.set i (some z)) H2) : tAug i te rd ⟨nx, rt, bk, ct⟩ σ H := ⟨v, e, h⟩
theorem rd_ipI {f : Int → Int → Int} {Q : VK} {i j : Int} (h : Q (.int (f i j)) H) : ipI f (.int i) (.int j) H Q := ⟨i, j, rfl, rfl, h⟩
end
end Rs
namespace Rs
open PySem PySem.Spec PyProof.Rows L2
theorem Hs.made {C x dx : Addr} {H0 H : Hp} {M : List Addr} {L : Led} (S : Hs H0 M H L) (hx : H x = none) (hd : H dx = none) (ne : dx ≠ x) : H0 x = none ∧ Hs H0 M (upd (upd H dx (.own x)) x (.ins C dx [])) ((x, .ins C dx []) :: L) := by
  obtain ⟨_, S1⟩ := S.new hd (.own x)
  have hx' : upd H dx (HO.own x) x = none := by rw [upd_ne (Ne.symm ne)]; exact hx
  obtain ⟨n0, S2⟩ := S1.new hx' (.ins C dx [])
  exact ⟨n0, S2.sub (List.Sublist.cons_cons _ (List.Sublist.cons _ (List.Sublist.refl _)))⟩
end Rs

namespace Rs
open PySem PySem.Spec PyProof.Rows L2

/-! ### sum and max over tuples, with a start, with a default -/
section
variable {prog : Program} {w : World} {A : Around} {s : Shared} {R : Result → Shared → Prop} {E : Value → Shared → Prop}
/-- a walk with one more in front, that is over -/
theorem walk_more {I : Addr} {fp wr : List Addr} {n : Nat} {P : Nat → Value → Prop} {St : Nat → Heap → Prop} (W : Walks prog w A I fp wr n P St) :
    Walks prog w A I fp wr (n + 1) (fun i v => 0 < i ∧ P (i - 1) v) (fun i h => 0 < i ∧ St (i - 1) h) where
  sub := W.sub
  frame := fun i h h' st k => ⟨st.1, W.frame _ h h' st.2 k⟩
  item := fun i s Q E hi st hq => by
    obtain ⟨j, rfl⟩ : ∃ j, i = j + 1 := ⟨i - 1, by have := st.1; omega⟩
    refine W.item j s Q E (by omega) st.2 fun v h' tk p st' k => hq v h' tk ⟨Nat.succ_pos _, p⟩ ⟨Nat.succ_pos _, st'⟩ k
  done := fun s Q E st hq => W.done s Q E st.2 hq
  self := fun i s Q E st hq => W.self _ s Q E st.2 hq
theorem sumK_args (a v : Value) : argsOk "sum" ⟨[a], [(Str.ofString "start", v)]⟩ := by unfold argsOk; kernel_rfl
theorem maxD_args (a v : Value) : argsOk "max" ⟨[a], [(Str.ofString "default", v)]⟩ := by unfold argsOk; kernel_rfl
def shiftV (k : Int) (val : Nat → Int) : Nat → Int
  | 0 => k
  | i + 1 => val i
theorem preSum_shift (k : Int) (val : Nat → Int) : ∀ n, preSum (shiftV k val) (n + 1) = k + preSum val n
  | 0 => by simp [preSum, shiftV]
  | n + 1 => by
    rw [preSum, preSum_shift k val n, preSum]
    simp [shiftV]
    omega
/-- sum(x, start=k) -/
theorem sum_from {x : Value} {k : Int} {tok : Tok} {Q : Value → Shared → Prop}
    (h : wpAny (model prog w) A.in1 (pyIter x) (fun it s₂ => ∃ I fp wr n P St val, it = .ref I ∧ Walks prog w A.in1 I fp wr n P St ∧ St 0 s₂.heap ∧ (∀ b ∈ fp, b < s₂.heap.objs.size) ∧ (∀ i v, P i v → ∃ t, v = .int (val i) t) ∧
      ∀ h' tk t', (∀ b o, b ∉ wr → s₂.heap.get? b = some o → h'.get? b = some o) → Q (.int (k + preSum val n) t') { s₂ with heap := h', toks := tk }) E s) :
    wpAny (model prog w) A (call (.builtin "sum") [x] [(Str.ofString "start", .int k tok)]) Q E s := by
  refine PyProof.Rows.kmk_tree F.kind_sum F.plain_sum F.entry_sum (sumK_args _ _) ?_
  unfold Builtin.«sum»
  simp only [List.length_cons, List.length_nil]
  rw [if_neg (by decide)]
  refine wpAny_bind (wpAny_of_eq (a := [some (.int k tok)]) rfl ?_)
  refine wpAny_bind (wpAny_mono h (fun it s₂ q => ?_) fun _ _ e => e)
  obtain ⟨I, fp, wr, n, P, St, val, rfl, W, st, hfp, hval, hQ⟩ := q
  have hv' : ∀ i v, (0 < i ∧ P (i - 1) v) → ∃ t, v = .int (shiftV k val i) t := fun i v z => by
    obtain ⟨j, rfl⟩ : ∃ j, i = j + 1 := ⟨i - 1, by omega⟩
    exact hval j v z.2
  have hS : s₂.heap.objs.size ∉ fp := fun m => Nat.lt_irrefl _ (hfp _ m)
  show wpAny _ A.in1 (if (_ : Bool) = true then _ else _) _ _ _
  split
  · refine wpAny_bind (wpAny_rule (wpAny_bind (wpAny_mkInt (wpAny_bind (wpAny_pure ?_)))))
    simp only [List.forIn_cons, List.forIn_nil]
    refine wpAny_bind (wpAny_bind (wpAny_bind (wpAny_isInstance (T := "int") (b := false) (typeIs_int _ _ _) PySem.sub_int_str ?_)))
    refine wpAny_pure (wpAny_bind (wpAny_bind (wpAny_isInstance (T := "int") (b := false) (typeIs_int _ _ _) PySem.sub_int_bytes ?_)))
    refine wpAny_pure (wpAny_bind (wpAny_bind (wpAny_isInstance (T := "int") (b := false) (typeIs_int _ _ _) PySem.sub_int_bytearray ?_)))
    refine wpAny_pure (wpAny_pure ?_)
    refine wpAny_bind (wpAny_newObj_type (wpAny_pure ⟨plainId_quiet F.plain_sum_loop _, codeAny_sum_loopG (walk_more W) (shiftV k val) hv' s₂.heap.objs.size hS n 1 _ _ 0 0 (Or.inl rfl) rfl (by omega)
      ⟨Nat.one_pos, W.frame _ _ _ st fun b _ o e => Heap.get?_push_of_some _ e⟩ (by rw [show preSum (shiftV k val) 1 = k by simp [preSum, shiftV]]; exact Heap.get?_push_size _ rfl) fun h' tk t' kp => ?_⟩))
    rw [preSum_shift]
    exact hQ h' tk t' fun b o hb e => kp b o hb (Nat.ne_of_lt (Heap.lt_size e)) (Heap.get?_push_of_some _ e)
  · refine wpAny_bind (wpAny_pure ?_)
    simp only [List.forIn_cons, List.forIn_nil]
    refine wpAny_bind (wpAny_bind (wpAny_bind (wpAny_isInstance (T := "int") (b := false) (typeIs_int _ _ _) PySem.sub_int_str ?_)))
    refine wpAny_pure (wpAny_bind (wpAny_bind (wpAny_isInstance (T := "int") (b := false) (typeIs_int _ _ _) PySem.sub_int_bytes ?_)))
    refine wpAny_pure (wpAny_bind (wpAny_bind (wpAny_isInstance (T := "int") (b := false) (typeIs_int _ _ _) PySem.sub_int_bytearray ?_)))
    refine wpAny_pure (wpAny_pure ?_)
    refine wpAny_bind (wpAny_newObj_type (wpAny_pure ⟨plainId_quiet F.plain_sum_loop _, codeAny_sum_loopG (walk_more W) (shiftV k val) hv' s₂.heap.objs.size hS n 1 _ _ 0 2 (Or.inr rfl) rfl (by omega)
      ⟨Nat.one_pos, W.frame _ _ _ st fun b _ o e => Heap.get?_push_of_some _ e⟩ (by rw [show preSum (shiftV k val) 1 = k by simp [preSum, shiftV]]; exact Heap.get?_push_size _ rfl) fun h' tk t' kp => ?_⟩))
    rw [preSum_shift]
    exact hQ h' tk t' fun b o hb e => kp b o hb (Nat.ne_of_lt (Heap.lt_size e)) (Heap.get?_push_of_some _ e)
/-- max(x, default=d): the loop -/
theorem max_loopD {I : Addr} {fp wr : List Addr} {n : Nat} {P : Nat → Value → Prop} {St : Nat → Heap → Prop} (W : Walks prog w A.in1 I fp wr n P St) (val : Nat → Int) (hval : ∀ i v, P i v → ∃ t, v = .int (val i) t) (T : Addr) (hT : T ∉ fp) (d : Value) :
    ∀ (k i : Nat) (s : Shared) (c : Nat) (best : Option (Int × Tok)), n - i = k → i ≤ n → St i s.heap →
      s.heap.get? T = some { cls := .type "list", dict := none, data := .seq (match best with | none => #[] | some b => #[.int b.1 b.2, .int b.1 b.2]) c, slots := #[] } →
      (∀ v h' tk, (best = none → i = n → v = d) → (best ≠ none ∨ i < n → ∃ m t, v = .int m t ∧ ((∃ b, best = some b ∧ m = b.1) ∨ ∃ j, i ≤ j ∧ j < n ∧ m = val j) ∧ (∀ b, best = some b → b.1 ≤ m) ∧ ∀ j, i ≤ j → j < n → val j ≤ m) →
        (∀ b o, b ∉ wr → b ≠ T → s.heap.get? b = some o → h'.get? b = some o) → R (.ok (.ret v)) { s with heap := h', toks := tk }) →
      codeAny (model prog w) A (.builtin "max.loop" ⟨[.ref I, .none, .ref T], [(Str.ofString "default", d)]⟩) R s := by
  have hTw : T ∉ wr := fun z => hT (W.sub _ z)
  have hname : (toString "max" ++ toString ".loop" : String) = "max.loop" := by decide
  intro k
  induction k with
  | zero =>
    intro i s c best hk hi hst hS hR
    have hin : i = n := by omega
    subst hin
    refine codeAny_builtin F.entry_max_loop ?_
    rw [Around.under_plainId F.plain_max_loop _]
    show wpAny _ A.in1 (seqItems? (.ref T) >>= _) _ _ s
    refine wpAny_bind (wpAny_seqItems hS rfl ?_)
    show wpAny _ A.in1 (tryCatch (pyNext (.ref I)) _ >>= _) _ _ s
    refine wpAny_bind (wpAny_tryCatch (W.done s _ _ hst fun h' tk kp => ?_))
    have hS' := kp T _ hTw hS
    cases best with
    | none =>
      show wpAny _ A.in1 (rule _ >>= _) _ _ _
      refine wpAny_bind (wpAny_rule (wpAny_pure ?_))
      exact hR d h' tk (fun _ _ => rfl) (fun z => by rcases z with z | z; exact absurd rfl z; omega) fun b o hb _ e => kp b o hb e
    | some b =>
      show wpAny _ A.in1 (updateSeq T (fun _ => #[]) >>= _) _ _ _
      refine wpAny_bind ?_
      refine wpAny_updateSeq hS' rfl (wpAny_bind (wpAny_letGo (wpAny_pure ?_)))
      refine hR (.int b.1 b.2) _ tk (fun z => nomatch z) (fun _ => ⟨b.1, b.2, rfl, Or.inl ⟨b, rfl, rfl⟩, fun b' e => by cases e; exact Int.le_refl _, fun j h1 h2 => by omega⟩) fun b o hb hbT e => (Heap.get?_update_other _ _ (Ne.symm hbT)).trans (kp b o hb e)
  | succ k ih =>
    intro i s c best hk hi hst hS hR
    have hlt : i < n := by omega
    refine codeAny_builtin F.entry_max_loop ?_
    rw [Around.under_plainId F.plain_max_loop _]
    show wpAny _ A.in1 (seqItems? (.ref T) >>= _) _ _ s
    refine wpAny_bind (wpAny_seqItems hS rfl ?_)
    show wpAny _ A.in1 (tryCatch (pyNext (.ref I)) _ >>= _) _ _ s
    refine wpAny_bind (wpAny_tryCatch (W.item i s _ _ hlt hst fun v h' tk hP hst' kp => ?_))
    have hS' := kp T _ hTw hS
    obtain ⟨t, rfl⟩ := hval i v hP
    have next : ∀ (b : Int × Tok) (h2 : Heap) (tk2 c2 : Nat), (b.1 = val i ∨ ∃ b0, best = some b0 ∧ b.1 = b0.1) → val i ≤ b.1 → (∀ b0, best = some b0 → b0.1 ≤ b.1) → St (i + 1) h2 →
        h2.get? T = some { cls := .type "list", dict := none, data := .seq #[.int b.1 b.2, .int b.1 b.2] c2, slots := #[] } → (∀ y o, y ∉ wr → y ≠ T → s.heap.get? y = some o → h2.get? y = some o) →
        codeAny (model prog w) A (.builtin "max.loop" ⟨[.ref I, .none, .ref T], [(Str.ofString "default", d)]⟩) R { s with heap := h2, toks := tk2 } := by
      intro b h2 tk2 c2 e1 e2 e3 st2 g2 kp2
      refine ih (i + 1) { s with heap := h2, toks := tk2 } c2 (some b) (by clear e1 e2 e3; omega) hlt st2 g2 fun v h3 tk3 _ z kp3 => ?_
      obtain ⟨m, t3, rfl, z1, z2, z3⟩ := z (Or.inl (by simp))
      have zb := z2 b rfl
      refine hR _ h3 tk3 (fun _ q => by omega) (fun _ => ⟨m, t3, rfl, ?_, fun b0 q => Int.le_trans (e3 b0 q) zb, fun j h1 h2 => ?_⟩) fun y o hy hyT e => kp3 y o hy hyT (kp2 y o hy hyT e)
      · rcases z1 with ⟨b', q1, rfl⟩ | ⟨j, q1, q2, rfl⟩
        · cases q1
          rcases e1 with e1 | ⟨b0, q2, e1⟩
          · exact Or.inr ⟨i, Nat.le_refl _, hlt, e1⟩
          · exact Or.inl ⟨b0, q2, e1⟩
        · exact Or.inr ⟨j, by omega, q2, rfl⟩
      · by_cases q : j = i
        · subst q; omega
        · exact z3 j (by omega) h2
    cases best with
    | none =>
      show wpAny _ A.in1 (updateSeq T (fun _ => #[.int (val i) t, .int (val i) t]) >>= _) _ _ _
      refine wpAny_bind ?_
      refine wpAny_updateSeq hS' rfl ?_
      rw [hname]
      refine wpAny_pure ⟨plainId_quiet F.plain_max_loop _, next (val i, t) _ _ _ (Or.inl rfl) (Int.le_refl _) (fun b0 q => nomatch q) (W.frame _ _ _ hst' fun b hb o e => ?_) (Heap.get?_update_self _ hS' rfl) fun b o hb hbT e => ?_⟩
      · exact (Heap.get?_update_other _ _ (fun z : T = b => hT (z ▸ hb))).trans e
      · exact (Heap.get?_update_other _ _ (Ne.symm hbT)).trans (kp b o hb e)
    | some b =>
      have cmp := CmpOf.ints_gt (prog := prog) (w := w) (A := A.in1) (P := fun (z : Nat) v => ∃ t, v = Value.int (if z = 0 then val i else b.1) t) (fun z => if z = 0 then val i else b.1) (fun _ _ z => z)
      show wpAny _ A.in1 (tryCatch (holding [Value.int (val i) t, Value.int (val i) t] (richCompare .Gt (.int (val i) t) (.int b.1 b.2) >>= _)) _ >>= _) _ _ _
      refine wpAny_bind (wpAny_tryCatch (wpAny_holding (wpAny_bind (cmp 0 1 _ _ _ _ _ ⟨t, rfl⟩ ⟨b.2, rfl⟩ ?_))))
      refine wpAny_bind (wpAny_holding (wpAny_truthy_bool ?_))
      refine wpAny_bind (wpAny_letGo (wpAny_pure ?_))
      simp only [if_true, Nat.one_ne_zero, if_false]
      by_cases q : val i > b.1
      · rw [decide_eq_true q]
        simp only [if_true]
        refine wpAny_bind ?_
        refine wpAny_updateSeq hS' rfl (wpAny_bind (wpAny_letGo ?_))
        rw [hname]
        refine wpAny_pure ⟨plainId_quiet F.plain_max_loop _, next (val i, t) _ _ _ (Or.inl rfl) (Int.le_refl _) (fun b0 z => by cases z; exact Int.le_of_lt q) (W.frame _ _ _ hst' fun y hb o e => ?_) (Heap.get?_update_self _ hS' rfl) fun y o hb hbT e => ?_⟩
        · exact (Heap.get?_update_other _ _ (fun z : T = y => hT (z ▸ hb))).trans e
        · exact (Heap.get?_update_other _ _ (Ne.symm hbT)).trans (kp y o hb e)
      · rw [decide_eq_false q]
        simp only [Bool.false_eq_true, if_false]
        refine wpAny_bind (wpAny_letGo ?_)
        rw [hname]
        exact wpAny_pure ⟨plainId_quiet F.plain_max_loop _, next b _ _ c (Or.inr ⟨b, rfl, rfl⟩) (by omega) (fun b0 z => by cases z; exact Int.le_refl _) hst' hS' fun y o hb _ e => kp y o hb e⟩
/-- max(x, default=d) -/
theorem max_dflt {x d : Value} {Q : Value → Shared → Prop}
    (h : wpAny (model prog w) A.in1 (pyIter x) (fun it s₂ => ∃ I fp wr n P St, ∃ val : Nat → Int, it = .ref I ∧ Walks prog w A.in1 I fp wr n P St ∧ St 0 s₂.heap ∧ (∀ b ∈ fp, b < s₂.heap.objs.size) ∧ (∀ i v, P i v → ∃ t, v = .int (val i) t) ∧
      ∀ v h' tk, (n = 0 → v = d) → (0 < n → ∃ m t, v = .int m t ∧ (∃ j, j < n ∧ m = val j) ∧ ∀ j, j < n → val j ≤ m) → (∀ b o, b ∉ wr → s₂.heap.get? b = some o → h'.get? b = some o) → Q v { s₂ with heap := h', toks := tk }) E s) :
    wpAny (model prog w) A (call (.builtin "max") [x] [(Str.ofString "default", d)]) Q E s := by
  have hname : (toString "max" ++ toString ".loop" : String) = "max.loop" := by decide
  refine PyProof.Rows.kmk_tree F.kind_max F.plain_max F.entry_max (maxD_args _ _) ?_
  show wpAny _ A.in1 (Builtin.Builtins.bindParams "max" ["key", "default"] 0 ⟨[], [(Str.ofString "default", d)]⟩ >>= _) _ _ s
  refine wpAny_bind (wpAny_of_eq (a := [none, some d]) rfl ?_)
  refine wpAny_bind (wpAny_pure ?_)
  refine wpAny_bind (wpAny_mono h (fun it s₂ q => ?_) fun _ _ e => e)
  obtain ⟨I, fp, wr, n, P, St, val, rfl, W, st, hfp, hval, hQ⟩ := q
  refine wpAny_bind (wpAny_newObj_type ?_)
  have hT : s₂.heap.objs.size ∉ fp := fun m => Nat.lt_irrefl _ (hfp _ m)
  rw [hname]
  refine wpAny_pure ⟨plainId_quiet F.plain_max_loop _, max_loopD W val hval s₂.heap.objs.size hT d n 0 _ 0 none (by omega) (Nat.zero_le _) (W.frame _ _ _ st fun b _ o e => Heap.get?_push_of_some _ e) (Heap.get?_push_size _ rfl) fun v h' tk z1 z2 kp => ?_⟩
  refine hQ v h' tk (fun z => z1 rfl z.symm) (fun z => ?_) fun b o hb e => kp b o hb (Nat.ne_of_lt (Heap.lt_size e)) (Heap.get?_push_of_some _ e)
  obtain ⟨m, t, e, y1, _, y3⟩ := z2 (Or.inr z)
  refine ⟨m, t, e, ?_, fun j hj => y3 j (Nat.zero_le _) hj⟩
  rcases y1 with ⟨b, q, _⟩ | ⟨j, _, q, r⟩
  · cases q
  · exact ⟨j, q, r⟩
end
end Rs
namespace Rs
open PySem PySem.Spec PyProof.Rows L2
theorem preSum_take (ns : List Int) : ∀ n, n ≤ ns.length → preSum (fun i => ns.getD i 0) n = (ns.take n).sum
  | 0, _ => by simp [preSum]
  | n + 1, h => by
    rw [preSum, preSum_take ns n (by omega), List.take_succ, List.getElem?_eq_getElem (by omega), List.sum_append]
    simp [List.getD_eq_getElem?_getD, List.getElem?_eq_getElem (show n < ns.length by omega)]
theorem preSum_all (ns : List Int) : preSum (fun i => ns.getD i 0) ns.length = ns.sum := by rw [preSum_take ns _ (Nat.le_refl _), List.take_length]
theorem vals_at {ns : List Int} {us : List Value} (r : Vals (ns.map V.int) us) (i : Nat) (v : Value) (h : us.toArray[i]? = some v) : ∃ t, v = .int (ns.getD i 0) t := by
  rw [List.getElem?_toArray] at h
  obtain ⟨hl, e⟩ := List.getElem?_eq_some_iff.mp h
  have hl2 : i < ns.length := by rw [← r.length, List.length_map] at hl; exact hl
  have e1 : (ns.map V.int)[i]? = some (.int (ns.getD i 0)) := by rw [List.getElem?_map, List.getD_eq_getElem?_getD, List.getElem?_eq_getElem hl2]; rfl
  obtain ⟨u, e2, ru⟩ := r.get e1
  rw [h] at e2
  cases e2
  exact ru
section
variable {prog : Program} {w : World} {A : Around} {s : Shared} {E : Value → Shared → Prop}
/-- iter(l) of a list, of a tuple: a walk over its items -/
theorem walk_list {l : Addr} {its : Array Value} {Q : Value → Shared → Prop} (hh : A.handled = none) (hl : s.heap.IsList l its)
    (h : ∀ s₂ : Shared, s₂ = { s with heap := s.heap.push { cls := .type "list_iterator", data := .fields #[.ref l, .int 0 0] } } → ∀ (St : Nat → Heap → Prop), Walks prog w A s.heap.objs.size [s.heap.objs.size, l] [s.heap.objs.size] its.size (fun i v => its[i]? = some v) St → St 0 s₂.heap →
      (∀ b ∈ [s.heap.objs.size, l], b < s₂.heap.objs.size) → Q (.ref s.heap.objs.size) s₂) : wpAny (model prog w) A (pyIter (.ref l)) Q E s := by
  have hlt : l < s.heap.objs.size := by obtain ⟨_, e, _⟩ := hl; exact Heap.lt_size e
  refine wpAny_pyIter_list hl (h _ rfl _ (Walks.list (A := A) hh _ l (Nat.ne_of_lt hlt) its) ⟨⟨_, Heap.get?_push_size _ rfl, rfl, rfl⟩, hl.push _⟩ ?_)
  intro b hb
  show b < (s.heap.push _).objs.size
  rw [Heap.size_push]
  simp only [List.mem_cons, List.not_mem_nil, or_false] at hb
  rcases hb with rfl | rfl
  · exact Nat.lt_succ_self _
  · exact Nat.lt_succ_of_lt hlt
theorem walk_tup {l : Addr} {its : Array Value} {Q : Value → Shared → Prop} (hh : A.handled = none) (hl : s.heap.IsTuple l its)
    (h : ∀ s₂ : Shared, s₂ = { s with heap := s.heap.push { cls := .type "tuple_iterator", data := .fields #[.ref l, .int 0 0] } } → ∀ (St : Nat → Heap → Prop), Walks prog w A s.heap.objs.size [s.heap.objs.size, l] [s.heap.objs.size] its.size (fun i v => its[i]? = some v) St → St 0 s₂.heap →
      (∀ b ∈ [s.heap.objs.size, l], b < s₂.heap.objs.size) → Q (.ref s.heap.objs.size) s₂) : wpAny (model prog w) A (pyIter (.ref l)) Q E s := by
  have hlt : l < s.heap.objs.size := by obtain ⟨_, e, _⟩ := hl; exact Heap.lt_size e
  refine wpAny_pyIter_tuple hl (h _ rfl _ (Walks.tuple (A := A) hh _ l (Nat.ne_of_lt hlt) its) ⟨⟨_, Heap.get?_push_size _ rfl, rfl, rfl⟩, hl.push _⟩ ?_)
  intro b hb
  show b < (s.heap.push _).objs.size
  rw [Heap.size_push]
  simp only [List.mem_cons, List.not_mem_nil, or_false] at hb
  rcases hb with rfl | rfl
  · exact Nat.lt_succ_self _
  · exact Nat.lt_succ_of_lt hlt
end
section
variable {X : Cx}
/-- what stood, stands -/
theorem it_old {s : Shared} {o : Obj} {h' : Heap} (k : ∀ b u, b ∉ [s.heap.objs.size] → (s.heap.push o).get? b = some u → h'.get? b = some u) : ∀ b u, s.heap.get? b = some u → h'.get? b = some u := fun b u e =>
  k b u (fun z => absurd (Heap.lt_size e) ((List.mem_singleton.mp z) ▸ Nat.lt_irrefl _)) (Heap.get?_push_of_some _ e)
def rSumT (K : PySem.W.Frag) : List V → Hp → VK → Prop := fun vs H Q => ∃ (a : Addr) (ns : List Int), vs = [V.ref a] ∧ SqT K H a (ns.map V.int) ∧ Q (.int ns.sum) H
theorem cr_sumT (hc : X.calm = true) : CallR X (.builtin "sum") (rSumT X.K) := by
  intro pins s σ H vs us Q I r h
  obtain ⟨a, ns, rfl, hs, q⟩ := h
  obtain ⟨its, rv, ht, hz⟩ := I.tuple hs
  rw [Vals.ref1 r]
  obtain ⟨o, e1, e2, n, e3⟩ := id ht
  refine call_sum_walkG (walk_tup (A := X.A.in1) (I.ok.hd hc) ⟨o, e1, e2, n, e3⟩ fun s₂ es St W st hfp => ?_)
  subst es
  refine ⟨_, _, _, _, _, _, fun i => ns.getD i 0, rfl, W, st, hfp, vals_at rv, fun h' tk t' hk => ⟨.int _, H, I.kept (it_old hk), ⟨_, rfl⟩, ?_⟩⟩
  rw [List.size_toArray, ← rv.length, List.length_map, preSum_all]
  exact q
def rSumK (K : PySem.W.Frag) : List V → List V → Hp → VK → Prop := fun vs zs H Q => ∃ (a : Addr) (ns : List Int) (k : Int), vs = [V.ref a] ∧ zs = [V.int k] ∧ SqL K H a (ns.map V.int) ∧ Q (.int (k + ns.sum)) H
theorem cr_sumK (hc : X.calm = true) : CallRK X (.builtin "sum") [Str.ofString "start"] (rSumK X.K) := by
  intro pins s σ H vs zs us ws Q I r rz h
  obtain ⟨a, ns, k, rfl, rfl, hs, q⟩ := h
  obtain ⟨its, rv, ht, hz⟩ := I.list hs
  rw [Vals.ref1 r]
  obtain ⟨u, rfl, t, rfl⟩ := vals1 rz
  refine sum_from (walk_list (A := X.A.in1) (I.ok.hd hc) ht.isList fun s₂ es St W st hfp => ?_)
  subst es
  refine ⟨_, _, _, _, _, _, fun i => ns.getD i 0, rfl, W, st, hfp, vals_at rv, fun h' tk t' hk => ⟨.int _, H, I.kept (it_old hk), ⟨_, rfl⟩, ?_⟩⟩
  rw [List.size_toArray, ← rv.length, List.length_map, preSum_all]
  exact q
def maxD (d : Int) : List Int → Int
  | [] => d
  | x :: xs => xs.foldl max x
theorem fold_max : ∀ (xs : List Int) (x : Int), (xs.foldl max x = x ∨ xs.foldl max x ∈ xs) ∧ x ≤ xs.foldl max x ∧ ∀ y ∈ xs, y ≤ xs.foldl max x
  | [], x => ⟨Or.inl rfl, Int.le_refl _, fun y h => (nomatch h)⟩
  | z :: xs, x => by
    obtain ⟨h1, h2, h3⟩ := fold_max xs (max x z)
    simp only [List.foldl_cons]
    have a1 : x ≤ max x z := by omega
    have a2 : z ≤ max x z := by omega
    refine ⟨?_, by omega, fun y hy => ?_⟩
    · rcases h1 with h1 | h1
      · rw [h1]
        by_cases c : x ≤ z
        · right; rw [show max x z = z by omega]; exact List.mem_cons_self
        · left; omega
      · exact Or.inr (List.mem_cons_of_mem _ h1)
    · rcases List.mem_cons.mp hy with rfl | hy
      · omega
      · exact h3 y hy
theorem maxD_is {d m : Int} {ns : List Int} (h0 : ns ≠ []) (h1 : m ∈ ns) (h2 : ∀ y ∈ ns, y ≤ m) : maxD d ns = m := by
  cases ns with
  | nil => exact absurd rfl h0
  | cons x xs =>
    obtain ⟨a, b, c⟩ := fold_max xs x
    show xs.foldl max x = m
    have z1 : xs.foldl max x ≤ m := by
      rcases a with a | a
      · rw [a]; exact h2 x List.mem_cons_self
      · exact h2 _ (List.mem_cons_of_mem _ a)
    have z2 : m ≤ xs.foldl max x := by
      rcases List.mem_cons.mp h1 with rfl | h
      · exact b
      · exact c m h
    omega
def rMaxDT (K : PySem.W.Frag) : List V → List V → Hp → VK → Prop := fun vs zs H Q => ∃ (a : Addr) (ns : List Int) (d : Int), vs = [V.ref a] ∧ zs = [V.int d] ∧ SqT K H a (ns.map V.int) ∧ Q (.int (maxD d ns)) H
theorem cr_maxDT (hc : X.calm = true) : CallRK X (.builtin "max") [Str.ofString "default"] (rMaxDT X.K) := by
  intro pins s σ H vs zs us ws Q I r rz h
  obtain ⟨a, ns, d, rfl, rfl, hs, q⟩ := h
  obtain ⟨its, rv, ht, hz⟩ := I.tuple hs
  rw [Vals.ref1 r]
  obtain ⟨u, rfl, t, rfl⟩ := vals1 rz
  obtain ⟨o, e1, e2, n, e3⟩ := id ht
  refine max_dflt (walk_tup (A := X.A.in1) (I.ok.hd hc) ⟨o, e1, e2, n, e3⟩ fun s₂ es St W st hfp => ?_)
  subst es
  have hl : its.toArray.size = ns.length := by rw [List.size_toArray, ← rv.length, List.length_map]
  refine ⟨_, _, _, _, _, _, fun i => ns.getD i 0, rfl, W, st, hfp, vals_at rv, fun v h' tk z1 z2 hk => ?_⟩
  rw [hl] at z1 z2
  by_cases h0 : ns = []
  · subst h0
    rw [z1 rfl]
    exact ⟨.int d, H, I.kept (it_old hk), ⟨t, rfl⟩, q⟩
  · have hp : 0 < ns.length := List.length_pos_iff.mpr h0
    obtain ⟨m, t2, rfl, ⟨j, hj, rfl⟩, hm⟩ := z2 hp
    refine ⟨.int _, H, I.kept (it_old hk), ⟨t2, rfl⟩, ?_⟩
    have em : maxD d ns = ns.getD j 0 := by
      refine maxD_is h0 ?_ fun y hy => ?_
      · rw [List.getD_eq_getElem?_getD, List.getElem?_eq_getElem hj]
        exact List.getElem_mem hj
      · obtain ⟨i, hi, rfl⟩ := List.mem_iff_getElem.mp hy
        have z : ns.getD i 0 ≤ ns.getD j 0 := hm i hi
        rw [List.getD_eq_getElem?_getD, List.getElem?_eq_getElem hi] at z
        exact z
    show Q (.int (ns.getD j 0)) H
    rw [← em]
    exact q
end
end Rs
namespace Rs
open PySem PySem.Spec PyProof.Rows L2
/-! ### a tuple's slice with a step -/
def ixT (n : Nat) (lo hi : Option Int) (st : Int) : List Nat := (List.range (Builtin.Slice.slicePlaces (Builtin.Slice.sliceAdjust lo hi st n).1 (Builtin.Slice.sliceAdjust lo hi st n).2 st)).map fun (k : Nat) => ((Builtin.Slice.sliceAdjust lo hi st n).1 + (k : Int) * st).toNat
def pickT (xs : List V) (lo hi : Option Int) (st : Int) : List V := (ixT xs.length lo hi st).filterMap (xs[·]?)
def pickI (ns : List Int) (lo hi : Option Int) (st : Int) : List Int := (ixT ns.length lo hi st).filterMap (ns[·]?)
theorem pickT_map (ns : List Int) (lo hi : Option Int) (st : Int) : pickT (ns.map V.int) lo hi st = (pickI ns lo hi st).map V.int := by
  unfold pickT pickI
  rw [List.length_map]
  generalize ixT ns.length lo hi st = ix
  induction ix with
  | nil => rfl
  | cons i ix ih =>
    cases h : ns[i]? with
    | none => rw [List.filterMap_cons_none (by rw [List.getElem?_map, h]; rfl), List.filterMap_cons_none h, ih]
    | some z => rw [List.filterMap_cons_some (by rw [List.getElem?_map, h]; rfl), List.filterMap_cons_some h, ih]; rfl
section
variable {prog : Program} {w : World} {A : Around} {s : Shared} {E : Value → Shared → Prop}
theorem part_ {v : Value} {o : Option Int} {Q : Option Int → Shared → Prop} (p : IsPart v o) (h : Q o s) : wpAny (model prog w) A (Builtin.Slice.slicePartIndex v) Q E s := HT.slicePart_ p h
theorem stepped {sl : Addr} {vl vu vs : Value} {lo hi : Option Int} {st : Int} {n : Nat} {Q : Int × Int × Nat → Shared → Prop} (hs : s.heap.IsSliceOf sl vl vu vs) (pl : IsPart vl lo) (pu : IsPart vu hi) (ps : IsPart vs (some st)) (h0 : st ≠ 0)
    (h : Q ((Builtin.Slice.sliceAdjust lo hi st n).1, st, Builtin.Slice.slicePlaces (Builtin.Slice.sliceAdjust lo hi st n).1 (Builtin.Slice.sliceAdjust lo hi st n).2 st) s) : wpAny (model prog w) A (Builtin.Slice.sliceApplied (.ref sl) (pure (n : Int))) Q E s := by
  obtain ⟨os, hos, hcs, hds⟩ := id hs
  unfold Builtin.Slice.sliceApplied Builtin.Slice.sliceFields
  refine wpAny_bind (wpAny_bind (wpAny_field hos hds (x := vl) rfl (wpAny_bind (wpAny_field hos hds (x := vu) rfl (wpAny_bind (wpAny_field hos hds (x := vs) rfl (wpAny_pure ?_)))))))
  refine wpAny_bind (part_ ps ?_)
  show wpAny _ _ (if (st == 0) = true then _ else _) _ _ s
  rw [if_neg (by simpa using h0)]
  exact wpAny_bind (part_ pl (wpAny_bind (part_ pu (wpAny_bind (wpAny_pure (wpAny_pure h))))))
theorem getItem_step {t sl : Addr} {items : Array Value} {vl vu vs : Value} {lo hi : Option Int} {st : Int} {Q : Value → Shared → Prop} (ht : IsTup s.heap t items) (hs : s.heap.IsSliceOf sl vl vu vs) (pl : IsPart vl lo) (pu : IsPart vu hi) (ps : IsPart vs (some st))
    (h0 : st ≠ 0) (h1 : st ≠ 1) (hz : ((ixT items.size lo hi st).filterMap (items[·]?)).length ≤ sizeLine)
    (h : Q (.ref s.heap.objs.size) { s with heap := s.heap.push { cls := .type "tuple", data := .seq ((ixT items.size lo hi st).filterMap (items[·]?)).toArray } }) : wpAny (model prog w) A (getItem (.ref t) (.ref sl)) Q E s := by
  obtain ⟨os, hos, hcs, hds⟩ := id hs
  have hT : s.TypeIs (.ref sl) "slice" := ⟨os, hos, hcs⟩
  have hk : sizeOk (.seq ((ixT items.size lo hi st).filterMap (items[·]?)).toArray) := by
    show ((ixT items.size lo hi st).filterMap (items[·]?)).toArray.size ≤ sizeLine
    rw [List.size_toArray]
    exact hz
  have ep : ((List.range (Builtin.Slice.slicePlaces (Builtin.Slice.sliceAdjust lo hi st items.size).1 (Builtin.Slice.sliceAdjust lo hi st items.size).2 st)).filterMap fun (k : Nat) => items[((Builtin.Slice.sliceAdjust lo hi st items.size).1 + (k : Int) * st).toNat]?) = (ixT items.size lo hi st).filterMap (items[·]?) := by
    unfold ixT
    rw [List.filterMap_map]
    rfl
  unfold getItem
  try with_reducible refine wpAny_holding ?_
  first | refine wpAny_bind (wpAny_pure ?_) | skip
  refine wpAny_bind (wpAny_sequenceKey ht.typeIs (by decide) ?_)
  refine wpAny_bind (wpAny_callSpecial?_slot (name := Str.ofString "__getitem__") ht.typeIs PyProof.Rows.slot_tuple_getitem (wpAny_call_entry PyProof.Rows.slot_tuple_getitem ht.typeIs entry_tuple_getitem ?_ (args_tuple_getitem _ _)))
  show wpAny _ _ (Builtin.Tuple.tupleItemsOf (.ref t) >>= _) _ _ s
  refine wpAny_bind (tupleItemsOf_ ht ?_)
  refine wpAny_bind (wpAny_typeOf hT ?_)
  rw [if_pos (by decide)]
  refine wpAny_bind (stepped hs pl pu ps h0 ?_)
  show wpAny _ _ (if (_ && st == 1 && _) = true then _ else _) _ _ s
  rw [if_neg (by
    have e : (st == 1) = false := by simpa using h1
    simp [e])]
  rw [ep]
  first
    | exact wpAny_bind (m := Builtin.Tuple.tupleExact _) (wpAny_newObj_type (wpAny_pure ⟨_, rfl, wpAny_pure h⟩) hk)
    | exact wpAny_bind (m := Builtin.Tuple.tupleExact _) (wpAny_newObj_type (wpAny_bind (wpAny_pure (wpAny_pure ⟨_, rfl, wpAny_pure h⟩))) hk)
    | exact wpAny_bind (wpAny_bind (m := Builtin.Tuple.tupleExact _) (wpAny_newObj_type (wpAny_pure (wpAny_pure ⟨_, rfl, wpAny_pure h⟩)) hk))
    | exact wpAny_bind (wpAny_bind (m := Builtin.Tuple.tupleExact _) (wpAny_newObj_type (wpAny_pure ⟨_, rfl, wpAny_pure h⟩) hk))
end
def tSlT3 (K : PySem.W.Frag) (te : TE) (tl th ts : TO) : TE := fun σ H Q => te σ H fun x H1 => tl σ H1 fun l H2 => th σ H2 fun u H3 => ts σ H3 fun st H4 => ∃ a xs k, x = .ref a ∧ SqT K H4 a xs ∧ st = some k ∧ k ≠ 0 ∧ k ≠ 1 ∧ (pickT xs l u k).length ≤ sizeLine ∧
  ∀ p, H4 p = none → Q (.ref p) (upd H4 p (.tup (pickT xs l u k)))
theorem pe_slT3 {X : Cx} {e : Expr} {te : TE} {lo hi st : Option Expr} {tl th ts : TO} {p2 pos : Pos} (he : PE X e te) (hl : PO X lo tl) (hh : PO X hi th) (hs : PO X st ts)
    (hsub : ∀ ov iv, subscripted (.Slice lo hi st p2) false ov iv = operate [ov, iv] (getItem ov iv) := by intro _ _; with_unfolding_all rfl) : PE X (.Subscript e (.Slice lo hi st p2) pos) (tSlT3 X.K te tl th ts) := by
  constructor
  intro pins s σ H Q I h
  refine PyProof.Rows.Subscript_ (thn (he.run pins s σ H _ I h) ?_)
  rintro v s1 ⟨x, H1, I1, r1, q1⟩
  refine wpAny_Slice (thn (hl.run pins s1 σ H1 _ I1 q1) ?_)
  rintro vl s2 ⟨l, H2, I2, pl, q2⟩
  refine thn (hh.run pins s2 σ H2 _ I2 q2) ?_
  rintro vu s3 ⟨u, H3, I3, pu, q3⟩
  refine thn (hs.run pins s3 σ H3 _ I3 q3) ?_
  rintro vs s4 ⟨c, H4, I4, ps, a, xs, k, ex, hx, ek, h0, h1, hz, q4⟩
  subst ex ek
  cases r1
  have I5 : Inv X pins σ H4 { s4 with heap := s4.heap.push { cls := .type "slice", data := .fields #[vl, vu, vs] } } := I4.kept (t' := s4.toks) fun b ob q => Heap.get?_push_of_some _ q
  obtain ⟨its, rv, ht, hz2⟩ := I5.tuple hx
  have hlen : its.length = xs.length := rv.length.symm
  have ei : ∀ ix : List Nat, ix.filterMap (its.toArray[·]?) = ix.filterMap (its[·]?) := fun ix => by simp only [List.getElem?_toArray]
  have vp := vals_pick rv (ixT xs.length l u k)
  show wpAny (model X.prog X.w) X.A (subscriptTail e (.Slice lo hi st p2) (.ref a) (.ref s4.heap.objs.size)) (EP X pins σ Q) X.xe _
  refine tail_any (ops := [.ref a, .ref s4.heap.objs.size]) ht.typeIs PyProof.Rows.slot_tuple_getitem.lookup ?_ (hsub _ _)
  refine getItem_step ht (Heap.IsSliceOf.new _ vl vu vs) pl pu ps h0 h1 ?_ ?_
  · rw [ei, List.size_toArray, hlen, ← vp.length]
    exact hz
  · rw [ei, show its.toArray.size = xs.length by rw [List.size_toArray, hlen]]
    refine ⟨.ref _, _, I5.laid (t' := s4.toks) (o := .tup (pickT xs l u k)) (fun b ob q => Heap.get?_push_of_some _ q) (Nat.le_refl _) ?_, rfl, q4 _ (I5.hok.fresh (Nat.le_refl _))⟩
    exact ⟨hz, _, vp, IsTup.new _ _⟩
end Rs

namespace Rs
open PySem PySem.Spec PyProof.Rows L2
/-- a def with keyword-only defaults -/
structure CalD (K : PySem.W.Frag) (mg : Str → Option Value) (x : Str) (st : Stmt) (kws : List (Str × V)) (f : Addr) (fd : FuncData) : Prop where
  F : FunD K x x (defArgs st) (defBody st) (defScope st) [] kws f fd
  m : mg x = some (.ref f)
def slR3 (K : PySem.W.Frag) (Q : VK) (x : V) (l u st : Option Int) (H : Hp) : Prop := ∃ a xs k, x = .ref a ∧ SqT K H a xs ∧ st = some k ∧ k ≠ 0 ∧ k ≠ 1 ∧ (pickT xs l u k).length ≤ sizeLine ∧ ∀ p, H p = none → Q (.ref p) (upd H p (.tup (pickT xs l u k)))
section
variable {σ : L2.St} {H H0 : Hp} {M : List Addr} {L L' : Led} {Q : VK} {v x y : V} {nx : L2.St → Hp → Prop} {rt : VK} {bk ct : L2.St → Hp → Prop} {t u : TS} {te ta tb tc : TE} {K : PySem.W.Frag} {a p : Addr}
theorem rd_sumT {xs : List V} {ns : List Int} (S : Hs H0 M H L) (m : (a, HO.tup xs) ∈ L) (e : xs = ns.map V.int) (h : Q (.int ns.sum) H) : rSumT K [.ref a] H Q := ⟨a, ns, rfl, by subst e; exact S.tup m, h⟩
theorem rd_cbk {r : List V → List V → Hp → VK → Prop} {t tk : TA} (h : t σ H fun vs H1 => tk σ H1 fun zs H2 => r vs zs H2 Q) : tCKw r t tk σ H Q := h
theorem rd_sumK {xs : List V} {ns : List Int} {k : Int} (S : Hs H0 M H L) (m : (a, HO.lst xs) ∈ L) (e : xs = ns.map V.int) (h : Q (.int (k + ns.sum)) H) : rSumK K [.ref a] [.int k] H Q := ⟨a, ns, k, rfl, rfl, by subst e; exact S.lst m, h⟩
theorem rd_maxDT {xs : List V} {ns : List Int} {k : Int} (S : Hs H0 M H L) (m : (a, HO.tup xs) ∈ L) (e : xs = ns.map V.int) (h : Q (.int (maxD k ns)) H) : rMaxDT K [.ref a] [.int k] H Q := ⟨a, ns, k, rfl, rfl, by subst e; exact S.tup m, h⟩
theorem rd_slT3 {tl th ts : TO} (h : te σ H fun x H1 => tl σ H1 fun l H2 => th σ H2 fun u H3 => ts σ H3 fun st H4 => slR3 K Q x l u st H4) : tSlT3 K te tl th ts σ H Q := h
theorem rd_slR3 {xs : List V} {ns : List Int} {l u : Option Int} {k : Int} (S : Hs H0 M H L) (m : (a, HO.tup xs) ∈ L) (e : xs = ns.map V.int) (h0 : k ≠ 0) (h1 : k ≠ 1) (hz : (pickI ns l u k).length ≤ sizeLine)
    (h : ∀ p H', H0 p = none → Hs H0 M H' ((p, .tup ((pickI ns l u k).map V.int)) :: L) → Q (.ref p) H') : slR3 K Q (.ref a) l u (some k) H := by
  subst e
  refine ⟨a, _, k, rfl, S.tup m, rfl, h0, h1, ?_, ?_⟩
  · rw [pickT_map, List.length_map]; exact hz
  · rw [pickT_map]; exact rd_newO S h
theorem rd_slTp {xs ys : List V} {lo hi : Option Int} (S : Hs H0 M H L) (m : (a, HO.tup xs) ∈ L) (w : ¬ (HT.sIx xs.length 0 lo = 0 ∧ HT.sIx xs.length xs.length hi = xs.length)) (e : cutV xs lo hi = ys) (h : ∀ p H', H0 p = none → Hs H0 M H' ((p, .tup ys) :: L) → Q (.ref p) H') : rSlT K (.ref a) lo hi H Q := by
  subst e
  exact ⟨a, xs, rfl, S.tup m, w, rd_newO S h⟩
theorem rd_repT {xs : List V} {k : Int} (S : Hs H0 M H L) (m : (a, HO.tup xs) ∈ L) (h0 : xs ≠ []) (h1 : 2 ≤ k) (h2 : k ≤ 1000) (h3 : xs.length ≤ 1000) (h : ∀ p H', H0 p = none → Hs H0 M H' ((p, .tup (List.replicate k.toNat xs).flatten) :: L) → Q (.ref p) H') : rRepT K (.ref a) (.int k) H Q :=
  ⟨a, k, xs, rfl, rfl, S.tup m, h0, h1, h2, h3, rd_newO S h⟩
theorem rd_catT {xs ys : List V} {b : Addr} (S : Hs H0 M H L) (m : (a, HO.tup xs) ∈ L) (m2 : (b, HO.tup ys) ∈ L) (h0 : xs ≠ []) (h1 : ys ≠ []) (hz : xs.length + ys.length ≤ sizeLine) (h : ∀ p H', H0 p = none → Hs H0 M H' ((p, .tup (xs ++ ys)) :: L) → Q (.ref p) H') : rCatT K (.ref a) (.ref b) H Q :=
  ⟨a, b, xs, ys, rfl, rfl, S.tup m, S.tup m2, h0, hz, fun z => absurd z h1, fun _ => rd_newO S h⟩
theorem rd_all {xs : List V} {bs : List Bool} (S : Hs H0 M H L) (m : (a, HO.lst xs) ∈ L) (e : xs = bs.map V.bl) (h : Q (.bl (bs.all id)) H) : rAll K [.ref a] H Q := ⟨a, bs, rfl, by subst e; exact S.lst m, h⟩
theorem rd_int1b {b : Bool} {R : Int → Prop} (h : R (if b then 1 else 0)) : (∃ i, [V.bl b] = [V.int i] ∧ R i) ∨ ∃ k, [V.bl b] = [.bl k] ∧ R (if k then 1 else 0) := Or.inr ⟨b, rfl, h⟩
end
theorem rd_yes {σ : L2.St} {H : Hp} {Q : Bool → Hp → Prop} (h : Q true H) : tYes σ H Q := h
theorem pick_le (ns : List Int) (lo : Option Int) (h : lo = none ∨ lo = some 1) : (pickI ns lo none 2).length ≤ ns.length := by
  unfold pickI
  refine Nat.le_trans (List.length_filterMap_le _ _) ?_
  unfold ixT
  rw [List.length_map, List.length_range]
  rcases h with rfl | rfl
  · simp [Builtin.Slice.sliceAdjust, Builtin.Slice.slicePlaces]
    split <;> omega
  · simp [Builtin.Slice.sliceAdjust, Builtin.Slice.slicePlaces]
    split <;> omega
theorem pick_mem {ns : List Int} {lo hi : Option Int} {k z : Int} (h : z ∈ pickI ns lo hi k) : z ∈ ns := by
  obtain ⟨i, _, hi⟩ := List.mem_filterMap.mp h
  exact List.mem_of_getElem? hi
end Rs

namespace Rs
open PySem PySem.Spec PyProof.Rows L2
section
variable {X : Cx} {CX : CXT} {k n : Nat} {f C : Addr} {fd : FuncData} {ps ks : List Str} {sp : Sp} {E : XK} {m : Str} {p pos apos : Pos} {o : Expr} {kws : List Keyword} {ta : TE} {tk : TA} {g : List Value → List Value → List Value} {gV : List V → List V → List V}
/-- o.m(k = v, ..) -/
def tMethK (C : Addr) (m : Str) (n : Nat) (sp : Sp) (gV : List V → List V → List V) (E : XK) (ta : TE) (tk : TA) : TE := fun σ H Q => ta σ H fun x H1 => ∃ a dx fs, x = .ref a ∧ H1 a = some (.ins C dx fs) ∧ fs.lookup m = none ∧ tk σ H1 fun zs H2 => zs.length = n ∧ sp (gV [x] zs) H2 Q E
theorem pe_methK {pl : Sem Bool} (he : PE X o ta) (c : Cls X.K C) (hm : Meth X.K C m f) (F : FnOk X.prog X.w X.K X.mg X.base CX k f fd ps sp) (hr : Room k X.A) (hb : KBn X.K fd ps 1 ks g gV) (hx : Passes CX X E) (hkw : PK X kws tk)
    (hall : (backToKw pos (keywordEach kws X.env)).all (·.1.isSome) = true := by rfl) (hks : (backToKw pos (keywordEach kws X.env)).filterMap (·.1) = ks := by rfl)
    (ht : eval (.Call (.Attribute o m apos) [] kws pos) X.env = (do
      let ov ← eval o X.env
      standAt apos.atName
      let (f, first) ← holding [ov] (getMethod ov m pl)
      callWith pos f first (backTo pos (starEach [] X.env)) (backToKw pos (keywordEach kws X.env))) := by rfl) :
    PE X (.Call (.Attribute o m apos) [] kws pos) (tMethK C m ks.length sp gV E ta tk) := by
  constructor
  intro pins s σ H Q I h
  refine PySem.W.methodCall_KW (pl := pl) (thn (he.run pins s σ H _ I h) ?_) ht
  rintro u s1 ⟨x, H1, I1, rx, a, dx, fs, ex, ea, l, q⟩
  subst ex
  obtain rfl : u = Value.ref a := rx
  refine getmeth_ok I1 ea c hm l ?_
  have np : ((backTo pos (starEach [] X.env)).any (·.1) || (backToKw pos (keywordEach kws X.env)).any (·.1.isNone)) = false := by
    have z : ∀ l : List (Option Str × Sem Value), l.all (·.1.isSome) = true → l.any (·.1.isNone) = false := by
      intro l hl
      induction l with
      | nil => rfl
      | cons q l ih =>
        simp only [List.all_cons, Bool.and_eq_true] at hl
        simp only [List.any_cons, ih hl.2, Bool.or_false]
        cases e : q.1 with
        | none => rw [e] at hl; exact absurd hl.1 (by decide)
        | some _ => rfl
    rw [z _ hall]; rfl
  refine PySem.W.callWith_KW0 (first := [.ref a]) (h₀ := X.base) I1.ok.mod.kin hm.kp hall ?_ np
  refine thn (hkw.run pos pins s1 σ H1 _ I1 q) ?_
  rintro ws s2 ⟨zs, H2, I2, rz, l2, q2⟩
  refine ⟨I2.kIn, ?_⟩
  rw [hks]
  exact run_fnN (us := [.ref a]) (vs := [.ref a]) F hr hb hx I2 (.cons rfl .nil) rz rfl l2 q2
/-- a def called by a builtin -/
theorem run_in {A : Around} {pins : List (Addr × Obj)} {σ : L2.St} {H : Hp} {s : Shared} {Q : VK} {a : Addr} (F : FnOk X.prog X.w X.K X.mg X.base CX k f fd ["self"] sp) (hr : Room k A) (e0 : Env0 X.prog X.w X.K X.mg X.base A X.stack s H) (hb : Binds X.K fd ["self"] []) (hx : Passes CX X E)
    (I : Inv X pins σ H s) (h : sp [.ref a] H Q E) : wpAny (model X.prog X.w) A (call (.ref f) [.ref a]) (EP X pins σ Q) X.xe s := by
  refine wpAny_call (codeAny_mono (F.run A X.stack s H ⟨[.ref a], []⟩ [.ref a] [.ref a] Q E hr e0 (hb s [.ref a] I.kIn rfl) (.cons rfl .nil) h) fun r s' hq => ?_)
  cases r with
  | error e => exact hx pins σ H s e s' I hq
  | ok fl =>
    cases fl with
    | ret u => exact I.after hq
    | next => exact False.elim hq
    | brk => exact False.elim hq
    | cont => exact False.elim hq
def rLenO (C : Addr) (sp : Sp) (E : XK) : List V → Hp → VK → Prop := fun xs H Q => ∃ a dx fs, xs = [V.ref a] ∧ H a = some (.ins C dx fs) ∧ sp [.ref a] H (fun z H' => ∃ n : Int, z = .int n ∧ 0 ≤ n ∧ n < 2 ^ 63 ∧ Q (.int n) H') E
theorem call_lenO (hs : PySem.W.findIn X.K (.ref C) "__len__" = some (some (.ref f))) (hf : PySem.W.isFn X.K (.ref f) = true) (F : FnOk X.prog X.w X.K X.mg X.base CX k f fd ["self"] sp) (hr : Room (k + 1) X.A) (hb : Binds X.K fd ["self"] []) (hx : Passes CX X E) : CallR X (.builtin "len") (rLenO C sp E) := by
  intro pins s σ H xs us Q I r h
  obtain ⟨a, dx, fs, rfl, ha, q⟩ := h
  rw [Vals.ref1 r]
  obtain ⟨mA, O, _, _, _, _⟩ := ins_get I.hok ha
  obtain ⟨od, J, _⟩ := O.look
  obtain ⟨m, fr⟩ := I.fr
  refine PySem.W.len_K fr I.ok.mod.kin J hs hf (wpAny_mono (run_in F hr.in1 I.env0.in1 hb hx I q) (fun w s' z => ?_) fun _ _ x => x)
  obtain ⟨z', H', I', rz, n, e, h0, h1, qz⟩ := z
  subst e
  obtain ⟨t, rfl⟩ := rz
  exact ⟨⟨h0, h1⟩, .int n, H', I'.tok _, ⟨_, rfl⟩, qz⟩
def rReprO (C : Addr) (sp : Sp) (E : XK) : List V → Hp → VK → Prop := fun xs H Q => ∃ a dx fs, xs = [V.ref a] ∧ H a = some (.ins C dx fs) ∧ sp [.ref a] H (fun z H' => ∃ x : Str, z = .str x ∧ Q (.str x) H') E
theorem call_reprO (hs : PySem.W.findIn X.K (.ref C) "__repr__" = some (some (.ref f))) (hf : PySem.W.isFn X.K (.ref f) = true) (F : FnOk X.prog X.w X.K X.mg X.base CX k f fd ["self"] sp) (hr : Room (k + 1) X.A) (hb : Binds X.K fd ["self"] []) (hx : Passes CX X E) : CallR X (.builtin "repr") (rReprO C sp E) := by
  intro pins s σ H xs us Q I r h
  obtain ⟨a, dx, fs, rfl, ha, q⟩ := h
  rw [Vals.ref1 r]
  obtain ⟨mA, O, _, _, _, _⟩ := ins_get I.hok ha
  obtain ⟨od, J, _⟩ := O.look
  obtain ⟨m, fr⟩ := I.fr
  have hu : X.A.in1.units < cLine := Nat.lt_of_le_of_lt (Nat.le_add_right _ _) hr.in1.units
  refine PySem.W.repr_K hu fr I.ok.mod.kin J hs hf (wpAny_mono (run_in F hr.in1 I.env0.in1 hb hx I q) (fun w s' z => ?_) fun _ _ x => x)
  obtain ⟨z', H', I', rz, x, e, qz⟩ := z
  subst e
  obtain ⟨t, rfl⟩ := rz
  exact ⟨.str x, H', I', ⟨_, rfl⟩, qz⟩
end
end Rs

namespace Rs
open PySem PySem.Spec PyProof.Rows L2
section
variable {H0 H H' : Hp} {M : List Addr} {L L1 L2 L' N : Led} {a p : Addr} {o o' u u' : HO} {K : PySem.W.Frag} {Q : VK}
/-- two objects were changed, those of N are new -/
theorem Hs.twoN (S : Hs H0 M H L) (c1 : Chg a o o' L L1) (c2 : Chg p u u' L1 L2) (ha : H0 a = none ∨ a ∈ M) (hp : H0 p = none ∨ p ∈ M) (ne : a ≠ p) (k : ∀ b w, H b = some w → b ≠ a → b ≠ p → H' b = some w) (e1 : H' a = some o') (e2 : H' p = some u') (n : NewL H H' N) :
    (∀ q ∈ N, H0 q.1 = none) ∧ Hs H0 M H' (N ++ L2) := by
  have S1 := S.put c1 ha
  have S2 := S1.put c2 hp
  have h1 : H a = some o := S.is _ c1.mem
  have h2 : H p ≠ none := by
    have := S1.is _ c2.mem
    rw [upd_ne (Ne.symm ne)] at this
    rw [this]; simp
  refine S2.moreN (fun b w e => ?_) ⟨n.nd, fun q hq => ?_, n.is⟩
  · by_cases hb : b = p
    · subst hb; rw [upd_same] at e; cases e; exact e2
    · rw [upd_ne hb] at e
      by_cases hb2 : b = a
      · subst hb2; rw [upd_same] at e; cases e; exact e1
      · rw [upd_ne hb2] at e
        exact k b w e hb2 hb
  · have z := n.nw q hq
    rw [upd_ne (fun y => h2 (by rw [← y]; exact z)), upd_ne (fun y => by rw [y, h1] at z; cases z)]
    exact z
theorem rd_popAt {xs xs' : List V} {i : Nat} {y : V} (S : Hs H0 M H L) (c : Chg a (.lst xs) (.lst xs') L L') (hm : H0 a = none ∨ a ∈ M) (hk : xs[i]? = some y) (hz : i < 2 ^ 40) (e : xs.eraseIdx i = xs') (h : ∀ H', Hs H0 M H' L' → Q y H') : rPopAt (.ref a) [.int i] H Q := by
  subst e
  have hl : i < xs.length := (List.getElem?_eq_some_iff.mp hk).1
  refine ⟨a, xs, i, i, y, rfl, rfl, S.is _ c.mem, by omega, by omega, ?_, hk, h _ (S.put c hm)⟩
  unfold seqIndex?
  simp
  omega
theorem rd_pop {xs xs' : List V} {y : V} (S : Hs H0 M H L) (c : Chg a (.lst xs) (.lst xs') L L') (hm : H0 a = none ∨ a ∈ M) (e : xs = xs' ++ [y]) (h : ∀ H', Hs H0 M H' L' → Q y H') : rPop (.ref a) [] H Q := by
  subst e
  refine ⟨a, _, y, rfl, rfl, S.is _ c.mem, by simp, ?_⟩
  have e2 : (xs' ++ [y]).dropLast = xs' := by simp
  rw [e2]
  exact h _ (S.put c hm)
theorem rd_clear {xs : List V} (S : Hs H0 M H L) (c : Chg a (.lst xs) (.lst []) L L') (hm : H0 a = none ∨ a ∈ M) (h : ∀ H', Hs H0 M H' L' → Q .non H') : rClear (.ref a) [] H Q := ⟨a, xs, rfl, rfl, S.is _ c.mem, h _ (S.put c hm)⟩
/-- a list of refs of tuples of whole numbers, just these -/
structure TL (rs : List V) (T : Led) (ts : List (List Int)) : Prop where
  rs : rs = T.map fun q => .ref q.1
  ts : T.map (·.2) = ts.map fun t => HO.tup (t.map V.int)
theorem TL.nil : TL [] [] [] := ⟨rfl, rfl⟩
theorem TL.snoc {rs : List V} {T : Led} {ts : List (List Int)} (h : TL rs T ts) (q : Addr) (t : List Int) : TL (rs ++ [V.ref q]) (T ++ [(q, .tup (t.map V.int))]) (ts ++ [t]) := ⟨by simp [h.rs], by simp [h.ts]⟩
theorem TL.len {rs : List V} {T : Led} {ts : List (List Int)} (h : TL rs T ts) : rs.length = ts.length := by
  have := congrArg List.length h.ts
  rw [h.rs]
  simpa using this
def dT (ts : List (List Int)) : PyData := .list (ts.map fun t => .tuple (t.map .int))
theorem dpTL : ∀ {T : Led} {ts : List (List Int)}, T.map (·.2) = (ts.map fun t => HO.tup (t.map V.int)) → (∀ q ∈ T, H q.1 = some q.2) → DpAll K H (T.map fun q => .ref q.1) (ts.map fun t => .tuple (t.map .int))
  | [], [], _, _ => .nil
  | [], t :: ts, h, _ => by simp at h
  | q :: T, [], h, _ => by simp at h
  | q :: T, t :: ts, h, is => by
    simp only [List.map_cons, List.cons.injEq] at h
    have hi := is q List.mem_cons_self
    rw [h.1] at hi
    exact .cons (.tup (SqT.of hi) (dps_ints t)) (dpTL h.2 fun z hz => is z (List.mem_cons_of_mem _ hz))
theorem dp_TL {rs : List V} {T : Led} {ts : List (List Int)} (h : TL rs T ts) (S : Hs H0 M H L) (m : (a, HO.lst rs) ∈ L) (sub : ∀ q ∈ T, q ∈ L) : Dp K H (.ref a) (dT ts) := by
  refine .lst (S.lst m) ?_
  rw [h.rs]
  exact dpTL h.ts fun q hq => S.is q (sub q hq)
theorem tame_T : ∀ {ts : List (List Int)}, (∀ t ∈ ts, ∀ n ∈ t, n.natAbs < 10 ^ 12) → tames (ts.map fun t => .tuple (t.map .int)) = true
  | [], _ => by simp [tames]
  | t :: ts, h => by
    have h1 := tames_ints t (h t List.mem_cons_self)
    have h2 := tame_T (ts := ts) fun z hz => h z (List.mem_cons_of_mem _ hz)
    simp only [List.map_cons, tames, tame, h1, h2, Bool.and_self]
theorem cnt_T : ∀ {ts : List (List Int)}, (∀ t ∈ ts, t.length ≤ 10) → cnts (ts.map fun t => .tuple (t.map .int)) ≤ 11 * ts.length
  | [], _ => by simp [cnts]
  | t :: ts, h => by
    have h1 := h t List.mem_cons_self
    have h2 := cnt_T (ts := ts) fun z hz => h z (List.mem_cons_of_mem _ hz)
    simp only [List.map_cons, cnts, cnt, cnts_ints, List.length_cons]
    omega
theorem shw_T {ts : List (List Int)} (h : ∀ t ∈ ts, t.length ≤ 10 ∧ ∀ n ∈ t, n.natAbs < 10 ^ 12) (hl : ts.length ≤ 1000) : Shw (dT ts) := by
  refine shw_of ?_ ?_
  · simp [dT, tame, tame_T fun t ht => (h t ht).2]
  · have := cnt_T fun t ht => (h t ht).1
    simp only [dT, cnt]
    omega
theorem depth_T (ts : List (List Int)) : (dT ts).depth ≤ 2 := by
  obtain ⟨_, b⟩ := lay_T ts
  simp only [dT, PyData.depth]
  omega
theorem rd_reprT {rs : List V} {T : Led} {ts : List (List Int)} (h : TL rs T ts) (S : Hs H0 M H L) (m : (a, HO.lst rs) ∈ L) (sub : ∀ q ∈ T, q ∈ L) (hb : ∀ t ∈ ts, t.length ≤ 10 ∧ ∀ n ∈ t, n.natAbs < 10 ^ 12) (hl : ts.length ≤ 1000) (k : Q (.str (dT ts).shown) H) : rRepr K [.ref a] H Q :=
  ⟨.ref a, dT ts, rfl, dp_TL h S m sub, shw_T hb hl, Nat.le_trans (depth_T ts) (by decide), k⟩
end
end Rs

namespace Rs
open PySem PySem.Spec PyProof.Rows L2
section
variable {H : Hp} {σ : L2.St} {ts : List TE} {te : TE} {acc : Str} {J : Str → Hp → Prop}
theorem len_app (x y : Str) : (x ++ y).length = x.length + y.length := by
  rw [TL.len_tl, TL.len_tl, TL.len_tl, TL.tl_append, List.length_append]
theorem len_num {n : Int} (h0 : 0 ≤ n) (h : n < 10 ^ 12) : (((toString n : String)) : Str).length ≤ 12 := by
  obtain ⟨k, rfl⟩ : ∃ k : Nat, n = k := ⟨n.toNat, by omega⟩
  have e := TL.tl_num k
  show (Str.ofString (toString (k : Int))).length ≤ 12
  rw [TL.len_tl, e]
  exact TL.numL_len (by decide) (by omega)
theorem rd_jsS {y : Str} (hz : acc.length ≤ 1000) (hy : y.length ≤ 1000) (h : tJs ts (acc ++ y) σ H J) : tJs (tC (.str y) :: ts) acc σ H J := ⟨y, rfl, by rw [len_app]; exact sz (by omega), h⟩
def kF (ts : List TE) (acc : Str) (σ : L2.St) (J : Str → Hp → Prop) : VK := fun x H1 => (∃ y : Str, x = .str y ∧ y.length ≤ sizeLine ∧ ∃ z : Str, V.str y = .str z ∧ (acc ++ z).length ≤ sizeLine ∧ tJs ts (acc ++ z) σ H1 J) ∨
  ∃ i : Int, x = .int i ∧ i.natAbs.log2 < 1920 ∧ ∃ z : Str, V.str (toString i) = .str z ∧ (acc ++ z).length ≤ sizeLine ∧ tJs ts (acc ++ z) σ H1 J
theorem rd_jsF (h : te σ H (kF ts acc σ J)) : tJs (tFmt te :: ts) acc σ H J := h
theorem rd_kFI {n : Int} (h0 : 0 ≤ n) (h1 : n < 10 ^ 12) (hz : acc.length ≤ 1000) (h : tJs ts (acc ++ toString n) σ H J) : kF ts acc σ J (.int n) H := by
  refine Or.inr ⟨n, rfl, ?_, toString n, rfl, ?_, h⟩
  · by_cases e : n.natAbs = 0
    · rw [e]; decide
    · exact (Nat.log2_lt e).2 (Nat.lt_of_lt_of_le (show n.natAbs < 2 ^ 40 by omega) (Nat.pow_le_pow_right (by omega) (by omega)))
  · have := len_num h0 h1
    rw [len_app]
    exact sz (by omega)
theorem rd_jsN (h : J acc H) : tJs [] acc σ H J := h
end
end Rs

namespace Rs
open PySem PySem.Spec PyProof.Rows L2
section
variable {X : Cx}
theorem ix_tupK {K : PySem.W.Frag} (h : X.K = K) : IxR X (rIxT K) := by subst h; exact ix_tup
end
end Rs

namespace Rs
open PySem PySem.Spec PyProof.Rows L2
/-! ### promises by ledgers -/
section
variable {H0 H H' : Hp} {M C : List Addr} {L L' LL F : Led}
/-- what is known behind a call: C the objects that may have changed, L what was known of, L' what is known now -/
theorem Hs.frame (S : Hs H0 M H (L ++ F)) (S' : Hs H C H' L') (hC : ∀ c ∈ C, c ∈ L.map (·.1) ∧ (H0 c = none ∨ c ∈ M)) (hk : ∀ q ∈ L', q.1 ∈ L.map (·.1) ∨ H q.1 = none) : Hs H0 M H' (L' ++ F) := by
  have nd := S.nd
  rw [List.map_append, List.nodup_append] at nd
  obtain ⟨_, nF, dis⟩ := nd
  refine ⟨?_, ?_, ?_, ?_⟩
  · rw [List.map_append, List.nodup_append]
    refine ⟨S'.nd, nF, ?_⟩
    intro x hx y hy e
    subst e
    obtain ⟨q, hq, rfl⟩ := List.mem_map.mp hx
    rcases hk q hq with h | h
    · exact dis _ h _ hy rfl
    · obtain ⟨r, hr, e⟩ := List.mem_map.mp hy
      have := S.is r (List.mem_append_right _ hr)
      rw [e, h] at this
      cases this
  · intro q hq
    rcases List.mem_append.mp hq with h | h
    · exact S'.is q h
    · refine S'.old _ _ (S.is q (List.mem_append_right _ h)) fun hc => ?_
      exact dis _ (hC _ hc).1 _ (List.mem_map_of_mem (f := (·.1)) h) rfl
  · intro b o e hb
    refine S'.old _ _ (S.old b o e hb) fun hc => ?_
    rcases (hC _ hc).2 with z | z
    · rw [z] at e; cases e
    · exact hb z
  · intro b hb
    by_cases hc : b ∈ C
    · exact S'.mu b hc
    · cases e : H b with
      | none => exact absurd e (S.mu b hb)
      | some u => rw [S'.old b u e hc]; simp
theorem Hs.none0 (S : Hs H0 M H L) {a : Addr} (h : H a = none) : H0 a = none := (S.new h (.lst [])).1
end
end Rs
namespace Rs
open PySem PySem.Spec PyProof.Rows L2
abbrev SepR := List V → List Addr → Led → (V → Led → Prop) → Prop
/-- R: the arguments, the objects that may change, what is known ahead, what is promised -/
def Sep (R : SepR) : Sp := fun vs H Q _ => ∃ C L post, R vs C L post ∧ (L.map (·.1)).Nodup ∧ (∀ q ∈ L, H q.1 = some q.2) ∧ (∀ c ∈ C, c ∈ L.map (·.1)) ∧
  ∀ v H' L', post v L' → Hs H C H' L' → (∀ q ∈ L', q.1 ∈ L.map (·.1) ∨ H q.1 = none) → Q v H'
theorem Sep.led {H : Hp} {C : List Addr} {L : Led} (nd : (L.map (·.1)).Nodup) (is : ∀ q ∈ L, H q.1 = some q.2) (hC : ∀ c ∈ C, c ∈ L.map (·.1)) : Hs H C H L := by
  refine Hs.start H C L nd is fun b hb => ?_
  obtain ⟨q, hq, e⟩ := List.mem_map.mp (hC b hb)
  rw [← e, is q hq]; simp
/-- one entry taken out -/
inductive Pick (q : Addr × HO) : Led → Led → Prop where
  | here {L : Led} : Pick q (q :: L) L
  | there {r : Addr × HO} {L L' : Led} : Pick q L L' → Pick q (r :: L) (r :: L')
  | app {N L L' : Led} : Pick q L L' → Pick q (N ++ L) (N ++ L')
theorem Pick.perm {q : Addr × HO} {L L' : Led} (h : Pick q L L') : L.Perm (q :: L') := by
  induction h with
  | here => exact .refl _
  | there _ ih => exact (List.Perm.cons _ ih).trans (.swap _ _ _)
  | app _ ih => exact (List.Perm.append_left _ ih).trans List.perm_middle
/-- several taken out -/
inductive Sel : Led → Led → Led → Prop where
  | nil {L : Led} : Sel [] L L
  | cons {q : Addr × HO} {K L L' F : Led} : Pick q L L' → Sel K L' F → Sel (q :: K) L F
theorem Sel.perm {K L F : Led} (h : Sel K L F) : L.Perm (K ++ F) := by
  induction h with
  | nil => exact .refl _
  | cons p _ ih => exact p.perm.trans (.cons _ ih)
section
variable {H0 H H' : Hp} {M C : List Addr} {L L' LL F : Led} {R : SepR} {vs : List V} {post : V → Led → Prop} {Q : VK} {E : XK}
theorem sep_use (S : Hs H0 M H LL) (r : R vs C L post) (pm : LL.Perm (L ++ F)) (hC : ∀ c ∈ C, c ∈ L.map (·.1) ∧ (H0 c = none ∨ c ∈ M))
    (h : ∀ v H' L', post v L' → (∀ q ∈ L', q.1 ∈ L.map (·.1) ∨ H0 q.1 = none) → Hs H0 M H' (L' ++ F) → Q v H') : Sep R vs H Q E := by
  have S1 := S.perm pm.symm
  refine ⟨C, L, post, r, ?_, fun q hq => S1.is q (List.mem_append_left _ hq), fun c hc => (hC c hc).1, fun v H' L' p S' hk => ?_⟩
  · have := S1.nd
    rw [List.map_append, List.nodup_append] at this
    exact this.1
  · refine h v H' L' p (fun q hq => ?_) (S1.frame S' hC hk)
    rcases hk q hq with z | z
    · exact Or.inl z
    · exact Or.inr (S.none0 z)
/-- what is said of own objects, told of those of a ledger -/
theorem own_of {K : Led} (h : ∀ q ∈ L', q.1 ∈ L.map (·.1) ∨ H0 q.1 = none) (hL : ∀ q ∈ L, H0 q.1 = none ∨ q.1 ∈ M) : ∀ q ∈ L', H0 q.1 = none ∨ q.1 ∈ M := fun q hq => by
  rcases h q hq with z | z
  · obtain ⟨r, hr, e⟩ := List.mem_map.mp z
    rw [← e]; exact hL r hr
  · exact Or.inl z
end
end Rs
namespace Rs
open PySem PySem.Spec PyProof.Rows L2
/-! ### ledgers put in another order, by counting -/
open Classical in
noncomputable def one (a b : Addr × HO) : Nat := if b = a then 1 else 0
noncomputable def cn (a : Addr × HO) : Led → Nat
  | [] => 0
  | b :: L => one a b + cn a L
theorem cn_nil (a : Addr × HO) : cn a [] = 0 := rfl
theorem cn_cons (a b : Addr × HO) (L : Led) : cn a (b :: L) = one a b + cn a L := rfl
theorem cn_app (a : Addr × HO) : ∀ L L' : Led, cn a (L ++ L') = cn a L + cn a L'
  | [], L' => by simp [cn]
  | b :: L, L' => by rw [List.cons_append, cn_cons, cn_cons, cn_app a L L']; omega
theorem one_self (a : Addr × HO) : one a a = 1 := by simp [one]
theorem one_ne {a b : Addr × HO} (h : b ≠ a) : one a b = 0 := by simp [one, h]
theorem cn_pos {a : Addr × HO} : ∀ {L : Led}, 0 < cn a L ↔ a ∈ L
  | [] => by simp [cn]
  | b :: L => by
    rw [cn_cons]
    by_cases h : b = a
    · subst h; rw [one_self]; simp; omega
    · rw [one_ne h]
      have := cn_pos (a := a) (L := L)
      simp [Ne.symm h, this]
theorem cn_le {L : Led} (h : (L.map (·.1)).Nodup) (a : Addr × HO) : cn a L ≤ 1 := by
  induction L with
  | nil => simp [cn]
  | cons b L ih =>
    rw [List.map_cons, List.nodup_cons] at h
    rw [cn_cons]
    by_cases e : b = a
    · subst e
      rw [one_self]
      have : cn b L = 0 := by
        by_cases z : 0 < cn b L
        · exact absurd (List.mem_map_of_mem (f := (·.1)) (cn_pos.mp z)) h.1
        · omega
      omega
    · rw [one_ne e]; have := ih h.2; omega
theorem nodup_re {L L' : Led} (h : (L.map (·.1)).Nodup) (c : ∀ a, cn a L' ≤ cn a L) : (L'.map (·.1)).Nodup := by
  have sub : ∀ q ∈ L', q ∈ L := fun q hq => cn_pos.mp (Nat.lt_of_lt_of_le (cn_pos.mpr hq) (c q))
  have c1 : ∀ a, cn a L' ≤ 1 := fun a => Nat.le_trans (c a) (cn_le h a)
  have inj : ∀ {L : Led}, (L.map (·.1)).Nodup → ∀ q ∈ L, ∀ r ∈ L, q.1 = r.1 → q = r := by
    intro L
    induction L with
    | nil => intro _ q hq; cases hq
    | cons b L ih =>
      intro h q hq r hr e
      rw [List.map_cons, List.nodup_cons] at h
      rcases List.mem_cons.mp hq with rfl | hq'
      · rcases List.mem_cons.mp hr with rfl | hr'
        · rfl
        · exact absurd (by rw [e]; exact List.mem_map_of_mem (f := (·.1)) hr') h.1
      · rcases List.mem_cons.mp hr with rfl | hr'
        · exact absurd (by rw [← e]; exact List.mem_map_of_mem (f := (·.1)) hq') h.1
        · exact ih h.2 q hq' r hr' e
  clear c
  induction L' with
  | nil => simp
  | cons b L' ih =>
    rw [List.map_cons, List.nodup_cons]
    refine ⟨fun hm => ?_, ih (fun q hq => sub q (List.mem_cons_of_mem _ hq)) fun a => ?_⟩
    · obtain ⟨r, hr, e⟩ := List.mem_map.mp hm
      have := inj h _ (sub r (List.mem_cons_of_mem _ hr)) _ (sub b List.mem_cons_self) e
      subst this
      have z := c1 r
      rw [cn_cons, one_self] at z
      have := cn_pos.mpr hr
      omega
    · have := c1 a; rw [cn_cons] at this; omega
theorem Hs.re {H0 H : Hp} {M : List Addr} {L L' : Led} (S : Hs H0 M H L) (c : ∀ a, cn a L' ≤ cn a L) : Hs H0 M H L' :=
  ⟨nodup_re S.nd c, fun q hq => S.is q (cn_pos.mp (Nat.lt_of_lt_of_le (cn_pos.mpr hq) (c q))), S.old, S.mu⟩
section
variable {H0 H H' : Hp} {M C : List Addr} {L L' LL F : Led} {R : SepR} {vs : List V} {post : V → Led → Prop} {Q : VK} {E : XK}
theorem sep_use' (S : Hs H0 M H LL) (r : R vs C L post) (pm : ∀ a, cn a (L ++ F) ≤ cn a LL) (hC : ∀ c ∈ C, c ∈ L.map (·.1) ∧ (H0 c = none ∨ c ∈ M))
    (h : ∀ v H' L', post v L' → (∀ q ∈ L', q.1 ∈ L.map (·.1) ∨ H0 q.1 = none) → Hs H0 M H' (L' ++ F) → Q v H') : Sep R vs H Q E :=
  sep_use (S.re pm) r (.refl _) hC h
end
end Rs
namespace Rs
open PySem PySem.Spec PyProof.Rows L2
theorem Chg.app {a : Addr} {o o' : HO} {L L' : Led} (h : Chg a o o' L L') : ∀ N : Led, Chg a o o' (N ++ L) (N ++ L')
  | [] => h
  | _ :: N => .there (h.app N)
theorem Chg.appR {a : Addr} {o o' : HO} {L L' N : Led} (h : Chg a o o' L L') : Chg a o o' (N ++ L) (N ++ L') := h.app N
theorem Chg.appL {a : Addr} {o o' : HO} {L L' N : Led} (h : Chg a o o' L L') : Chg a o o' (L ++ N) (L' ++ N) := by
  induction h with
  | here => exact .here
  | there _ ih => exact .there ih
end Rs

namespace Rs
open PySem PySem.Spec PyProof.Rows L2
section
variable {σ : L2.St} {H H0 : Hp} {M : List Addr} {L L' : Led} {Q : VK} {v x y : V} {nx : L2.St → Hp → Prop} {rt : VK} {bk ct : L2.St → Hp → Prop} {ta : TA} {g : TG} {tw : TS} {K : PySem.W.Frag}
def enI (K : PySem.W.Frag) (R : It → Hp → Prop) (vs : List V) (H : Hp) : Prop := ∃ a xs, vs = [V.ref a] ∧ SqL K H a xs ∧ R (Ite K a) H
theorem rd_enum {R : It → Hp → Prop} (h : ta σ H fun vs H1 => enI K R vs H1) : iEnum K ta σ H R := h
theorem rd_enI {R : It → Hp → Prop} {a : Addr} {xs : List V} (S : Hs H0 M H L) (m : (a, HO.lst xs) ∈ L) (h : R (Ite K a) H) : enI K R [.ref a] H := ⟨a, xs, rfl, S.lst m, h⟩
/-- over enumerate of a list that stays as it is -/
theorem fw_enum {a : Addr} {xs : List V} (Pv : Nat → L2.St → Hp → Prop) (h0 : Pv 0 σ H) (hl : ∀ i σ H, i ≤ xs.length → Pv i σ H → SqL K H a xs)
    (hs : ∀ i x σ H T, xs[i]? = some x → Pv i σ H → H T = none → g (.ref T) σ (upd H T (.tup [.int (i : Nat), x])) fun σ2 H2 => tw ⟨Pv (i + 1), rt, nx, Pv (i + 1)⟩ σ2 H2) (hd : ∀ σ H, Pv xs.length σ H → nx σ H) : forW (Ite K a) g tw ⟨nx, rt, bk, ct⟩ σ H := by
  refine for_it walk_enum Pv h0 hl ?_ hd
  rintro i x σ H H' hi hp ⟨T, y, z, rfl, hT, rfl, e1, e2⟩
  cases e1
  exact hs i z σ H T e2 hp hT
/-- an own new object, as the rules hand it -/
theorem Hs.newAt (S : Hs H0 M H L) {p : Addr} {o : HO} (hp : H p = none) : H0 p = none ∧ Hs H0 M (upd H p o) ((p, o) :: L) := S.new hp o
theorem rd_methK {C : Addr} {m : Str} {n : Nat} {sp : Sp} {gV : List V → List V → List V} {E : XK} {te : TE} {tk : TA} (h : te σ H fun x H1 => ∃ a dx fs, x = .ref a ∧ H1 a = some (.ins C dx fs) ∧ fs.lookup m = none ∧ tk σ H1 fun zs H2 => zs.length = n ∧ sp (gV [x] zs) H2 Q E) : tMethK C m n sp gV E te tk σ H Q := h
end
end Rs

namespace Rs
open PySem PySem.Spec PyProof.Rows L2
abbrev SepM := List V → List Addr → Led → (V → Led → Led → Prop) → Prop
/-- a promise by ledgers; the new objects told apart -/
def SepN (R : SepM) : Sp := fun vs H Q _ => ∃ C L post, R vs C L post ∧ (L.map (·.1)).Nodup ∧ (∀ q ∈ L, H q.1 = some q.2) ∧ (∀ c ∈ C, c ∈ L.map (·.1)) ∧
  ∀ v H' N L', post v N L' → Hs H C H' (N ++ L') → (∀ q ∈ L', q.1 ∈ L.map (·.1)) → (∀ q ∈ N, H q.1 = none) → Q v H'
section
variable {H0 H H' : Hp} {M C : List Addr} {L L' LL F : Led} {R : SepM} {vs : List V} {post : V → Led → Led → Prop} {Q : VK} {E : XK}
theorem sepn_use (S : Hs H0 M H LL) (r : R vs C L post) (pm : ∀ a, cn a (L ++ F) ≤ cn a LL) (hC : ∀ c ∈ C, c ∈ L.map (·.1) ∧ (H0 c = none ∨ c ∈ M))
    (h : ∀ v H' N L', post v N L' → (∀ q ∈ N, H0 q.1 = none) → Hs H0 M H' (N ++ (L' ++ F)) → Q v H') : SepN R vs H Q E := by
  have S1 := S.re pm
  refine ⟨C, L, post, r, ?_, fun q hq => S1.is q (List.mem_append_left _ hq), fun c hc => (hC c hc).1, fun v H' N L' p S' h1 h2 => ?_⟩
  · have := S1.nd
    rw [List.map_append, List.nodup_append] at this
    exact this.1
  · refine h v H' N L' p (fun q hq => S.none0 (h2 q hq)) ?_
    rw [← List.append_assoc]
    refine S1.frame S' hC fun q hq => ?_
    rcases List.mem_append.mp hq with z | z
    · exact Or.inr (h2 q z)
    · exact Or.inl (h1 q z)
end
end Rs

namespace Rs
open PySem PySem.Spec PyProof.Rows L2
section
variable {H H0 : Hp} {M : List Addr} {L L' : Led} {Q : VK} {a : Addr}
theorem rd_rev {xs : List V} (S : Hs H0 M H L) (c : Chg a (.lst xs) (.lst xs.reverse) L L') (hm : H0 a = none ∨ a ∈ M) (h : ∀ H', Hs H0 M H' L' → Q .non H') : rReverse (.ref a) [] H Q := ⟨a, xs, rfl, rfl, S.is _ c.mem, h _ (S.put c hm)⟩
end
end Rs
namespace Rs
open PySem PySem.Spec PyProof.Rows L2
theorem at_nat {ns : List Int} {i : Nat} (h : i < ns.length) : atI (ns.map V.int) (i : Int) = some (.int (ns.getD i 0)) := by
  have e : ixN (ns.map V.int).length (i : Int) = some i := by
    unfold ixN
    rw [if_pos (by omega)]
    simp [h]
  unfold atI
  rw [e]
  show (ns.map V.int)[i]? = _
  rw [List.getElem?_map, List.getD_eq_getElem?_getD, List.getElem?_eq_getElem h]
  rfl
end Rs

/-! Xc1: own exceptions over any built-in base, with an own __init__ -/
namespace Xc
open PySem PySem.Spec PyProof.Rows L2
/-- C: an own class over the built-in B (others of one's own between) -/
structure Own (K : PySem.W.Frag) (C : Addr) (B newId initId : String) (bmB : List Value) : Prop where
  fb : ExcBaseFacts B newId initId bmB
  st : StoreFacts B bmB "object.__setattr__" "object"
  ini : PySem.W.excInitIn K C bmB newId = true
  ovr : PySem.W.excOver K C bmB = true
  dic : PySem.W.hasDictIn K C = true
  sav : PySem.W.findIn K (.ref C) "__setattr__" = some (some (.builtin "object.__setattr__"))
  bex : PySem.W.subIn K (.ref C) (.type "BaseException") = some true
  tyc : PySem.W.typeIn K (.ref C) = some (.type "type")
  kpc : PySem.W.keepIn K (.ref C) = true
section
variable {X : Cx} {pins : List (Addr × Obj)} {σ : L2.St} {H : Hp} {s : Shared} {a C dx : Addr} {f : Str} {y : V} {u : Value} {fs : List (Str × V)} {Q : Unit → Shared → Prop} {E : Value → Shared → Prop} {A : Around} {B newId initId : String} {bmB : List Value}
theorem put0 (T : Own X.K C B newId initId bmB) (I : Inv X pins σ H s) (e : H a = some (exo a C none)) (hno : PySem.W.takerIn X.K C f = some none) (ry : RelV y u)
    (k : ∀ d1 s1, H d1 = none → d1 ≠ a → Inv X pins σ (upd (upd H d1 (exd d1 [(f, y)])) a (exo a C (some d1))) s1 → Q () s1) : wpAny (model X.prog X.w) A (setAttr (.ref a) f u) Q E s := by
  obtain ⟨tA, hA⟩ := exo_at I.hok e
  obtain ⟨hp, gn, dr, tk0, osS⟩ := s
  have J : PySem.W.InstAt hp a { cls := .ref C, dict := none, data := .fields #[.ref tA, .none, .none, .none, .bool false, .none] } C none := ⟨hA, rfl, rfl, trivial⟩
  refine PySem.W.set_plain I.kIn J T.sav (PySem.W.osa_openX T.st I.kIn J T.ovr hno fun _ => ?_)
  obtain ⟨cd, hcd, hdc⟩ := PySem.W.any_some T.dic
  refine wpAny_bind (wpAny_pure (wpAny_bind (PySem.W.instanceDict_exc hA (PySem.W.looks_clsIn I.kIn hcd) hdc ?_)))
  have lt : a < hp.objs.size := Heap.lt_size hA
  show wpAny _ _ (Builtin.ObjectAttr.storeInDict hp.objs.size _ f u) _ _ _
  refine PySem.HandSPX.store_in_new ⟨_, #[], _, (Heap.get?_update_ne _ _ _ _ (Nat.ne_of_gt lt)).trans (Heap.get?_push_at rfl rfl), rfl, fun e he => absurd he (by simp), fun _ => rfl⟩ fun h2 tk2 hn sb => ?_
  have new : H hp.objs.size = none := I.hok.fresh (Nat.le_refl _)
  have neA : hp.objs.size ≠ a := Nat.ne_of_gt lt
  have oldK : ∀ b o, b ≠ a → hp.get? b = some o → h2.get? b = some o := fun b o hb q =>
    (sb.2 b (Nat.ne_of_lt (Heap.lt_size q))).trans ((Heap.get?_update_ne _ _ _ _ hb).trans (Heap.get?_push_of_some _ q))
  have atA : h2.get? a = some { cls := .ref C, dict := some hp.objs.size, data := .fields #[.ref tA, .none, .none, .none, .bool false, .none] } :=
    (sb.2 a (Ne.symm neA)).trans (Heap.get?_update_self _ (Heap.get?_push_of_some _ hA) rfl)
  have nn : ∀ {b : Addr}, H b = none → b ≠ a := fun {b} n z => by
    rw [z, e] at n; cases n
  have nD : ∀ {b : Addr} {o : Obj}, hp.get? b = some o → b ≠ hp.objs.size := fun {b o} q => Nat.ne_of_lt (Heap.lt_size q)
  refine k hp.objs.size ⟨h2, gn, dr, tk2, osS⟩ new neA (I.un (t' := tk2) ⟨fun b o q n _ _ => oldK b o (nn n) q, fun b o q n _ _ => ⟨o.slots, oldK b o (nn n) q⟩, fun b o q n _ => by
      rw [upd_ne (nn n), upd_ne (nD q)]; exact n, fun b o q _ => ?_, fun b xs q => by rw [upd_ne (at_ne e q exo_tup), upd_ne (ne_of_none q new)]; exact q,
      fun b o v q => by rw [upd_ne (at_ne e q exo_frz), upd_ne (ne_of_none q new)]; exact q, fun b ps q => ⟨#[], by rw [upd_ne (at_ne e q exo_tbl), upd_ne (ne_of_none q new), q]; simp⟩⟩ fun b o q => ?_)
  · by_cases hb : b = a
    · exact ⟨_, by rw [hb]; exact atA⟩
    · exact ⟨o, oldK b o hb q⟩
  · by_cases hb : b = a
    · subst hb; rw [upd_same] at q; cases q; exact exo_ok atA
    · rw [upd_ne hb] at q
      by_cases hd : b = hp.objs.size
      · subst hd; rw [upd_same] at q; cases q
        exact exd_ok hn (relO_put (fs := []) ry fun g => True.intro)
      · rw [upd_ne hd] at q
        refine (I.hok b o q).stay (fun c v hc z => oldK c v ?_ z) (fun c hc => by rw [upd_ne (at_ne e hc exo_own), upd_ne (ne_of_none hc new)]; exact hc)
          (fun c xs hc => by rw [upd_ne (at_ne e hc exo_tup), upd_ne (ne_of_none hc new)]; exact hc)
        rcases hc with hc | hc
        · rw [hc]; exact hb
        · exact at_ne e hc exo_own
theorem put1 (T : Own X.K C B newId initId bmB) (I : Inv X pins σ H s) (e : H a = some (exo a C (some dx))) (ed : H dx = some (exd dx fs)) (hl : fs.length ≤ 900) (hno : PySem.W.takerIn X.K C f = some none) (ry : RelV y u)
    (k : ∀ s1, Inv X pins σ (upd H dx (exd dx ((f, y) :: fs))) s1 → Q () s1) : wpAny (model X.prog X.w) A (setAttr (.ref a) f u) Q E s := by
  obtain ⟨tA, hA⟩ := exo_at I.hok e
  obtain ⟨mA, hns, rel⟩ := exd_at I.hok ed
  have wi := within_of rel
  obtain ⟨hp, gn, dr, tk0, osS⟩ := s
  obtain ⟨oD, _, _, hoD, _, _⟩ := hns.count wi
  have J : PySem.W.InstAt hp a { cls := .ref C, dict := some dx, data := .fields #[.ref tA, .none, .none, .none, .bool false, .none] } C (some oD) := ⟨hA, rfl, rfl, hoD⟩
  refine PySem.W.set_plain I.kIn J T.sav (PySem.W.osa_openX T.st I.kIn J T.ovr hno fun _ => ?_)
  obtain ⟨cd, hcd, hdc⟩ := PySem.W.any_some T.dic
  refine wpAny_bind (wpAny_pure (wpAny_bind (wpAny_bind (wpAny_loadPart hA (wpAny_bind ((PySem.W.looks_clsIn I.kIn hcd).at ?_))))))
  rw [hdc]
  refine wpAny_pure (a := some dx) ?_
  refine PySem.OEX.store_in_old hns wi (by rw [List.length_map]; omega) fun h2 tk2 hn sb => ?_
  obtain ⟨oN, _, _, eN, _⟩ := id hn
  exact k _ (I.write (t' := tk2) (x := dx) (e := dx) (o := exd dx ((f, y) :: fs)) (by rw [ed]; exact True.intro) (.inl rfl) (fun b o hb q => (sb.2 b hb).trans q) ⟨oN, eN⟩ (exd_ok hn (relO_put ry rel)))
/-- B.__init__(self, ..): the args are laid anew, nothing of them is told -/
theorem binit {us : List Value} {Q : Value → Shared → Prop} (T : Own X.K C B newId initId bmB) (I : Inv X pins σ H s) (e : H a = some (exo a C none)) (hl : us.length ≤ sizeLine) (k : ∀ s1, Inv X pins σ H s1 → Q .none s1) :
    wpAny (model X.prog X.w) A (call (.builtin initId) (.ref a :: us)) Q E s := by
  obtain ⟨tA, hA⟩ := exo_at I.hok e
  obtain ⟨nm, N, qn, bs, bm, hdct, sn, sub, ab, col, dd, k0, k1, k2, k3, k5, hC, hT⟩ := PySem.W.excInit_of I.kIn T.ini
  obtain ⟨hp, gn, dr, tk0, osS⟩ := s
  refine wpAny_call (PySem.HandSPX.init_base T.fb hT hC hA hl fun h2 t2 kp hx => ?_)
  have J := I.write (t' := tk0) (x := a) (e := a) (o := exo a C none) (by rw [e]; exact True.intro) (.inl rfl) kp ⟨_, hx⟩ (exo_ok hx)
  have same : upd H a (exo a C none) = H := by
    funext b
    by_cases hb : b = a
    · subst hb; rw [upd_same, e]
    · rw [upd_ne hb]
  exact k _ (same ▸ J)
end
/-! ### the rules -/
/-- B.__init__(self, ..) -/
def tBI (K : PySem.W.Frag) (B newId initId : String) (bmB : List Value) (ta : TA) : TE := fun σ H Q => ta σ H fun vs H1 => ∃ (a C : Addr) (ws : List V), vs = .ref a :: ws ∧ ws.length ≤ 1000 ∧ Own K C B newId initId bmB ∧ H1 a = some (exo a C none) ∧ Q .non H1
/-- self.f = e -/
def tPut (K : PySem.W.Frag) (B newId initId : String) (bmB : List Value) (f : Str) (to te : TE) : TS := fun D σ H => te σ H fun y H1 => to σ H1 fun x H2 => ∃ a C : Addr, x = .ref a ∧ Own K C B newId initId bmB ∧ PySem.W.takerIn K C f = some none ∧
  ((H2 a = some (exo a C none) ∧ ∀ dx, H2 dx = none → dx ≠ a → D.nx σ (upd (upd H2 dx (exd dx [(f, y)])) a (exo a C (some dx)))) ∨
    ∃ (dx : Addr) (fs : List (Str × V)), H2 a = some (exo a C (some dx)) ∧ H2 dx = some (exd dx fs) ∧ fs.length ≤ 900 ∧ D.nx σ (upd H2 dx (exd dx ((f, y) :: fs))))
section
variable {X : Cx} {o e : Expr} {es : List Expr} {to te : TE} {ta : TA} {f : Str} {p p' p1 p2 pos : Pos} {B newId initId : String} {bmB : List Value}
theorem pe_binit {n : Str} {pl : Sem Bool} {C : Addr} (_o : Own X.K C B newId initId bmB) (hg : Gl X n) (hm : X.mg n = none) (hv : bootBuiltins n = some (.type B)) (hty : typeOf (.type B) = pure (.type "type")) (hst : Manifest.isStub B = false) (hin : PySem.W.handedIn (.builtin initId) = true)
    (vV : PySem.W.findCls X.K (.type B) (.type "type") "__init__" = some (.val (.builtin initId))) (ha : PA X (e :: es) ta)
    (hc : eval (.Call (.Attribute (.Name n p1) "__init__" p2) (e :: es) [] pos) X.env = (do
      let ov ← eval (.Name n p1) X.env
      standAt p2.atName
      let (fn, fst) ← holding [ov] (getMethod ov "__init__" pl)
      callWith pos fn fst (backTo pos (starEach (e :: es) X.env)) (backToKw pos (keywordEach [] X.env))) := by rfl)
    (hn1 : n ≠ "__name__" := by decide) (hn2 : (n == ("__debug__" : Str)) = false := by decide) (he : starEach (e :: es) X.env = (false, eval e X.env) :: starEach es X.env := by rfl) (hp : (backTo pos (starEach es X.env)).any (·.1) = false := by rfl) :
    PE X (.Call (.Attribute (.Name n p1) "__init__" p2) (e :: es) [] pos) (tBI X.K B newId initId bmB ta) := by
  refine ⟨fun pins s σ H Q I k => PySem.W.methodCall_KW (ld_blt I hg hm hv ?_ hn1 hn2) hc⟩
  obtain ⟨m, fr⟩ := I.fr
  refine PySem.W.method_type fr I.ok.mod.kin hty hst vV hin ?_
  show wpAny _ _ (callWith pos (Value.builtin initId) [] (backTo pos (starEach (e :: es) X.env)) []) _ _ _
  refine PyProof.Rows.callWith_method1 (thn (ha.run pos pins _ σ H _ (I.tok _) k) fun us s1 ⟨vs, H1, I1, rv, a, C, ws, ev, hl, T, ea, q⟩ => ?_) he hp
  subst ev
  cases rv with
  | @cons _ u1 _ ur rA rW =>
    obtain rfl : u1 = Value.ref a := rA
    exact binit T I1 ea (by rw [← Paired.length rW, sizeLine_eq]; omega) fun s2 J => ⟨.non, H1, J, rfl, q⟩
theorem ps_put {C : Addr} (_o : Own X.K C B newId initId bmB) (ho : PE X o to) (he : PE X e te) (hs : swapsWith e (some (.Attribute o f p')) pos.line X.env = pure false := by rfl) : PS X (.Assign [.Attribute o f p'] e pos) (tPut X.K B newId initId bmB f to te) := by
  refine ⟨fun pins s σ H D I k => plainObj_wpAny_Assign_Attribute (thn (he.run pins s σ H _ I k) fun v s1 ⟨y, H1, I1, ry, k1⟩ => thn (ho.run pins s1 σ H1 _ I1 k1) fun u s2 ⟨x, H2, I2, rx, a, C, ex, T, hno, q⟩ => ?_) hs⟩
  subst ex
  obtain rfl : u = Value.ref a := rx
  rcases q with ⟨ea, q⟩ | ⟨dx, fs, ea, ed, hl, q⟩
  · exact put0 T I2 ea hno ry fun dx s3 n1 n2 J => ⟨σ, _, J, q dx n1 n2⟩
  · exact put1 T I2 ea ed hl hno ry fun s3 J => ⟨σ, _, J, q⟩
/-- C(e, ..) with C's own __init__ -/
theorem pmk_own {CX : CXT} {x : Str} {C fI : Addr} {k : Nat} {fd : FuncData} {ps : List Str} {sp : Sp} {ds : List Value} {dvs : List V} (T : Own X.K C B newId initId bmB) (iC : PySem.W.findIn X.K (.ref C) "__init__" = some (some (.ref fI))) (tI : PySem.W.typeIn X.K (.ref fI) = some (.type "function"))
    (F1 : FnOk X.prog X.w X.K X.mg X.base CX k fI fd ps sp) (hr : Room (k + 1) X.A) (hb : Binds X.K fd ps ds) (hd : Vals dvs ds) (hx : Passes CX X (fun _ _ _ => False)) (hg : Gl X x) (hm : X.mg x = some (.ref C)) (ha : PA X (e :: es) ta)
    (hdb : (x == ("__debug__" : Str)) = false := by decide) (he : starEach (e :: es) X.env = (false, eval e X.env) :: starEach es X.env := by rfl) (hp : (backTo pos (starEach es X.env)).any (·.1) = false := by rfl) :
    PMk X (.Call (.Name x p) (e :: es) [] pos) (tMkO C sp dvs ta) := by
  intro pins s σ H Q I hh
  refine wpAny_Call_Name_kw (ld_glob I hg hm ?_ hdb)
  refine PySem.W.callWith_K (h₀ := X.base) I.ok.mod.kin T.kpc (thn (ha.run pos pins s σ H _ I hh) fun us s1 ⟨vs, H1, I1, rv, hz, k1⟩ => ⟨I1.kIn, ?_⟩) he hp
  show wpAny _ _ (call (.ref C) us) _ _ _
  obtain ⟨nm, N, qn, bs, bm, hdct, sn, sub, ab, col, dd, k0, k1', k2, k3, k5, hC, hT⟩ := PySem.W.excInit_of I1.kIn T.ini
  obtain ⟨hp1, gn, dr, tk, osS⟩ := s1
  have up1 : hp1.objs.size ≤ hp1.objs.size + 1 := Nat.le_succ _
  have new : H1 (hp1.objs.size + 1) = none := I1.hok.fresh up1
  have body := k1 (hp1.objs.size + 1) new
  have kept : ∀ b o, hp1.get? b = some o → ((hp1.push (PySem.W.kdv_tup us)).push (PySem.HandSPX.excO C hp1.objs.size)).get? b = some o := fun b o q => Heap.get?_push_of_some _ (Heap.get?_push_of_some _ q)
  have there : ((hp1.push (PySem.W.kdv_tup us)).push (PySem.HandSPX.excO C hp1.objs.size)).get? (hp1.objs.size + 1) = some (PySem.HandSPX.excO C hp1.objs.size) := by heap_get
  have I2 : Inv X pins σ (upd H1 (hp1.objs.size + 1) (exo (hp1.objs.size + 1) C none)) ⟨(hp1.push (PySem.W.kdv_tup us)).push (PySem.HandSPX.excO C hp1.objs.size), gn, dr, tk, osS⟩ :=
    I1.laid (t' := tk) (a := hp1.objs.size + 1) (o := exo (hp1.objs.size + 1) C none) (h' := (hp1.push (PySem.W.kdv_tup us)).push (PySem.HandSPX.excO C hp1.objs.size)) kept up1 (exo_ok there)
  have rels : Vals (V.ref (hp1.objs.size + 1) :: (vs ++ dvs)) (Value.ref (hp1.objs.size + 1) :: (us ++ ds)) := .cons rfl (rv.append hd)
  have len1 : (Value.ref (hp1.objs.size + 1) :: us ++ ds).length = ps.length := (F1.len _ _ _ _ body).symm.trans rels.length |>.symm
  have lus : us.length ≤ sizeLine := by rw [← Paired.length rv, sizeLine_eq]; omega
  refine wpAny_call (PySem.HandSPX.call_own T.fb hT hC (PySem.W.looks_findIn I1.kIn iC) (fun self => PySem.W.bind_fn I1.kIn self tI) lus
    (codeAny_mono (F1.run _ X.stack _ _ ⟨Value.ref (hp1.objs.size + 1) :: us, []⟩ (Value.ref (hp1.objs.size + 1) :: (us ++ ds)) _ _ (fun _ _ _ => False) (hr.make C us []) (I2.env0.make C us []) (hb _ (Value.ref (hp1.objs.size + 1) :: us) I2.kIn len1) rels body) fun r s2 z => ?_))
  cases r with
  | error er => exact hx pins σ _ _ er s2 I2 z
  | ok fl =>
    cases fl with
    | ret u =>
      obtain ⟨v, H2, o2, b2, u2, hok2, rv2, ev, d, fs, ea, ed, hd1, q2⟩ := z
      subst ev
      obtain ⟨h2, g2, d2, t2, os2⟩ := s2
      exact ⟨rv2, mk_end (raises_own T.bex T.tyc) I1 up1 kept u2 hok2 o2 b2 ea ed hd1 q2⟩
    | next => exact False.elim z
    | brk => exact False.elim z
    | cont => exact False.elim z
end
end Xc

/-! Xc2: except (A, B, ..) as e: the exception is kept as a value -/
namespace Xc
open PySem PySem.Spec PySem.Calls PyProof.Rows L2 PySem.W
section
variable {M : Model} {A : Around} {E : Value → Shared → Prop} {s : Shared} {β : Type}
theorem loop_all {f : Value → β → Sem (ForInStep β)} {r : β} : ∀ {cs : List Value} {Q : β → Shared → Prop}, (∀ c ∈ cs, ∀ Q : ForInStep β → Shared → Prop, Q (.yield r) s → wpAny M A (f c r) Q E s) → Q r s → wpAny M A (forIn cs r f) Q E s
  | [], Q, _, k => by rw [List.forIn_nil]; exact wpAny_pure k
  | c :: cs, Q, h, k => by
    rw [List.forIn_cons]
    refine wpAny_bind (h c List.mem_cons_self _ ?_)
    exact loop_all (fun c hc => h c (List.mem_cons_of_mem _ hc)) k
theorem loop_any {f : Value → β → Sem (ForInStep β)} {r d : β} {K : Frag} {cls : Value} : ∀ {cs : List Value} {b : Bool} {Q : β → Shared → Prop}, exmAny K cls cs = some b →
    (∀ c b, exmOne K cls c = some b → ∀ Q : ForInStep β → Shared → Prop, Q (if b = true then .done d else .yield r) s → wpAny M A (f c r) Q E s) → Q (if b = true then d else r) s → wpAny M A (forIn cs r f) Q E s
  | [], b, Q, e, _, k => by
    obtain rfl : false = b := Option.some.inj e
    rw [List.forIn_nil]; exact wpAny_pure k
  | c :: cs, b, Q, e, h, k => by
    obtain ⟨b1, d1, e1, e2, rfl⟩ := exmAny_cons e
    rw [List.forIn_cons]
    refine wpAny_bind (h c b1 e1 _ ?_)
    cases b1 with
    | true => exact wpAny_pure k
    | false =>
      rw [Bool.false_or] at k
      exact loop_any e2 h k
end
section
variable {M : Model} {K : Frag}
theorem exm_of_any {cls : Value} : ∀ {cs : List Value} {b : Bool}, exmAny K cls cs = some b → ∀ c ∈ cs, ∃ b, exmOne K cls c = some b
  | [], _, _, c, hc => nomatch hc
  | x :: cs, b, e, c, hc => by
    obtain ⟨b1, d1, e1, e2, _⟩ := exmAny_cons e
    rcases List.mem_cons.mp hc with rfl | hc
    · exact ⟨_, e1⟩
    · exact exm_of_any e2 c hc
theorem exm_tupN {cs : List Value} {cls : Value} {tp e : Addr} {b : Bool} {h : Heap} (X : K.In h) (LT : Looks M h (typeOf (.ref e)) cls) (hp : h.get? tp = some { cls := .type "tuple", data := .seq cs.toArray }) (hx : exmAny K cls cs = some b) :
    Looks M h (excMatches (.ref e) (.ref tp)) b := by
  intro A Q E s k q
  obtain ⟨hh, g, d, tk, os⟩ := s
  have isT : Looks M h (isInstance (.ref tp) (.type "tuple")) true := ((Looks.ld hp).andThen .now).andThen (Looks.of_pure isSubtype_tuple_tuple)
  have hp2 := k _ _ hp
  have LT2 := LT.keeps k
  have X2 := X.keeps k
  unfold excMatches
  refine wpAny_bind ((isT.keeps k).at ?_)
  dsimp only
  rw [if_pos rfl]
  first
    | refine wpAny_bind (wpAny_seqItems hp2 rfl ?_)
    | refine wpAny_bind (wpAny_bind (wpAny_seqItems hp2 rfl (wpAny_pure ?_)))
  dsimp only [Option.getD_some, Option.getD]
  refine wpAny_bind (wpAny_pure ?_)
  refine wpAny_bind (loop_all (fun c hc Q' q' => ?_) ?_)
  · obtain ⟨b1, e1⟩ := exm_of_any hx c hc
    obtain ⟨l1, _⟩ := exm_cls (M := M) X2 e1
    refine wpAny_bind (l1.at ?_)
    simp only [Bool.not_true, Bool.false_eq_true, if_false]
    exact wpAny_pure q'
  · refine wpAny_bind (LT2.at ?_)
    refine wpAny_bind (loop_any (d := (some true, ())) hx (fun c b1 e1 Q' q' => ?_) ?_)
    · obtain ⟨_, l2⟩ := exm_cls (M := M) X2 e1
      refine wpAny_bind (l2.at ?_)
      cases b1 with
      | true =>
        rw [if_pos rfl] at q' ⊢
        exact wpAny_pure q'
      | false =>
        rw [if_neg Bool.false_ne_true] at q' ⊢
        exact wpAny_pure q'
    · cases b with
      | true => exact wpAny_pure q
      | false => exact wpAny_pure q
end
end Xc
namespace Xc
open PySem PySem.Spec PySem.Calls PyProof.Rows L2
/-- the names of a clause and their classes -/
inductive Nms (X : Cx) : List Expr → List Value → Prop
  | nil : Nms X [] []
  | cons {x : Str} {c : Value} {np : Pos} {es : List Expr} {cs : List Value} : Names X x c → Nms X es cs → Nms X (.Name x np :: es) (c :: cs)
theorem Nms.len {X : Cx} {es : List Expr} {cs : List Value} (h : Nms X es cs) : cs.length = es.length := by
  induction h with
  | nil => rfl
  | cons _ _ ih => simp [ih]
theorem nms_eval {X : Cx} {pins : List (Addr × Obj)} {σ : L2.St} {H : Hp} {s : Shared} {pos : Pos} {E : Value → Shared → Prop} (I : Inv X pins σ H s) {es : List Expr} {cs : List Value} (h : Nms X es cs) :
    ∀ {Q : List Value → Shared → Prop}, Q cs s → wpAny (model X.prog X.w) X.A (spliced (backTo pos (starEach es X.env))) Q E s := by
  induction h with
  | nil => intro Q k; exact wpAny_items_nil k
  | @cons x c np es cs hx _ ih =>
    intro Q k
    refine wpAny_items_cons ?_
    obtain ⟨hg, hdbg, hm | ⟨hm, hv, hnn⟩⟩ := hx
    · exact ld_glob I hg hm (ih k) hdbg
    · exact ld_blt I hg hm hv (ih k) hnn hdbg
/-- a caught exception, held -/
def Exv (a : Addr) (cls : Value) (d : Option Addr) : HO := .ext fun h => ∃ (oe : Obj) (vs : Array Value), h.get? a = some oe ∧ Zc cls d oe ∧ oe.data = .fields vs
theorem exv_ok {P : Program} {w : World} {H : Hp} {h : Heap} {a : Addr} {cls : Value} {d : Option Addr} {oe : Obj} {vs : Array Value} (e : h.get? a = some oe) (z : Zc cls d oe) (hd : oe.data = .fields vs) : ObjOk P w H h a (Exv a cls d) :=
  ⟨⟨oe, vs, e, z, hd⟩, ⟨oe, e⟩, fun _ _ ⟨o, v, q, r⟩ k => ⟨o, v, k o q, r⟩⟩
theorem exv_at {P : Program} {w : World} {H : Hp} {h : Heap} {a : Addr} {cls : Value} {d : Option Addr} (ok : HOk P w H h) (e : H a = some (Exv a cls d)) : ∃ oe vs, h.get? a = some oe ∧ Zc cls d oe ∧ oe.data = .fields vs := by
  have x : ObjOk P w H h a (.ext fun h => ∃ (oe : Obj) (vs : Array Value), h.get? a = some oe ∧ Zc cls d oe ∧ oe.data = .fields vs) := ok a _ e
  exact x.1
section
variable {X : Cx} {pins : List (Addr × Obj)} {σ : L2.St} {H : Hp} {s : Shared}
theorem track {a : Addr} {o : HO} (I : Inv X pins σ H s) (na : H a = none) (n0 : ∀ u, X.s_0.heap.get? a = some u → X.H_0 a = none → a ∈ X.ex) (nL : a ≠ X.env.locals) (nC : ∀ x c, X.env.cells.lookup x = some c → c ≠ a) (nP : ∀ p ∈ X.pn ++ pins, p.1 ≠ a)
    (ok : ObjOk X.prog X.w (upd H a o) s.heap a o) : Inv X pins σ (upd H a o) s := by
  have ne : ∀ {b : Addr} {u : HO}, H b = some u → b ≠ a := fun {b u} e z => by rw [z, na] at e; cases e
  refine ⟨I.ok, I.os, I.bare, ⟨I.base.keep, I.base.slot, fun b u e n hx => ?_, I.base.there, fun b xs e => ?_, fun b u v e => ?_, fun b ps e => ?_⟩, I.loc, I.cell, ?_, fun x c e => ?_, fun p hp => ?_, fun b u e => ?_, I.len⟩
  · by_cases hb : b = a
    · subst hb; exact absurd (n0 u e n) hx
    · rw [upd_ne hb]; exact I.base.free b u e n hx
  · have q := I.base.tups b xs e
    rw [upd_ne (ne q)]; exact q
  · have q := I.base.frzs b u v e
    rw [upd_ne (ne q)]; exact q
  · obtain ⟨more, q⟩ := I.base.tbls b ps e
    exact ⟨more, by rw [upd_ne (ne q)]; exact q⟩
  · rw [upd_ne (Ne.symm nL)]; exact I.free
  · rw [upd_ne (nC x c e)]; exact I.freeC x c e
  · obtain ⟨q1, q2, q3, q4, q5⟩ := I.pin p hp
    exact ⟨q1, by rw [upd_ne (nP p hp)]; exact q2, q3, q4, q5⟩
  · by_cases hb : b = a
    · subst hb; rw [upd_same] at e; cases e; exact ok
    · rw [upd_ne hb] at e
      exact (I.hok b u e).stay (fun c v _ q => q) (fun c q => by rw [upd_ne (ne q)]; exact q) fun c xs q => by rw [upd_ne (ne q)]; exact q
end
theorem fly_keeps {B h h' : Heap} {l : List Env} {a : Addr} {Z : Obj → Prop} (fl : HandSPX.FlyingZ B l a Z h) (k : ∀ b o, h.get? b = some o → h'.get? b = some o) : HandSPX.FlyingZ B l a Z h' := by
  obtain ⟨f1, f2, f3, oe, vs, T, oT, ts, he, hz, hd, h1, hn, ht, hT, hdT, h3⟩ := fl
  exact ⟨fun b o q => k b o (f1 b o q), f2, f3.of_keeps fun b o q _ => ⟨o, k b o q, rfl⟩, oe, vs, T, oT, ts, k _ _ he, hz, hd, h1, hn, ht, k _ _ hT, hdT, h3⟩
/-- what 'except (A, B, ..) as n' wishes; slot i is n's -/
def wKeep (K : PySem.W.Frag) (cs : List Value) (i : Nat) (ts : Addr → Value → Option Addr → TS) (Wout : WX) (D : Ends) : WX := fun cls d σ H =>
  ∃ b, PySem.W.exmAny K cls cs = some b ∧ (b = true → ∀ a, H a = none → ts a cls d { nx := fun σ' H' => D.nx (σ'.set i none) (upd H' a (Exv a cls d)), rt := fun v H' => D.rt v (upd H' a (Exv a cls d)), bk := fun σ' H' => D.bk (σ'.set i none) (upd H' a (Exv a cls d)), ct := fun σ' H' => D.ct (σ'.set i none) (upd H' a (Exv a cls d)) } (σ.set i (some (.ref a))) H) ∧
    (b = false → Wout cls d σ H)
section
variable {X : Cx} {n : Str} {cs : List Value} {i kt : Nat} {body suite : List Stmt} {b₀ : Stmt} {es : List Expr} {tpos pos pos' : Pos} {tb : WX → TS} {ts : Addr → Value → Option Addr → TS} {Wout : WX}
theorem ps_try_keep (hs : X.stack = X.env :: X.outer) (hf : X.env.frame = some X.env.locals) (hN : X.N.Nodup) (hi : X.N[i]? = some n) (hln : X.env.kindOf n = some .local) (hc : Nms X es cs) (hz : cs.length ≤ 100) (tk : Takes X Wout)
    (hb : ∀ (W : WX) (pn : List (Addr × Obj)) (xe : Value → Shared → Prop), Takes (X.tr pn xe) W → PassesOwn (model X.prog X.w) X.A X.env xe → PSs (X.tr pn xe) body (tb W))
    (hsu : ∀ (a : Addr) (oe : Obj) (cls : Value) (d : Option Addr) (pn : List (Addr × Obj)), Zc cls d oe → (∃ vs, oe.data = .fields vs) → PSs (X.suite a ((a, oe) :: pn)) (b₀ :: suite) (ts a cls d)) :
    PS X (.Try body [.ExceptHandler (some (.Tuple es kt tpos)) (some n) (b₀ :: suite) pos'] [] [] pos) (fun D σ H => tb (wKeep X.K cs i ts Wout D) D σ H) := by
  refine ⟨fun pins s σ H D I kk => ?_⟩
  have okX := I.ok
  have frm : X.A.frames = some (X.env :: X.outer) := by rw [okX.frames, hs]
  have lcl : Loc X.env.scope n := .inl hln
  refine wpAny_Try_except (wpAny_mono ((hb (wKeep X.K cs i ts Wout D) (X.pn ++ pins) (fun e s1 => wpAny (model X.prog X.w) X.A (noteFrame e X.env) (fun _ s2 => wpAny (model X.prog X.w) X.A (setFlight e none) (fun _ s3 =>
    wpAny (model X.prog X.w) X.A (handleBy e X.env [.ExceptHandler (some (.Tuple es kt tpos)) (some n) (b₀ :: suite) pos']) (SP X pins D) X.xe s3) X.xe s2) X.xe s1) (fun u s1 xx => ?_) PassesOwn.looking).run [] s σ H D (I.toTry _) kk) (fun fl s1 z => ?_) (fun _ _ z => z))
  · obtain ⟨a, B, sI, pins1, σ1, H1, cls, d, rfl, J0, nb, up, sky, na, osE, agE, b, hb1, yes, no⟩ := xx
    have J : Inv X pins σ1 H1 sI := J0.ofTry okX
    have sky1 : Sky B (X.env :: X.outer) a (Zc cls d) X.env.locals s1.heap := by rw [← hs]; exact sky
    show wpAny (model X.prog X.w) X.A (noteFrame (.ref a) X.env) _ _ _
    refine Sky.land Zc.steady frm hf sky1 fun h3 fl3 up3 => ?_
    have J3 : Inv X pins σ1 H1 { s1 with heap := h3 } := J.landed nb fl3.1 (up.trans up3) osE agE
    obtain ⟨oe3, vs3, he3, hz3, hd3⟩ := fl3.there
    have nfr : a ∉ frs (X.env :: X.outer) := fun hm => by
      obtain ⟨_, o1, q1, nf1⟩ := fl3.2.2.1.mem hm
      rw [he3] at q1; cases q1
      exact nf1 _ hd3
    have nL : a ≠ X.env.locals := fun z => nfr (List.mem_filterMap.mpr ⟨X.env, List.mem_cons_self, by rw [hf, z]⟩)
    have nF : a ∉ X.fs := fun hm => by
      obtain ⟨e1, he1, q1⟩ := List.mem_filterMap.mp hm
      exact nfr (List.mem_filterMap.mpr ⟨e1, List.mem_cons_of_mem _ he1, q1⟩)
    have nst : a ∉ frs X.stack := by rw [hs]; exact nfr
    have bn : B.get? a = none := fl3.2.1
    have n0 : ∀ u, X.s_0.heap.get? a = some u → X.H_0 a = none → a ∈ X.ex := fun u e1 e2 => Classical.byContradiction fun hx => by
      have q1 := nb a u (J.base.keep a u e1 e2 nF hx) nst
      rw [bn] at q1; cases q1
    have nP : ∀ p ∈ X.pn ++ pins, p.1 ≠ a := fun p hp z => by
      obtain ⟨q1, q2, q3, q4, q5⟩ := J.pin p hp
      have q6 : p.1 ∉ frs X.stack := by rw [z]; exact nst
      have q7 := nb p.1 p.2 q1 q6
      rw [z, bn] at q7; cases q7
    have S3 := J3.suite he3 hd3 na nL nF
    refine wpAny_handleBy_cons (codeAny_handlers_test ?_) (by intro q; cases q)
    refine wpAny_Tuple (nms_eval (X := X.suite a ((a, oe3) :: (X.pn ++ pins))) S3 (by
      have g : ∀ {es cs}, Nms X es cs → Nms (X.suite a ((a, oe3) :: (X.pn ++ pins))) es cs := fun h => by
        induction h with
        | nil => exact .nil
        | cons hx _ ih => exact .cons hx ih
      exact g hc) ⟨by rw [sizeLine_eq]; omega, ?_⟩)
    have kp : ∀ b o, h3.get? b = some o → (h3.push { cls := .type "tuple", data := .seq cs.toArray }).get? b = some o := fun _ _ q => Heap.get?_push_of_some _ q
    have LT : PySem.W.Looks (model X.prog X.w) (h3.push { cls := .type "tuple", data := .seq cs.toArray }) (typeOf (.ref a)) cls := fun A Q E s k q => wpAny_typeOf_ref (k _ _ (kp _ _ he3)) (by rw [hz3.1]; exact q)
    refine (exm_tupN (M := model X.prog X.w) (J3.kIn.keeps kp) LT (Heap.get?_push_size h3 rfl) hb1).here ?_
    have fl4 := fly_keeps fl3 kp
    have up4 : sI.heap.UpToSlots (h3.push { cls := .type "tuple", data := .seq cs.toArray }) := (up.trans up3).trans (Heap.UpToSlots.of_keeps kp)
    cases b with
    | true =>
      refine codeAny_handlers_suite_as (HandSPX.lands_againZ fl4 fun h5 fl5 up5 => ?_)
      have J5 : Inv X pins σ1 H1 { s1 with heap := h5 } := J.landed nb fl5.1 (up4.trans up5) osE agE
      obtain ⟨oe5, vs5, he5, hz5, hd5⟩ := fl5.there
      have S5 := J5.suite he5 hd5 na nL nF
      refine store_ok (X := X.suite a ((a, oe5) :: (X.pn ++ pins))) (v := .ref a) S5 hN hi lcl rfl (fun s6 S6 => ?_) (.inr hln)
      refine wpAny_mono ((hsu a oe5 cls d (X.pn ++ pins) hz5 ⟨_, hd5⟩).run [] s6 _ H1 _ S6 (yes rfl a na)) (fun fl s7 z => ?_) (fun _ _ z => False.elim z)
      have fin : ∀ {σ7 : L2.St} {H7 : Hp} {Q : Shared → Prop}, Inv (X.suite a ((a, oe5) :: (X.pn ++ pins))) [] σ7 H7 s7 → (∀ s8, Inv X pins (σ7.set i none) (upd H7 a (Exv a cls d)) s8 → Q s8) →
          wpAny (model X.prog X.w) X.A (do bindName X.env n .none; unbindBehindTheSuite X.env n pos') (fun _ s8 => Q s8) X.xe s7 := fun {σ7 H7 Q} S7 hq => by
        obtain ⟨p1, p2, p3, p4, p5⟩ := S7.pin (a, oe5) (List.mem_append_left _ List.mem_cons_self)
        have J7 := S7.unsuite okX
        refine gone_ok (track J7 p2 n0 nL (fun x c e z => ?_) nP (exv_ok p1 hz5 hd5)) hN hi hln hq
        obtain ⟨v, oc, q1, q2⟩ := J7.cell x c e
        rw [z, p1] at q1; cases q1
        rw [hd5] at q2; cases q2
      cases fl with
      | next =>
        obtain ⟨σ7, H7, S7, q7⟩ := z
        exact fin S7 fun s8 J8 => ⟨_, _, J8, q7⟩
      | brk =>
        obtain ⟨σ7, H7, S7, q7⟩ := z
        exact fin S7 fun s8 J8 => ⟨_, _, J8, q7⟩
      | cont =>
        obtain ⟨σ7, H7, S7, q7⟩ := z
        exact fin S7 fun s8 J8 => ⟨_, _, J8, q7⟩
      | ret u =>
        obtain ⟨v7, σ7, H7, S7, r7, q7⟩ := z
        exact fin S7 fun s8 J8 => ⟨_, _, _, J8, r7, q7⟩
    | false =>
      show wpAny _ X.A (handleBy (.ref a) X.env []) _ _ _
      refine wpAny_handleBy_nil ?_
      obtain ⟨k1, k2, k3, oe, vs, T, oT, ts1, he, hz, hd, h1, hr⟩ := id fl4
      unfold PySem.passOn
      refine wpAny_bind (wpAny_field he hd h1 ?_)
      rw [if_neg (show ¬ ((Value.ref T == Value.none) = true) from by simp)]
      have last : wpAny (model X.prog X.w) X.A (setFlight (.ref a) X.env.frame) (fun _ s5 => wpAny (model X.prog X.w) X.A (throw (.ref a) : Sem Flow) (SP X pins D) X.xe s5) X.xe { s1 with heap := h3.push { cls := .type "tuple", data := .seq cs.toArray } } := by
        rw [hf]
        refine HandSPX.setFlight_upZ fl4 fun h5 hh5 up5 => wpAny_throw (tk _ _ ⟨a, B, sI, pins, σ1, H1, cls, d, rfl, J, nb, up4.trans up5, .inr (.inr (by rw [hs]; exact hh5)), na, osE, agE, no rfl⟩)
      first
        | exact wpAny_bind (wpAny_pure (wpAny_bind last))
        | exact wpAny_bind last
  · cases fl with
    | next =>
      obtain ⟨σ1, H1, J1, q⟩ := z
      exact wpAny_execs_nil ⟨σ1, H1, J1.ofTry okX, q⟩
    | brk =>
      obtain ⟨σ1, H1, J1, q⟩ := z
      exact ⟨σ1, H1, J1.ofTry okX, q⟩
    | cont =>
      obtain ⟨σ1, H1, J1, q⟩ := z
      exact ⟨σ1, H1, J1.ofTry okX, q⟩
    | ret u =>
      obtain ⟨v, σ1, H1, J1, r, q⟩ := z
      exact ⟨v, σ1, H1, J1.ofTry okX, r, q⟩
end
end Xc

/-! Xc3: held exceptions looked at; divmod -/
namespace Xc
open PySem PySem.Spec PySem.Calls PyProof.Rows L2 Rs
/-- what a class says when its instances are looked at -/
structure Lk (K : PySem.W.Frag) (C : Addr) : Prop where
  cl : (PySem.W.clsIn K C).isSome = true
  ga : PySem.W.findIn K (.ref C) "__getattribute__" = some (some (.builtin "BaseException.__getattribute__"))
  gg : PySem.W.findIn K (.ref C) "__getattr__" = some none
  bx : PySem.W.subIn K (.ref C) (.type "BaseException") = some true
  hd : PySem.W.hasDictIn K C = true
  ha : PySem.W.findIn K (.ref C) "__class__" = some (some (.builtin "object.__class__"))
  hn : PySem.W.specialIn K (.builtin "object.__class__") "__get__" = some (some (.builtin "getset_descriptor.__get__"))
  ht : PySem.W.takesIn K (.builtin "object.__class__") = some true
  hm : PySem.W.mroIn K C (.type "object") = some true
/-- held at a: an exception of the class at C, its fields fs in the dict at dx -/
structure Held (H : Hp) (a C dx : Addr) (fs : List (Str × V)) : Prop where
  ex : H a = some (Exv a (.ref C) (some dx))
  dk : H dx = some (.xd fs)
section
variable {X : Cx} {pins : List (Addr × Obj)} {σ : L2.St} {H : Hp} {s : Shared} {a C dx : Addr} {fs : List (Str × V)}
theorem held_inst (I : Inv X pins σ H s) (h : Held H a C dx fs) : ∃ (oe od : Obj) (mA : Str → Option Value), PySem.W.InstAt s.heap a oe C (some od) ∧ (∀ f, RelO (fs.lookup f) (mA f)) ∧ ∀ n : Str, PySem.W.lookIn n od = some (mA n) := by
  obtain ⟨oe, vs, h1, h2, h3⟩ := exv_at I.hok h.ex
  have hx : ObjOk X.prog X.w H s.heap dx (.xd fs) := I.hok dx _ h.dk
  obtain ⟨mA, hns, hr⟩ := hx
  obtain ⟨od, ho, hl⟩ := lookIn_ns hns
  exact ⟨oe, od, mA, ⟨h1, h2.1, by unfold PySem.W.notCls; rw [h3] <;> rfl, by rw [h2.2]; exact ho⟩, hr, hl⟩
/-- isinstance(e, c) of a held one -/
def rIsX (K : PySem.W.Frag) : List V → Hp → VK → Prop := fun xs H Q => ∃ (a C dx : Addr) (fs : List (Str × V)) (c : V) (u : Value) (b : Bool), xs = [.ref a, c] ∧ ClsV c u ∧ Lk K C ∧ Held H a C dx fs ∧ PySem.W.kitOne K (.ref C) u = some b ∧ Q (.bl b) H
theorem call_isX : CallR X (.builtin "isinstance") (rIsX X.K) := by
  intro pins s σ H xs us Q I r h
  obtain ⟨a, C, dx, fs, c, u, b, rfl, k, l, hh, e, q⟩ := h
  obtain ⟨u1, u2, rfl, r1, r2⟩ := vals2 r
  have e2 := k.eq r2
  subst e2
  cases (show u1 = Value.ref a from r1)
  obtain ⟨oe, od, mA, J, _, _⟩ := held_inst I hh
  exact PySem.W.kia_one (PySem.W.kitx_exc l.cl l.ga l.gg l.bx l.ha l.hn l.ht l.hm) I.kIn J e (fun z => nomatch z) fun tk => ⟨.bl b, H, I.tok tk, rfl, q⟩
/-- e.f of a held one -/
def tXv (K : PySem.W.Frag) (f : Str) (te : TE) : TE := fun σ H Q => te σ H fun x H1 => ∃ (a C dx : Addr) (fs : List (Str × V)) (v : V), x = .ref a ∧ Lk K C ∧ PySem.W.findIn K (.ref C) f = some none ∧ Held H1 a C dx fs ∧ fs.lookup f = some v ∧ Q v H1
theorem pe_xv {e : Expr} {te : TE} {pos : Pos} {n : Str} (he : PE X e te) (hb : attributeBase e n X.env (eval e X.env) = eval e X.env := by rfl) : PE X (.Attribute e n pos) (tXv X.K n te) := by
  refine ⟨fun pins s σ H Q I h => attr_of hb (thn (he.run pins s σ H _ I h) fun u s1 hh => ?_)⟩
  obtain ⟨x, H1, I1, rx, a, C, dx, fs, v, ex, l, hno, hd, lk, q⟩ := hh
  subst ex
  obtain rfl : u = Value.ref a := rx
  obtain ⟨oe, od, mA, J, hr, hl⟩ := held_inst I1 hd
  obtain ⟨u2, hu, ru⟩ := RelO.some_of (v := v) (o := mA n) (by rw [← lk]; exact hr n)
  exact HandSPX.exc_get I1.kIn J l.ga l.gg l.bx (PySem.W.findObj_own l.hd hno rfl (by rw [hl, hu])) (handed_of ru) ⟨v, H1, I1.tok _, ru, q⟩
/-- divmod of whole numbers -/
def rDm : List V → Hp → VK → Prop := fun xs H Q => ∃ (a b : Int), xs = [.int a, .int b] ∧ 0 < b ∧ b < 2 ^ 30 ∧ -(2 ^ 30) < a ∧ a < 2 ^ 30 ∧ ∀ p, H p = none → Q (.ref p) (upd H p (.tup [.int (a / b), .int (a % b)]))
theorem call_dm : CallR X (.builtin "divmod") rDm := by
  intro pins s σ H xs us Q I r h
  obtain ⟨a, b, rfl, h1, h2, h3, h4, q⟩ := h
  obtain ⟨u1, u2, rfl, r1, r2⟩ := vals2 r
  obtain ⟨t1, rfl⟩ := (show ∃ t, u1 = Value.int a t from r1)
  obtain ⟨t2, rfl⟩ := (show ∃ t, u2 = Value.int b t from r2)
  have hf : H s.heap.objs.size = none := I.hok.fresh (Nat.le_refl _)
  refine PyProof.Rows.divmod_int (by omega) ?_ (Or.inl (PyProof.noPylong_small (by omega)))
  have e1 : a.fdiv b = a / b := Int.fdiv_eq_ediv_of_nonneg _ (by omega)
  have e2 : a.fmod b = a % b := Int.fmod_eq_emod_of_nonneg _ (by omega)
  rw [e1, e2]
  refine ⟨.ref s.heap.objs.size, upd H s.heap.objs.size (.tup [.int (a / b), .int (a % b)]), I.laid (t' := s.toks + 1 + 1) (fun b o e => Heap.get?_push_of_some _ e) (Nat.le_refl _) ?_, rfl, q _ hf⟩
  exact ⟨by rw [sizeLine_eq]; simp, _, .cons ⟨_, rfl⟩ (.cons ⟨_, rfl⟩ .nil), ⟨_, Heap.get?_push_size _ rfl, rfl, _, rfl⟩⟩
end
end Xc
namespace Xc
open PySem PySem.Spec PySem.Calls PyProof.Rows L2 Rs
theorem ip_or {X : Cx} : PIp X .BitOr (ipI fun i j => Builtin.bitOr i j) := by
  intro pins s σ H x y v u Q I r1 r2 h
  obtain ⟨i, j, rfl, rfl, q⟩ := h
  obtain ⟨t, rfl⟩ := r1
  obtain ⟨t2, rfl⟩ := r2
  exact ior_int ⟨.int (Builtin.bitOr i j), H, I.tok _, ⟨_, rfl⟩, q⟩
end Xc

/-! Xc4: the end with tables of code objects, for promises kept while no text is under way -/
namespace Xc
open PySem PySem.Spec PySem.Calls PyProof.Rows L2 Rs LamX
/-- what is known at the law's call: the script, the tables -/
def headH (own : Bool) (a : Addr) (o : Obj) (ns : List Int) (ts : List Addr) : Hp := fun b => if own = true ∧ b = a then some (.frz o (.lst (ns.map V.int))) else if b ∈ ts then some (.tbl #[]) else none
theorem headH_some {own : Bool} {a b : Addr} {o : Obj} {ns : List Int} {ts : List Addr} {u : HO} (h : headH own a o ns ts b = some u) : (own = true ∧ b = a ∧ u = .frz o (.lst (ns.map V.int))) ∨ (b ∈ ts ∧ u = .tbl #[]) := by
  unfold headH at h
  split at h
  · rename_i z; exact .inl ⟨z.1, z.2, (Option.some.inj h).symm⟩
  · split at h
    · rename_i z; exact .inr ⟨z, (Option.some.inj h).symm⟩
    · cases h
theorem lawGT {P : Program} {w : World} {K : PySem.W.Frag} {mg mb : Str → Option Value} {k : Nat} {fa a : Addr} {fd : FuncData} {x : Str} {sp : Sp} {s : Shared} {vs : List Value} {ns : List Int} {cs : List (Addr × Addr)}
    (KX : K.In s.heap) (hm : s.heap.Ns mainGlobals mg) (hb : s.heap.Ns builtinsNs mb) (hbb : ∀ x : Str, x ≠ "__name__" → mb x = bootBuiltins x) (hlim : s.heap.NoLimit) (hg : s.gens = #[])
    (hT : ∀ p ∈ cs, s.heap.get? p.2 = some (PySem.W.tabObj #[])) (nT : ∀ p ∈ cs, K.lookup p.2 = none) (C : ∀ p ∈ cs, PySem.W.CodeHd s.heap p.1 p.2)
    (hbm : ∃ (bm : Addr) (ob : Obj), mg "__builtins__" = some (.ref bm) ∧ bm ≠ builtinsNs ∧ s.heap.get? bm = some ob ∧ ob.cls = .type "module" ∧ ob.dict = some builtinsNs ∧ ob.data = .plain)
    (ha : s.heap.get? a = some { cls := .type "list", data := .seq vs.toArray }) (hi : IntsAre vs ns) (hl : ns.length ≤ sizeLine) (hr : Room k callerA)
    (F : ∀ base : Heap, K.In base → base.Ns mainGlobals mg → (∀ p ∈ cs, TabB base mg p.1 p.2) → FnG P w K mg base k fa fd [x] sp) (hbind : ∀ (s : Shared) (u : Value), BindsTo s fd ⟨[u], []⟩ [(x, u)])
    (hsp : ∀ H : Hp, (∀ p ∈ cs, H p.2 = some (.tbl #[])) → SqL K H a (ns.map V.int) → sp [.ref a] H (fun v _ => v = .bl true) E0) :
    codeAny (model P w) callerA (.call (.ref fa) ⟨[.ref a], []⟩) (fun r s' => r = .ok (.ret (.bool true)) ∧ OldK s.heap s'.heap ∧ s'.os = s.os ∧ AllBare s'.gens) s := by
  have rv := vals_ints hi
  have lv := hi.length
  have tabOf : ∀ b : Addr, b ∈ cs.map (·.2) → s.heap.get? b = some (PySem.W.tabObj #[]) := fun b hb => by
    obtain ⟨p, hp, rfl⟩ := List.mem_map.mp hb
    exact hT p hp
  have aNot : a ∉ cs.map (·.2) := fun z => by
    have q := tabOf a z
    rw [ha] at q
    have d : Data.seq vs.toArray _ = Data.fields #[] := congrArg Obj.data (Option.some.inj q)
    cases d
  have key : ∀ own : Bool, (own = true → K.lookup a = none) → (own = false → ∃ o, K.lookup a = some o) →
      codeAny (model P w) callerA (.call (.ref fa) ⟨[.ref a], []⟩) (fun r s' => r = .ok (.ret (.bool true)) ∧ OldK s.heap s'.heap ∧ s'.os = s.os ∧ AllBare s'.gens) s := by
    intro own h1 h2
    have hS := fun {b : Addr} {u : HO} => headH_some (own := own) (a := a) (b := b) (o := { cls := .type "list", data := .seq vs.toArray }) (ns := ns) (ts := cs.map (·.2)) (u := u)
    have hTb : ∀ p ∈ cs, headH own a { cls := .type "list", data := .seq vs.toArray } ns (cs.map (·.2)) p.2 = some (.tbl #[]) := fun p hp => by
      have mp : p.2 ∈ cs.map (·.2) := List.mem_map_of_mem (f := (·.2)) hp
      unfold headH
      rw [if_neg (fun z => aNot (by rw [← z.2]; exact mp)), if_pos mp]
    generalize eH : headH own a { cls := .type "list", data := .seq vs.toArray } ns (cs.map (·.2)) = H at hS hTb
    -- an object that is neither a row nor a table is not tracked
    have noH : ∀ {b : Addr} {o : Obj}, s.heap.get? b = some o → (∀ xs n, o.data ≠ .seq xs n) → o.data ≠ .fields #[] → H b = none := fun {b o} e d1 d2 => by
      cases q : H b with
      | none => rfl
      | some u =>
        rcases hS q with ⟨_, rfl, _⟩ | ⟨hb2, _⟩
        · rw [ha] at e; cases e; exact absurd rfl (d1 _ _)
        · rw [tabOf b hb2] at e; cases e; exact absurd rfl d2
    have noD : ∀ {b : Addr} {o : Obj} {es : Array DictEntry} {n : Nat}, s.heap.get? b = some o → o.data = .dict es n → H b = none := fun {b o es n} e d =>
      noH e (fun xs n z => by rw [d] at z; cases z) (fun z => by rw [d] at z; cases z)
    have ns0 : ∀ {b : Addr} {m : Str → Option Value}, s.heap.Ns b m → (hidT s.heap H).Ns b m := fun {b m} ⟨o, es, n, e, d, r⟩ => ⟨o, es, n, hidT_get e (noD e d), d, r⟩
    have K0 : K.In (hidT s.heap H) := fun b o e => by
      refine hidT_get (KX b o e) ?_
      cases q : H b with
      | none => rfl
      | some u =>
        rcases hS q with ⟨z, rfl, _⟩ | ⟨hb2, _⟩
        · rw [h1 z] at e; cases e
        · obtain ⟨p, hp, rfl⟩ := List.mem_map.mp hb2
          rw [nT p hp] at e; cases e
    have hok : HOk P w H s.heap := fun b u q => by
      rcases hS q with ⟨_, rfl, rfl⟩ | ⟨hb2, rfl⟩
      · exact ⟨ha, by rw [List.length_map]; exact hl, vs, _, rv, ha⟩
      · exact tabOf b hb2
    obtain ⟨mc, q1, q2⟩ := hlim
    have M0 : Mod K mg (hidT s.heap H) := ⟨K0, ns0 hm, ⟨mb, ns0 hb, hbb⟩, mc, ns0 q1, q2⟩
    have TB : ∀ p ∈ cs, TabB (hidT s.heap H) mg p.1 p.2 := fun p hp => by
      have hTp := hT p hp
      refine ⟨?_, ?_, fun z => ?_⟩
      · obtain ⟨o, us, file, tf, flags, tg, inF, text, tt, e1, r1, r2, r3, rest⟩ := C p hp
        refine ⟨o, us, file, tf, flags, tg, inF, text, tt, hidT_get e1 (noH e1 (fun xs n z => by rw [r2] at z; cases z) fun z => ?_), r1, r2, r3, rest⟩
        rw [r2] at z; cases z; simp at r3
      · obtain ⟨bm, ob, b1, b2, b3, b4, b5, b6⟩ := hbm
        refine ⟨bm, ob, b1, b2, fun q => ?_, fun q => ?_, hidT_get b3 (noH b3 (fun xs n z => by rw [b6] at z; cases z) fun z => by rw [b6] at z; cases z), b4, b5, b6⟩
        · obtain ⟨o, es, n, e, d, _⟩ := hm
          rw [q, e] at b3; cases b3
          rw [d] at b6; cases b6
        · rw [q, hTp] at b3; cases b3; cases b6
      · obtain ⟨o, es, n, e, d, _⟩ := hm
        rw [z, hTp] at e; cases e; cases d
    have env : Env0 P w K mg (hidT s.heap H) callerA [] s H := ⟨rfl, M0, fun b o e => of_hidT e, Nat.le_of_eq (hidT_size _ _), trivial, fun b hb3 => (nomatch (show b ∈ ([] : List Addr) from hb3)), hok, .of_eq hg⟩
    have sq : SqL K H a (ns.map V.int) := by
      cases own with
      | true => exact Or.inl (Or.inr ⟨_, by rw [← eH]; exact if_pos ⟨rfl, rfl⟩⟩)
      | false =>
        obtain ⟨o, e⟩ := h2 rfl
        have e' := KX a o e
        rw [ha] at e'; cases e'
        exact Or.inr ⟨_, vs.toArray, _, e, rfl, rfl, rfl, by rw [List.size_toArray, lv]; exact hl, by simpa using rv⟩
    refine codeAny_mono ((F _ K0 (ns0 hm) TB).go callerA [] s H [.ref a] ⟨[.ref a], []⟩ [.ref a] _ E0 rfl hr env (hbind s (.ref a)) (.cons rfl .nil) (hsp H hTb sq)) fun r s' z => ?_
    match r, z with
    | .error _, z => exact z.elim
    | .ok .next, z => exact z.elim
    | .ok .brk, z => exact z.elim
    | .ok .cont, z => exact z.elim
    | .ok (.ret u), z =>
      obtain ⟨v, H', os, bare, un, hok', r', q⟩ := z
      cases (show v = .bl true from q)
      cases (show u = Value.bool true from r')
      have same : ∀ b o, b ∉ cs.map (·.2) → s.heap.get? b = some o → s'.heap.get? b = some o := fun b o nb e => by
        cases q : H b with
        | none => exact un.keep b o e q (fun z => nomatch z) (fun z => nomatch z)
        | some u =>
          rcases hS q with ⟨_, rfl, rfl⟩ | ⟨hb2, _⟩
          · rw [ha] at e; cases e
            obtain ⟨e2, _⟩ := hok' b _ (un.frzs b _ _ q)
            exact e2
          · exact absurd hb2 nb
      have grown : ∀ b ∈ cs.map (·.2), isCodeTable s.heap b ∧ ∃ more : Array Value, s'.heap.get? b = some (PySem.W.tabObj more) := fun b hb2 => by
        obtain ⟨p, hp, rfl⟩ := List.mem_map.mp hb2
        obtain ⟨more, q⟩ := un.tbls p.2 #[] (hTb p hp)
        exact ⟨((C p hp).tab (hT p hp)).isCodeTable, _, hok' p.2 _ q⟩
      refine ⟨rfl, ⟨fun b o e => ?_, fun b o e => ?_⟩, os, bare⟩
      · by_cases hb2 : b ∈ cs.map (·.2)
        · obtain ⟨g1, more, g2⟩ := grown b hb2
          rw [tabOf b hb2] at e; cases e
          exact .inr (.inl ⟨g1, rfl, #[], more, rfl, by rw [Array.empty_append]; exact g2⟩)
        · exact .inl (same b o hb2 e)
      · by_cases hb2 : b ∈ cs.map (·.2)
        · obtain ⟨_, more, g2⟩ := grown b hb2
          exact ⟨_, g2⟩
        · exact ⟨o, same b o hb2 e⟩
  cases hk : K.lookup a with
  | some o => exact key false (fun z => Bool.noConfusion z) (fun _ => ⟨o, hk⟩)
  | none => exact key true (fun _ => hk) (fun z => Bool.noConfusion z)
/-- a def whose code object is known by its place -/
structure FunC (K : PySem.W.Frag) (x qual : Str) (st : Stmt) (f : Addr) (fd : FuncData) (c : Addr) : Prop where
  ex : ∃ (oc : Value) (od : Option Addr) (kV doc pm : Value) (an : Option Addr) (ct : Value) (osl : Array (Option Value)),
    fd = PySem.W.fnOf x qual (defArgs st) (defBody st) (defScope st) .none kV doc pm an (.ref c) ct ∧ K.lookup f = some ⟨oc, od, .func (PySem.W.fnOf x qual (defArgs st) (defBody st) (defScope st) .none kV doc pm an (.ref c) ct), osl⟩ ∧ PySem.W.codeIn K (.ref c) qual = true
section
variable {P : Program} {w : World} {K : PySem.W.Frag} {mg : Str → Option Value} {base : Heap}
/-- such a def by its body, as FnG -/
theorem defGC {x qual : Str} {st : Stmt} {f c : Addr} {fd : FuncData} {N ps : List Str} {k : Nat} {sp : Sp} (F : FunC K x qual st f fd c) (S : FnScope N ps (defScope st)) (many : ∀ vs H Q E, sp vs H Q E → vs.length = ps.length)
    (body : ∀ (A : Around) (o : List Env) (s : Shared) (H : Hp) (vs : List V) (Q : VK) (E : XK), Clr A → Room k (A.deeper (envOfC qual (defScope st) s.heap.objs.size f (.ref c))) → sp vs H Q E →
      ∃ t, PSs (cxOf CX0 P w K mg base N qual (defScope st) f (.ref c) A o s H E).nox (defBody st) t ∧ t { nx := fun _ H' => Q .non H', rt := Q } (start N vs) H) : FnG P w K mg base (k + 1) f fd ps sp := by
  obtain ⟨oc, od, kV, doc, pm, an, ct, osl, rfl, lk, hcd⟩ := F.ex
  refine ⟨many, ?_⟩
  intro A o s H us a vs Q E cl r e0 hb rv hsp
  obtain ⟨t, ht, hq⟩ := body A o s H vs Q E cl (r.deeper _) hsp
  have inK : ∀ b ob, K.lookup b = some ob → s.heap.get? b = some ob := fun b ob e => (e0.bs b ob (e0.mod.kin b ob e)).1
  refine codeAny_call_function r.depth (inK _ _ lk) rfl S.co S.gen rfl (PySem.W.codeRec_of inK hcd) (hb _ _ _ _ ?_)
  have noL : s.heap.NoLimit := e0.mod.nolimit.keeps fun b ob e => (e0.bs b ob e).1
  refine wpAny_newFunctionEnv_cells S.kind ?_ ?_
  · rintro ⟨n, v⟩ hy
    rcases S.par n (List.of_mem_zip hy).1 with q | q
    · exact Or.inl q
    · exact Or.inr ⟨q, PySem.W.cellsFrom_some _ _ _ (Or.inl q)⟩
  · intro env he s1 x1
    subst he
    refine ⟨noL.keeps x1.toInCall.keep, codeAny_func ?_⟩
    have J := inv_start (CX := CX0) (mg := mg) (E := E) (qual := qual) S r.hd e0 (many _ _ _ _ hsp) rv x1
    refine wpAny_mono (ht.nox.run [] s1 _ H _ J hq) ?_ ?_
    · intro fl s2 h2
      cases fl with
      | next => obtain ⟨_, H2, J2, q2⟩ := h2; exact ⟨V.non, H2, J2.os, J2.bare, J2.base, J2.hok, rfl, q2⟩
      | ret u => obtain ⟨v, _, H2, J2, r2, q2⟩ := h2; exact ⟨v, H2, J2.os, J2.bare, J2.base, J2.hok, r2, q2⟩
      | brk => obtain ⟨_, _, _, q2⟩ := h2; exact q2.elim
      | cont => obtain ⟨_, _, _, q2⟩ := h2; exact q2.elim
    · intro e s2 h2; exact h2
end
/-- the end, the law's def by its facts, its code's tables known -/
theorem walkGT {l : PySem.W.OpenLaw} {n k : Nat} {q : Program} {loose : List Str} {XP : (Str → Option Value) → Heap → Prop} {YP : World → Heap → Prop} {d : DefRec} {K : Params → PySem.W.Frag} {sp : PySem.W.Frag → Sp} {st : Stmt} {x : Str} {ts : List Addr}
    (hn : l.most = some n) (hn2 : n ≤ sizeLine) (hdf : d.params.defaults = []) (hr : Room k callerA) (hY : ∀ (w : World) (h : Heap), YP w h → (K w.params).In h) (hY2 : ∀ (w : World) (h : Heap), YP w h → ∀ p ∈ ts, h.get? p = some (PySem.W.tabObj #[])) (hx : d.name = "law")
    (hb : ∀ (kV doc pm : Value) (an : Option Addr) (cdv ct u : Value), bindArgs (PySem.W.fnOf "law" "law" (defArgs st) (defBody st) (defScope st) .none kV doc pm an cdv ct) ⟨[u], []⟩ = pure [(x, u)])
    (F : ∀ (w : World) (mg : Str → Option Value) (h : Heap), (K w.params).In h → h.Ns mainGlobals mg → ∃ cs : List (Addr × Addr), cs.map (·.2) = ts ∧ (∀ p ∈ cs, (K w.params).lookup p.2 = none) ∧ (∀ p ∈ cs, PySem.W.codeHdIn (K w.params) p.1 p.2 = true) ∧
      ∃ (fa : Addr) (fd : FuncData), Cal (K w.params) mg "law" st [x] fa fd ∧ ∀ base : Heap, (∀ p ∈ cs, TabB base mg p.1 p.2) → FnG l.prog w (K w.params) mg base k fa fd [x] (sp (K w.params)))
    (hsp : ∀ (K : PySem.W.Frag) (H : Hp) (a : Addr) (ns : List Int), ns.length ≤ n → (∀ z ∈ ns, Builtin.Int.intBits z ≤ 1048576) → (∀ p ∈ ts, H p = some (.tbl #[])) → SqL K H a (ns.map V.int) → sp K [.ref a] H (fun v _ => v = .bl true) E0) :
    PySem.W.WalkO q loose XP YP l.row.toRowW d [] (fun f vs => PySem.call f vs) := by
  apply Att.attach_callB hn hdf
  intro w s0 s1 mg mb fa o pm cd doc a vs ns G Y ho hd hcd hmg hobj hints hlen hbits hg
  have KX := hY w _ Y
  obtain ⟨cs, ec, nT, cT, f, fd, C, ok⟩ := F w mg _ KX G.T.g
  subst ec
  rw [hx] at hmg
  have e := C.m.symm.trans hmg
  cases e
  obtain ⟨oc, od, kV, doc2, pm2, an2, cdv, ct, osl, rfl, lk, hcd2⟩ := C.F.ex
  exact lawGT (cs := cs) KX G.T.g G.T.b G.T.builtins G.T.nolimit hg (fun p hp => hY2 w _ Y _ (List.mem_map_of_mem (f := (·.2)) hp)) nT (fun p hp => PySem.W.codeHd_of_K KX (cT p hp)) G.T.bmain hobj hints (Nat.le_trans hlen hn2) hr (fun base _ _ TB => ok base TB) (fun s u => .of_eq (hb kV doc2 pm2 an2 cdv ct u)) fun H hH hS => hsp _ H a ns hlen hbits (fun P hP => by obtain ⟨p, hp, rfl⟩ := List.mem_map.mp hP; exact hH p hp) hS
end Xc

/-! Xc5: readings for own exceptions -/
namespace Xc
open PySem PySem.Spec PySem.Calls PyProof.Rows L2 Rs
/-- __init__(self, x) that stores x as f -/
def spInit1 (C : Addr) (f : Str) : Sp := fun vs H Q _ => ∃ (a : Addr) (v : V), vs = [.ref a, v] ∧ H a = some (exo a C none) ∧ ∀ dx, H dx = none → dx ≠ a → Q .non (upd (upd H dx (exd dx [(f, v)])) a (exo a C (some dx)))
theorem del_eq {H : Hp} {a d : Addr} {o1 o2 o3 o4 : HO} (ha : H a = none) (ne : d ≠ a) : upd (del (upd (upd (upd H a o1) d o2) a o3) a) d o4 = upd H d o4 := by
  funext b
  by_cases hb : b = d
  · subst hb; rw [upd_same, upd_same]
  · rw [upd_ne hb, upd_ne hb]
    by_cases h2 : b = a
    · subst h2; rw [del_same, ha]
    · rw [del_ne h2, upd_ne h2, upd_ne hb, upd_ne h2]
section
variable {σ : L2.St} {H H0 : Hp} {M : List Addr} {L : Led} {Q : VK} {K : PySem.W.Frag} {C : Addr} {f : Str} {x : V} {XQ : XK}
theorem rd_mk1 (k : ∀ d, H d = none → XQ (.ref C) (some d) (upd H d (.xd [(f, x)]))) : [x].length ≤ 1000 ∧ ∀ a, H a = none → spInit1 C f (.ref a :: ([x] ++ [])) (upd H a (exo a C none))
    (fun v H2 => v = .non ∧ ∃ (d : Addr) (fs : List (Str × V)), H2 a = some (exo a C (some d)) ∧ H2 d = some (exd d fs) ∧ H d = none ∧ XQ (.ref C) (some d) (upd (del H2 a) d (.xd fs))) (fun _ _ _ => False) := by
  refine ⟨by simp, fun a ha => ⟨a, x, rfl, upd_same, fun dx n1 n2 => ⟨rfl, dx, [(f, x)], upd_same, ?_, ?_, ?_⟩⟩⟩
  · rw [upd_ne n2, upd_same]
  · rw [upd_ne n2] at n1; exact n1
  · rw [del_eq ha n2]
    rw [upd_ne n2] at n1
    exact k dx n1
theorem rd_tmk {sp : Sp} {dvs : List V} {ta : TA} (h : ta σ H fun vs H1 => vs.length ≤ 1000 ∧ ∀ a, H1 a = none → sp (.ref a :: (vs ++ dvs)) (upd H1 a (exo a C none))
    (fun v H2 => v = .non ∧ ∃ (d : Addr) (fs : List (Str × V)), H2 a = some (exo a C (some d)) ∧ H2 d = some (exd d fs) ∧ H1 d = none ∧ XQ (.ref C) (some d) (upd (del H2 a) d (.xd fs))) (fun _ _ _ => False)) : tMkO C sp dvs ta σ H XQ := h
theorem rd_dm {a b : Int} (S : Hs H0 M H L) (h1 : 0 < b) (h2 : b < 2 ^ 30) (h3 : -(2 ^ 30) < a) (h4 : a < 2 ^ 30) (h : ∀ p H', H0 p = none → Hs H0 M H' ((p, .tup [.int (a / b), .int (a % b)]) :: L) → Q (.ref p) H') : rDm [.int a, .int b] H Q := ⟨a, b, rfl, h1, h2, h3, h4, rd_newO S h⟩
theorem rd_isX {a dx : Addr} {fs : List (Str × V)} {c : V} {u : Value} {b : Bool} (S : Hs H0 M H L) (m1 : (a, Exv a (.ref C) (some dx)) ∈ L) (m2 : (dx, HO.xd fs) ∈ L) (l : Lk K C) (hc : ClsV c u) (e : PySem.W.kitOne K (.ref C) u = some b) (h : Q (.bl b) H) : rIsX K [.ref a, c] H Q :=
  ⟨a, C, dx, fs, c, u, b, rfl, hc, l, ⟨S.is _ m1, S.is _ m2⟩, e, h⟩
theorem rd_xv {te : TE} (h : te σ H fun x H1 => ∃ (a C dx : Addr) (fs : List (Str × V)) (v : V), x = .ref a ∧ Lk K C ∧ PySem.W.findIn K (.ref C) f = some none ∧ Held H1 a C dx fs ∧ fs.lookup f = some v ∧ Q v H1) : tXv K f te σ H Q := h
theorem rd_put1 {B newId initId : String} {bmB : List Value} {to te : TE} {D : Ends} (h : te σ H fun y H1 => to σ H1 fun x H2 => ∃ a C : Addr, x = .ref a ∧ Own K C B newId initId bmB ∧ PySem.W.takerIn K C f = some none ∧
  ((H2 a = some (exo a C none) ∧ ∀ dx, H2 dx = none → dx ≠ a → D.nx σ (upd (upd H2 dx (exd dx [(f, y)])) a (exo a C (some dx)))) ∨
    ∃ (dx : Addr) (fs : List (Str × V)), H2 a = some (exo a C (some dx)) ∧ H2 dx = some (exd dx fs) ∧ fs.length ≤ 900 ∧ D.nx σ (upd H2 dx (exd dx ((f, y) :: fs))))) : tPut K B newId initId bmB f to te D σ H := h
theorem rd_slVx {a : Addr} {xs : List V} {lo hi : Option Int} (S : Hs H0 M H L) (m : (a, HO.lst xs) ∈ L) (h : ∀ p H', H0 p = none → Hs H0 M H' ((p, .lst (cutV xs lo hi)) :: L) → Q (.ref p) H') : rSlL K (.ref a) lo hi H Q :=
  ⟨a, xs, rfl, S.lst m, rd_newO S h⟩
theorem rd_bi {B newId initId : String} {bmB : List Value} {ta : TA} (h : ta σ H fun vs H1 => ∃ (a C : Addr) (ws : List V), vs = .ref a :: ws ∧ ws.length ≤ 1000 ∧ Own K C B newId initId bmB ∧ H1 a = some (exo a C none) ∧ Q .non H1) : tBI K B newId initId bmB ta σ H Q := h
end
end Xc
namespace Xc
open PySem PySem.Spec PySem.Calls PyProof.Rows L2 Rs
theorem rd_xvV {H H0 : Hp} {M : List Addr} {L : Led} {K : PySem.W.Frag} {C : Addr} {f : Str} {a dx : Addr} {fs : List (Str × V)} {v : V} {R : V → Prop} (S : Hs H0 M H L) (m1 : (a, Exv a (.ref C) (some dx)) ∈ L) (m2 : (dx, HO.xd fs) ∈ L) (l : Lk K C) (n : PySem.W.findIn K (.ref C) f = some none) (e : fs.lookup f = some v) (h : R v) :
    ∃ (a' C dx : Addr) (fs : List (Str × V)) (v : V), V.ref a = .ref a' ∧ Lk K C ∧ PySem.W.findIn K (.ref C) f = some none ∧ Held H a' C dx fs ∧ fs.lookup f = some v ∧ R v := ⟨a, C, dx, fs, v, rfl, l, n, ⟨S.is _ m1, S.is _ m2⟩, e, h⟩
/-- the slots' number is known of what flies -/
theorem takes_len {X : Cx} {W : WX} (t : Takes X W) : Takes X (fun cls d σ H => σ.length = X.N.length → W cls d σ H) := fun u s' ⟨a, B, sI, pins, σ, H, cls, d, e, I, nb, up, sky, na, os, ag, w⟩ =>
  t u s' ⟨a, B, sI, pins, σ, H, cls, d, e, I, nb, up, sky, na, os, ag, w I.len⟩
end Xc

/-! Xc6: repr of (text, thing), the thing data or an empty dict -/
namespace Xc
open PySem PySem.Spec PySem.Calls PyProof.Rows L2 Rs
/-- data, or an empty dict -/
inductive Tq (K : PySem.W.Frag) (H : Hp) : V → PyData → Prop where
  | dp {v : V} {d : PyData} (h : Dp K H v d) : Tq K H v d
  | emp {a : Addr} (h : H a = some (.dK [])) : Tq K H (.ref a) (.dict [])
section
variable {X : Cx} {pins : List (Addr × Obj)} {σ : L2.St} {H : Hp} {s : Shared}
theorem Tq.reads (I : Inv X pins σ H s) {v : V} {d : PyData} {u : Value} (h : Tq X.K H v d) (r : RelV v u) : ∃ as, Reads s.heap u d as ∧ (d.hasDict = true → sysModules ∉ as) := by
  cases h with
  | dp h =>
    obtain ⟨as, q⟩ := Dp.reads I d v u h r
    exact ⟨as, q, PyData.noDict_hsm (dp_noDict d v h)⟩
  | @emp a h =>
    cases (show u = Value.ref a from r)
    obtain ⟨_, ns, vs, kv, o, es, ep, e1, e2, e3, _, e5, _⟩ := dk_of I.hok h
    cases kv
    have e6 := Pairs.length e5
    have e7 : es.toList = [] := List.eq_nil_of_length_eq_zero e6
    refine ⟨[a] ++ [], ?_, fun _ hm => ?_⟩
    · have z := Reads.dict (kvs := []) (as := []) (bs := []) e1 e2.1 e3 (by rw [e7]; exact .nil) (by rw [e7]; exact .nil)
      exact z
    · have : sysModules = a := by simpa using hm
      rw [this] at ns
      simp at ns
/-- repr((text, thing)) -/
def rReprP (K : PySem.W.Frag) : List V → Hp → VK → Prop := fun xs H Q => ∃ (p : Addr) (t : Str) (v : V) (d : PyData), xs = [.ref p] ∧ SqT K H p [.str t, v] ∧ Tq K H v d ∧ Shw (.tuple [.str t, d]) ∧ (PyData.tuple [.str t, d]).depth ≤ 50 ∧ Q (.str (PyData.tuple [.str t, d]).shown) H
theorem call_reprP {k : Nat} (c : Clr X.A) (hr : Room k X.A) : CallR X (.builtin "repr") (rReprP X.K) := by
  intro pins s σ H xs us Q I r h
  obtain ⟨p, t, v, d, rfl, hs, hq, sw, dp, q⟩ := h
  cases r with
  | cons r1 r2 =>
    cases r2
    rename_i u
    cases (show u = Value.ref p from r1)
    obtain ⟨its, rv, ⟨o, ho, hc, n, hd⟩, _⟩ := I.tuple hs
    obtain ⟨u1, u2, rfl, q1, q2⟩ := vals2 rv
    obtain ⟨tk, rfl⟩ := (show ∃ tk, u1 = Value.str t tk from q1)
    obtain ⟨as, rd, hm⟩ := hq.reads I q2
    have rd2 : Reads s.heap (.ref p) (.tuple [.str t, d]) ([] ++ (as ++ [])) := Reads.tuple ho hc hd (.cons (.str t tk) (.cons rd .nil))
    have un := hr.units
    refine repr_of_reads' (s := s) rd2 sw.ok (fun z => ?_) c (by omega) (fun _ _ e => e) (fun h' t2 tk2 kp => ⟨.str _, H, I.kept kp, ⟨t2, rfl⟩, q⟩) sw.sz
    simp only [PyData.hasDict, PyData.hasDictAll, Bool.false_or, Bool.or_false] at z
    simpa using hm z
end
theorem rd_reprP {K : PySem.W.Frag} {H H0 : Hp} {M : List Addr} {L : Led} {Q : VK} {p : Addr} {t : Str} {v : V} {d : PyData} (S : Hs H0 M H L) (m : (p, HO.tup [.str t, v]) ∈ L) (h : Tq K H v d) (sw : Shw (.tuple [.str t, d])) (dp : (PyData.tuple [.str t, d]).depth ≤ 50)
    (k : Q (.str (PyData.tuple [.str t, d]).shown) H) : rReprP K [.ref p] H Q := ⟨p, t, v, d, rfl, S.tup m, h, sw, dp, k⟩
end Xc
namespace Xc
open PySem PySem.Spec PySem.Calls PyProof.Rows L2 Rs
section
variable {σ : L2.St} {H H0 : Hp} {M : List Addr} {L : Led} {Q : VK}
theorem rd_lstRg {te : L2.St → Hp → (Int → Int → Hp → Prop) → Prop} (h : te σ H fun a b H1 => RgOk a b ∧ ∀ q, H1 q = none → Q (.ref q) (upd H1 q (.lst (rgV a b)))) : tLstRg te σ H Q := h
theorem rd_rg1 {ta : TE} {R : Int → Int → Hp → Prop} (h : ta σ H fun x H1 => ∃ n, x = .int n ∧ R 0 n H1) : tRg1 ta σ H R := h
theorem rd_rg1v {n : Int} {R : Int → Prop} (h : R n) : ∃ m, V.int n = .int m ∧ R m := ⟨n, rfl, h⟩
theorem rd_rgNew {a b : Int} (S : Hs H0 M H L) (h1 : 0 ≤ a) (h2 : b ≤ 16777216) (h3 : a ≤ 16777216) (h4 : 0 ≤ b) (h : ∀ p H', H0 p = none → Hs H0 M H' ((p, .lst (rgV a b)) :: L) → Q (.ref p) H') : RgOk a b ∧ ∀ q, H q = none → Q (.ref q) (upd H q (.lst (rgV a b))) :=
  ⟨RgOk.of_le h1 h2 h3 h4, rd_newO S h⟩
end
end Xc

/-! Xc7: great numbers shown, dicts of plain pairs shown, truths counted, truths as numbers, ledgers begun anew -/
namespace Xc
open PySem PySem.Spec PySem.Calls PyProof.Rows L2 Rs
def Stat (K : PySem.W.Frag) : Prop := PySem.W.nsIn K cStatics "sys.int_max_str_digits" = some none
section
variable {prog : Program} {w : World} {A : Around} {E : Value → Shared → Prop} {s : Shared} {K : PySem.W.Frag}
/-- a whole number of less than 4300 figures that is no matter of _pylong -/
structure Fig (i : Int) : Prop where
  a : i.natAbs < 10 ^ 4300
  b : i.natAbs.log2 < 29000
theorem over_run {M : Model} {i : Int} {Q : Option Nat → Shared → Prop} (X : K.In s.heap) (st : Stat K) (f : Fig i) (q : Q none s) : wpAny M A (Builtin.overDigitLimit? i) Q E s := by
  unfold Builtin.overDigitLimit?
  by_cases h0 : i.natAbs.log2 < 1920
  · rw [if_pos h0]; exact wpAny_pure q
  · rw [if_neg h0]
    refine wpAny_bind ?_
    unfold Builtin.intMaxStrDigits
    refine wpAny_bind ((PySem.W.looks_nsIn X st).here ?_)
    refine wpAny_pure ?_
    have hb := f.b
    have h1 : ¬ (i.natAbs.log2 / 30 + 1 > 1000) := by omega
    dsimp only
    rw [if_neg h1]
    by_cases h2 : ((4300 : Nat) == 0 || decide (i.natAbs.log2 < 3 * 4300)) = true
    · rw [if_pos (by simpa using h2)]; exact wpAny_pure q
    · rw [if_neg (by simpa using h2), if_neg (Nat.not_le.mpr f.a)]; exact wpAny_pure q
theorem gives_big (i : Int) (t : Tok) (st : Stat K) (f : Fig i) : GivesAt (fun s => K.In s.heap) (Builtin.«int.__repr__» ⟨[.int i t], []⟩) (.str (toString i)) := by
  intro prog w A R s X h
  unfold Builtin.«int.__repr__»
  show wpAny _ _ (do let r ← Builtin.overDigitLimit? i; _) _ _ _
  refine wpAny_bind (over_run X st f ?_)
  exact (Gives.of_eq rfl : Gives _ (.str (toString i))) prog w A R s h
theorem reprObj_big {i : Int} {t : Tok} {Q : Value → Shared → Prop} (X : K.In s.heap) (st : Stat K) (f : Fig i) (hu : A.units < cLine) (h : Q (.str (toString i) s.toks) { s with toks := s.toks + 1 }) : wpAny (model prog w) A (pyReprObj (.int i t)) Q E s :=
  wpAny_pyReprObj_slot hu (typeIs_int s i t) F.slot_int_repr.toG (call_givesAt F.slot_int_repr (typeIs_int s i t) F.entry_int_repr (F.args_int_repr_1 _) (gives_big i t st f) X ⟨int_text_fits10 f.a, _, _, rfl, h⟩)
theorem reprK_big {as : List Addr} {h₀ : Heap} {d : Nat} {i : Int} {t : Tok} (X : K.In h₀) (st : Stat K) (f : Fig i) : ReprK prog w as h₀ d (.int i t) (toString i) := fun base hb A g E s Q hg hcl hu hk hQ => by
  have hn' : base ≤ sizeLine := by omega
  rw [pyReprUnder_leaf (v := .int i t) hn' (fun _ e => nomatch e)]
  unfold pyRepr
  exact wpAny_bind (reprObj_big (X.keeps hk) st f (by omega) (wpAny_pure (hQ s.heap _ fun _ _ e => e)))
end
/-! ### what is shown -/
/-- plain: no place in the heap -/
def plD : V → Option PyData
  | .non => some .none
  | .bl b => some (.bool b)
  | .int i => some (.int i)
  | .str x => some (.str x)
  | _ => none
def keyD : Key → PyData
  | .inl i => .int i
  | .inr x => .str x
inductive PlKv : List (Key × V) → List (PyData × PyData) → Prop where
  | nil : PlKv [] []
  | cons {k : Key} {v : V} {d : PyData} {kv : List (Key × V)} {kds : List (PyData × PyData)} : plD v = some d → PlKv kv kds → PlKv ((k, v) :: kv) ((keyD k, d) :: kds)
theorem plD_reads {h : Heap} {v : V} {d : PyData} {u : Value} (e : plD v = some d) (r : RelV v u) : Reads h u d [] := by
  cases v with
  | non => cases e; cases (show u = Value.none from r); exact .none
  | bl b => cases e; cases (show u = Value.bool b from r); exact .bool b
  | int i => cases e; obtain ⟨t, rfl⟩ := (show ∃ t, u = Value.int i t from r); exact .int i t
  | str x => cases e; obtain ⟨t, rfl⟩ := (show ∃ t, u = Value.str x t from r); exact .str x t
  | _ => cases e
theorem plKv_reads {P : Program} {w : World} {h : Heap} : ∀ {kv : List (Key × V)} {kds : List (PyData × PyData)} {vs : List (Key × Value)} {es : List DictEntry}, PlKv kv kds → KV kv vs → Pairs (mixKind P w) es vs →
    ReadsAll h (es.map (·.key)) (kds.map (·.1)) [] ∧ ReadsAll h (es.map (·.val)) (kds.map (·.2)) []
  | _, _, _, _, .nil, .nil, .nil => ⟨.nil, .nil⟩
  | _, _, _, _, .cons (k := k) e p, .cons ⟨e1, r⟩ q, .cons hk hv rest => by
    obtain ⟨h1, h2⟩ := plKv_reads p q rest
    refine ⟨?_, ?_⟩
    · refine ReadsAll.cons (as := []) (bs := []) ?_ h1
      dsimp only at e1
      rw [← e1] at hk
      rcases keyIs_shape hk with ⟨i, t, e2, e3⟩ | ⟨x, t, e2, e3⟩
      · show Reads h _ (keyD k) []
        rw [e2]; dsimp only; rw [e3]; exact .int i t
      · show Reads h _ (keyD k) []
        rw [e2]; dsimp only; rw [e3]; exact .str x t
    · refine ReadsAll.cons (as := []) (bs := []) ?_ h2
      dsimp only
      rw [hv]
      exact plD_reads e r
/-- data without dicts, a dict of plain pairs, a great number -/
inductive Tz (K : PySem.W.Frag) (H : Hp) : V → PyData → Prop where
  | dp {v : V} {d : PyData} (h : Dp K H v d) (s : d.showable = true) : Tz K H v d
  | dk {a : Addr} {kv : List (Key × V)} {kds : List (PyData × PyData)} (h : H a = some (.dK kv)) (p : PlKv kv kds) (s : (PyData.dict kds).showable = true) : Tz K H (.ref a) (.dict kds)
  | big {i : Int} (f : Fig i) : Tz K H (.int i) (.int i)
section
variable {X : Cx} {pins : List (Addr × Obj)} {σ : L2.St} {H : Hp} {s : Shared}
theorem Tz.shows (I : Inv X pins σ H s) (st : Stat X.K) {v : V} {d : PyData} {u : Value} (h : Tz X.K H v d) (r : RelV v u) (hz : d.shown.length ≤ sizeLine) (hd : d.depth ≤ 50) :
    ∃ bs, ReadAtMost s.heap d.depth bs ∧ ReprK X.prog X.w bs s.heap 50 u d.shown := by
  cases h with
  | dp h sw =>
    obtain ⟨as, q⟩ := Dp.reads I d v u h r
    obtain ⟨bs, h1, h2⟩ := ReprK.of_reads (prog := X.prog) (w := X.w) q sw (PyData.noDict_hsm (dp_noDict d v h)) hz
    exact ⟨bs, h1, h2.level_le hd⟩
  | @dk a kv kds h p sw =>
    cases (show u = Value.ref a from r)
    obtain ⟨_, ns, vs, kv', o, es, ep, e1, e2, e3, _, e5, _⟩ := dk_of I.hok h
    obtain ⟨r1, r2⟩ := plKv_reads (h := s.heap) p kv' e5
    have q : Reads s.heap (.ref a) (.dict kds) ([a] ++ [] ++ []) := Reads.dict (as := []) (bs := []) e1 e2.1 e3 r1 r2
    obtain ⟨bs, h1, h2⟩ := ReprK.of_reads (prog := X.prog) (w := X.w) q sw (fun _ hm => by
      have z : sysModules = a := by simpa using hm
      rw [z] at ns
      simp at ns) hz
    exact ⟨bs, h1, h2.level_le hd⟩
  | @big i f =>
    obtain ⟨t, rfl⟩ := (show ∃ t, u = Value.int i t from r)
    exact ⟨[], fun _ h => (nomatch h), by simp only [PyData.shown]; exact reprK_big I.kIn st f⟩
/-- repr((text, thing)) -/
def rReprZ (K : PySem.W.Frag) : List V → Hp → VK → Prop := fun xs H Q => ∃ (p : Addr) (t : Str) (v : V) (d : PyData), xs = [.ref p] ∧ SqT K H p [.str t, v] ∧ Tz K H v d ∧ (PyData.tuple [.str t, d]).shown.length ≤ sizeLine ∧ d.depth ≤ 30 ∧ Q (.str (PyData.tuple [.str t, d]).shown) H
theorem call_reprZ {k : Nat} (st : Stat X.K) (c : Clr X.A) (hr : Room k X.A) : CallR X (.builtin "repr") (rReprZ X.K) := by
  intro pins s σ H xs us Q I r h
  obtain ⟨p, t, v, d, rfl, hs, hq, sw, dp, q⟩ := h
  cases r with
  | cons r1 r2 =>
    cases r2
    rename_i u
    cases (show u = Value.ref p from r1)
    obtain ⟨its, rv, ⟨o, ho, hc, n, hd⟩, _⟩ := I.tuple hs
    obtain ⟨u1, u2, rfl, q1, q2⟩ := vals2 rv
    obtain ⟨tk, rfl⟩ := (show ∃ tk, u1 = Value.str t tk from q1)
    have un := hr.units
    have sz := sw
    rw [show (PyData.tuple [.str t, d]).shown = tupleText [reprText t, d.shown] by simp [PyData.shown, PyData.shownAll]] at sz q
    have z1 := Nat.le_trans (tupleText_mem_le (ts := [reprText t, d.shown]) (t := reprText t) (by simp)) sz
    have z2 := Nat.le_trans (tupleText_mem_le (ts := [reprText t, d.shown]) (t := d.shown) (by simp)) sz
    obtain ⟨bs, hb, rk⟩ := hq.shows I st q2 z2 (by omega)
    have hall : ReprAllK X.prog X.w bs s.heap 50 [.str t tk, u2] [reprText t, d.shown] := .cons (ReprK.of_is (ReprIs.str t tk z1) _ _ _) (.cons rk .nil)
    have hna : p ∉ bs := fun hm => by
      obtain ⟨d', as', r', hd'⟩ := hb p hm
      cases r' with
      | list h1 h2 h3 h4 => rw [ho] at h1; cases h1; rw [hc] at h2; exact absurd (Value.type.inj h2) (by decide)
      | dict h1 h2 h3 h4 h5 => rw [ho] at h1; cases h1; rw [hc] at h2; exact absurd (Value.type.inj h2) (by decide)
      | @tuple a' o' vs' n' xs' as' h1 h2 h3 h4 =>
        rw [ho] at h1; cases h1
        rw [hd] at h3; cases h3
        cases h4 with
        | cons ra rb =>
          cases rb with
          | cons rc rd =>
            cases rd
            have e9 : ∃ dd aa, Reads s.heap u2 dd aa ∧ dd.depth < d.depth := ⟨_, _, rc, by
              simp only [PyData.depth, PyData.depthAll] at hd'
              omega⟩
            obtain ⟨dd, aa, e10, e11⟩ := e9
            cases hq with
            | dp h _ =>
              obtain ⟨as, q9⟩ := Dp.reads I d v u2 h q2
              have := (PyProof.Rows.reads_det (fun _ _ e _ => e) q9 e10).1
              rw [this] at e11; omega
            | dk h p _ =>
              cases (show u2 = Value.ref _ from q2)
              obtain ⟨_, ns, vs, kv', o, es, ep, e1, e2, e3, _, e5, _⟩ := dk_of I.hok h
              obtain ⟨r1, r2⟩ := plKv_reads (h := s.heap) p kv' e5
              have q9 := Reads.dict (as := []) (bs := []) e1 e2.1 e3 r1 r2
              have := (PyProof.Rows.reads_det (fun _ _ e _ => e) q9 e10).1
              rw [this] at e11; omega
            | big f => simp only [PyData.depth] at e11; omega
    refine call_repr_slot (by omega) ⟨o, ho, hc⟩ F.slot_tuple_repr ?_
    exact call_tuple_reprK ho hc hd hna hall c (fun b _ => Clear.nil b) (by show X.A.units + 1 + (50 + 1) < cLine; omega) (fun _ _ e => e) (fun h' t2 tk2 kp => ⟨_, _, rfl, ⟨.str _, H, I.kept kp, ⟨t2, rfl⟩, q⟩⟩) sz
end
theorem rd_reprZ {K : PySem.W.Frag} {H H0 : Hp} {M : List Addr} {L : Led} {Q : VK} {p : Addr} {t : Str} {v : V} {d : PyData} (S : Hs H0 M H L) (m : (p, HO.tup [.str t, v]) ∈ L) (h : Tz K H v d) (sw : (PyData.tuple [.str t, d]).shown.length ≤ sizeLine) (dp : d.depth ≤ 30)
    (k : Q (.str (PyData.tuple [.str t, d]).shown) H) : rReprZ K [.ref p] H Q := ⟨p, t, v, d, rfl, S.tup m, h, sw, dp, k⟩
end Xc
namespace Xc
open PySem PySem.Spec PySem.Calls PyProof.Rows L2 Rs
/-! ### truths counted, truths as numbers -/
def rCntB (K : PySem.W.Frag) : V → List V → Hp → VK → Prop := fun x xs H Q => ∃ (p : Addr) (bs : List Bool) (k : Bool), x = .ref p ∧ xs = [.bl k] ∧ SqL K H p (bs.map V.bl) ∧ Q (.int (PySem.Spec.countIn (.bool k) (bs.map PyData.bool))) H
def b01 (b : Bool) : Int := if b = true then 1 else 0
section
variable {X : Cx}
theorem bools_read {h : Heap} : ∀ {bs : List Bool} {vs : List Value}, Vals (bs.map V.bl) vs → ReadsAll h vs (bs.map PyData.bool) []
  | [], _, .nil => .nil
  | b :: bs, _, .cons r q => by
    rename_i u vs
    cases (show u = Value.bool b from r)
    exact ReadsAll.cons (as := []) (bs := []) (.bool b) (bools_read q)
theorem mt_bcount : MtR X "list.count" (rCntB X.K) := by
  intro pins s σ H x xs v us Q I rx rxs h
  obtain ⟨p, bs, k, rfl, rfl, hs, q⟩ := h
  cases rx
  obtain ⟨u, rfl, ru⟩ := rxs.one
  cases (show u = Value.bool k from ru)
  obtain ⟨its, rv, ⟨o, n, ho, hc, hdn, hd⟩, hlen⟩ := I.list hs
  exact count_list_bools (hp := s.heap) ⟨o, ho, hc, n, hd⟩ (bools_read rv) (by simp [Shape.has]) ⟨.int _, H, I.tok _, ⟨_, rfl⟩, q⟩
def rBI (f : Int → Int → Int) : R2 := fun x y H Q => ∃ (b : Bool) (i : Int), x = .bl b ∧ y = .int i ∧ Q (.int (f (b01 b) i)) H
def rIB (f : Int → Int → Int) : R2 := fun x y H Q => ∃ (i : Int) (b : Bool), x = .int i ∧ y = .bl b ∧ Q (.int (f i (b01 b))) H
theorem op_addBI : OpR X (binaryOp .Add) (rBI (· + ·)) := by
  intro pins s σ H x y v u Q I rx ry h
  obtain ⟨b, i, rfl, rfl, q⟩ := h
  cases (show v = Value.bool b from rx)
  obtain ⟨t, rfl⟩ := (show ∃ t, u = Value.int i t from ry)
  exact PySem.IntBool.add_bool_int ⟨.int _, H, I.tok _, ⟨_, rfl⟩, q⟩
theorem op_mulIB : OpR X (binaryOp .Mult) (rIB (· * ·)) := by
  intro pins s σ H x y v u Q I rx ry h
  obtain ⟨i, b, rfl, rfl, q⟩ := h
  obtain ⟨t, rfl⟩ := (show ∃ t, v = Value.int i t from rx)
  cases (show u = Value.bool b from ry)
  exact PySem.IntBool.mul_int_bool ⟨.int _, H, I.tok _, ⟨_, rfl⟩, q⟩
end
section
variable {H H0 : Hp} {M : List Addr} {L : Led} {Q : VK} {a : Addr} {K : PySem.W.Frag} {σ : L2.St}
theorem rd_cntB {xs : List V} {bs : List Bool} {k : Bool} (S : Hs H0 M H L) (m : (a, HO.lst xs) ∈ L) (e : xs = bs.map V.bl) (h : Q (.int (PySem.Spec.countIn (.bool k) (bs.map PyData.bool))) H) : rCntB K (.ref a) [.bl k] H Q := by
  subst e
  exact ⟨a, bs, k, rfl, rfl, S.lst m, h⟩
theorem rd_bi2 {f : Int → Int → Int} {b : Bool} {i : Int} (h : Q (.int (f (b01 b) i)) H) : rBI f (.bl b) (.int i) H Q := ⟨b, i, rfl, rfl, h⟩
theorem rd_ib2 {f : Int → Int → Int} {b : Bool} {i : Int} (h : Q (.int (f i (b01 b))) H) : rIB f (.int i) (.bl b) H Q := ⟨i, b, rfl, rfl, h⟩
theorem rd_divB {i j : Int} {b : Nat} (hj : 0 < j) (hb : j.natAbs < 2 ^ b) (h0 : 0 < b) (h9 : b ≤ 9000) (h : Q (.int (i / j)) H) : rI CDivW (fun i j => .int (i / j)) (.int i) (.int j) H Q :=
  ⟨i, j, rfl, rfl, wide_div (b := b) hj hb h0 h9, h⟩
theorem rd_mulB {i j : Int} {a b : Nat} (ha : i.natAbs < 2 ^ a) (hb : j.natAbs < 2 ^ b) (h0 : 0 < a) (h1 : 0 < b) (h9 : a + b ≤ 1000000) (h : Q (.int (i * j)) H) : rI CMulW (fun i j => .int (i * j)) (.int i) (.int j) H Q :=
  ⟨i, j, rfl, rfl, wide_mul ha hb h0 h1 h9, h⟩
theorem rd_isBl {a b : Bool} (h : Q (.bl (decide (a = b))) H) : rIsB (.bl a) (.bl b) H Q := ⟨a, b, rfl, rfl, h⟩
theorem rd_notBl {a b : Bool} (h : Q (.bl (!decide (a = b))) H) : rNotB (.bl a) (.bl b) H Q := ⟨a, b, rfl, rfl, h⟩
/-- a ledger begun anew behind what leaves all but tables -/
theorem Hs.anew {H' : Hp} (S : Hs H0 M H L) (k : ∀ b o, H b = some o → (∀ ps, o ≠ .tbl ps) → H' b = some o) (nt : ∀ q ∈ L, ∀ ps, q.2 ≠ .tbl ps) : Hs H' (L.map (·.1)) H' L :=
  Rs.Hs.start H' _ L S.nd (fun q hq => k _ _ (S.is q hq) (nt q hq)) fun b hb z => by
    obtain ⟨q, hq, rfl⟩ := List.mem_map.mp hb
    rw [k _ _ (S.is q hq) (nt q hq)] at z
    cases z
end
end Xc

/-! Xc8: ledgers over all but tables; comprehensions whose steps change tables -/
namespace Xc
open PySem PySem.Spec PySem.Calls PyProof.Rows L2 Rs
/-- the heap less its tables -/
def noT (H : Hp) : Hp := fun b => match H b with | some (.tbl _) => none | o => o
theorem noT_some {H : Hp} {b : Addr} {o : HO} (e : H b = some o) (n : ∀ ps, o ≠ .tbl ps) : noT H b = some o := by
  unfold noT
  rw [e]
  cases o <;> first | rfl | exact absurd rfl (n _)
theorem noT_of {H : Hp} {b : Addr} {o : HO} (e : noT H b = some o) : H b = some o ∧ ∀ ps, o ≠ .tbl ps := by
  unfold noT at e
  split at e
  · cases e
  · rename_i h
    exact ⟨e, fun ps z => h ps (by rw [e, z])⟩
theorem noT_none {H : Hp} {b : Addr} (e : H b = none) : noT H b = none := by
  unfold noT
  rw [e]
section
variable {H H0 H1 H2 : Hp} {M : List Addr} {L : Led} {Q : VK} {K : PySem.W.Frag} {σ : L2.St}
theorem Hs.noT0 (H : Hp) : Hs (noT H) [] H [] := ⟨List.nodup_nil, fun q hq => (nomatch hq), fun b u e _ => (noT_of e).1, fun b hb => nomatch hb⟩
theorem Hs.begin (L : Led) (nd : (L.map (·.1)).Nodup) (is : ∀ q ∈ L, H q.1 = some q.2) : Hs (noT H) (L.map (·.1)) H L :=
  ⟨nd, is, fun b u e _ => (noT_of e).1, fun b hb z => by
    obtain ⟨q, hq, rfl⟩ := List.mem_map.mp hb
    rw [is q hq] at z
    cases z⟩
theorem Hs.extN (S : Hs (noT H0) M H1 L) (e : LamX.ExtN H1 H2) (nt : ∀ q ∈ L, ∀ ps, q.2 ≠ .tbl ps) (m : ∀ b ∈ M, b ∈ L.map (·.1)) : Hs (noT H0) M H2 L :=
  ⟨S.nd, fun q hq => e _ _ (S.is q hq) (nt q hq), fun b u eb hm => e _ _ (S.old b u eb hm) (noT_of eb).2, fun b hb z => by
    obtain ⟨q, hq, rfl⟩ := List.mem_map.mp (m b hb)
    rw [e _ _ (S.is q hq) (nt q hq)] at z
    cases z⟩
theorem Hs.toN (S : Hs (noT H0) [] H1 L) : LamX.ExtN H0 H1 := fun b o e n => S.old b o (noT_some e n) (fun z => nomatch z)
/-- what holds of the heap whatever lists are made or written -/
structure Lsts (J : Hp → Prop) : Prop where
  nw : ∀ H D, J H → H D = none → J (upd H D (.lst []))
  up : ∀ H D xs ys, J H → H D = some (.lst xs) → J (upd H D (.lst ys))
theorem tabs_upd {TT : List (Addr × Str)} {H : Hp} {D : Addr} {xs ys : List V} (h : LamX.Tabs TT H) (e : H D = some (.lst xs)) : LamX.Tabs TT (upd H D (.lst ys)) := fun p hp => by
  obtain ⟨ps, h1, h2, h3⟩ := h p hp
  have ne : ∀ b o, H b = some o → (∀ xs, o ≠ .lst xs) → upd H D (.lst ys) b = some o := fun b o eb n => by
    rw [upd_ne (fun z => n xs (by rw [z, e] at eb; exact (Option.some.inj eb).symm))]
    exact eb
  refine ⟨ps, ne _ _ h1 (fun _ z => by cases z), h2, fun pos cv hc => ?_⟩
  obtain ⟨c, e1, e2⟩ := h3 pos cv hc
  exact ⟨c, e1, ne _ _ e2 (fun _ z => by unfold LamX.CodeO at z; cases z)⟩
theorem lsts_tabs (TT : List (Addr × Str)) : Lsts (LamX.Tabs TT) :=
  ⟨fun H D h e => h.ext fun b u eb => by rw [upd_ne (ne_of_none eb e)]; exact eb, fun H D xs ys h e => tabs_upd h e⟩
def lcSkipJ (J : Hp → Prop) (H0 : Hp) (M : List Addr) (L : Led) (R1 : List V → Prop) (D : Addr) (H : Hp) : Prop := J H ∧ lcSkip H0 M L R1 D H
def lcPutJ (J : Hp → Prop) (H0 : Hp) (M : List Addr) (L : Led) (R1 : List V → Prop) (D : Addr) (y : V) (H : Hp) : Prop := ∃ acc, H D = some (.lst acc) ∧ acc.length < sizeLine ∧ lcSkipJ J H0 M L R1 D (upd H D (.lst (acc ++ [y])))
theorem rd_lcPutJ {J : Hp → Prop} {D : Addr} {y : V} {acc : List V} {L2 L3 : Led} {R1 : List V → Prop} (l : Lsts J) (j : J H) (S : Hs H0 M H L2) (c : Chg D (.lst acc) (.lst (acc ++ [y])) L2 L3) (n : H0 D = none) (hl : acc.length < sizeLine) (sub : ((D, HO.lst (acc ++ [y])) :: L).Sublist L3) (r : R1 (acc ++ [y])) : lcPutJ J H0 M L R1 D y H :=
  ⟨acc, S.is _ c.mem, hl, l.up _ _ _ _ j (S.is _ c.mem), n, _, r, (S.put c (Or.inl n)).sub sub⟩
theorem lcwj_list {J : Hp → Prop} {g : TG} {tt : TT} {te : TE} {a : Addr} {xs : List V} {vs : List Nat} (l : Lsts J) (j : J H) (S : Hs H0 M H L) (R : Nat → List V → Prop) (r0 : R 0 []) (hl : ∀ H' acc D, Hs H0 M H' ((D, .lst acc) :: L) → SqL K H' a xs)
    (hs : ∀ D i x acc H', xs[i]? = some x → R i acc → H0 D = none → J H' → Hs H0 M H' ((D, .lst acc) :: L) → g x (wipe σ vs) H' fun σ2 H2 => wipe σ2 vs = wipe σ vs ∧ tt σ2 H2 fun b H3 => if b = true then te σ2 H3 fun y H4 => lcPutJ J H0 M L (R (i + 1)) D y H4 else lcSkipJ J H0 M L (R (i + 1)) D H3)
    (hd : ∀ D acc H', R xs.length acc → H0 D = none → J H' → Hs H0 M H' ((D, .lst acc) :: L) → Q (.ref D) H') : lcW (Itl K a) g tt te vs σ H Q := by
  intro D hD
  have S1 := S.new hD (.lst [])
  refine lc_list (xs := xs) (fun i H' => lcSkipJ J H0 M L (R i) D H') ⟨l.nw _ _ j hD, S1.1, [], r0, S1.2⟩ (fun i H' _ ⟨_, _, acc, _, S'⟩ => hl H' acc D S') ?_ ?_
  · rintro i x H' hi ⟨j', n0, acc, r, S'⟩
    exact hs D i x acc H' hi r n0 j' S'
  · rintro H' ⟨j', n0, acc, r, S'⟩
    exact hd D acc H' r n0 j' S'
theorem lcwj_tup {J : Hp → Prop} {g : TG} {tt : TT} {te : TE} {a : Addr} {xs : List V} {vs : List Nat} (l : Lsts J) (j : J H) (S : Hs H0 M H L) (R : Nat → List V → Prop) (r0 : R 0 []) (hl : ∀ H' acc D, Hs H0 M H' ((D, .lst acc) :: L) → SqT K H' a xs)
    (hs : ∀ D i x acc H', xs[i]? = some x → R i acc → H0 D = none → J H' → Hs H0 M H' ((D, .lst acc) :: L) → g x (wipe σ vs) H' fun σ2 H2 => wipe σ2 vs = wipe σ vs ∧ tt σ2 H2 fun b H3 => if b = true then te σ2 H3 fun y H4 => lcPutJ J H0 M L (R (i + 1)) D y H4 else lcSkipJ J H0 M L (R (i + 1)) D H3)
    (hd : ∀ D acc H', R xs.length acc → H0 D = none → J H' → Hs H0 M H' ((D, .lst acc) :: L) → Q (.ref D) H') : lcW (Itt K a) g tt te vs σ H Q := by
  intro D hD
  have S1 := S.new hD (.lst [])
  refine lc_tup (xs := xs) (fun i H' => lcSkipJ J H0 M L (R i) D H') ⟨l.nw _ _ j hD, S1.1, [], r0, S1.2⟩ (fun i H' _ ⟨_, _, acc, _, S'⟩ => hl H' acc D S') ?_ ?_
  · rintro i x H' hi ⟨j', n0, acc, r, S'⟩
    exact hs D i x acc H' hi r n0 j' S'
  · rintro H' ⟨j', n0, acc, r, S'⟩
    exact hd D acc H' r n0 j' S'
theorem Hs.toT (S : Hs H0 M H L) : Hs (noT H0) M H L := ⟨S.nd, S.is, fun b o e hm => S.old b o (noT_of e).1 hm, S.mu⟩
/-- the heap less its tables, with the tables and the code objects that stand at H3 -/
def rb (H0 H3 : Hp) : Hp := fun b => match H3 b with | some (.tbl ps) => some (.tbl ps) | some (.ext r) => some (.ext r) | _ => noT H0 b
def MLst (M : List Addr) (H : Hp) : Prop := ∀ b ∈ M, ∃ xs, H b = some (.lst xs)
theorem Hs.toR {H3 : Hp} (S : Hs (noT H0) M H3 L) : Hs (rb H0 H3) M H3 L := by
  refine ⟨S.nd, S.is, fun b o e hm => ?_, S.mu⟩
  unfold rb at e
  split at e
  · rename_i h; rw [h]; exact e
  · rename_i h; rw [h]; exact e
  · exact S.old b o e hm
theorem Hs.ofR {H3 H' : Hp} {L' : Led} (S : Hs (noT H0) M H3 L) (S' : Hs (rb H0 H3) M H' L') : Hs (noT H0) M H' L' := by
  refine ⟨S'.nd, S'.is, fun b o e hm => S'.old b o ?_ hm, S'.mu⟩
  have h3 := S.old b o e hm
  unfold rb
  rw [h3]
  split
  · rename_i h; exact h.symm
  · rename_i h; exact h.symm
  · exact e
theorem Hs.tabR {H3 H' : Hp} {L' : Led} {TT : List (Addr × Str)} (S' : Hs (rb H0 H3) M H' L') (m : MLst M H3) (t : LamX.Tabs TT H3) : LamX.Tabs TT H' := fun p hp => by
  obtain ⟨ps, h1, h2, h3⟩ := t p hp
  have nm : ∀ b o, H3 b = some o → (∀ xs, o ≠ .lst xs) → b ∉ M := fun b o e n hm => by
    obtain ⟨xs, z⟩ := m b hm
    rw [e] at z
    exact n xs (Option.some.inj z)
  refine ⟨ps, S'.old _ _ (by unfold rb; rw [h1]) (nm _ _ h1 (fun _ z => by cases z)), h2, fun pos cv hc => ?_⟩
  obtain ⟨c, e1, e2⟩ := h3 pos cv hc
  exact ⟨c, e1, S'.old _ _ (by unfold rb; rw [e2]; rfl) (nm _ _ e2 (fun _ z => by unfold LamX.CodeO at z; cases z))⟩
theorem rb_none {H3 : Hp} {a : Addr} {o : HO} (h : noT H0 a = none) (e : H3 a = some o) (n1 : ∀ ps, o ≠ .tbl ps) (n2 : ∀ r, o ≠ .ext r) : rb H0 H3 a = none := by
  unfold rb
  rw [e]
  split
  · rename_i z; exact absurd (Option.some.inj z) (n1 _)
  · rename_i z; exact absurd (Option.some.inj z) (n2 _)
  · exact h
end
end Xc
namespace Xc
open PySem PySem.Spec PySem.Calls PyProof.Rows L2 Rs
/-- a + b of lists, handed in ones too -/
def rCatL (K : PySem.W.Frag) : R2 := fun x y H Q => ∃ l b xs zs, x = .ref l ∧ y = .ref b ∧ SqL K H l xs ∧ SqL K H b zs ∧ xs.length + zs.length ≤ sizeLine ∧ ∀ p, H p = none → Q (.ref p) (upd H p (.lst (xs ++ zs)))
theorem op_catL {X : Cx} : OpR X (binaryOp .Add) (rCatL X.K) := by
  intro pins s σ H x y v u Q I rx ry h
  obtain ⟨l, b, xs, zs, rfl, rfl, hl, hb, hz, q⟩ := h
  cases (show v = Value.ref l from rx)
  cases (show u = Value.ref b from ry)
  obtain ⟨its, r1, ⟨⟨cls, dd, data, sl⟩, n, ho, hc, hdn, hd⟩, _⟩ := I.list hl
  obtain ⟨its2, r2, ⟨⟨cls2, dd2, data2, sl2⟩, n2, ho2, hc2, hdn2, hd2⟩, _⟩ := I.list hb
  simp only at hc hd hc2 hd2
  subst hc hd hc2 hd2
  have e : its.toArray ++ its2.toArray = (its ++ its2).toArray := by simp
  refine concat_meets ⟨_, ho, rfl⟩ ⟨_, ho2, rfl⟩ noFill_list_add seq_list_add PySem.F.slot_list_add PySem.F.entry_list_add (PySem.F.args_list_add_2 _ _) (list_addW l b its.toArray its2.toArray n n2 dd dd2 sl sl2 (by rw [List.size_toArray, List.size_toArray, ← r1.length, ← r2.length]; exact hz)) ⟨ho, ho2, ?_⟩
  rw [e]
  exact ⟨.ref _, _, I.lnew (t' := s.toks) (r1.append r2) (by rw [List.length_append]; omega), rfl, q _ I.fresh⟩
end Xc

local macro_rules | `(tactic| walk_at "mem") => `(tactic| repeat (with_reducible first | exact List.mem_cons_self | apply List.mem_cons_of_mem))
local macro_rules | `(tactic| walk_at "chg") => `(tactic| repeat (with_reducible first | exact Rs.Chg.here | apply Rs.Chg.there))
local macro_rules | `(tactic| walk_at "chgF") => `(tactic| (intro o'; walk_at "chg"))
local macro_rules | `(tactic| walk_at "own") => `(tactic| first | (apply Or.inl; assumption) | (apply Or.inr; simp))
local macro_rules | `(tactic| walk_at "size") => `(tactic| first | exact Rs.sz (Nat.le_of_ble_eq_true rfl) | (refine Rs.sz ?_; omega) | (refine Rs.sz ?_; simp; done) | (refine Rs.sz ?_; simp; omega))
local macro_rules | `(tactic| walk_at "size1") => `(tactic| first | exact Rs.sz' (Nat.le_of_ble_eq_true rfl) | (refine Rs.sz' ?_; omega) | (refine Rs.sz' ?_; simp; done) | (refine Rs.sz' ?_; simp; omega))
local macro_rules | `(tactic| walk_at "val") => `(tactic| first | assumption | rfl)
local macro_rules | `(tactic| walk_at "put") => `(tactic| first | assumption | rfl)
local macro_rules | `(tactic| walk_at "rd1") => `(tactic| first
  | with_reducible refine Rs.rd_seq ?_
  | with_reducible refine Rs.rd_asg ?_
  | ((with_reducible refine' Rs.rd_var ?e ?_); (case e => rfl))
  | with_reducible refine Rs.rd_c ?_
  | with_reducible refine Rs.rd_op ?_
  | with_reducible refine Rs.rd_I0 ?_
  | with_reducible refine Rs.rd_cons ?_
  | with_reducible refine Rs.rd_nil ?_
  | ((with_reducible refine' Rs.rd_name ?e ?_); (case e => (dsimp only [List.set]; try rfl)))
  | with_reducible refine Rs.rd_ifS ?_
  | with_reducible refine Rs.rd_test ?_
  | with_reducible refine Rs.rd_bl ?_
  | with_reducible refine Rs.rd_ret ?_
  | with_reducible refine Rs.rd_retN ?_
  | with_reducible refine Rs.rd_drop ?_
  | with_reducible refine Rs.rd_next ?_
  | with_reducible refine Rs.rd_eqI ?_
  | with_reducible refine Rs.rd_neI ?_
  | with_reducible refine Rs.rd_eqS ?_
  | with_reducible refine Rs.rd_neS ?_
  | with_reducible refine Rs.rd_eqB ?_
  | with_reducible refine Rs.rd_par ?_
  | with_reducible refine Rs.rd_par3 ?_
  | ((with_reducible refine Rs.rd_two ?_); dsimp only [List.set])
  | ((with_reducible refine Rs.rd_three ?_); dsimp only [List.set])
  | with_reducible refine Rs.rd_un ?_
  | with_reducible refine Rs.rd_U ?_
  | with_reducible refine Rs.rd_tB ?_
  | with_reducible refine Rs.rd_and ?_
  | with_reducible refine Rs.rd_or ?_
  | with_reducible refine Rs.rd_not ?_
  | with_reducible refine Rs.rd_andV ?_
  | with_reducible refine Rs.rd_orV ?_
  | with_reducible refine Rs.rd_notV ?_
  | with_reducible refine Rs.rd_if ?_
  | with_reducible refine Rs.rd_tup ?_
  | with_reducible refine Rs.rd_lst ?_
  | with_reducible refine Rs.rd_cb ?_
  | with_reducible refine Rs.rd_call0 ?_
  | with_reducible refine Rs.rd_call ?_
  | with_reducible refine Rs.rd_callN ?_
  | with_reducible refine Rs.rd_chain ?_
  | with_reducible refine Rs.rd_bits ?_
  | with_reducible refine Rs.rd_int1 ?_
  | with_reducible refine Rs.rd_int2 ?_
  | with_reducible refine Rs.rd_dget ?_
  | with_reducible refine Rs.rd_dput ?_
  | with_reducible refine Rs.rd_slice3 ?_
  | with_reducible refine Rs.rd_sl ?_
  | with_reducible refine Rs.rd_noPart ?_
  | with_reducible refine Rs.rd_part ?_
  | ((with_reducible refine' Rs.rd_mod ?c ?_); (case c => omega); intro r e h0 h1)
  | ((with_reducible refine' Rs.rd_div ?c ?d ?_); (case c => omega); (case d => omega))
  | ((with_reducible refine' Rs.rd_mulL ?c ?d ?_); (case c => omega); (case d => omega))
  | ((with_reducible refine' Rs.rd_mulR ?c ?d ?_); (case c => omega); (case d => omega))
  | ((with_reducible refine' Rs.rd_pow ?c ?d ?f ?_); (case c => omega); (case d => omega); (case f => omega))
  | ((with_reducible refine' Rs.rd_newL (by assumption) ?z ?_); (case z => walk_at "size"); intro p H hp S)
  | ((with_reducible refine' Rs.rd_newT (by assumption) ?z ?_); (case z => walk_at "size"); intro p H hp S)
  | ((with_reducible refine' Rs.rd_newO (by assumption) ?_); intro p H hp S)
  | ((with_reducible refine' Rs.rd_ixL (by assumption) ?m ?e ?_); (case m => (walk_at "mem"; done)); (case e => first | rfl | assumption))
  | ((with_reducible refine' Rs.rd_ixT (by assumption) ?m ?e ?_); (case m => (walk_at "mem"; done)); (case e => first | rfl | assumption))
  | ((with_reducible refine' Rs.rd_len (by assumption) ?m ?_); (case m => (walk_at "mem"; done)))
  | ((with_reducible refine' Rs.rd_lenT (by assumption) ?m ?_); (case m => (walk_at "mem"; done)))
  | ((with_reducible refine' Rs.rd_getS (by assumption) ?m ?e ?_); (case m => (walk_at "mem"; done)); (case e => walk_at "val"))
  | ((with_reducible refine' Rs.rd_putS (by assumption) ?c ?m ?z ?e ?_); (case c => (walk_at "chg"; done)); (case m => walk_at "own"); (case z => walk_at "size1"); (case e => walk_at "put"); intro H S)
  | ((with_reducible refine' Rs.gt_ref (by assumption) ?m ?e ?_); (case m => (walk_at "mem"; done)); (case e => rfl))
  | with_reducible refine Rs.gt_cons ?_
  | with_reducible refine Rs.gt_nil ?_
  | with_reducible refine Rs.rd_for ?_
  | with_reducible refine Rs.rd_rng1 ?_
  | with_reducible refine Rs.rd_rng2 ?_
  | ((with_reducible refine' Rs.rd_rng1v ?c ?d ?_); (case c => omega); (case d => omega))
  | with_reducible refine Rs.rd_iList ?_
  | with_reducible refine Rs.rd_iTup ?_
  | ((with_reducible refine' Rs.rd_lstI (by assumption) ?m ?_); (case m => (walk_at "mem"; done)))
  | ((with_reducible refine' Rs.rd_tupI (by assumption) ?m ?_); (case m => (walk_at "mem"; done)))
  | with_reducible refine Rs.rd_wl ?_
  | ((with_reducible refine' Rs.rd_disp (by assumption) ?_); intro p H hp S)
  | with_reducible refine Rs.rd_prs ?_
  | with_reducible refine Rs.rd_prs0 ?_
  | ((with_reducible refine' Rs.rd_dspEnd (by assumption) ?c ?m ?e ?z ?f ?_); (case c => (walk_at "chg"; done)); (case m => walk_at "own"); (case e => rfl); (case z => exact Nat.le_of_ble_eq_true rfl); (case f => walk_at "put"); intro H S)
  | ((with_reducible refine' Rs.rd_isi (by assumption) ?e ?_); (case e => first | exact Rs.kit_int _ | exact Rs.kit_bool _ | exact Rs.kit_list _ | exact Rs.kit_tuple _ | exact Rs.kit_str _))
  | with_reducible refine Rs.rd_iteT ?_
  | with_reducible refine Rs.rd_nT ?_
  | with_reducible refine Rs.rd_nF ?_
  | with_reducible refine Rs.rd_iteF ?_)
local macro_rules | `(tactic| walk_at "end") => `(tactic| first
  | assumption
  | omega
  | exact Rs.Hs.get (by assumption) (by walk_at "mem"; done)
  | exact Rs.Hs.same (by assumption)
  | (intro b o e hb; exact Rs.Hs.old1 (by assumption) e hb)
  | rfl)
local macro_rules | `(tactic| walk_at "rd") => `(tactic| repeat (walk_at "rd1"))
local macro_rules | `(tactic| walk_at "st") => `(tactic| (refine Rs.rd_start ?_; dsimp only [Rs.stV, List.head?, List.tail]))
local macro_rules | `(tactic| walk_at "noat") => `(tactic| assumption)
local macro_rules | `(tactic| walk_at "cls") => `(tactic| assumption)
local macro_rules | `(tactic| walk_at "fv") => `(tactic| rfl)
local macro_rules | `(tactic| walk_at "sub") => `(tactic| repeat (with_reducible first | exact List.Sublist.refl _ | exact List.nil_sublist _ | apply List.Sublist.cons_cons | apply List.Sublist.cons))
local macro_rules | `(tactic| walk_at "rd1") => `(tactic| first
  | with_reducible refine Rs.rd_fld ?_
  | ((with_reducible refine' Rs.rd_fldV (by assumption) ?m ?c ?n ?e ?_); (case m => (walk_at "mem"; done)); (case c => walk_at "cls"); (case n => walk_at "noat"); (case e => walk_at "fv"))
  | with_reducible refine Rs.rd_sfld ?_
  | ((with_reducible refine' Rs.rd_sfldV (by assumption) ?ch ?o ?c ?n ?z ?e ?_); (case ch => (walk_at "chg"; done)); (case o => walk_at "own"); (case c => walk_at "cls"); (case n => walk_at "noat"); (case z => walk_at "fvz"); (case e => walk_at "fput"); intro H S)
  | with_reducible refine Rs.rd_meth ?_
  | ((with_reducible refine' Rs.rd_methV (by assumption) ?m ?e ?_); (case m => (walk_at "mem"; done)); (case e => walk_at "fv"))
  | with_reducible refine Rs.rd_bm ?_
  | with_reducible refine Rs.rd_bm0 ?_
  | ((with_reducible refine' Rs.rd_tyL (by assumption) ?m ?_); (case m => (walk_at "mem"; done)))
  | ((with_reducible refine' Rs.rd_app (by assumption) ?c ?o ?z ?_); (case c => (walk_at "chg"; done)); (case o => walk_at "own"); (case z => walk_at "size1"); intro H S)
  | ((with_reducible refine' Rs.rd_sumI (by assumption) ?m ?e ?_); (case m => (walk_at "mem"; done)); (case e => rfl))
  | ((with_reducible refine' Rs.rd_slL (by assumption) ?m ?e ?_); (case m => (walk_at "mem"; done)); (case e => rfl); intro p H hp S)
  | ((with_reducible refine' Rs.rd_catL (by assumption) ?m ?n ?z ?_); (case m => (walk_at "mem"; done)); (case n => (walk_at "mem"; done)); (case z => walk_at "size"); intro p H hp S)
  | with_reducible refine Rs.rd_revL ?_
  | ((with_reducible refine' Rs.rd_revV (by assumption) ?m ?_); (case m => (walk_at "mem"; done)); intro p H hp S)
  | with_reducible refine Rs.rd_isN ?_
  | with_reducible refine Rs.rd_notN ?_
  | ((with_reducible refine' Rs.gt_unl (by assumption) ?m ?e ?_); (case m => (walk_at "mem"; done)); (case e => rfl))
  | with_reducible refine Rs.gt_sub ?_
  | with_reducible refine Rs.gt_slc ?_
  | with_reducible refine Rs.rd_lc ?_)
local macro_rules | `(tactic| walk_at "cut") => `(tactic| repeat' (first | walk_at "rd1" | (refine Rs.rd_dec ?_ ?_ <;> intro hc)))
local macro_rules | `(tactic| walk_at "fvz") => `(tactic| exact Nat.le_of_ble_eq_true rfl)
local macro_rules | `(tactic| walk_at "fput") => `(tactic| rfl)
local macro_rules | `(tactic| walk_at "rd1") => `(tactic| with_reducible refine Rs.rd_nn ?_)
local macro_rules | `(tactic| walk_at "rd1") => `(tactic| first
  | ((with_reducible refine' Rs.rd_aug ?e ?_); (case e => rfl))
  | ((with_reducible refine Rs.rd_ipI ?_); dsimp only [List.set]))
local macro_rules | `(tactic| walk_at "lc") => `(tactic| (walk_at "rd"; dsimp only [L2.wipe, List.map, List.set]; refine ⟨rfl, ?_⟩; walk_at "rd"))
local macro_rules | `(tactic| walk_at "rd1") => `(tactic| first
  | ((with_reducible refine' Rs.rd_sumT (by assumption) ?m ?e ?_); (case m => (walk_at "mem"; done)); (case e => rfl))
  | with_reducible refine Rs.rd_cbk ?_
  | ((with_reducible refine' Rs.rd_sumK (by assumption) ?m ?e ?_); (case m => (walk_at "mem"; done)); (case e => rfl))
  | ((with_reducible refine' Rs.rd_maxDT (by assumption) ?m ?e ?_); (case m => (walk_at "mem"; done)); (case e => rfl))
  | with_reducible refine Rs.rd_slT3 ?_)
local macro_rules | `(tactic| walk_at "rd1") => `(tactic| with_reducible refine Rs.rd_yes ?_)
local macro_rules | `(tactic| walk_at "if0") => `(tactic| (first | (show if false = true then _ else _) | skip); walk_at "rd")
local macro_rules | `(tactic| walk_at "if1") => `(tactic| (first | (show if true = true then _ else _) | skip); walk_at "rd")
local macro_rules | `(tactic| walk_at "rd1") => `(tactic| first
  | ((with_reducible refine' Rs.rd_clear (by assumption) ?c ?o ?_); (case c => (walk_at "chg"; done)); (case o => walk_at "own"); intro H S))
local macro_rules | `(tactic| walk_at "led") => `(tactic| (intro a'; simp only [Rs.cn_app, Rs.cn_cons, Rs.cn_nil, List.append_assoc, List.cons_append, List.nil_append, List.reverse_nil, List.map_nil]; omega))
local macro_rules | `(tactic| walk_at "mem1") => `(tactic| (with_reducible first | exact List.mem_cons_self | assumption | (apply List.mem_cons_of_mem; walk_at "mem1") | (apply List.mem_append_right; walk_at "mem1") | (apply List.mem_append_left; walk_at "mem1")))
local macro_rules | `(tactic| walk_at "mem") => `(tactic| walk_at "mem1")
local macro_rules | `(tactic| walk_at "rd1") => `(tactic| first
  | with_reducible refine Rs.rd_enum ?_
  | with_reducible refine Rs.rd_methK ?_
  | ((with_reducible refine' Rs.rd_enI (by assumption) ?m ?_); (case m => (walk_at "mem"; done))))
local macro_rules | `(tactic| walk_at "chg1") => `(tactic| (with_reducible first | exact Rs.Chg.here | (apply Rs.Chg.there; walk_at "chg1") | (apply Rs.Chg.appR; walk_at "chg1") | (apply Rs.Chg.appL; walk_at "chg1")))
local macro_rules | `(tactic| walk_at "chg") => `(tactic| walk_at "chg1")
namespace K01
open PySem L2 Rs
def topS (i : Nat) : Stmt := PySem.Challenge.pw_runsort_k01_digits_and_rows.main.body.getD i (.Pass ⟨0, 0, 0, 0⟩)
abbrev s_BadNumber___init__ : Stmt := inClass (topS 10) 0
theorem sc_BadNumber___init__ : FnScope ["self", "at"] ["self", "at"] (defScope s_BadNumber___init__) := ⟨rfl, rfl, rfl, by decide +kernel, rfl, by decide +kernel, by decide +kernel⟩
abbrev s_BadKind___init__ : Stmt := inClass (topS 8) 0
theorem sc_BadKind___init__ : FnScope ["self", "wanted"] ["self", "wanted"] (defScope s_BadKind___init__) := ⟨rfl, rfl, rfl, by decide +kernel, rfl, by decide +kernel, by decide +kernel⟩
abbrev s_TooMany___init__ : Stmt := inClass (topS 12) 0
theorem sc_TooMany___init__ : FnScope ["self", "most"] ["self", "most"] (defScope s_TooMany___init__) := ⟨rfl, rfl, rfl, by decide +kernel, rfl, by decide +kernel, by decide +kernel⟩
abbrev s_is_whole : Stmt := topS 16
theorem sc_is_whole : FnScope ["thing", "least", "most"] ["thing", "least", "most"] (defScope s_is_whole) := ⟨rfl, rfl, rfl, by decide +kernel, rfl, by decide +kernel, by decide +kernel⟩
abbrev s_bits : Stmt := topS 17
theorem sc_bits : FnScope ["number"] ["number"] (defScope s_bits) := ⟨rfl, rfl, rfl, by decide +kernel, rfl, by decide +kernel, by decide +kernel⟩
abbrev s_need_row : Stmt := topS 18
theorem sc_need_row : FnScope ["thing"] ["thing"] (defScope s_need_row) := ⟨rfl, rfl, rfl, by decide +kernel, rfl, by decide +kernel, by decide +kernel⟩
abbrev s_l_mixed : Stmt := topS 20
theorem sc_l_mixed : FnScope ["_law_drawn", "_law_k"] ["_law_drawn", "_law_k"] (defScope s_l_mixed) := ⟨rfl, rfl, rfl, by decide +kernel, rfl, by decide +kernel, by decide +kernel⟩
abbrev s_l_take : Stmt := topS 21
theorem sc_l_take : FnScope ["_law_stream", "_law_many", "_law_cell", "_law_drawn"] ["_law_stream", "_law_many"] (defScope s_l_take) := ⟨rfl, rfl, rfl, by decide +kernel, rfl, by decide +kernel, by decide +kernel⟩
abbrev s_l_refusal : Stmt := topS 22
theorem sc_l_refusal : FnScope ["_law_e", "_law_found"] ["_law_e"] (defScope s_l_refusal) := ⟨rfl, rfl, rfl, by decide +kernel, rfl, by decide +kernel, by decide +kernel⟩
abbrev s_l_heard : Stmt := topS 23
theorem sc_l_heard : FnScope ["_law_deed", "_law_caught", "_law_found", "error"] ["_law_deed"] (defScope s_l_heard) := ⟨rfl, rfl, rfl, by decide +kernel, rfl, by decide +kernel, by decide +kernel⟩
abbrev s_l_odd : Stmt := topS 24
theorem sc_l_odd : FnScope ["_law_k"] ["_law_k"] (defScope s_l_odd) := ⟨rfl, rfl, rfl, by decide +kernel, rfl, by decide +kernel, by decide +kernel⟩
abbrev s_l_whole_right : Stmt := topS 25
theorem sc_l_whole_right : FnScope ["_law_item", "_law_low", "_law_high", "_law_whole", "_law_told", "_law_due"] ["_law_item", "_law_low", "_law_high"] (defScope s_l_whole_right) := ⟨rfl, rfl, rfl, by decide +kernel, rfl, by decide +kernel, by decide +kernel⟩
abbrev s_l_bits_right : Stmt := topS 26
theorem sc_l_bits_right : FnScope ["_law_item", "_law_due", "_law_many", "_law_left", "_law_told", "_law_one"] ["_law_item"] (defScope s_l_bits_right) := ⟨rfl, rfl, rfl, by decide +kernel, rfl, by decide +kernel, by decide +kernel⟩
abbrev s_l_row_right : Stmt := topS 27
theorem sc_l_row_right : FnScope ["_law_item", "_law_due", "_law_told"] ["_law_item"] (defScope s_l_row_right) := ⟨rfl, rfl, rfl, by decide +kernel, rfl, by decide +kernel, by decide +kernel⟩
abbrev s_l_by_hand_right : Stmt := topS 28
theorem sc_l_by_hand_right : FnScope ["_law_rows", "_law_great", "_law_turn", "_law_power", "_law_row", "_law_step"] [] (defScope s_l_by_hand_right) := ⟨rfl, rfl, rfl, by decide +kernel, rfl, by decide +kernel, by decide +kernel⟩
abbrev s_law : Stmt := topS 29
theorem sc_law : FnScope ["_law_script", "_law_stream", "_law_turn", "_law_odd_here", "_law_bounds", "_law_low", "_law_high", "_law_near", "_law_item", "_law_great", "_law_part"] ["_law_script"] (defScope s_law) := ⟨rfl, rfl, rfl, by decide +kernel, rfl, by decide +kernel, by decide +kernel⟩
structure Ad where
  (C_SortError C_BadPaper C_Flawed C_BadLine C_Busy C_Gone C_BadAnswer C_BadText C_NoSuch C_Stopped C_BadNumber f_BadNumber___init__ C_BadKind f_BadKind___init__ C_TooMany f_TooMany___init__ f_is_whole f_bits f_need_row f__law_mixed f__law_take f__law_refusal f__law_heard f__law_odd f__law_whole_right f__law_bits_right cc__law_bits_right f__law_row_right cc__law_row_right f__law_by_hand_right f_law : Addr)
  (d_BadNumber___init__ d_BadKind___init__ d_TooMany___init__ d_is_whole d_bits d_need_row d__law_mixed d__law_take d__law_refusal d__law_heard d__law_odd d__law_whole_right d__law_bits_right d__law_row_right d__law_by_hand_right d_law : FuncData)
structure Txt (K : PySem.W.Frag) (mg : Str → Option Value) (w : World) (A : Ad) : Prop where
  m_SortError : mg "SortError" = some (.ref A.C_SortError)
  m_BadPaper : mg "BadPaper" = some (.ref A.C_BadPaper)
  m_Flawed : mg "Flawed" = some (.ref A.C_Flawed)
  m_BadLine : mg "BadLine" = some (.ref A.C_BadLine)
  m_Busy : mg "Busy" = some (.ref A.C_Busy)
  m_Gone : mg "Gone" = some (.ref A.C_Gone)
  m_BadAnswer : mg "BadAnswer" = some (.ref A.C_BadAnswer)
  m_BadText : mg "BadText" = some (.ref A.C_BadText)
  m_NoSuch : mg "NoSuch" = some (.ref A.C_NoSuch)
  m_Stopped : mg "Stopped" = some (.ref A.C_Stopped)
  m_BadNumber : mg "BadNumber" = some (.ref A.C_BadNumber)
  o_BadNumber : Xc.Own K A.C_BadNumber "IndexError" "IndexError.__new__" "IndexError.__init__" [.type "IndexError", .type "LookupError", .type "Exception", .type "BaseException", .type "object"]
  k_BadNumber : Xc.Lk K A.C_BadNumber
  t_BadNumber_at : PySem.W.takerIn K A.C_BadNumber "at" = some none
  na_BadNumber_at : PySem.W.findIn K (.ref A.C_BadNumber) "at" = some none
  i_BadNumber : PySem.W.findIn K (.ref A.C_BadNumber) "__init__" = some (some (.ref A.f_BadNumber___init__))
  y_BadNumber : PySem.W.typeIn K (.ref A.f_BadNumber___init__) = some (.type "function")
  c_BadNumber___init__ : CalM K "__init__" "BadNumber.__init__" s_BadNumber___init__ ["self", "at"] A.f_BadNumber___init__ A.d_BadNumber___init__
  v_BadNumber : PySem.W.findCls K (.type "IndexError") (.type "type") "__init__" = some (.val (.builtin "IndexError.__init__"))
  m_BadKind : mg "BadKind" = some (.ref A.C_BadKind)
  o_BadKind : Xc.Own K A.C_BadKind "TypeError" "TypeError.__new__" "TypeError.__init__" [.type "TypeError", .type "Exception", .type "BaseException", .type "object"]
  k_BadKind : Xc.Lk K A.C_BadKind
  t_BadKind_wanted : PySem.W.takerIn K A.C_BadKind "wanted" = some none
  na_BadKind_wanted : PySem.W.findIn K (.ref A.C_BadKind) "wanted" = some none
  i_BadKind : PySem.W.findIn K (.ref A.C_BadKind) "__init__" = some (some (.ref A.f_BadKind___init__))
  y_BadKind : PySem.W.typeIn K (.ref A.f_BadKind___init__) = some (.type "function")
  c_BadKind___init__ : CalM K "__init__" "BadKind.__init__" s_BadKind___init__ ["self", "wanted"] A.f_BadKind___init__ A.d_BadKind___init__
  v_BadKind : PySem.W.findCls K (.type "TypeError") (.type "type") "__init__" = some (.val (.builtin "TypeError.__init__"))
  m_TooMany : mg "TooMany" = some (.ref A.C_TooMany)
  o_TooMany : Xc.Own K A.C_TooMany "OverflowError" "OverflowError.__new__" "OverflowError.__init__" [.type "OverflowError", .type "ArithmeticError", .type "Exception", .type "BaseException", .type "object"]
  k_TooMany : Xc.Lk K A.C_TooMany
  t_TooMany_most : PySem.W.takerIn K A.C_TooMany "most" = some none
  na_TooMany_most : PySem.W.findIn K (.ref A.C_TooMany) "most" = some none
  i_TooMany : PySem.W.findIn K (.ref A.C_TooMany) "__init__" = some (some (.ref A.f_TooMany___init__))
  y_TooMany : PySem.W.typeIn K (.ref A.f_TooMany___init__) = some (.type "function")
  c_TooMany___init__ : CalM K "__init__" "TooMany.__init__" s_TooMany___init__ ["self", "most"] A.f_TooMany___init__ A.d_TooMany___init__
  v_TooMany : PySem.W.findCls K (.type "OverflowError") (.type "type") "__init__" = some (.val (.builtin "OverflowError.__init__"))
  c_is_whole : CalD K mg "is_whole" s_is_whole [("least", .int 0),("most", .int 4096)] A.f_is_whole A.d_is_whole
  c_bits : Cal K mg "bits" s_bits ["number"] A.f_bits A.d_bits
  c_need_row : Cal K mg "need_row" s_need_row ["thing"] A.f_need_row A.d_need_row
  c__law_mixed : Cal K mg "_law_mixed" s_l_mixed ["_law_drawn", "_law_k"] A.f__law_mixed A.d__law_mixed
  c__law_take : Cal K mg "_law_take" s_l_take ["_law_stream", "_law_many"] A.f__law_take A.d__law_take
  c__law_refusal : Cal K mg "_law_refusal" s_l_refusal ["_law_e"] A.f__law_refusal A.d__law_refusal
  c__law_heard : Cal K mg "_law_heard" s_l_heard ["_law_deed"] A.f__law_heard A.d__law_heard
  c__law_odd : Cal K mg "_law_odd" s_l_odd ["_law_k"] A.f__law_odd A.d__law_odd
  c__law_whole_right : Cal K mg "_law_whole_right" s_l_whole_right ["_law_item", "_law_low", "_law_high"] A.f__law_whole_right A.d__law_whole_right
  cx__law_bits_right : Xc.FunC K "_law_bits_right" "_law_bits_right" s_l_bits_right A.f__law_bits_right A.d__law_bits_right A.cc__law_bits_right
  nt__law_bits_right : K.lookup 307 = none
  ht__law_bits_right : PySem.W.codeHdIn K A.cc__law_bits_right 307 = true
  c__law_bits_right : Cal K mg "_law_bits_right" s_l_bits_right ["_law_item"] A.f__law_bits_right A.d__law_bits_right
  cx__law_row_right : Xc.FunC K "_law_row_right" "_law_row_right" s_l_row_right A.f__law_row_right A.d__law_row_right A.cc__law_row_right
  nt__law_row_right : K.lookup 312 = none
  ht__law_row_right : PySem.W.codeHdIn K A.cc__law_row_right 312 = true
  c__law_row_right : Cal K mg "_law_row_right" s_l_row_right ["_law_item"] A.f__law_row_right A.d__law_row_right
  c__law_by_hand_right : Cal K mg "_law_by_hand_right" s_l_by_hand_right [] A.f__law_by_hand_right A.d__law_by_hand_right
  c_law : Cal K mg "law" s_law ["_law_script"] A.f_law A.d_law
  g_MOST_THINGS : ∃ u, mg "MOST_THINGS" = some u ∧ RelV (.int 4096) u
  x_stat : PySem.W.nsIn K cStatics "sys.int_max_str_digits" = some none
  x_any_BadNumber : PySem.W.exmAny K (.ref A.C_BadNumber) [.ref A.C_SortError, .ref A.C_BadAnswer, .ref A.C_BadKind, .ref A.C_BadText, .ref A.C_BadNumber, .ref A.C_NoSuch, .ref A.C_TooMany, .ref A.C_Stopped] = some true
  x_i_BadNumber_BadPaper : PySem.W.kitOne K (.ref A.C_BadNumber) (.ref A.C_BadPaper) = some false
  x_i_BadNumber_Flawed : PySem.W.kitOne K (.ref A.C_BadNumber) (.ref A.C_Flawed) = some false
  x_i_BadNumber_BadLine : PySem.W.kitOne K (.ref A.C_BadNumber) (.ref A.C_BadLine) = some false
  x_i_BadNumber_Busy : PySem.W.kitOne K (.ref A.C_BadNumber) (.ref A.C_Busy) = some false
  x_i_BadNumber_Gone : PySem.W.kitOne K (.ref A.C_BadNumber) (.ref A.C_Gone) = some false
  x_i_BadNumber_BadAnswer : PySem.W.kitOne K (.ref A.C_BadNumber) (.ref A.C_BadAnswer) = some false
  x_i_BadNumber_BadKind : PySem.W.kitOne K (.ref A.C_BadNumber) (.ref A.C_BadKind) = some false
  x_i_BadNumber_BadText : PySem.W.kitOne K (.ref A.C_BadNumber) (.ref A.C_BadText) = some false
  x_i_BadNumber_BadNumber : PySem.W.kitOne K (.ref A.C_BadNumber) (.ref A.C_BadNumber) = some true
  x_i_BadNumber_NoSuch : PySem.W.kitOne K (.ref A.C_BadNumber) (.ref A.C_NoSuch) = some false
  x_i_BadNumber_TooMany : PySem.W.kitOne K (.ref A.C_BadNumber) (.ref A.C_TooMany) = some false
  x_i_BadNumber_Stopped : PySem.W.kitOne K (.ref A.C_BadNumber) (.ref A.C_Stopped) = some false
  x_any_BadKind : PySem.W.exmAny K (.ref A.C_BadKind) [.ref A.C_SortError, .ref A.C_BadAnswer, .ref A.C_BadKind, .ref A.C_BadText, .ref A.C_BadNumber, .ref A.C_NoSuch, .ref A.C_TooMany, .ref A.C_Stopped] = some true
  x_i_BadKind_BadPaper : PySem.W.kitOne K (.ref A.C_BadKind) (.ref A.C_BadPaper) = some false
  x_i_BadKind_Flawed : PySem.W.kitOne K (.ref A.C_BadKind) (.ref A.C_Flawed) = some false
  x_i_BadKind_BadLine : PySem.W.kitOne K (.ref A.C_BadKind) (.ref A.C_BadLine) = some false
  x_i_BadKind_Busy : PySem.W.kitOne K (.ref A.C_BadKind) (.ref A.C_Busy) = some false
  x_i_BadKind_Gone : PySem.W.kitOne K (.ref A.C_BadKind) (.ref A.C_Gone) = some false
  x_i_BadKind_BadAnswer : PySem.W.kitOne K (.ref A.C_BadKind) (.ref A.C_BadAnswer) = some false
  x_i_BadKind_BadKind : PySem.W.kitOne K (.ref A.C_BadKind) (.ref A.C_BadKind) = some true
  x_i_BadKind_BadText : PySem.W.kitOne K (.ref A.C_BadKind) (.ref A.C_BadText) = some false
  x_i_BadKind_BadNumber : PySem.W.kitOne K (.ref A.C_BadKind) (.ref A.C_BadNumber) = some false
  x_i_BadKind_NoSuch : PySem.W.kitOne K (.ref A.C_BadKind) (.ref A.C_NoSuch) = some false
  x_i_BadKind_TooMany : PySem.W.kitOne K (.ref A.C_BadKind) (.ref A.C_TooMany) = some false
  x_i_BadKind_Stopped : PySem.W.kitOne K (.ref A.C_BadKind) (.ref A.C_Stopped) = some false
  x_any_TooMany : PySem.W.exmAny K (.ref A.C_TooMany) [.ref A.C_SortError, .ref A.C_BadAnswer, .ref A.C_BadKind, .ref A.C_BadText, .ref A.C_BadNumber, .ref A.C_NoSuch, .ref A.C_TooMany, .ref A.C_Stopped] = some true
  x_i_TooMany_BadPaper : PySem.W.kitOne K (.ref A.C_TooMany) (.ref A.C_BadPaper) = some false
  x_i_TooMany_Flawed : PySem.W.kitOne K (.ref A.C_TooMany) (.ref A.C_Flawed) = some false
  x_i_TooMany_BadLine : PySem.W.kitOne K (.ref A.C_TooMany) (.ref A.C_BadLine) = some false
  x_i_TooMany_Busy : PySem.W.kitOne K (.ref A.C_TooMany) (.ref A.C_Busy) = some false
  x_i_TooMany_Gone : PySem.W.kitOne K (.ref A.C_TooMany) (.ref A.C_Gone) = some false
  x_i_TooMany_BadAnswer : PySem.W.kitOne K (.ref A.C_TooMany) (.ref A.C_BadAnswer) = some false
  x_i_TooMany_BadKind : PySem.W.kitOne K (.ref A.C_TooMany) (.ref A.C_BadKind) = some false
  x_i_TooMany_BadText : PySem.W.kitOne K (.ref A.C_TooMany) (.ref A.C_BadText) = some false
  x_i_TooMany_BadNumber : PySem.W.kitOne K (.ref A.C_TooMany) (.ref A.C_BadNumber) = some false
  x_i_TooMany_NoSuch : PySem.W.kitOne K (.ref A.C_TooMany) (.ref A.C_NoSuch) = some false
  x_i_TooMany_TooMany : PySem.W.kitOne K (.ref A.C_TooMany) (.ref A.C_TooMany) = some true
  x_i_TooMany_Stopped : PySem.W.kitOne K (.ref A.C_TooMany) (.ref A.C_Stopped) = some false
  n_len : mg "len" = none
  n_min : mg "min" = none
  n_all : mg "all" = none
  n_range : mg "range" = none
  n_repr : mg "repr" = none
  n_isinstance : mg "isinstance" = none
  n_int : mg "int" = none
  n_bool : mg "bool" = none
  n_list : mg "list" = none
  n_IndexError : mg "IndexError" = none
  n_TypeError : mg "TypeError" = none
  n_OverflowError : mg "OverflowError" = none
set_option maxHeartbeats 0 in
theorem all_mk {K : PySem.W.Frag} {mg : Str → Option Value} {w : World} {h : Heap} {C_SortError : Addr} {C_BadPaper : Addr} {C_Flawed : Addr} {C_BadLine : Addr} {C_Busy : Addr} {C_Gone : Addr} {C_BadAnswer : Addr} {C_BadText : Addr} {C_NoSuch : Addr} {C_Stopped : Addr} {C_BadNumber : Addr} {f_BadNumber___init__ : Addr} {oc_BadNumber___init__ doc_BadNumber___init__ pm_BadNumber___init__ cd_BadNumber___init__ ct_BadNumber___init__ kV_BadNumber___init__ : Value} {od_BadNumber___init__ an_BadNumber___init__ : Option Addr} {osl_BadNumber___init__ : Array (Option Value)} {C_BadKind : Addr} {f_BadKind___init__ : Addr} {oc_BadKind___init__ doc_BadKind___init__ pm_BadKind___init__ cd_BadKind___init__ ct_BadKind___init__ kV_BadKind___init__ : Value} {od_BadKind___init__ an_BadKind___init__ : Option Addr} {osl_BadKind___init__ : Array (Option Value)} {C_TooMany : Addr} {f_TooMany___init__ : Addr} {oc_TooMany___init__ doc_TooMany___init__ pm_TooMany___init__ cd_TooMany___init__ ct_TooMany___init__ kV_TooMany___init__ : Value} {od_TooMany___init__ an_TooMany___init__ : Option Addr} {osl_TooMany___init__ : Array (Option Value)} {f_is_whole : Addr} {D_is_whole : Addr} {oc_is_whole doc_is_whole pm_is_whole cd_is_whole ct_is_whole : Value} {od_is_whole an_is_whole : Option Addr} {osl_is_whole : Array (Option Value)} {f_bits : Addr} {oc_bits doc_bits pm_bits cd_bits ct_bits kV_bits : Value} {od_bits an_bits : Option Addr} {osl_bits : Array (Option Value)} {f_need_row : Addr} {oc_need_row doc_need_row pm_need_row cd_need_row ct_need_row kV_need_row : Value} {od_need_row an_need_row : Option Addr} {osl_need_row : Array (Option Value)} {f__law_mixed : Addr} {oc__law_mixed doc__law_mixed pm__law_mixed cd__law_mixed ct__law_mixed kV__law_mixed : Value} {od__law_mixed an__law_mixed : Option Addr} {osl__law_mixed : Array (Option Value)} {f__law_take : Addr} {oc__law_take doc__law_take pm__law_take cd__law_take ct__law_take kV__law_take : Value} {od__law_take an__law_take : Option Addr} {osl__law_take : Array (Option Value)} {f__law_refusal : Addr} {oc__law_refusal doc__law_refusal pm__law_refusal cd__law_refusal ct__law_refusal kV__law_refusal : Value} {od__law_refusal an__law_refusal : Option Addr} {osl__law_refusal : Array (Option Value)} {f__law_heard : Addr} {oc__law_heard doc__law_heard pm__law_heard cd__law_heard ct__law_heard kV__law_heard : Value} {od__law_heard an__law_heard : Option Addr} {osl__law_heard : Array (Option Value)} {f__law_odd : Addr} {oc__law_odd doc__law_odd pm__law_odd cd__law_odd ct__law_odd kV__law_odd : Value} {od__law_odd an__law_odd : Option Addr} {osl__law_odd : Array (Option Value)} {f__law_whole_right : Addr} {oc__law_whole_right doc__law_whole_right pm__law_whole_right cd__law_whole_right ct__law_whole_right kV__law_whole_right : Value} {od__law_whole_right an__law_whole_right : Option Addr} {osl__law_whole_right : Array (Option Value)} {f__law_bits_right : Addr} {oc__law_bits_right doc__law_bits_right pm__law_bits_right  ct__law_bits_right kV__law_bits_right : Value} {od__law_bits_right an__law_bits_right : Option Addr} {osl__law_bits_right : Array (Option Value)} {cc__law_bits_right : Addr} {f__law_row_right : Addr} {oc__law_row_right doc__law_row_right pm__law_row_right  ct__law_row_right kV__law_row_right : Value} {od__law_row_right an__law_row_right : Option Addr} {osl__law_row_right : Array (Option Value)} {cc__law_row_right : Addr} {f__law_by_hand_right : Addr} {oc__law_by_hand_right doc__law_by_hand_right pm__law_by_hand_right cd__law_by_hand_right ct__law_by_hand_right kV__law_by_hand_right : Value} {od__law_by_hand_right an__law_by_hand_right : Option Addr} {osl__law_by_hand_right : Array (Option Value)} {f_law : Addr} {oc_law doc_law pm_law cd_law ct_law kV_law : Value} {od_law an_law : Option Addr} {osl_law : Array (Option Value)} {u_MOST_THINGS : Value} (X : K.In h) (G : h.Ns mainGlobals mg)
    (a_SortError : PySem.W.nsIn K mainGlobals "SortError" = some (some (.ref C_SortError)))
    (a_BadPaper : PySem.W.nsIn K mainGlobals "BadPaper" = some (some (.ref C_BadPaper)))
    (a_Flawed : PySem.W.nsIn K mainGlobals "Flawed" = some (some (.ref C_Flawed)))
    (a_BadLine : PySem.W.nsIn K mainGlobals "BadLine" = some (some (.ref C_BadLine)))
    (a_Busy : PySem.W.nsIn K mainGlobals "Busy" = some (some (.ref C_Busy)))
    (a_Gone : PySem.W.nsIn K mainGlobals "Gone" = some (some (.ref C_Gone)))
    (a_BadAnswer : PySem.W.nsIn K mainGlobals "BadAnswer" = some (some (.ref C_BadAnswer)))
    (a_BadText : PySem.W.nsIn K mainGlobals "BadText" = some (some (.ref C_BadText)))
    (a_NoSuch : PySem.W.nsIn K mainGlobals "NoSuch" = some (some (.ref C_NoSuch)))
    (a_Stopped : PySem.W.nsIn K mainGlobals "Stopped" = some (some (.ref C_Stopped)))
    (a_BadNumber : PySem.W.nsIn K mainGlobals "BadNumber" = some (some (.ref C_BadNumber)))
    (ini_BadNumber : PySem.W.excInitIn K C_BadNumber [.type "IndexError", .type "LookupError", .type "Exception", .type "BaseException", .type "object"] "IndexError.__new__" = true)
    (ovr_BadNumber : PySem.W.excOver K C_BadNumber [.type "IndexError", .type "LookupError", .type "Exception", .type "BaseException", .type "object"] = true)
    (dic_BadNumber : PySem.W.hasDictIn K C_BadNumber = true)
    (sav_BadNumber : PySem.W.findIn K (.ref C_BadNumber) "__setattr__" = some (some (.builtin "object.__setattr__")))
    (bex_BadNumber : PySem.W.subIn K (.ref C_BadNumber) (.type "BaseException") = some true)
    (tyc_BadNumber : PySem.W.typeIn K (.ref C_BadNumber) = some (.type "type"))
    (kpc_BadNumber : PySem.W.keepIn K (.ref C_BadNumber) = true)
    (xcl_BadNumber : (PySem.W.clsIn K C_BadNumber).isSome = true)
    (xga_BadNumber : PySem.W.findIn K (.ref C_BadNumber) "__getattribute__" = some (some (.builtin "BaseException.__getattribute__")))
    (xgg_BadNumber : PySem.W.findIn K (.ref C_BadNumber) "__getattr__" = some none)
    (xha_BadNumber : PySem.W.findIn K (.ref C_BadNumber) "__class__" = some (some (.builtin "object.__class__")))
    (xhn_BadNumber : PySem.W.specialIn K (.builtin "object.__class__") "__get__" = some (some (.builtin "getset_descriptor.__get__")))
    (xht_BadNumber : PySem.W.takesIn K (.builtin "object.__class__") = some true)
    (xhm_BadNumber : PySem.W.mroIn K C_BadNumber (.type "object") = some true)
    (tk_BadNumber_at : PySem.W.takerIn K C_BadNumber "at" = some none)
    (na_BadNumber_at : PySem.W.findIn K (.ref C_BadNumber) "at" = some none)
    (a_BadNumber___init__ : PySem.W.findIn K (.ref C_BadNumber) "__init__" = some (some (.ref f_BadNumber___init__)))
    (y_BadNumber___init__ : PySem.W.typeIn K (.ref f_BadNumber___init__) = some (.type "function"))
    (l_BadNumber___init__ : K.lookup f_BadNumber___init__ = some ⟨oc_BadNumber___init__, od_BadNumber___init__, .func (PySem.W.fnOf "__init__" "BadNumber.__init__" (defArgs s_BadNumber___init__) (defBody s_BadNumber___init__) (defScope s_BadNumber___init__) .none kV_BadNumber___init__ doc_BadNumber___init__ pm_BadNumber___init__ an_BadNumber___init__ cd_BadNumber___init__ ct_BadNumber___init__), osl_BadNumber___init__⟩)
    (e_BadNumber___init__ : PySem.W.codeIn K cd_BadNumber___init__ "BadNumber.__init__" = true)
    (k_BadNumber___init__ : PySem.W.keepIn K (.ref f_BadNumber___init__) = true)
    (v_BadNumber : PySem.W.findCls K (.type "IndexError") (.type "type") "__init__" = some (.val (.builtin "IndexError.__init__")))
    (a_BadKind : PySem.W.nsIn K mainGlobals "BadKind" = some (some (.ref C_BadKind)))
    (ini_BadKind : PySem.W.excInitIn K C_BadKind [.type "TypeError", .type "Exception", .type "BaseException", .type "object"] "TypeError.__new__" = true)
    (ovr_BadKind : PySem.W.excOver K C_BadKind [.type "TypeError", .type "Exception", .type "BaseException", .type "object"] = true)
    (dic_BadKind : PySem.W.hasDictIn K C_BadKind = true)
    (sav_BadKind : PySem.W.findIn K (.ref C_BadKind) "__setattr__" = some (some (.builtin "object.__setattr__")))
    (bex_BadKind : PySem.W.subIn K (.ref C_BadKind) (.type "BaseException") = some true)
    (tyc_BadKind : PySem.W.typeIn K (.ref C_BadKind) = some (.type "type"))
    (kpc_BadKind : PySem.W.keepIn K (.ref C_BadKind) = true)
    (xcl_BadKind : (PySem.W.clsIn K C_BadKind).isSome = true)
    (xga_BadKind : PySem.W.findIn K (.ref C_BadKind) "__getattribute__" = some (some (.builtin "BaseException.__getattribute__")))
    (xgg_BadKind : PySem.W.findIn K (.ref C_BadKind) "__getattr__" = some none)
    (xha_BadKind : PySem.W.findIn K (.ref C_BadKind) "__class__" = some (some (.builtin "object.__class__")))
    (xhn_BadKind : PySem.W.specialIn K (.builtin "object.__class__") "__get__" = some (some (.builtin "getset_descriptor.__get__")))
    (xht_BadKind : PySem.W.takesIn K (.builtin "object.__class__") = some true)
    (xhm_BadKind : PySem.W.mroIn K C_BadKind (.type "object") = some true)
    (tk_BadKind_wanted : PySem.W.takerIn K C_BadKind "wanted" = some none)
    (na_BadKind_wanted : PySem.W.findIn K (.ref C_BadKind) "wanted" = some none)
    (a_BadKind___init__ : PySem.W.findIn K (.ref C_BadKind) "__init__" = some (some (.ref f_BadKind___init__)))
    (y_BadKind___init__ : PySem.W.typeIn K (.ref f_BadKind___init__) = some (.type "function"))
    (l_BadKind___init__ : K.lookup f_BadKind___init__ = some ⟨oc_BadKind___init__, od_BadKind___init__, .func (PySem.W.fnOf "__init__" "BadKind.__init__" (defArgs s_BadKind___init__) (defBody s_BadKind___init__) (defScope s_BadKind___init__) .none kV_BadKind___init__ doc_BadKind___init__ pm_BadKind___init__ an_BadKind___init__ cd_BadKind___init__ ct_BadKind___init__), osl_BadKind___init__⟩)
    (e_BadKind___init__ : PySem.W.codeIn K cd_BadKind___init__ "BadKind.__init__" = true)
    (k_BadKind___init__ : PySem.W.keepIn K (.ref f_BadKind___init__) = true)
    (v_BadKind : PySem.W.findCls K (.type "TypeError") (.type "type") "__init__" = some (.val (.builtin "TypeError.__init__")))
    (a_TooMany : PySem.W.nsIn K mainGlobals "TooMany" = some (some (.ref C_TooMany)))
    (ini_TooMany : PySem.W.excInitIn K C_TooMany [.type "OverflowError", .type "ArithmeticError", .type "Exception", .type "BaseException", .type "object"] "OverflowError.__new__" = true)
    (ovr_TooMany : PySem.W.excOver K C_TooMany [.type "OverflowError", .type "ArithmeticError", .type "Exception", .type "BaseException", .type "object"] = true)
    (dic_TooMany : PySem.W.hasDictIn K C_TooMany = true)
    (sav_TooMany : PySem.W.findIn K (.ref C_TooMany) "__setattr__" = some (some (.builtin "object.__setattr__")))
    (bex_TooMany : PySem.W.subIn K (.ref C_TooMany) (.type "BaseException") = some true)
    (tyc_TooMany : PySem.W.typeIn K (.ref C_TooMany) = some (.type "type"))
    (kpc_TooMany : PySem.W.keepIn K (.ref C_TooMany) = true)
    (xcl_TooMany : (PySem.W.clsIn K C_TooMany).isSome = true)
    (xga_TooMany : PySem.W.findIn K (.ref C_TooMany) "__getattribute__" = some (some (.builtin "BaseException.__getattribute__")))
    (xgg_TooMany : PySem.W.findIn K (.ref C_TooMany) "__getattr__" = some none)
    (xha_TooMany : PySem.W.findIn K (.ref C_TooMany) "__class__" = some (some (.builtin "object.__class__")))
    (xhn_TooMany : PySem.W.specialIn K (.builtin "object.__class__") "__get__" = some (some (.builtin "getset_descriptor.__get__")))
    (xht_TooMany : PySem.W.takesIn K (.builtin "object.__class__") = some true)
    (xhm_TooMany : PySem.W.mroIn K C_TooMany (.type "object") = some true)
    (tk_TooMany_most : PySem.W.takerIn K C_TooMany "most" = some none)
    (na_TooMany_most : PySem.W.findIn K (.ref C_TooMany) "most" = some none)
    (a_TooMany___init__ : PySem.W.findIn K (.ref C_TooMany) "__init__" = some (some (.ref f_TooMany___init__)))
    (y_TooMany___init__ : PySem.W.typeIn K (.ref f_TooMany___init__) = some (.type "function"))
    (l_TooMany___init__ : K.lookup f_TooMany___init__ = some ⟨oc_TooMany___init__, od_TooMany___init__, .func (PySem.W.fnOf "__init__" "TooMany.__init__" (defArgs s_TooMany___init__) (defBody s_TooMany___init__) (defScope s_TooMany___init__) .none kV_TooMany___init__ doc_TooMany___init__ pm_TooMany___init__ an_TooMany___init__ cd_TooMany___init__ ct_TooMany___init__), osl_TooMany___init__⟩)
    (e_TooMany___init__ : PySem.W.codeIn K cd_TooMany___init__ "TooMany.__init__" = true)
    (k_TooMany___init__ : PySem.W.keepIn K (.ref f_TooMany___init__) = true)
    (v_TooMany : PySem.W.findCls K (.type "OverflowError") (.type "type") "__init__" = some (.val (.builtin "OverflowError.__init__")))
    (a_is_whole : PySem.W.nsIn K mainGlobals "is_whole" = some (some (.ref f_is_whole)))
    (l_is_whole : K.lookup f_is_whole = some ⟨oc_is_whole, od_is_whole, .func (PySem.W.fnOf "is_whole" "is_whole" (defArgs s_is_whole) (defBody s_is_whole) (defScope s_is_whole) .none (.ref D_is_whole) doc_is_whole pm_is_whole an_is_whole cd_is_whole ct_is_whole), osl_is_whole⟩)
    (e_is_whole : PySem.W.codeIn K cd_is_whole "is_whole" = true)
    (k_is_whole : PySem.W.keepIn K (.ref f_is_whole) = true)
    (dd_is_whole : ∀ q ∈ ([("least", .int 0),("most", .int 4096)] : List (Str × V)), ∃ u, PySem.W.nsIn K D_is_whole q.1 = some (some u) ∧ RelV q.2 u)
    (a_bits : PySem.W.nsIn K mainGlobals "bits" = some (some (.ref f_bits)))
    (l_bits : K.lookup f_bits = some ⟨oc_bits, od_bits, .func (PySem.W.fnOf "bits" "bits" (defArgs s_bits) (defBody s_bits) (defScope s_bits) .none kV_bits doc_bits pm_bits an_bits cd_bits ct_bits), osl_bits⟩)
    (e_bits : PySem.W.codeIn K cd_bits "bits" = true)
    (k_bits : PySem.W.keepIn K (.ref f_bits) = true)
    (a_need_row : PySem.W.nsIn K mainGlobals "need_row" = some (some (.ref f_need_row)))
    (l_need_row : K.lookup f_need_row = some ⟨oc_need_row, od_need_row, .func (PySem.W.fnOf "need_row" "need_row" (defArgs s_need_row) (defBody s_need_row) (defScope s_need_row) .none kV_need_row doc_need_row pm_need_row an_need_row cd_need_row ct_need_row), osl_need_row⟩)
    (e_need_row : PySem.W.codeIn K cd_need_row "need_row" = true)
    (k_need_row : PySem.W.keepIn K (.ref f_need_row) = true)
    (a__law_mixed : PySem.W.nsIn K mainGlobals "_law_mixed" = some (some (.ref f__law_mixed)))
    (l__law_mixed : K.lookup f__law_mixed = some ⟨oc__law_mixed, od__law_mixed, .func (PySem.W.fnOf "_law_mixed" "_law_mixed" (defArgs s_l_mixed) (defBody s_l_mixed) (defScope s_l_mixed) .none kV__law_mixed doc__law_mixed pm__law_mixed an__law_mixed cd__law_mixed ct__law_mixed), osl__law_mixed⟩)
    (e__law_mixed : PySem.W.codeIn K cd__law_mixed "_law_mixed" = true)
    (k__law_mixed : PySem.W.keepIn K (.ref f__law_mixed) = true)
    (a__law_take : PySem.W.nsIn K mainGlobals "_law_take" = some (some (.ref f__law_take)))
    (l__law_take : K.lookup f__law_take = some ⟨oc__law_take, od__law_take, .func (PySem.W.fnOf "_law_take" "_law_take" (defArgs s_l_take) (defBody s_l_take) (defScope s_l_take) .none kV__law_take doc__law_take pm__law_take an__law_take cd__law_take ct__law_take), osl__law_take⟩)
    (e__law_take : PySem.W.codeIn K cd__law_take "_law_take" = true)
    (k__law_take : PySem.W.keepIn K (.ref f__law_take) = true)
    (a__law_refusal : PySem.W.nsIn K mainGlobals "_law_refusal" = some (some (.ref f__law_refusal)))
    (l__law_refusal : K.lookup f__law_refusal = some ⟨oc__law_refusal, od__law_refusal, .func (PySem.W.fnOf "_law_refusal" "_law_refusal" (defArgs s_l_refusal) (defBody s_l_refusal) (defScope s_l_refusal) .none kV__law_refusal doc__law_refusal pm__law_refusal an__law_refusal cd__law_refusal ct__law_refusal), osl__law_refusal⟩)
    (e__law_refusal : PySem.W.codeIn K cd__law_refusal "_law_refusal" = true)
    (k__law_refusal : PySem.W.keepIn K (.ref f__law_refusal) = true)
    (a__law_heard : PySem.W.nsIn K mainGlobals "_law_heard" = some (some (.ref f__law_heard)))
    (l__law_heard : K.lookup f__law_heard = some ⟨oc__law_heard, od__law_heard, .func (PySem.W.fnOf "_law_heard" "_law_heard" (defArgs s_l_heard) (defBody s_l_heard) (defScope s_l_heard) .none kV__law_heard doc__law_heard pm__law_heard an__law_heard cd__law_heard ct__law_heard), osl__law_heard⟩)
    (e__law_heard : PySem.W.codeIn K cd__law_heard "_law_heard" = true)
    (k__law_heard : PySem.W.keepIn K (.ref f__law_heard) = true)
    (a__law_odd : PySem.W.nsIn K mainGlobals "_law_odd" = some (some (.ref f__law_odd)))
    (l__law_odd : K.lookup f__law_odd = some ⟨oc__law_odd, od__law_odd, .func (PySem.W.fnOf "_law_odd" "_law_odd" (defArgs s_l_odd) (defBody s_l_odd) (defScope s_l_odd) .none kV__law_odd doc__law_odd pm__law_odd an__law_odd cd__law_odd ct__law_odd), osl__law_odd⟩)
    (e__law_odd : PySem.W.codeIn K cd__law_odd "_law_odd" = true)
    (k__law_odd : PySem.W.keepIn K (.ref f__law_odd) = true)
    (a__law_whole_right : PySem.W.nsIn K mainGlobals "_law_whole_right" = some (some (.ref f__law_whole_right)))
    (l__law_whole_right : K.lookup f__law_whole_right = some ⟨oc__law_whole_right, od__law_whole_right, .func (PySem.W.fnOf "_law_whole_right" "_law_whole_right" (defArgs s_l_whole_right) (defBody s_l_whole_right) (defScope s_l_whole_right) .none kV__law_whole_right doc__law_whole_right pm__law_whole_right an__law_whole_right cd__law_whole_right ct__law_whole_right), osl__law_whole_right⟩)
    (e__law_whole_right : PySem.W.codeIn K cd__law_whole_right "_law_whole_right" = true)
    (k__law_whole_right : PySem.W.keepIn K (.ref f__law_whole_right) = true)
    (a__law_bits_right : PySem.W.nsIn K mainGlobals "_law_bits_right" = some (some (.ref f__law_bits_right)))
    (l__law_bits_right : K.lookup f__law_bits_right = some ⟨oc__law_bits_right, od__law_bits_right, .func (PySem.W.fnOf "_law_bits_right" "_law_bits_right" (defArgs s_l_bits_right) (defBody s_l_bits_right) (defScope s_l_bits_right) .none kV__law_bits_right doc__law_bits_right pm__law_bits_right an__law_bits_right (.ref cc__law_bits_right) ct__law_bits_right), osl__law_bits_right⟩)
    (e__law_bits_right : PySem.W.codeIn K (.ref cc__law_bits_right) "_law_bits_right" = true)
    (nt__law_bits_right : K.lookup 307 = none)
    (ht__law_bits_right : PySem.W.codeHdIn K cc__law_bits_right 307 = true)
    (k__law_bits_right : PySem.W.keepIn K (.ref f__law_bits_right) = true)
    (a__law_row_right : PySem.W.nsIn K mainGlobals "_law_row_right" = some (some (.ref f__law_row_right)))
    (l__law_row_right : K.lookup f__law_row_right = some ⟨oc__law_row_right, od__law_row_right, .func (PySem.W.fnOf "_law_row_right" "_law_row_right" (defArgs s_l_row_right) (defBody s_l_row_right) (defScope s_l_row_right) .none kV__law_row_right doc__law_row_right pm__law_row_right an__law_row_right (.ref cc__law_row_right) ct__law_row_right), osl__law_row_right⟩)
    (e__law_row_right : PySem.W.codeIn K (.ref cc__law_row_right) "_law_row_right" = true)
    (nt__law_row_right : K.lookup 312 = none)
    (ht__law_row_right : PySem.W.codeHdIn K cc__law_row_right 312 = true)
    (k__law_row_right : PySem.W.keepIn K (.ref f__law_row_right) = true)
    (a__law_by_hand_right : PySem.W.nsIn K mainGlobals "_law_by_hand_right" = some (some (.ref f__law_by_hand_right)))
    (l__law_by_hand_right : K.lookup f__law_by_hand_right = some ⟨oc__law_by_hand_right, od__law_by_hand_right, .func (PySem.W.fnOf "_law_by_hand_right" "_law_by_hand_right" (defArgs s_l_by_hand_right) (defBody s_l_by_hand_right) (defScope s_l_by_hand_right) .none kV__law_by_hand_right doc__law_by_hand_right pm__law_by_hand_right an__law_by_hand_right cd__law_by_hand_right ct__law_by_hand_right), osl__law_by_hand_right⟩)
    (e__law_by_hand_right : PySem.W.codeIn K cd__law_by_hand_right "_law_by_hand_right" = true)
    (k__law_by_hand_right : PySem.W.keepIn K (.ref f__law_by_hand_right) = true)
    (a_law : PySem.W.nsIn K mainGlobals "law" = some (some (.ref f_law)))
    (l_law : K.lookup f_law = some ⟨oc_law, od_law, .func (PySem.W.fnOf "law" "law" (defArgs s_law) (defBody s_law) (defScope s_law) .none kV_law doc_law pm_law an_law cd_law ct_law), osl_law⟩)
    (e_law : PySem.W.codeIn K cd_law "law" = true)
    (k_law : PySem.W.keepIn K (.ref f_law) = true)
    (g_MOST_THINGS : PySem.W.nsIn K mainGlobals "MOST_THINGS" = some (some u_MOST_THINGS))
    (r_MOST_THINGS : RelV (.int 4096) u_MOST_THINGS)
    (x_stat : PySem.W.nsIn K cStatics "sys.int_max_str_digits" = some none)
    (x_any_BadNumber : PySem.W.exmAny K (.ref C_BadNumber) [.ref C_SortError, .ref C_BadAnswer, .ref C_BadKind, .ref C_BadText, .ref C_BadNumber, .ref C_NoSuch, .ref C_TooMany, .ref C_Stopped] = some true)
    (x_i_BadNumber_BadPaper : PySem.W.kitOne K (.ref C_BadNumber) (.ref C_BadPaper) = some false)
    (x_i_BadNumber_Flawed : PySem.W.kitOne K (.ref C_BadNumber) (.ref C_Flawed) = some false)
    (x_i_BadNumber_BadLine : PySem.W.kitOne K (.ref C_BadNumber) (.ref C_BadLine) = some false)
    (x_i_BadNumber_Busy : PySem.W.kitOne K (.ref C_BadNumber) (.ref C_Busy) = some false)
    (x_i_BadNumber_Gone : PySem.W.kitOne K (.ref C_BadNumber) (.ref C_Gone) = some false)
    (x_i_BadNumber_BadAnswer : PySem.W.kitOne K (.ref C_BadNumber) (.ref C_BadAnswer) = some false)
    (x_i_BadNumber_BadKind : PySem.W.kitOne K (.ref C_BadNumber) (.ref C_BadKind) = some false)
    (x_i_BadNumber_BadText : PySem.W.kitOne K (.ref C_BadNumber) (.ref C_BadText) = some false)
    (x_i_BadNumber_BadNumber : PySem.W.kitOne K (.ref C_BadNumber) (.ref C_BadNumber) = some true)
    (x_i_BadNumber_NoSuch : PySem.W.kitOne K (.ref C_BadNumber) (.ref C_NoSuch) = some false)
    (x_i_BadNumber_TooMany : PySem.W.kitOne K (.ref C_BadNumber) (.ref C_TooMany) = some false)
    (x_i_BadNumber_Stopped : PySem.W.kitOne K (.ref C_BadNumber) (.ref C_Stopped) = some false)
    (x_any_BadKind : PySem.W.exmAny K (.ref C_BadKind) [.ref C_SortError, .ref C_BadAnswer, .ref C_BadKind, .ref C_BadText, .ref C_BadNumber, .ref C_NoSuch, .ref C_TooMany, .ref C_Stopped] = some true)
    (x_i_BadKind_BadPaper : PySem.W.kitOne K (.ref C_BadKind) (.ref C_BadPaper) = some false)
    (x_i_BadKind_Flawed : PySem.W.kitOne K (.ref C_BadKind) (.ref C_Flawed) = some false)
    (x_i_BadKind_BadLine : PySem.W.kitOne K (.ref C_BadKind) (.ref C_BadLine) = some false)
    (x_i_BadKind_Busy : PySem.W.kitOne K (.ref C_BadKind) (.ref C_Busy) = some false)
    (x_i_BadKind_Gone : PySem.W.kitOne K (.ref C_BadKind) (.ref C_Gone) = some false)
    (x_i_BadKind_BadAnswer : PySem.W.kitOne K (.ref C_BadKind) (.ref C_BadAnswer) = some false)
    (x_i_BadKind_BadKind : PySem.W.kitOne K (.ref C_BadKind) (.ref C_BadKind) = some true)
    (x_i_BadKind_BadText : PySem.W.kitOne K (.ref C_BadKind) (.ref C_BadText) = some false)
    (x_i_BadKind_BadNumber : PySem.W.kitOne K (.ref C_BadKind) (.ref C_BadNumber) = some false)
    (x_i_BadKind_NoSuch : PySem.W.kitOne K (.ref C_BadKind) (.ref C_NoSuch) = some false)
    (x_i_BadKind_TooMany : PySem.W.kitOne K (.ref C_BadKind) (.ref C_TooMany) = some false)
    (x_i_BadKind_Stopped : PySem.W.kitOne K (.ref C_BadKind) (.ref C_Stopped) = some false)
    (x_any_TooMany : PySem.W.exmAny K (.ref C_TooMany) [.ref C_SortError, .ref C_BadAnswer, .ref C_BadKind, .ref C_BadText, .ref C_BadNumber, .ref C_NoSuch, .ref C_TooMany, .ref C_Stopped] = some true)
    (x_i_TooMany_BadPaper : PySem.W.kitOne K (.ref C_TooMany) (.ref C_BadPaper) = some false)
    (x_i_TooMany_Flawed : PySem.W.kitOne K (.ref C_TooMany) (.ref C_Flawed) = some false)
    (x_i_TooMany_BadLine : PySem.W.kitOne K (.ref C_TooMany) (.ref C_BadLine) = some false)
    (x_i_TooMany_Busy : PySem.W.kitOne K (.ref C_TooMany) (.ref C_Busy) = some false)
    (x_i_TooMany_Gone : PySem.W.kitOne K (.ref C_TooMany) (.ref C_Gone) = some false)
    (x_i_TooMany_BadAnswer : PySem.W.kitOne K (.ref C_TooMany) (.ref C_BadAnswer) = some false)
    (x_i_TooMany_BadKind : PySem.W.kitOne K (.ref C_TooMany) (.ref C_BadKind) = some false)
    (x_i_TooMany_BadText : PySem.W.kitOne K (.ref C_TooMany) (.ref C_BadText) = some false)
    (x_i_TooMany_BadNumber : PySem.W.kitOne K (.ref C_TooMany) (.ref C_BadNumber) = some false)
    (x_i_TooMany_NoSuch : PySem.W.kitOne K (.ref C_TooMany) (.ref C_NoSuch) = some false)
    (x_i_TooMany_TooMany : PySem.W.kitOne K (.ref C_TooMany) (.ref C_TooMany) = some true)
    (x_i_TooMany_Stopped : PySem.W.kitOne K (.ref C_TooMany) (.ref C_Stopped) = some false)
    (z_len : PySem.W.nsIn K mainGlobals "len" = some none)
    (z_min : PySem.W.nsIn K mainGlobals "min" = some none)
    (z_all : PySem.W.nsIn K mainGlobals "all" = some none)
    (z_range : PySem.W.nsIn K mainGlobals "range" = some none)
    (z_repr : PySem.W.nsIn K mainGlobals "repr" = some none)
    (z_isinstance : PySem.W.nsIn K mainGlobals "isinstance" = some none)
    (z_int : PySem.W.nsIn K mainGlobals "int" = some none)
    (z_bool : PySem.W.nsIn K mainGlobals "bool" = some none)
    (z_list : PySem.W.nsIn K mainGlobals "list" = some none)
    (z_IndexError : PySem.W.nsIn K mainGlobals "IndexError" = some none)
    (z_TypeError : PySem.W.nsIn K mainGlobals "TypeError" = some none)
    (z_OverflowError : PySem.W.nsIn K mainGlobals "OverflowError" = some none)
    : ∃ A, Txt K mg w A :=
  ⟨⟨C_SortError, C_BadPaper, C_Flawed, C_BadLine, C_Busy, C_Gone, C_BadAnswer, C_BadText, C_NoSuch, C_Stopped, C_BadNumber, f_BadNumber___init__, C_BadKind, f_BadKind___init__, C_TooMany, f_TooMany___init__, f_is_whole, f_bits, f_need_row, f__law_mixed, f__law_take, f__law_refusal, f__law_heard, f__law_odd, f__law_whole_right, f__law_bits_right, cc__law_bits_right, f__law_row_right, cc__law_row_right, f__law_by_hand_right, f_law, (PySem.W.fnOf "__init__" "BadNumber.__init__" (defArgs s_BadNumber___init__) (defBody s_BadNumber___init__) (defScope s_BadNumber___init__) .none kV_BadNumber___init__ doc_BadNumber___init__ pm_BadNumber___init__ an_BadNumber___init__ cd_BadNumber___init__ ct_BadNumber___init__), (PySem.W.fnOf "__init__" "BadKind.__init__" (defArgs s_BadKind___init__) (defBody s_BadKind___init__) (defScope s_BadKind___init__) .none kV_BadKind___init__ doc_BadKind___init__ pm_BadKind___init__ an_BadKind___init__ cd_BadKind___init__ ct_BadKind___init__), (PySem.W.fnOf "__init__" "TooMany.__init__" (defArgs s_TooMany___init__) (defBody s_TooMany___init__) (defScope s_TooMany___init__) .none kV_TooMany___init__ doc_TooMany___init__ pm_TooMany___init__ an_TooMany___init__ cd_TooMany___init__ ct_TooMany___init__), (PySem.W.fnOf "is_whole" "is_whole" (defArgs s_is_whole) (defBody s_is_whole) (defScope s_is_whole) .none (.ref D_is_whole) doc_is_whole pm_is_whole an_is_whole cd_is_whole ct_is_whole), (PySem.W.fnOf "bits" "bits" (defArgs s_bits) (defBody s_bits) (defScope s_bits) .none kV_bits doc_bits pm_bits an_bits cd_bits ct_bits), (PySem.W.fnOf "need_row" "need_row" (defArgs s_need_row) (defBody s_need_row) (defScope s_need_row) .none kV_need_row doc_need_row pm_need_row an_need_row cd_need_row ct_need_row), (PySem.W.fnOf "_law_mixed" "_law_mixed" (defArgs s_l_mixed) (defBody s_l_mixed) (defScope s_l_mixed) .none kV__law_mixed doc__law_mixed pm__law_mixed an__law_mixed cd__law_mixed ct__law_mixed), (PySem.W.fnOf "_law_take" "_law_take" (defArgs s_l_take) (defBody s_l_take) (defScope s_l_take) .none kV__law_take doc__law_take pm__law_take an__law_take cd__law_take ct__law_take), (PySem.W.fnOf "_law_refusal" "_law_refusal" (defArgs s_l_refusal) (defBody s_l_refusal) (defScope s_l_refusal) .none kV__law_refusal doc__law_refusal pm__law_refusal an__law_refusal cd__law_refusal ct__law_refusal), (PySem.W.fnOf "_law_heard" "_law_heard" (defArgs s_l_heard) (defBody s_l_heard) (defScope s_l_heard) .none kV__law_heard doc__law_heard pm__law_heard an__law_heard cd__law_heard ct__law_heard), (PySem.W.fnOf "_law_odd" "_law_odd" (defArgs s_l_odd) (defBody s_l_odd) (defScope s_l_odd) .none kV__law_odd doc__law_odd pm__law_odd an__law_odd cd__law_odd ct__law_odd), (PySem.W.fnOf "_law_whole_right" "_law_whole_right" (defArgs s_l_whole_right) (defBody s_l_whole_right) (defScope s_l_whole_right) .none kV__law_whole_right doc__law_whole_right pm__law_whole_right an__law_whole_right cd__law_whole_right ct__law_whole_right), (PySem.W.fnOf "_law_bits_right" "_law_bits_right" (defArgs s_l_bits_right) (defBody s_l_bits_right) (defScope s_l_bits_right) .none kV__law_bits_right doc__law_bits_right pm__law_bits_right an__law_bits_right (.ref cc__law_bits_right) ct__law_bits_right), (PySem.W.fnOf "_law_row_right" "_law_row_right" (defArgs s_l_row_right) (defBody s_l_row_right) (defScope s_l_row_right) .none kV__law_row_right doc__law_row_right pm__law_row_right an__law_row_right (.ref cc__law_row_right) ct__law_row_right), (PySem.W.fnOf "_law_by_hand_right" "_law_by_hand_right" (defArgs s_l_by_hand_right) (defBody s_l_by_hand_right) (defScope s_l_by_hand_right) .none kV__law_by_hand_right doc__law_by_hand_right pm__law_by_hand_right an__law_by_hand_right cd__law_by_hand_right ct__law_by_hand_right), (PySem.W.fnOf "law" "law" (defArgs s_law) (defBody s_law) (defScope s_law) .none kV_law doc_law pm_law an_law cd_law ct_law)⟩,
    { m_SortError := PySem.W.mg_of X G a_SortError
      m_BadPaper := PySem.W.mg_of X G a_BadPaper
      m_Flawed := PySem.W.mg_of X G a_Flawed
      m_BadLine := PySem.W.mg_of X G a_BadLine
      m_Busy := PySem.W.mg_of X G a_Busy
      m_Gone := PySem.W.mg_of X G a_Gone
      m_BadAnswer := PySem.W.mg_of X G a_BadAnswer
      m_BadText := PySem.W.mg_of X G a_BadText
      m_NoSuch := PySem.W.mg_of X G a_NoSuch
      m_Stopped := PySem.W.mg_of X G a_Stopped
      m_BadNumber := PySem.W.mg_of X G a_BadNumber
      o_BadNumber := ⟨PySem.F.excBase_IndexError, PySem.F.store_IndexError, ini_BadNumber, ovr_BadNumber, dic_BadNumber, sav_BadNumber, bex_BadNumber, tyc_BadNumber, kpc_BadNumber⟩
      k_BadNumber := ⟨xcl_BadNumber, xga_BadNumber, xgg_BadNumber, bex_BadNumber, dic_BadNumber, xha_BadNumber, xhn_BadNumber, xht_BadNumber, xhm_BadNumber⟩
      t_BadNumber_at := tk_BadNumber_at
      na_BadNumber_at := na_BadNumber_at
      i_BadNumber := a_BadNumber___init__
      y_BadNumber := y_BadNumber___init__
      c_BadNumber___init__ := ⟨fun_mk l_BadNumber___init__ e_BadNumber___init__ k_BadNumber___init__, (fun_mk (st := s_BadNumber___init__) l_BadNumber___init__ e_BadNumber___init__ k_BadNumber___init__).binds (ps := ["self", "at"]) (fun _ _ _ _ _ _ us hl => match us, hl with | [_, _], _ => rfl)⟩
      v_BadNumber := v_BadNumber
      m_BadKind := PySem.W.mg_of X G a_BadKind
      o_BadKind := ⟨PySem.F.excBase_TypeError, PySem.F.store_TypeError, ini_BadKind, ovr_BadKind, dic_BadKind, sav_BadKind, bex_BadKind, tyc_BadKind, kpc_BadKind⟩
      k_BadKind := ⟨xcl_BadKind, xga_BadKind, xgg_BadKind, bex_BadKind, dic_BadKind, xha_BadKind, xhn_BadKind, xht_BadKind, xhm_BadKind⟩
      t_BadKind_wanted := tk_BadKind_wanted
      na_BadKind_wanted := na_BadKind_wanted
      i_BadKind := a_BadKind___init__
      y_BadKind := y_BadKind___init__
      c_BadKind___init__ := ⟨fun_mk l_BadKind___init__ e_BadKind___init__ k_BadKind___init__, (fun_mk (st := s_BadKind___init__) l_BadKind___init__ e_BadKind___init__ k_BadKind___init__).binds (ps := ["self", "wanted"]) (fun _ _ _ _ _ _ us hl => match us, hl with | [_, _], _ => rfl)⟩
      v_BadKind := v_BadKind
      m_TooMany := PySem.W.mg_of X G a_TooMany
      o_TooMany := ⟨PySem.F.excBase_OverflowError, PySem.F.store_OverflowError, ini_TooMany, ovr_TooMany, dic_TooMany, sav_TooMany, bex_TooMany, tyc_TooMany, kpc_TooMany⟩
      k_TooMany := ⟨xcl_TooMany, xga_TooMany, xgg_TooMany, bex_TooMany, dic_TooMany, xha_TooMany, xhn_TooMany, xht_TooMany, xhm_TooMany⟩
      t_TooMany_most := tk_TooMany_most
      na_TooMany_most := na_TooMany_most
      i_TooMany := a_TooMany___init__
      y_TooMany := y_TooMany___init__
      c_TooMany___init__ := ⟨fun_mk l_TooMany___init__ e_TooMany___init__ k_TooMany___init__, (fun_mk (st := s_TooMany___init__) l_TooMany___init__ e_TooMany___init__ k_TooMany___init__).binds (ps := ["self", "most"]) (fun _ _ _ _ _ _ us hl => match us, hl with | [_, _], _ => rfl)⟩
      v_TooMany := v_TooMany
      c_is_whole := ⟨⟨⟨_, _, .none, .ref D_is_whole, _, _, _, _, _, _, rfl, l_is_whole, e_is_whole, Or.inl ⟨rfl, rfl⟩, Or.inr ⟨D_is_whole, rfl, dd_is_whole⟩⟩, k_is_whole⟩, PySem.W.mg_of X G a_is_whole⟩
      c_bits := ⟨fun_mk l_bits e_bits k_bits, (fun_mk (st := s_bits) l_bits e_bits k_bits).binds (ps := ["number"]) (fun _ _ _ _ _ _ us hl => match us, hl with | [_], _ => rfl), PySem.W.mg_of X G a_bits⟩
      c_need_row := ⟨fun_mk l_need_row e_need_row k_need_row, (fun_mk (st := s_need_row) l_need_row e_need_row k_need_row).binds (ps := ["thing"]) (fun _ _ _ _ _ _ us hl => match us, hl with | [_], _ => rfl), PySem.W.mg_of X G a_need_row⟩
      c__law_mixed := ⟨fun_mk l__law_mixed e__law_mixed k__law_mixed, (fun_mk (st := s_l_mixed) l__law_mixed e__law_mixed k__law_mixed).binds (ps := ["_law_drawn", "_law_k"]) (fun _ _ _ _ _ _ us hl => match us, hl with | [_, _], _ => rfl), PySem.W.mg_of X G a__law_mixed⟩
      c__law_take := ⟨fun_mk l__law_take e__law_take k__law_take, (fun_mk (st := s_l_take) l__law_take e__law_take k__law_take).binds (ps := ["_law_stream", "_law_many"]) (fun _ _ _ _ _ _ us hl => match us, hl with | [_, _], _ => rfl), PySem.W.mg_of X G a__law_take⟩
      c__law_refusal := ⟨fun_mk l__law_refusal e__law_refusal k__law_refusal, (fun_mk (st := s_l_refusal) l__law_refusal e__law_refusal k__law_refusal).binds (ps := ["_law_e"]) (fun _ _ _ _ _ _ us hl => match us, hl with | [_], _ => rfl), PySem.W.mg_of X G a__law_refusal⟩
      c__law_heard := ⟨fun_mk l__law_heard e__law_heard k__law_heard, (fun_mk (st := s_l_heard) l__law_heard e__law_heard k__law_heard).binds (ps := ["_law_deed"]) (fun _ _ _ _ _ _ us hl => match us, hl with | [_], _ => rfl), PySem.W.mg_of X G a__law_heard⟩
      c__law_odd := ⟨fun_mk l__law_odd e__law_odd k__law_odd, (fun_mk (st := s_l_odd) l__law_odd e__law_odd k__law_odd).binds (ps := ["_law_k"]) (fun _ _ _ _ _ _ us hl => match us, hl with | [_], _ => rfl), PySem.W.mg_of X G a__law_odd⟩
      c__law_whole_right := ⟨fun_mk l__law_whole_right e__law_whole_right k__law_whole_right, (fun_mk (st := s_l_whole_right) l__law_whole_right e__law_whole_right k__law_whole_right).binds (ps := ["_law_item", "_law_low", "_law_high"]) (fun _ _ _ _ _ _ us hl => match us, hl with | [_, _, _], _ => rfl), PySem.W.mg_of X G a__law_whole_right⟩
      cx__law_bits_right := ⟨_, _, _, _, _, _, _, _, rfl, l__law_bits_right, e__law_bits_right⟩
      nt__law_bits_right := nt__law_bits_right
      ht__law_bits_right := ht__law_bits_right
      c__law_bits_right := ⟨fun_mk l__law_bits_right e__law_bits_right k__law_bits_right, (fun_mk (st := s_l_bits_right) l__law_bits_right e__law_bits_right k__law_bits_right).binds (ps := ["_law_item"]) (fun _ _ _ _ _ _ us hl => match us, hl with | [_], _ => rfl), PySem.W.mg_of X G a__law_bits_right⟩
      cx__law_row_right := ⟨_, _, _, _, _, _, _, _, rfl, l__law_row_right, e__law_row_right⟩
      nt__law_row_right := nt__law_row_right
      ht__law_row_right := ht__law_row_right
      c__law_row_right := ⟨fun_mk l__law_row_right e__law_row_right k__law_row_right, (fun_mk (st := s_l_row_right) l__law_row_right e__law_row_right k__law_row_right).binds (ps := ["_law_item"]) (fun _ _ _ _ _ _ us hl => match us, hl with | [_], _ => rfl), PySem.W.mg_of X G a__law_row_right⟩
      c__law_by_hand_right := ⟨fun_mk l__law_by_hand_right e__law_by_hand_right k__law_by_hand_right, (fun_mk (st := s_l_by_hand_right) l__law_by_hand_right e__law_by_hand_right k__law_by_hand_right).binds (ps := []) (fun _ _ _ _ _ _ us hl => match us, hl with | [], _ => rfl), PySem.W.mg_of X G a__law_by_hand_right⟩
      c_law := ⟨fun_mk l_law e_law k_law, (fun_mk (st := s_law) l_law e_law k_law).binds (ps := ["_law_script"]) (fun _ _ _ _ _ _ us hl => match us, hl with | [_], _ => rfl), PySem.W.mg_of X G a_law⟩
      g_MOST_THINGS := ⟨_, PySem.W.mg_of X G g_MOST_THINGS, r_MOST_THINGS⟩
      x_stat := x_stat
      x_any_BadNumber := x_any_BadNumber
      x_i_BadNumber_BadPaper := x_i_BadNumber_BadPaper
      x_i_BadNumber_Flawed := x_i_BadNumber_Flawed
      x_i_BadNumber_BadLine := x_i_BadNumber_BadLine
      x_i_BadNumber_Busy := x_i_BadNumber_Busy
      x_i_BadNumber_Gone := x_i_BadNumber_Gone
      x_i_BadNumber_BadAnswer := x_i_BadNumber_BadAnswer
      x_i_BadNumber_BadKind := x_i_BadNumber_BadKind
      x_i_BadNumber_BadText := x_i_BadNumber_BadText
      x_i_BadNumber_BadNumber := x_i_BadNumber_BadNumber
      x_i_BadNumber_NoSuch := x_i_BadNumber_NoSuch
      x_i_BadNumber_TooMany := x_i_BadNumber_TooMany
      x_i_BadNumber_Stopped := x_i_BadNumber_Stopped
      x_any_BadKind := x_any_BadKind
      x_i_BadKind_BadPaper := x_i_BadKind_BadPaper
      x_i_BadKind_Flawed := x_i_BadKind_Flawed
      x_i_BadKind_BadLine := x_i_BadKind_BadLine
      x_i_BadKind_Busy := x_i_BadKind_Busy
      x_i_BadKind_Gone := x_i_BadKind_Gone
      x_i_BadKind_BadAnswer := x_i_BadKind_BadAnswer
      x_i_BadKind_BadKind := x_i_BadKind_BadKind
      x_i_BadKind_BadText := x_i_BadKind_BadText
      x_i_BadKind_BadNumber := x_i_BadKind_BadNumber
      x_i_BadKind_NoSuch := x_i_BadKind_NoSuch
      x_i_BadKind_TooMany := x_i_BadKind_TooMany
      x_i_BadKind_Stopped := x_i_BadKind_Stopped
      x_any_TooMany := x_any_TooMany
      x_i_TooMany_BadPaper := x_i_TooMany_BadPaper
      x_i_TooMany_Flawed := x_i_TooMany_Flawed
      x_i_TooMany_BadLine := x_i_TooMany_BadLine
      x_i_TooMany_Busy := x_i_TooMany_Busy
      x_i_TooMany_Gone := x_i_TooMany_Gone
      x_i_TooMany_BadAnswer := x_i_TooMany_BadAnswer
      x_i_TooMany_BadKind := x_i_TooMany_BadKind
      x_i_TooMany_BadText := x_i_TooMany_BadText
      x_i_TooMany_BadNumber := x_i_TooMany_BadNumber
      x_i_TooMany_NoSuch := x_i_TooMany_NoSuch
      x_i_TooMany_TooMany := x_i_TooMany_TooMany
      x_i_TooMany_Stopped := x_i_TooMany_Stopped
      n_len := PySem.W.mg_none_of X G z_len
      n_min := PySem.W.mg_none_of X G z_min
      n_all := PySem.W.mg_none_of X G z_all
      n_range := PySem.W.mg_none_of X G z_range
      n_repr := PySem.W.mg_none_of X G z_repr
      n_isinstance := PySem.W.mg_none_of X G z_isinstance
      n_int := PySem.W.mg_none_of X G z_int
      n_bool := PySem.W.mg_none_of X G z_bool
      n_list := PySem.W.mg_none_of X G z_list
      n_IndexError := PySem.W.mg_none_of X G z_IndexError
      n_TypeError := PySem.W.mg_none_of X G z_TypeError
      n_OverflowError := PySem.W.mg_none_of X G z_OverflowError }⟩

/-! the promises -/
def sp_whole (K : PySem.W.Frag) : Sp := fun vs H Q _ => ∃ (x : V) (k : Kn) (l m : Int), vs = [x, .int l, .int m] ∧ Kin K H x k ∧ Q (.bl (isWh x l m)) H
def sp_bits (K : PySem.W.Frag) (C : Addr) : Sp := fun vs H Q E => ∃ x, vs = [x] ∧ ((∃ i : Int, x = .int i ∧ 0 ≤ i ∧ Q (.int (Builtin.Int.intBits i : Nat)) H) ∨
  (∃ k, Kin K H x k ∧ (∀ i, x = .int i → i < 0) ∧ ∀ d, H d = none → E (.ref C) (some d) (upd H d (.xd [("at", x)]))))
def sp_row (K : PySem.W.Frag) (C D : Addr) : Sp := fun vs H Q E => ∃ x, vs = [x] ∧ ((∃ (a : Addr) (xs : List V), x = .ref a ∧ H a = some (.lst xs) ∧ xs.length ≤ 4096 ∧ Q .non H) ∨
  (∃ (a : Addr) (xs : List V), x = .ref a ∧ H a = some (.lst xs) ∧ 4096 < xs.length ∧ ∀ d, H d = none → E (.ref D) (some d) (upd H d (.xd [("most", .int 4096)]))) ∨
  (∃ k, Kin K H x k ∧ k ≠ .list ∧ ∀ d, H d = none → E (.ref C) (some d) (upd H d (.xd [("wanted", .str "list")]))))
section
variable {P : Program} {w : World} {K : PySem.W.Frag} {mg : Str → Option Value} {base : Heap} {A : Ad} {H H0 : Hp} {MM : List Addr} {L L' F : Led} {Q : VK} {E : XK}
local macro_rules | `(tactic| walk_at "rd1") => `(tactic| first
  | with_reducible refine Xc.rd_bi ?_
  | with_reducible refine Xc.rd_put1 ?_
  | with_reducible refine Xc.rd_tmk ?_
  | with_reducible refine Xc.rd_xv ?_)
theorem ok_xBadNumber (T : Txt K mg w A) : FnOk P w K mg base CX0 1 A.f_BadNumber___init__ A.d_BadNumber___init__ ["self", "at"] (Xc.spInit1 A.C_BadNumber "at") := by
  refine T.c_BadNumber___init__.F.ok sc_BadNumber___init__ (fun vs H Q E h => ?_) (fun cdv Ar outer s H vs Q E hr h => ?_)
  · obtain ⟨a, v, rfl, _⟩ := h; rfl
  · obtain ⟨a, v, rfl, ha, k⟩ := h
    refine ⟨_, (pss_cons (ps_expr (Xc.pe_binit T.o_BadNumber rfl T.n_IndexError (by decide +kernel) (by kernel_rfl) (by decide +kernel) (by decide +kernel) T.v_BadNumber (pa_cons (pv 0) (pa_cons (pv 1) pa_nil))))
      (pss_one (Xc.ps_put T.o_BadNumber (pv 0) (pv 1) rfl))), ?_⟩
    walk_at "st"
    walk_at "rd"
    refine ⟨a, _, [v], rfl, by simp, T.o_BadNumber, ha, ?_⟩
    walk_at "rd"
    refine ⟨a, _, rfl, T.o_BadNumber, T.t_BadNumber_at, Or.inl ⟨ha, fun dx n1 n2 => ?_⟩⟩
    exact k dx n1 n2
theorem ok_xBadKind (T : Txt K mg w A) : FnOk P w K mg base CX0 1 A.f_BadKind___init__ A.d_BadKind___init__ ["self", "wanted"] (Xc.spInit1 A.C_BadKind "wanted") := by
  refine T.c_BadKind___init__.F.ok sc_BadKind___init__ (fun vs H Q E h => ?_) (fun cdv Ar outer s H vs Q E hr h => ?_)
  · obtain ⟨a, v, rfl, _⟩ := h; rfl
  · obtain ⟨a, v, rfl, ha, k⟩ := h
    refine ⟨_, (pss_cons (ps_expr (Xc.pe_binit T.o_BadKind rfl T.n_TypeError (by decide +kernel) (by kernel_rfl) (by decide +kernel) (by decide +kernel) T.v_BadKind (pa_cons (pv 0) (pa_cons (pv 1) pa_nil))))
      (pss_one (Xc.ps_put T.o_BadKind (pv 0) (pv 1) rfl))), ?_⟩
    walk_at "st"
    walk_at "rd"
    refine ⟨a, _, [v], rfl, by simp, T.o_BadKind, ha, ?_⟩
    walk_at "rd"
    refine ⟨a, _, rfl, T.o_BadKind, T.t_BadKind_wanted, Or.inl ⟨ha, fun dx n1 n2 => ?_⟩⟩
    exact k dx n1 n2
theorem ok_xTooMany (T : Txt K mg w A) : FnOk P w K mg base CX0 1 A.f_TooMany___init__ A.d_TooMany___init__ ["self", "most"] (Xc.spInit1 A.C_TooMany "most") := by
  refine T.c_TooMany___init__.F.ok sc_TooMany___init__ (fun vs H Q E h => ?_) (fun cdv Ar outer s H vs Q E hr h => ?_)
  · obtain ⟨a, v, rfl, _⟩ := h; rfl
  · obtain ⟨a, v, rfl, ha, k⟩ := h
    refine ⟨_, (pss_cons (ps_expr (Xc.pe_binit T.o_TooMany rfl T.n_OverflowError (by decide +kernel) (by kernel_rfl) (by decide +kernel) (by decide +kernel) T.v_TooMany (pa_cons (pv 0) (pa_cons (pv 1) pa_nil))))
      (pss_one (Xc.ps_put T.o_TooMany (pv 0) (pv 1) rfl))), ?_⟩
    walk_at "st"
    walk_at "rd"
    refine ⟨a, _, [v], rfl, by simp, T.o_TooMany, ha, ?_⟩
    walk_at "rd"
    refine ⟨a, _, rfl, T.o_TooMany, T.t_TooMany_most, Or.inl ⟨ha, fun dx n1 n2 => ?_⟩⟩
    exact k dx n1 n2
theorem ok_is_whole (T : Txt K mg w A) : FnOk P w K mg base CX0 1 A.f_is_whole A.d_is_whole ["thing", "least", "most"] (sp_whole K) := by
  refine T.c_is_whole.F.ok sc_is_whole (fun vs H Q E h => ?_) (fun cdv Ar outer s H vs Q E hr h => ?_)
  · obtain ⟨x, k, l, m, rfl, _⟩ := h; rfl
  · obtain ⟨x, k, l, m, rfl, hk, q⟩ := h
    refine ⟨_, (pss_one (ps_ret (pe_and (pe_callB call_isi (by rfl) T.n_isinstance PyProof.Rows.boot_isinstance (pa_cons (pv 0) (pa_cons (pe_bltn (v := .ty "int") rfl T.n_int PyProof.Rows.boot_int rfl) pa_nil))) (pe_and (pe_not (pe_callB call_isi (by rfl) T.n_isinstance PyProof.Rows.boot_isinstance (pa_cons (pv 0) (pa_cons (pe_bltn (v := .ty "bool") rfl T.n_bool PyProof.Rows.boot_bool rfl) pa_nil)))) (pe_one (pe_chain op_le op_le (pv 1) (pv 0) (pv 2))))))), ?_⟩
    walk_at "st"
    walk_at "rd"
    refine rd_isi hk (kit_int _) ?_
    walk_at "rd"
    cases hk with
    | int i =>
      walk_at "if1"
      refine rd_isi (Kin.int i) (kit_bool _) ?_
      walk_at "rd"
      walk_at "if1"
      rw [isWh_int] at q
      refine rd_dec ?_ ?_ <;> intro h1
      · walk_at "rd"
        rw [decide_eq_true h1, Bool.true_and] at q
        exact q
      · rw [decide_eq_false h1, Bool.false_and] at q
        exact q
    | bl b =>
      walk_at "if1"
      refine rd_isi (Kin.bl b) (kit_bool _) ?_
      walk_at "rd"
      exact q
    | str x => exact q
    | non => exact q
    | ref h n => rcases n with rfl | rfl | rfl <;> exact q
theorem ok_bits (T : Txt K mg w A) : FnOk P w K mg base (L2.CX P w) 3 A.f_bits A.d_bits ["number"] (sp_bits K A.C_BadNumber) := by
  have G_BadNumber : FnOk P w K mg base CX0 1 A.f_BadNumber___init__ A.d_BadNumber___init__ ["self", "at"] (Xc.spInit1 A.C_BadNumber "at") := ok_xBadNumber T
  refine T.c_bits.F.okX sc_bits (fun vs H Q E h => ?_) (fun cdv Ar outer s H vs Q E hr h => ?_)
  · obtain ⟨x, rfl, _⟩ := h; rfl
  · obtain ⟨x, rfl, h⟩ := h
    refine ⟨_, (pss_cons (ps_if (PW.pt (pw_or (pt_not (pt_val (pe_callB call_isi (by rfl) T.n_isinstance PyProof.Rows.boot_isinstance (pa_cons (pv 0) (pa_cons (pe_bltn (v := .ty "int") rfl T.n_int PyProof.Rows.boot_int rfl) pa_nil))))) (pw_or (pt_val (pe_callB call_isi (by rfl) T.n_isinstance PyProof.Rows.boot_isinstance (pa_cons (pv 0) (pa_cons (pe_bltn (v := .ty "bool") rfl T.n_bool PyProof.Rows.boot_bool rfl) pa_nil)))) (pw_or1 (pt_cmpR op_lt (pv 0) pe_int (nomark _))))))
        (pss_one (ps_raise rfl (takes_of rfl rfl rfl rfl) (Xc.pmk_own T.o_BadNumber T.i_BadNumber T.y_BadNumber G_BadNumber (hr.mono (by decide)) T.c_BadNumber___init__.b .nil pass0 rfl T.m_BadNumber (pa_cons (pv 0) pa_nil))))
        pss_nil)
      (pss_one (ps_ret (pe_bits (pv 0))))), ?_⟩
    walk_at "st"
    walk_at "rd"
    rcases h with ⟨i, rfl, hi, q⟩ | ⟨kd, hk, hb, k⟩
    · refine rd_isi (Kin.int i) (kit_int _) ?_
      walk_at "rd"
      walk_at "if0"
      refine rd_isi (Kin.int i) (kit_bool _) ?_
      walk_at "rd"
      walk_at "if0"
      refine rd_decF (by omega) ?_
      walk_at "rd"
      exact q
    · refine rd_isi hk (kit_int _) ?_
      walk_at "rd"
      cases hk with
      | int i =>
        walk_at "if0"
        refine rd_isi (Kin.int i) (kit_bool _) ?_
        walk_at "rd"
        walk_at "if0"
        refine rd_decT (hb i rfl) ?_
        walk_at "rd"
        exact Xc.rd_mk1 k
      | bl b =>
        walk_at "if0"
        refine rd_isi (Kin.bl b) (kit_bool _) ?_
        walk_at "rd"
        walk_at "if1"
        exact Xc.rd_mk1 k
      | str x => (walk_at "if1"; exact Xc.rd_mk1 k)
      | non => (walk_at "if1"; exact Xc.rd_mk1 k)
      | ref h n => rcases n with rfl | rfl | rfl <;> (walk_at "if1"; exact Xc.rd_mk1 k)
theorem ok_need_row (T : Txt K mg w A) : FnOk P w K mg base (L2.CX P w) 3 A.f_need_row A.d_need_row ["thing"] (sp_row K A.C_BadKind A.C_TooMany) := by
  have G_BadKind : FnOk P w K mg base CX0 1 A.f_BadKind___init__ A.d_BadKind___init__ ["self", "wanted"] (Xc.spInit1 A.C_BadKind "wanted") := ok_xBadKind T
  have G_TooMany : FnOk P w K mg base CX0 1 A.f_TooMany___init__ A.d_TooMany___init__ ["self", "most"] (Xc.spInit1 A.C_TooMany "most") := ok_xTooMany T
  refine T.c_need_row.F.okX sc_need_row (fun vs H Q E h => ?_) (fun cdv Ar outer s H vs Q E hr h => ?_)
  · obtain ⟨x, rfl, _⟩ := h; rfl
  · obtain ⟨x, rfl, h⟩ := h
    refine ⟨_, (pss_cons (ps_if (pt_not (pt_val (pe_callB call_isi (by rfl) T.n_isinstance PyProof.Rows.boot_isinstance (pa_cons (pv 0) (pa_cons (pe_bltn (v := .ty "list") rfl T.n_list PyProof.Rows.boot_list rfl) pa_nil)))))
        (pss_one (ps_raise rfl (takes_of rfl rfl rfl rfl) (Xc.pmk_own T.o_BadKind T.i_BadKind T.y_BadKind G_BadKind (hr.mono (by decide)) T.c_BadKind___init__.b .nil pass0 rfl T.m_BadKind (pa_cons pe_str pa_nil))))
        pss_nil)
      (pss_one (ps_if (pt_cmpR op_gt (pe_callB call_len_seq (by rfl) T.n_len PySem.boot_len (pa_cons (pv 0) pa_nil)) (pe_gl rfl T.g_MOST_THINGS) (nomark _))
        (pss_one (ps_raise rfl (takes_of rfl rfl rfl rfl) (Xc.pmk_own T.o_TooMany T.i_TooMany T.y_TooMany G_TooMany (hr.mono (by decide)) T.c_TooMany___init__.b .nil pass0 rfl T.m_TooMany (pa_cons (pe_gl rfl T.g_MOST_THINGS) pa_nil))))
        pss_nil))), ?_⟩
    walk_at "st"
    walk_at "rd"
    rcases h with ⟨a, xs, rfl, ha, hl, q⟩ | ⟨a, xs, rfl, ha, hl, k⟩ | ⟨kd, hk, hb, k⟩
    · have S := Hs.start1 ha [] (.inl rfl)
      refine rd_isi (Kin.lst ha) (kit_list _) ?_
      walk_at "rd"
      walk_at "if0"
      refine rd_decF (by omega) ?_
      walk_at "rd"
      exact q
    · have S := Hs.start1 ha [] (.inl rfl)
      refine rd_isi (Kin.lst ha) (kit_list _) ?_
      walk_at "rd"
      walk_at "if0"
      refine rd_decT (by omega) ?_
      walk_at "rd"
      exact Xc.rd_mk1 k
    · refine rd_isi hk (kit_list _) ?_
      rw [show (kd == .list) = false from beq_eq_false_iff_ne.mpr hb]
      walk_at "rd"
      walk_at "if1"
      exact Xc.rd_mk1 k
end
end K01

namespace K01
open PySem L2 Rs
/-! the draws -/
abbrev stm (b : Addr) (l k m : Int) : HO := .lst [.ref b, .int l, .int k, .int m]
def R_mixed : SepM := fun vs Ch L post => ∃ c k : Int, vs = [.int c, .int k] ∧ L = [] ∧ Ch = [] ∧ 0 ≤ k ∧ k < 2 ^ 16 ∧ post = fun v N L' => ∃ r : Int, v = .int r ∧ 0 ≤ r ∧ r < 2147483629 ∧ N = [] ∧ L' = []
def R_take : SepM := fun vs Ch L post => ∃ (a b : Addr) (l k m n : Int) (ns : List Int), vs = [.ref a, .int n] ∧ L = [(a, stm b l k m), (b, .lst (ns.map V.int))] ∧ Ch = [a, b] ∧ 1 ≤ n ∧ n < 2 ^ 40 ∧ 0 ≤ k ∧ k < 2 ^ 15 ∧
  post = fun v N L' => ∃ (r l' m' : Int) (ns' : List Int), v = .int r ∧ 0 ≤ r ∧ r < n ∧ N = [] ∧ L' = [(a, stm b l' (k + 1) m'), (b, .lst (ns'.map V.int))]
section
variable {P : Program} {w : World} {K : PySem.W.Frag} {mg : Str → Option Value} {base : Heap} {A : Ad} {H H0 : Hp} {MM : List Addr} {L L' F : Led} {Q : VK} {E : XK}
theorem ok_mixed (T : Txt K mg w A) : FnOk P w K mg base CX0 1 A.f__law_mixed A.d__law_mixed ["_law_drawn", "_law_k"] (SepN R_mixed) := by
  refine T.c__law_mixed.F.ok sc_l_mixed (fun vs H Q E h => ?_) (fun cdv Ar outer s H vs Q E hr h => ?_)
  · obtain ⟨_, _, _, ⟨_, _, rfl, _⟩, _⟩ := h; rfl
  · obtain ⟨Ch, L, post, ⟨c, kk, rfl, rfl, rfl, hk0, hk1, rfl⟩, nd, is, hc, k⟩ := h
    refine ⟨_, (pss_cons (ps_set (i := 0) sc_l_mixed.nd rfl (Or.inl rfl) (pe_op op_mod (pe_op op_pow (pe_op op_add (pe_op op_add (pe_op op_add (pe_op op_mod (pv 0) pe_int) (pe_op op_mul (pe_op op_mul pe_int (pv 1)) (pv 1))) (pe_op op_mul pe_int (pv 1))) pe_int) pe_int) pe_int))
      (pss_one (ps_ret (pe_op op_fdivW (pe_op op_mod (pe_op op_mul (pv 0) (pe_op op_add pe_int (pe_op op_mul pe_int (pv 1)))) pe_int) pe_int)))), ?_⟩
    have S := Sep.led nd is hc
    have q1 : 0 ≤ 7919 * kk * kk := Int.mul_nonneg (by omega) hk0
    have q2 : 7919 * kk * kk ≤ 7919 * 2 ^ 16 * 2 ^ 16 := Int.mul_le_mul (by omega) (by omega) hk0 (by omega)
    walk_at "st"
    walk_at "rd"
    exact k _ _ [] [] ⟨_, rfl, by omega, by omega, rfl, rfl⟩ (Hs.sub (by assumption) (List.nil_sublist _)) (fun q h => nomatch h) (fun q h => nomatch h)
theorem use_mixed {c kk : Int} (S : Hs H0 MM H L) (h0 : 0 ≤ kk) (h1 : kk < 2 ^ 16) (h : ∀ (r : Int) (H' : Hp), Hs H0 MM H' L → 0 ≤ r → r < 2147483629 → Q (.int r) H') : SepN R_mixed [.int c, .int kk] H Q E :=
  sepn_use (F := L) S ⟨c, kk, rfl, rfl, rfl, h0, h1, rfl⟩ (fun _ => Nat.le_refl _) (fun c hc => nomatch hc) fun v H' N L' ⟨r, e1, b0, b1, e2, e3⟩ _ S' => by subst e1 e2 e3; exact h r H' S' b0 b1
local macro_rules | `(tactic| walk_at "rd1") => `(tactic| ((with_reducible refine' use_mixed (by assumption) ?a ?b ?_); (case a => omega); (case b => omega); intro r H S h0 h1))
theorem set1 {a b : Addr} {l k m z : Int} {N : Hp → Prop} (S : Hs H0 MM H L) (c : Chg a (stm b l k m) (stm b z k m) L L') (hm : H0 a = none ∨ a ∈ MM) (h : ∀ H', Hs H0 MM H' L' → N H') : rSetL (.ref a) (.int 1) (.int z) H N := gt_setL (j := 1) S c hm rfl h
theorem set2 {a b : Addr} {l k m z : Int} {N : Hp → Prop} (S : Hs H0 MM H L) (c : Chg a (stm b l k m) (stm b l z m) L L') (hm : H0 a = none ∨ a ∈ MM) (h : ∀ H', Hs H0 MM H' L' → N H') : rSetL (.ref a) (.int 2) (.int z) H N := gt_setL (j := 2) S c hm rfl h
theorem set3 {a b : Addr} {l k m z : Int} {N : Hp → Prop} (S : Hs H0 MM H L) (c : Chg a (stm b l k m) (stm b l k z) L L') (hm : H0 a = none ∨ a ∈ MM) (h : ∀ H', Hs H0 MM H' L' → N H') : rSetL (.ref a) (.int 3) (.int z) H N := gt_setL (j := 3) S c hm rfl h
local macro_rules | `(tactic| walk_at "rd1") => `(tactic| first
  | ((with_reducible refine' set1 (by assumption) ?c ?o ?_); (case c => (walk_at "chg"; done)); (case o => walk_at "own"); intro H S)
  | ((with_reducible refine' set2 (by assumption) ?c ?o ?_); (case c => (walk_at "chg"; done)); (case o => walk_at "own"); intro H S)
  | ((with_reducible refine' set3 (by assumption) ?c ?o ?_); (case c => (walk_at "chg"; done)); (case o => walk_at "own"); intro H S))
theorem ok_take (T : Txt K mg w A) : FnOk P w K mg base CX0 2 A.f__law_take A.d__law_take ["_law_stream", "_law_many"] (SepN R_take) := by
  have G__law_mixed : FnOk P w K mg base CX0 1 A.f__law_mixed A.d__law_mixed ["_law_drawn", "_law_k"] (SepN R_mixed) := ok_mixed T
  refine T.c__law_take.F.ok sc_l_take (fun vs H Q E h => ?_) (fun cdv Ar outer s H vs Q E hr h => ?_)
  · obtain ⟨_, _, _, ⟨_, _, _, _, _, _, _, rfl, _⟩, _⟩ := h; rfl
  · obtain ⟨Ch, L, post, ⟨a, b, l, kk, m, n, ns, rfl, rfl, rfl, hn1, hn2, hk1, hk2, rfl⟩, nd, is, hc, k⟩ := h
    refine ⟨_, (pss_cons (ps_asg (pe_op op_add (pe_ix ix_list (pv 0) pe_int (fun _ _ => rfl)) pe_int) (pg_sub (pv 0) pe_int set_list))
      (pss_cons (ps_if (PW.pt (pw_and (pt_cmpR op_lt (pe_ix ix_list (pv 0) pe_int (fun _ _ => rfl)) pe_int (nomark _)) (pw_and1 (pt_cmpR (op_neD hr.units) (pe_ix ix_list (pv 0) pe_int (fun _ _ => rfl)) (pe_lst pa_nil) (nomark _)))))
        (pss_cons (ps_set (i := 2) sc_l_take.nd rfl (Or.inl rfl) (pe_bm PySem.F.plainAttrs_list PySem.F.slot_list_pop PySem.F.type_list_pop mt_popAt (pe_ix ix_list (pv 0) pe_int (fun _ _ => rfl)) (pa_cons pe_int pa_nil)))
        (pss_cons (ps_asg (pe_ifExp (pt_cmpR op_ge (pv 2) (pe_op op_pow pe_int pe_int) (nomark _)) (pv 2) pe_int) (pg_sub (pv 0) pe_int set_list))
        (pss_one (ps_asg (pe_call G__law_mixed (hr.mono (by decide)) rfl T.c__law_mixed.m T.c__law_mixed.F.kp T.c__law_mixed.b .nil pass0 (pa_cons (pe_op op_add (pe_ix ix_list (pv 0) pe_int (fun _ _ => rfl)) (pv 2)) (pa_cons (pe_ix ix_list (pv 0) pe_int (fun _ _ => rfl)) pa_nil))) (pg_sub (pv 0) pe_int set_list)))))
        pss_nil)
      (pss_cons (ps_if (pt_cmpR op_gt (pe_ix ix_list (pv 0) pe_int (fun _ _ => rfl)) pe_int (nomark _))
        (pss_cons (ps_set (i := 3) sc_l_take.nd rfl (Or.inl rfl) (pe_op op_mod (pe_ix ix_list (pv 0) pe_int (fun _ _ => rfl)) (pv 1)))
        (pss_cons (ps_asg (pe_op op_fdivW (pe_ix ix_list (pv 0) pe_int (fun _ _ => rfl)) (pv 1)) (pg_sub (pv 0) pe_int set_list))
        (pss_one (ps_ret (pv 3)))))
        pss_nil)
      (pss_one (ps_ret (pe_op op_mod (pe_op op_fdivW (pe_call G__law_mixed (hr.mono (by decide)) rfl T.c__law_mixed.m T.c__law_mixed.F.kp T.c__law_mixed.b .nil pass0 (pa_cons (pe_op op_add (pe_ix ix_list (pv 0) pe_int (fun _ _ => rfl)) (pe_op op_mul pe_int (pe_ix ix_list (pv 0) pe_int (fun _ _ => rfl)))) (pa_cons (pe_ix ix_list (pv 0) pe_int (fun _ _ => rfl)) pa_nil))) pe_int) (pv 1))))))), ?_⟩
    have S := Sep.led nd is hc
    have k2 : ∀ (r l' m' : Int) (ns' : List Int) (H' : Hp) (F : Led), Hs H [a, b] H' ((a, stm b l' (kk + 1) m') :: (b, .lst (ns'.map V.int)) :: F) → 0 ≤ r → r < n → Q (.int r) H' := fun r l' m' ns' H' F S h0 h1 =>
      k _ _ [] [_, _] ⟨r, l', m', ns', rfl, h0, h1, rfl, rfl⟩ (S.re (L' := [(a, stm b l' (kk + 1) m'), (b, .lst (ns'.map V.int))]) (by walk_at "led")) (by simp) (fun q h => nomatch h)
    clear k
    walk_at "st"
    walk_at "rd"
    rename_i H1 S1
    clear S
    refine rd_dec ?_ ?_ <;> intro hl
    · walk_at "rd"
      rename_i p H2 hp S2
      refine rd_neIs (xs := ns.map V.int) (ys := []) (ns := ns) (ms := []) S2 (by walk_at "mem") (by walk_at "mem") rfl rfl ?_
      have S3 : Hs H [a, b] H2 [(a, stm b l (kk + 1) m), (b, .lst (ns.map V.int))] := S2.sub (by walk_at "sub")
      clear S1 S2
      walk_at "rd"
      cases ns with
      | nil =>
        refine rd_decF (by simp) ?_
        walk_at "rd"
        refine rd_decF (by omega) ?_
        walk_at "rd"
        exact k2 _ l m [] _ [] (by assumption) (by assumption) (by assumption)
      | cons z ns =>
        refine rd_decT (by simp) ?_
        walk_at "rd"
        refine rd_popAt (i := 0) (xs := (z :: ns).map V.int) (xs' := ns.map V.int) (y := .int z) S3 (by walk_at "chg") (by walk_at "own") rfl (by decide) rfl fun H4 S4 => ?_
        clear S3
        walk_at "rd"
        refine rd_dec ?_ ?_ <;> intro hz
        · walk_at "rd"
          refine rd_decT (by have : (10 : Int) ^ (18 : Int).toNat = 1000000000000000000 := by decide
                             omega) ?_
          walk_at "rd"
          exact k2 _ _ _ ns _ [] (by assumption) (by assumption) (by assumption)
        · walk_at "rd"
          refine rd_decF (by omega) ?_
          walk_at "rd"
          exact k2 _ _ _ ns _ [] (by assumption) (by assumption) (by assumption)
    · walk_at "rd"
      refine rd_decT (by omega) ?_
      walk_at "rd"
      exact k2 _ _ _ _ _ [] (by assumption) (by assumption) (by assumption)
theorem use_take {a b : Addr} {l k m n : Int} {ns : List Int} (S : Hs H0 MM H L) (pm : ∀ x, cn x ([(a, stm b l k m), (b, HO.lst (ns.map V.int))] ++ F) ≤ cn x L) (own : H0 a = none ∨ a ∈ MM) (own2 : H0 b = none ∨ b ∈ MM) (h1 : 1 ≤ n) (h2 : n < 2 ^ 40) (h3 : 0 ≤ k) (h4 : k < 2 ^ 15)
    (h : ∀ (r l' m' : Int) (ns' : List Int) (H' : Hp), Hs H0 MM H' ((a, stm b l' (k + 1) m') :: (b, .lst (ns'.map V.int)) :: F) → 0 ≤ r → r < n → Q (.int r) H') : SepN R_take [.ref a, .int n] H Q E :=
  sepn_use S ⟨a, b, l, k, m, n, ns, rfl, rfl, rfl, h1, h2, h3, h4, rfl⟩ pm (fun c hc => by
    simp only [List.mem_cons, List.not_mem_nil, or_false] at hc
    rcases hc with rfl | rfl
    · exact ⟨by simp, own⟩
    · exact ⟨by simp, own2⟩) fun v H' N L' ⟨r, l', m', ns', e1, b0, b1, e2, e3⟩ _ S' => by subst e1 e2 e3; exact h r l' m' ns' H' S' b0 b1
end
end K01

namespace K01
open PySem L2 Rs
/-! things of other kinds -/
def plO : List V := [.non, .bl true, .bl false, .str "1", .str "", .str "MOST", .str "list"]
def obO : List HO := [.lst [.int 1], .tup [.int 1], .dK [], .dK [(.inl 1, .int 2)], .lst [], .tup [], .lst [.str "list"]]
inductive Odd (H : Hp) : V → Prop where
  | pl {x : V} (h : x ∈ plO) : Odd H x
  | rf {a : Addr} {o : HO} (h : H a = some o) (m : o ∈ obO) : Odd H (.ref a)
theorem obO_tbl {o : HO} (h : o ∈ obO) : ∀ ps, o ≠ .tbl ps := by
  simp only [obO, List.mem_cons, List.not_mem_nil, or_false] at h
  rcases h with rfl | rfl | rfl | rfl | rfl | rfl | rfl <;> (intro ps z; cases z)
theorem Odd.ext {H H' : Hp} {x : V} (h : Odd H x) (k : LamX.ExtN H H') : Odd H' x := by
  cases h with
  | pl h => exact .pl h
  | rf h m => exact .rf (k _ _ h (obO_tbl m)) m
theorem Odd.kin {H : Hp} {x : V} (K : PySem.W.Frag) (h : Odd H x) : ∃ k, (∀ H', LamX.ExtN H H' → Kin K H' x k) ∧ k ≠ .int ∧ (∀ i, x ≠ .int i) ∧ (k = .list → ∃ (a : Addr) (xs : List V), x = .ref a ∧ H a = some (.lst xs) ∧ xs.length ≤ 1) := by
  cases h with
  | pl h =>
    simp only [plO, List.mem_cons, List.not_mem_nil, or_false] at h
    rcases h with rfl | rfl | rfl | rfl | rfl | rfl | rfl
    · exact ⟨_, fun _ _ => .non, by decide, by simp, by simp⟩
    · exact ⟨_, fun _ _ => .bl _, by decide, by simp, by simp⟩
    · exact ⟨_, fun _ _ => .bl _, by decide, by simp, by simp⟩
    · exact ⟨_, fun _ _ => .str _, by decide, by simp, by simp⟩
    · exact ⟨_, fun _ _ => .str _, by decide, by simp, by simp⟩
    · exact ⟨_, fun _ _ => .str _, by decide, by simp, by simp⟩
    · exact ⟨_, fun _ _ => .str _, by decide, by simp, by simp⟩
  | rf h m =>
    have kt := obO_tbl m
    simp only [obO, List.mem_cons, List.not_mem_nil, or_false] at m
    rcases m with rfl | rfl | rfl | rfl | rfl | rfl | rfl
    · exact ⟨_, fun _ e => .lst (e _ _ h kt), by decide, by simp, fun _ => ⟨_, _, rfl, h, by simp⟩⟩
    · exact ⟨_, fun _ e => .tup (e _ _ h kt), by decide, by simp, by simp⟩
    · exact ⟨_, fun _ e => .dK (e _ _ h kt), by decide, by simp, by simp⟩
    · exact ⟨_, fun _ e => .dK (e _ _ h kt), by decide, by simp, by simp⟩
    · exact ⟨_, fun _ e => .lst (e _ _ h kt), by decide, by simp, fun _ => ⟨_, _, rfl, h, by simp⟩⟩
    · exact ⟨_, fun _ e => .tup (e _ _ h kt), by decide, by simp, by simp⟩
    · exact ⟨_, fun _ e => .lst (e _ _ h kt), by decide, by simp, fun _ => ⟨_, _, rfl, h, by simp⟩⟩
/-- what can be shown beside a word -/
def Sh (K : PySem.W.Frag) (H : Hp) (x : V) (d : PyData) : Prop := (PyData.tuple [.str "number", d]).shown.length ≤ sizeLine ∧ d.depth ≤ 30 ∧ ∀ H', LamX.ExtN H H' → Xc.Tz K H' x d
theorem Odd.tz {H : Hp} {x : V} (K : PySem.W.Frag) (h : Odd H x) : ∃ d, Sh K H x d := by
  cases h with
  | pl h =>
    simp only [plO, List.mem_cons, List.not_mem_nil, or_false] at h
    rcases h with rfl | rfl | rfl | rfl | rfl | rfl | rfl
    · exact ⟨.none, by rw [sizeLine_eq]; decide +kernel, by decide +kernel, fun H' _ => .dp .non (by decide +kernel)⟩
    · exact ⟨.bool true, by rw [sizeLine_eq]; decide +kernel, by decide +kernel, fun H' _ => .dp (.bl _) (by decide +kernel)⟩
    · exact ⟨.bool false, by rw [sizeLine_eq]; decide +kernel, by decide +kernel, fun H' _ => .dp (.bl _) (by decide +kernel)⟩
    · exact ⟨.str "1", by rw [sizeLine_eq]; decide +kernel, by decide +kernel, fun H' _ => .dp (.str _) (by decide +kernel)⟩
    · exact ⟨.str "", by rw [sizeLine_eq]; decide +kernel, by decide +kernel, fun H' _ => .dp (.str _) (by decide +kernel)⟩
    · exact ⟨.str "MOST", by rw [sizeLine_eq]; decide +kernel, by decide +kernel, fun H' _ => .dp (.str _) (by decide +kernel)⟩
    · exact ⟨.str "list", by rw [sizeLine_eq]; decide +kernel, by decide +kernel, fun H' _ => .dp (.str _) (by decide +kernel)⟩
  | rf h m =>
    have kt := obO_tbl m
    simp only [obO, List.mem_cons, List.not_mem_nil, or_false] at m
    rcases m with rfl | rfl | rfl | rfl | rfl | rfl | rfl
    · exact ⟨.list [.int 1], by rw [sizeLine_eq]; decide +kernel, by decide +kernel, fun H' k => .dp (.lst (SqL.of (k _ _ h kt)) (.cons (.int 1) .nil)) (by decide +kernel)⟩
    · exact ⟨.tuple [.int 1], by rw [sizeLine_eq]; decide +kernel, by decide +kernel, fun H' k => .dp (.tup (SqT.of (k _ _ h kt)) (.cons (.int 1) .nil)) (by decide +kernel)⟩
    · exact ⟨.dict [], by rw [sizeLine_eq]; decide +kernel, by decide +kernel, fun H' k => .dk (k _ _ h kt) .nil (by decide +kernel)⟩
    · exact ⟨.dict [(.int 1, .int 2)], by rw [sizeLine_eq]; decide +kernel, by decide +kernel, fun H' k => .dk (k _ _ h kt) (.cons rfl .nil) (by decide +kernel)⟩
    · exact ⟨.list [], by rw [sizeLine_eq]; decide +kernel, by decide +kernel, fun H' k => .dp (.lst (SqL.of (k _ _ h kt)) .nil) (by decide +kernel)⟩
    · exact ⟨.tuple [], by rw [sizeLine_eq]; decide +kernel, by decide +kernel, fun H' k => .dp (.tup (SqT.of (k _ _ h kt)) .nil) (by decide +kernel)⟩
    · exact ⟨.list [.str "list"], by rw [sizeLine_eq]; decide +kernel, by decide +kernel, fun H' k => .dp (.lst (SqL.of (k _ _ h kt)) (.cons (.str "list") .nil)) (by decide +kernel)⟩
theorem int_sh {H : Hp} (K : PySem.W.Frag) {i : Int} (f : Xc.Fig i) : Sh K H (.int i) (.int i) := by
  refine ⟨?_, by simp [PyData.depth], fun H' _ => .big f⟩
  have e := int_text_length_le10 (k := 4300) (by decide) f.a
  have e1 : (Str.ofString (toString i)).length ≤ 4301 := by rw [ofString_length]; exact e
  have e2 : (reprText "number").length = 8 := by decide +kernel
  show ((("(" : Str) ++ (reprText "number" ++ ", " ++ Str.ofString (toString i))) ++ (")" : Str)).length ≤ sizeLine
  rw [sizeLine_eq, strLen_append, strLen_append, strLen_append, strLen_append, e2]
  have e3 : (", " : Str).length = 2 := by decide +kernel
  have e4 : ("(" : Str).length = 1 := by decide +kernel
  have e5 : (")" : Str).length = 1 := by decide +kernel
  rw [e3, e4, e5]
  omega
def OddE (v : V) (OL : Led) : Prop := (v ∈ plO ∧ OL = []) ∨ ∃ p o, v = .ref p ∧ o ∈ obO ∧ OL = [(p, o)]
def OddN (H H' : Hp) (v : V) (OL : Led) : Prop := OddE v OL ∧ ∀ q ∈ OL, H q.1 = none ∧ H' q.1 = some q.2
def sp_odd : Sp := fun vs H Q _ => ∃ k : Int, vs = [.int k] ∧ 0 ≤ k ∧ k < 13 ∧ ∀ v H' OL, Same H H' → OddN H H' v OL → Q v H'
section
variable {P : Program} {w : World} {K : PySem.W.Frag} {mg : Str → Option Value} {base : Heap} {A : Ad} {H H0 : Hp} {MM : List Addr} {L L' F : Led} {Q : VK} {E : XK}
theorem ok_odd (T : Txt K mg w A) : FnOk P w K mg base CX0 1 A.f__law_odd A.d__law_odd ["_law_k"] sp_odd := by
  refine T.c__law_odd.F.ok sc_l_odd (fun vs H Q E h => ?_) (fun cdv Ar outer s H vs Q E hr h => ?_)
  · obtain ⟨_, rfl, _⟩ := h; rfl
  · obtain ⟨kk, rfl, h0, h1, k⟩ := h
    refine ⟨_, (pss_one (ps_ret (pe_ix ix_list (pe_lst (pa_cons pe_non (pa_cons pe_bl (pa_cons pe_bl (pa_cons pe_str (pa_cons pe_str (pa_cons (pe_lst (pa_cons pe_int pa_nil)) (pa_cons (pe_tup (pa_cons pe_int pa_nil)) (pa_cons pe_dnewK (pa_cons (pe_disp (pps_cons pe_int pe_int pps_nil) (by rfl) (by rfl) (fun z => by cases z) (by decide)) (pa_cons (pe_lst pa_nil) (pa_cons pe_str (pa_cons (pe_tup pa_nil) (pa_cons (pe_lst (pa_cons pe_str pa_nil)) pa_nil)))))))))))))) (pv 0) (fun _ _ => rfl)))), ?_⟩
    have S := Hs.start0 H
    walk_at "st"
    walk_at "rd"
    rename_i u1 G1 hu1 S1 u2 G2 hu2 S2
    intro u3 hu3
    obtain ⟨hu30, S3⟩ := S2.newAt (o := .dK []) hu3
    clear S S1 S2
    walk_at "rd"
    rename_i u4 G4 hu4 S4 G4b S4b u5 G5 hu5 S5 u6 G6 hu6 S6 u7 G7 hu7 S7 u8 G8 hu8 S8
    rw [show mergeK [] (toK [(V.int 1, V.int 2)]) = [(.inl 1, .int 2)] from rfl] at S8
    refine rd_ixAny S8 (by walk_at "mem") h0 (by show kk < 13; omega) fun v hv _ => ?_
    simp only [List.mem_cons, List.not_mem_nil, or_false] at hv
    have r1 := S8.is (u1, HO.lst [.int 1]) (by walk_at "mem")
    have r2 := S8.is (u2, HO.tup [.int 1]) (by walk_at "mem")
    have r3 := S8.is (u3, HO.dK []) (by walk_at "mem")
    have r4 := S8.is (u4, HO.dK [(.inl 1, .int 2)]) (by walk_at "mem")
    have r5 := S8.is (u5, HO.lst []) (by walk_at "mem")
    have r6 := S8.is (u6, HO.tup []) (by walk_at "mem")
    have r7 := S8.is (u7, HO.lst [.str "list"]) (by walk_at "mem")
    rcases hv with rfl | rfl | rfl | rfl | rfl | rfl | rfl | rfl | rfl | rfl | rfl | rfl | rfl
    · exact k _ _ [] S8.same ⟨.inl ⟨by simp [plO], rfl⟩, fun q hq => nomatch hq⟩
    · exact k _ _ [] S8.same ⟨.inl ⟨by simp [plO], rfl⟩, fun q hq => nomatch hq⟩
    · exact k _ _ [] S8.same ⟨.inl ⟨by simp [plO], rfl⟩, fun q hq => nomatch hq⟩
    · exact k _ _ [] S8.same ⟨.inl ⟨by simp [plO], rfl⟩, fun q hq => nomatch hq⟩
    · exact k _ _ [] S8.same ⟨.inl ⟨by simp [plO], rfl⟩, fun q hq => nomatch hq⟩
    · exact k _ _ [(u1, .lst [.int 1])] S8.same ⟨.inr ⟨u1, .lst [.int 1], rfl, by simp [obO], rfl⟩, fun q hq => by
        rw [List.mem_singleton.mp hq]; exact ⟨hu1, r1⟩⟩
    · exact k _ _ [(u2, .tup [.int 1])] S8.same ⟨.inr ⟨u2, .tup [.int 1], rfl, by simp [obO], rfl⟩, fun q hq => by
        rw [List.mem_singleton.mp hq]; exact ⟨hu2, r2⟩⟩
    · exact k _ _ [(u3, .dK [])] S8.same ⟨.inr ⟨u3, .dK [], rfl, by simp [obO], rfl⟩, fun q hq => by
        rw [List.mem_singleton.mp hq]; exact ⟨hu30, r3⟩⟩
    · exact k _ _ [(u4, .dK [(.inl 1, .int 2)])] S8.same ⟨.inr ⟨u4, .dK [(.inl 1, .int 2)], rfl, by simp [obO], rfl⟩, fun q hq => by
        rw [List.mem_singleton.mp hq]; exact ⟨hu4, r4⟩⟩
    · exact k _ _ [(u5, .lst [])] S8.same ⟨.inr ⟨u5, .lst [], rfl, by simp [obO], rfl⟩, fun q hq => by
        rw [List.mem_singleton.mp hq]; exact ⟨hu5, r5⟩⟩
    · exact k _ _ [] S8.same ⟨.inl ⟨by simp [plO], rfl⟩, fun q hq => nomatch hq⟩
    · exact k _ _ [(u6, .tup [])] S8.same ⟨.inr ⟨u6, .tup [], rfl, by simp [obO], rfl⟩, fun q hq => by
        rw [List.mem_singleton.mp hq]; exact ⟨hu6, r6⟩⟩
    · exact k _ _ [(u7, .lst [.str "list"])] S8.same ⟨.inr ⟨u7, .lst [.str "list"], rfl, by simp [obO], rfl⟩, fun q hq => by
        rw [List.mem_singleton.mp hq]; exact ⟨hu7, r7⟩⟩
end
end K01
namespace K01
open PySem L2 Rs
section
variable {P : Program} {w : World} {K : PySem.W.Frag} {mg : Str → Option Value} {base : Heap} {A : Ad} {H H0 : Hp} {MM : List Addr} {L L' F : Led} {Q : VK} {E : XK}
/-- a row of truths shown -/
theorem dps_bools {H : Hp} : ∀ bs : List Bool, DpAll K H (bs.map V.bl) (bs.map .bool)
  | [] => .nil
  | b :: bs => .cons (.bl b) (dps_bools bs)
theorem tames_bools : ∀ bs : List Bool, tames (bs.map .bool) = true
  | [] => rfl
  | b :: bs => by simp only [List.map_cons, tames, tame, tames_bools bs, Bool.and_self]
theorem cnts_bools : ∀ bs : List Bool, cnts (bs.map .bool) = bs.length
  | [] => rfl
  | b :: bs => by simp only [List.map_cons, cnts, cnt, cnts_bools bs, List.length_cons]; omega
theorem depth_bools : ∀ bs : List Bool, PyData.depthAll (bs.map .bool) = 0
  | [] => by simp [PyData.depthAll]
  | b :: bs => by simp [PyData.depthAll, PyData.depth, depth_bools bs]
theorem rd_reprB {a : Addr} {xs : List V} {bs : List Bool} (S : Hs H0 MM H L) (m : (a, HO.lst xs) ∈ L) (e : xs = bs.map V.bl) (hl : bs.length ≤ 10000) (h : Q (.str (PyData.list (bs.map .bool)).shown) H) : rRepr K [.ref a] H Q := by
  subst e
  exact ⟨.ref a, .list (bs.map .bool), rfl, .lst (S.lst m) (dps_bools bs), shw_of (by simp [tame, tames_bools]) (by simp only [cnt, cnts_bools]; omega), by simp [PyData.depth, depth_bools], h⟩
theorem chB {σ : L2.St} {tc : TE} {l t m : Int} {H3 : Hp} (ht : tc σ H3 fun w H4 => H4 = H3 ∧ w = .int m) (mono : ∀ R R' : VK, (∀ v H, R v H → R' v H) → tc σ H3 R → tc σ H3 R') (h : Q (.bl (decide (l ≤ t) && decide (t ≤ m))) H3) :
    ∃ k, V.bl (decide (l ≤ t)) = .bl k ∧ (if k = true then tc σ H3 fun w H4 => rI0 (fun i j => V.bl (decide (i ≤ j))) (.int t) w H4 Q else Q (.bl false) H3) := by
  refine ⟨_, rfl, ?_⟩
  by_cases hh : l ≤ t
  · rw [decide_eq_true hh, Bool.true_and] at h
    rw [if_pos (by simpa using hh)]
    refine mono _ _ (fun v H hv => ?_) ht
    obtain ⟨rfl, rfl⟩ := hv
    exact ⟨t, m, rfl, rfl, h⟩
  · rw [decide_eq_false hh, Bool.false_and] at h
    rw [if_neg (by simpa using hh)]
    exact h
theorem rd_chC {ta tb : TE} {σ : L2.St} {m : Int} (h : ta σ H fun x H1 => tb σ H1 fun y H2 => ∃ l t : Int, x = .int l ∧ y = .int t ∧ Q (.bl (decide (l ≤ t) && decide (t ≤ m))) H2)
    (ma : ∀ (R R' : VK), (∀ v H, R v H → R' v H) → ta σ H R → ta σ H R') (mb : ∀ (H : Hp) (R R' : VK), (∀ v H, R v H → R' v H) → tb σ H R → tb σ H R') :
    tChain (rI0 fun i j => .bl (decide (i ≤ j))) (rI0 fun i j => .bl (decide (i ≤ j))) ta tb (tC (.int m)) σ H Q := by
  refine rd_chain ?_
  refine ma _ _ (fun x H1 hx => mb _ _ _ (fun y H2 hy => ?_) hx) h
  obtain ⟨l, t, rfl, rfl, q⟩ := hy
  exact ⟨l, t, rfl, rfl, chB (tc := tC (.int m)) ⟨rfl, rfl⟩ (fun R R' f h => f _ _ h) q⟩
theorem rd_chV {ta tb : TE} {σ : L2.St} {m : Int} {j : Nat} (e : σ[j]? = some (some (.int m))) (h : ta σ H fun x H1 => tb σ H1 fun y H2 => ∃ l t : Int, x = .int l ∧ y = .int t ∧ Q (.bl (decide (l ≤ t) && decide (t ≤ m))) H2)
    (ma : ∀ (R R' : VK), (∀ v H, R v H → R' v H) → ta σ H R → ta σ H R') (mb : ∀ (H : Hp) (R R' : VK), (∀ v H, R v H → R' v H) → tb σ H R → tb σ H R') :
    tChain (rI0 fun i j => .bl (decide (i ≤ j))) (rI0 fun i j => .bl (decide (i ≤ j))) ta tb (tVar j) σ H Q := by
  refine rd_chain ?_
  refine ma _ _ (fun x H1 hx => mb _ _ _ (fun y H2 hy => ?_) hx) h
  obtain ⟨l, t, rfl, rfl, q⟩ := hy
  refine ⟨l, t, rfl, rfl, chB (tc := tVar j) (rd_var e ⟨rfl, rfl⟩) (fun R R' f h => ?_) q⟩
  obtain ⟨v, hv, hr⟩ := h
  exact ⟨v, hv, f _ _ hr⟩
theorem mnC {σ : L2.St} {v : V} {R R' : VK} (f : ∀ v H, R v H → R' v H) (h : tC v σ H R) : tC v σ H R' := f _ _ h
theorem mnV {σ : L2.St} {j : Nat} {R R' : VK} (f : ∀ v H, R v H → R' v H) (h : tVar j σ H R) : tVar j σ H R' := by
  obtain ⟨v, hv, hr⟩ := h
  exact ⟨v, hv, f _ _ hr⟩
theorem rd_2i {l t : Int} {R : Int → Int → Prop} (h : R l t) : ∃ l' t' : Int, V.int l = .int l' ∧ V.int t = .int t' ∧ R l' t' := ⟨l, t, rfl, rfl, h⟩
local macro_rules | `(tactic| walk_at "rd1") => `(tactic| first
  | with_reducible refine rd_2i ?_
  | ((with_reducible refine' rd_chC ?h ?ma ?mb); (case ma => (intro R R' f h; first | exact mnC f h | exact mnV f h)); (case mb => (intro H R R' f h; first | exact mnC f h | exact mnV f h)))
  | ((with_reducible refine' rd_chV ?e ?h ?ma ?mb); (case e => rfl); (case ma => (intro R R' f h; first | exact mnC f h | exact mnV f h)); (case mb => (intro H R R' f h; first | exact mnC f h | exact mnV f h))))
theorem kb_l (T : Txt K mg w A) : ∃ mv : List Value, KBn K A.d_is_whole ["thing", "least", "most"] 1 ["least"] (fun us ws => us ++ ws ++ mv) (fun vs zs => vs ++ zs ++ [.int 4096]) := by
  refine T.c_is_whole.F.kbinds0 1 ["least"] [("most", .int 4096)] (fun us mv ws => us ++ ws ++ mv) (by simp) (by simp) (fun r1 r2 r3 => (r1.append r3).append r2) ?_
  intro D doc pm an cdv ct us mv ws h1 h2 h3
  match us, h1, mv, h2, ws, h3 with
  | [u], _, [m], _, [y], _ => exact ⟨_, _, _, _, _, _, rfl, rfl, rfl⟩
theorem kb_m (T : Txt K mg w A) : ∃ mv : List Value, KBn K A.d_is_whole ["thing", "least", "most"] 1 ["most"] (fun us ws => us ++ mv ++ ws) (fun vs zs => vs ++ [.int 0] ++ zs) := by
  refine T.c_is_whole.F.kbinds0 1 ["most"] [("least", .int 0)] (fun us mv ws => us ++ mv ++ ws) (by simp) (by simp) (fun r1 r2 r3 => (r1.append r2).append r3) ?_
  intro D doc pm an cdv ct us mv ws h1 h2 h3
  match us, h1, mv, h2, ws, h3 with
  | [u], _, [m], _, [y], _ => exact ⟨_, _, _, _, _, _, rfl, rfl, rfl⟩
theorem kb_ml (T : Txt K mg w A) : ∃ mv : List Value, KBn K A.d_is_whole ["thing", "least", "most"] 1 ["most", "least"] (fun us ws => us ++ [1, 0].filterMap (ws[·]?) ++ mv) (fun vs zs => vs ++ [1, 0].filterMap (zs[·]?) ++ []) := by
  refine T.c_is_whole.F.kbinds0 1 ["most", "least"] [] (fun us mv ws => us ++ [1, 0].filterMap (ws[·]?) ++ mv) (by simp) (by simp) (fun r1 r2 r3 => (r1.append (vals_pick r3 _)).append r2) ?_
  intro D doc pm an cdv ct us mv ws h1 h2 h3
  match us, h1, mv, h2, ws, h3 with
  | [u], _, [], _, [y, z], _ => rfl
theorem kb_ltm (T : Txt K mg w A) : ∃ mv : List Value, KBn K A.d_is_whole ["thing", "least", "most"] 0 ["least", "thing", "most"] (fun us ws => us ++ [1, 0, 2].filterMap (ws[·]?) ++ mv) (fun vs zs => vs ++ [1, 0, 2].filterMap (zs[·]?) ++ []) := by
  refine T.c_is_whole.F.kbinds0 0 ["least", "thing", "most"] [] (fun us mv ws => us ++ [1, 0, 2].filterMap (ws[·]?) ++ mv) (by simp) (by simp) (fun r1 r2 r3 => (r1.append (vals_pick r3 _)).append r2) ?_
  intro D doc pm an cdv ct us mv ws h1 h2 h3
  match us, h1, mv, h2, ws, h3 with
  | [], _, [], _, [x, y, z], _ => rfl
theorem kb_t (T : Txt K mg w A) : ∃ mv : List Value, KBn K A.d_is_whole ["thing", "least", "most"] 0 ["thing"] (fun us ws => us ++ ws ++ mv) (fun vs zs => vs ++ zs ++ [.int 0, .int 4096]) := by
  refine T.c_is_whole.F.kbinds0 0 ["thing"] [("least", .int 0), ("most", .int 4096)] (fun us mv ws => us ++ ws ++ mv) (by simp) (by simp) (fun r1 r2 r3 => (r1.append r3).append r2) ?_
  intro D doc pm an cdv ct us mv ws h1 h2 h3
  match us, h1, mv, h2, ws, h3 with
  | [], _, [m, n], _, [y], _ => exact ⟨_, _, _, _, _, _, rfl, rfl, _, _, _, _, _, _, rfl, rfl, rfl⟩
theorem kb_1 (T : Txt K mg w A) : ∃ ds : List Value, Vals [V.int 0, V.int 4096] ds ∧ Binds K A.d_is_whole ["thing", "least", "most"] ds := by
  refine T.c_is_whole.F.binds0 1 (by simp) (by simp) ?_
  intro D doc pm an cdv ct us ks h1 h2
  match us, h1, ks, h2 with
  | [u], _, [m, n], _ => exact ⟨_, _, _, _, _, _, rfl, rfl, _, _, _, _, _, _, rfl, rfl, rfl⟩
def sp_wr (K : PySem.W.Frag) : Sp := fun vs H Q _ => ∃ (x : V) (l m : Int), vs = [x, .int l, .int m] ∧ ((∃ i, x = .int i) ∨ Odd H x) ∧ ∀ H', Same H H' → Q (.bl true) H'
theorem ok_wr (T : Txt K mg w A) : FnG P w K mg base 3 A.f__law_whole_right A.d__law_whole_right ["_law_item", "_law_low", "_law_high"] (sp_wr K) := by
  have G_is_whole : FnOk P w K mg base CX0 1 A.f_is_whole A.d_is_whole ["thing", "least", "most"] (sp_whole K) := ok_is_whole T
  obtain ⟨_, kb_is_whole_least⟩ := kb_l T
  obtain ⟨_, kb_is_whole_most⟩ := kb_m T
  obtain ⟨_, kb_is_whole_most_least⟩ := kb_ml T
  obtain ⟨_, kb_is_whole_least_thing_most⟩ := kb_ltm T
  obtain ⟨_, kb_is_whole_thing⟩ := kb_t T
  obtain ⟨_, d_is_whole, b_is_whole⟩ := kb_1 T
  refine defG T.c__law_whole_right.F sc_l_whole_right (fun vs H Q E h => ?_) (fun cdv Ar outer s H vs Q E cl hr h => ?_)
  · obtain ⟨_, _, _, rfl, _⟩ := h; rfl
  · obtain ⟨x, l, m, rfl, hx, k⟩ := h
    refine ⟨_, (pss_cons (ps_set (i := 3) sc_l_whole_right.nd rfl (Or.inl rfl) (pe_and (pe_callB call_isi (by rfl) T.n_isinstance PyProof.Rows.boot_isinstance (pa_cons (pv 0) (pa_cons (pe_bltn (v := .ty "int") rfl T.n_int PyProof.Rows.boot_int rfl) pa_nil))) (pe_one (pe_not (pe_callB call_isi (by rfl) T.n_isinstance PyProof.Rows.boot_isinstance (pa_cons (pv 0) (pa_cons (pe_bltn (v := .ty "bool") rfl T.n_bool PyProof.Rows.boot_bool rfl) pa_nil)))))))
      (pss_cons (ps_set (i := 4) sc_l_whole_right.nd rfl (Or.inl rfl) (pe_lst (pa_cons (pe_call G_is_whole (hr.mono (by decide)) rfl T.c_is_whole.m T.c_is_whole.F.kp b_is_whole d_is_whole pass0 (pa_cons (pv 0) pa_nil)) (pa_cons (pe_callN G_is_whole (hr.mono (by decide)) rfl T.c_is_whole.m T.c_is_whole.F.kp kb_is_whole_least pass0 (pa_cons (pv 0) pa_nil) (pk_cons (pv 1) pk_nil)) (pa_cons (pe_callN G_is_whole (hr.mono (by decide)) rfl T.c_is_whole.m T.c_is_whole.F.kp kb_is_whole_most pass0 (pa_cons (pv 0) pa_nil) (pk_cons (pv 2) pk_nil)) (pa_cons (pe_callN G_is_whole (hr.mono (by decide)) rfl T.c_is_whole.m T.c_is_whole.F.kp kb_is_whole_most_least pass0 (pa_cons (pv 0) pa_nil) (pk_cons (pv 2) (pk_cons (pv 1) pk_nil))) pa_nil))))))
      (pss_cons (ps_set (i := 4) sc_l_whole_right.nd rfl (Or.inl rfl) (pe_op op_cat (pv 4) (pe_lst (pa_cons (pe_callK0 G_is_whole (hr.mono (by decide)) rfl T.c_is_whole.m T.c_is_whole.F.kp kb_is_whole_least_thing_most pass0 (pk_cons (pv 1) (pk_cons (pv 0) (pk_cons (pv 2) pk_nil)))) (pa_cons (pe_callK0 G_is_whole (hr.mono (by decide)) rfl T.c_is_whole.m T.c_is_whole.F.kp kb_is_whole_thing pass0 (pk_cons (pv 0) pk_nil)) pa_nil)))))
      (pss_cons (ps_set (i := 5) sc_l_whole_right.nd rfl (Or.inl rfl) (pe_lst (pa_cons (pe_and (pv 3) (pe_one (pe_chain op_le op_le pe_int (pv 0) pe_int))) (pa_cons (pe_and (pv 3) (pe_one (pe_chain op_le op_le (pv 1) (pv 0) pe_int))) (pa_cons (pe_and (pv 3) (pe_one (pe_chain op_le op_le pe_int (pv 0) (pv 2)))) pa_nil)))))
      (pss_cons (ps_set (i := 5) sc_l_whole_right.nd rfl (Or.inl rfl) (pe_op op_cat (pv 5) (pe_lst (pa_cons (pe_and (pv 3) (pe_one (pe_chain op_le op_le (pv 1) (pv 0) (pv 2)))) (pa_cons (pe_and (pv 3) (pe_one (pe_chain op_le op_le (pv 1) (pv 0) (pv 2)))) (pa_cons (pe_and (pv 3) (pe_one (pe_chain op_le op_le pe_int (pv 0) pe_int))) pa_nil))))))
      (pss_one (ps_ret (pe_cmpR op_eq (pe_callB (call_repr cl hr) (by rfl) T.n_repr PyProof.Rows.boot_repr (pa_cons (pv 4) pa_nil)) (pe_callB (call_repr cl hr) (by rfl) T.n_repr PyProof.Rows.boot_repr (pa_cons (pv 5) pa_nil)) (nomark _))))))))), ?_⟩
    have S := Hs.start0 H
    walk_at "st"
    walk_at "rd"
    rcases hx with ⟨i, rfl⟩ | hx
    · refine rd_isi (Kin.int i) (kit_int _) ?_
      walk_at "rd"
      walk_at "if1"
      refine rd_isi (Kin.int i) (kit_bool _) ?_
      rw [show (Kn.int == Kn.bool) = false from rfl]
      walk_at "rd"
      refine ⟨_, _, _, _, rfl, Kin.int i, ?_⟩
      walk_at "rd"
      refine ⟨rfl, rfl, _, _, _, _, rfl, Kin.int i, ?_⟩
      walk_at "rd"
      refine ⟨rfl, rfl, _, _, _, _, rfl, Kin.int i, ?_⟩
      walk_at "rd"
      refine ⟨rfl, rfl, _, _, _, _, rfl, Kin.int i, ?_⟩
      walk_at "rd"
      refine ⟨rfl, rfl, _, _, _, _, rfl, Kin.int i, ?_⟩
      walk_at "rd"
      refine ⟨rfl, rfl, _, _, _, _, rfl, Kin.int i, ?_⟩
      walk_at "rd"
      rename_i p5 H5 hp5 S5
      refine' rd_reprB (bs := [isWh (V.int i) 0 4096, isWh (V.int i) l 4096, isWh (V.int i) 0 m, isWh (V.int i) l m, isWh (V.int i) l m, isWh (V.int i) 0 4096]) S5 ?m ?e (by simp) ?_
      (case m => (walk_at "mem"; done))
      (case e => rfl)
      walk_at "rd"
      refine' rd_reprB (bs := [isWh (V.int i) 0 4096, isWh (V.int i) l 4096, isWh (V.int i) 0 m, isWh (V.int i) l m, isWh (V.int i) l m, isWh (V.int i) 0 4096]) S5 ?m ?e (by simp) ?_
      (case m => (walk_at "mem"; done))
      (case e => rfl)
      walk_at "rd"
      rw [decide_eq_true rfl]
      exact k _ S5.same
    · obtain ⟨kd, h1, h2, h3, _⟩ := hx.kin K
      have hw : ∀ a b, isWh x a b = false := fun a b => by
        cases x with
        | int i => exact absurd rfl (h3 i)
        | _ => rfl
      have sm0 : LamX.ExtN H H := fun _ _ e _ => e
      refine rd_isi (h1 _ sm0) (kit_int _) ?_
      walk_at "rd"
      by_cases hb : kd = .bool
      · subst hb
        rw [show (Kn.bool == Kn.int || Kn.bool == Kn.bool) = true from rfl]
        walk_at "if1"
        refine rd_isi (h1 _ sm0) (kit_bool _) ?_
        rw [show (Kn.bool == Kn.bool) = true from rfl]
        walk_at "rd"
        try rw [show (!true) = false from rfl]
        refine ⟨_, _, _, _, rfl, h1 _ sm0, ?_⟩
        walk_at "rd"
        refine ⟨rfl, rfl, _, _, _, _, rfl, h1 _ sm0, ?_⟩
        walk_at "rd"
        refine ⟨rfl, rfl, _, _, _, _, rfl, h1 _ sm0, ?_⟩
        walk_at "rd"
        refine ⟨rfl, rfl, _, _, _, _, rfl, h1 _ sm0, ?_⟩
        walk_at "rd"
        rename_i p1 H1 hp1 S1
        have sm1 : LamX.ExtN H H1 := LamX.ExtN.of S1.same
        refine ⟨rfl, rfl, _, _, _, _, rfl, h1 _ sm1, ?_⟩
        walk_at "rd"
        refine ⟨rfl, rfl, _, _, _, _, rfl, h1 _ sm1, ?_⟩
        walk_at "rd"
        iterate 6 (walk_at "if0")
        rename_i p5 H5 hp5 S5
        simp only [hw] at S5
        refine' rd_reprB (bs := [false, false, false, false, false, false]) S5 ?m ?e (by simp) ?_
        (case m => (walk_at "mem"; done))
        (case e => rfl)
        walk_at "rd"
        refine' rd_reprB (bs := [false, false, false, false, false, false]) S5 ?m ?e (by simp) ?_
        (case m => (walk_at "mem"; done))
        (case e => rfl)
        walk_at "rd"
        rw [decide_eq_true rfl]
        exact k _ S5.same
      · rw [show (kd == Kn.int || kd == Kn.bool) = false by rw [beq_eq_false_iff_ne.mpr h2, beq_eq_false_iff_ne.mpr hb]; rfl]
        walk_at "if0"
        refine ⟨_, _, _, _, rfl, h1 _ sm0, ?_⟩
        walk_at "rd"
        refine ⟨rfl, rfl, _, _, _, _, rfl, h1 _ sm0, ?_⟩
        walk_at "rd"
        refine ⟨rfl, rfl, _, _, _, _, rfl, h1 _ sm0, ?_⟩
        walk_at "rd"
        refine ⟨rfl, rfl, _, _, _, _, rfl, h1 _ sm0, ?_⟩
        walk_at "rd"
        rename_i p1 H1 hp1 S1
        have sm1 : LamX.ExtN H H1 := LamX.ExtN.of S1.same
        refine ⟨rfl, rfl, _, _, _, _, rfl, h1 _ sm1, ?_⟩
        walk_at "rd"
        refine ⟨rfl, rfl, _, _, _, _, rfl, h1 _ sm1, ?_⟩
        walk_at "rd"
        iterate 6 (walk_at "if0")
        rename_i p5 H5 hp5 S5
        simp only [hw] at S5
        refine' rd_reprB (bs := [false, false, false, false, false, false]) S5 ?m ?e (by simp) ?_
        (case m => (walk_at "mem"; done))
        (case e => rfl)
        walk_at "rd"
        refine' rd_reprB (bs := [false, false, false, false, false, false]) S5 ?m ?e (by simp) ?_
        (case m => (walk_at "mem"; done))
        (case e => rfl)
        walk_at "rd"
        rw [decide_eq_true rfl]
        exact k _ S5.same
end
end K01

namespace K01
open PySem L2 Rs
/-- a refusal: its class, its field, the word for it -/
inductive Rf (A : Ad) : Addr → Str → Str → Prop where
  | num : Rf A A.C_BadNumber "at" "number"
  | knd : Rf A A.C_BadKind "wanted" "kind"
  | mny : Rf A A.C_TooMany "most" "many"
def R_ref (A : Ad) : SepM := fun vs Ch L post => ∃ (a dx C : Addr) (f wd : Str) (v : V), Rf A C f wd ∧ vs = [.ref a] ∧ L = [(a, Xc.Exv a (.ref C) (some dx)), (dx, .xd [(f, v)])] ∧ Ch = [] ∧ post = fun u N L' => ∃ t, u = .ref t ∧ N = [(t, .tup [.str wd, v])] ∧ L' = L
section
variable {P : Program} {w : World} {K : PySem.W.Frag} {mg : Str → Option Value} {base : Heap} {A : Ad} {H H0 : Hp} {MM : List Addr} {L L' F : Led} {Q : VK} {E : XK}
local macro_rules | `(tactic| walk_at "rd1") => `(tactic| first
  | with_reducible refine Xc.rd_bi2 ?_
  | with_reducible refine Xc.rd_ib2 ?_
  | with_reducible refine Xc.rd_xv ?_)
theorem ok_refusal (T : Txt K mg w A) : FnOk P w K mg base CX0 1 A.f__law_refusal A.d__law_refusal ["_law_e"] (SepN (R_ref A)) := by
  refine T.c__law_refusal.F.ok sc_l_refusal (fun vs H Q E h => ?_) (fun cdv Ar outer s H vs Q E hr h => ?_)
  · obtain ⟨_, _, _, ⟨_, _, _, _, _, _, _, rfl, _⟩, _⟩ := h; rfl
  · obtain ⟨Ch, L, post, ⟨a, dx, C, f, wd, v, hrf, rfl, rfl, rfl, rfl⟩, nd, is, hc, k⟩ := h
    refine ⟨_, (pss_cons (ps_set (i := 1) sc_l_refusal.nd rfl (Or.inl rfl) (pe_lst (pa_cons (pe_callB Xc.call_isX (by rfl) T.n_isinstance PyProof.Rows.boot_isinstance (pa_cons (pv 0) (pa_cons (pe_glob (v := .ref A.C_BadPaper) rfl T.m_BadPaper rfl) pa_nil))) (pa_cons (pe_callB Xc.call_isX (by rfl) T.n_isinstance PyProof.Rows.boot_isinstance (pa_cons (pv 0) (pa_cons (pe_glob (v := .ref A.C_Flawed) rfl T.m_Flawed rfl) pa_nil))) (pa_cons (pe_callB Xc.call_isX (by rfl) T.n_isinstance PyProof.Rows.boot_isinstance (pa_cons (pv 0) (pa_cons (pe_glob (v := .ref A.C_BadLine) rfl T.m_BadLine rfl) pa_nil))) (pa_cons (pe_callB Xc.call_isX (by rfl) T.n_isinstance PyProof.Rows.boot_isinstance (pa_cons (pv 0) (pa_cons (pe_glob (v := .ref A.C_Busy) rfl T.m_Busy rfl) pa_nil))) pa_nil))))))
      (pss_cons (ps_set (i := 1) sc_l_refusal.nd rfl (Or.inl rfl) (pe_op op_cat (pv 1) (pe_lst (pa_cons (pe_callB Xc.call_isX (by rfl) T.n_isinstance PyProof.Rows.boot_isinstance (pa_cons (pv 0) (pa_cons (pe_glob (v := .ref A.C_Gone) rfl T.m_Gone rfl) pa_nil))) (pa_cons (pe_callB Xc.call_isX (by rfl) T.n_isinstance PyProof.Rows.boot_isinstance (pa_cons (pv 0) (pa_cons (pe_glob (v := .ref A.C_BadAnswer) rfl T.m_BadAnswer rfl) pa_nil))) (pa_cons (pe_callB Xc.call_isX (by rfl) T.n_isinstance PyProof.Rows.boot_isinstance (pa_cons (pv 0) (pa_cons (pe_glob (v := .ref A.C_BadKind) rfl T.m_BadKind rfl) pa_nil))) (pa_cons (pe_callB Xc.call_isX (by rfl) T.n_isinstance PyProof.Rows.boot_isinstance (pa_cons (pv 0) (pa_cons (pe_glob (v := .ref A.C_BadText) rfl T.m_BadText rfl) pa_nil))) pa_nil)))))))
      (pss_cons (ps_set (i := 1) sc_l_refusal.nd rfl (Or.inl rfl) (pe_op op_cat (pv 1) (pe_lst (pa_cons (pe_callB Xc.call_isX (by rfl) T.n_isinstance PyProof.Rows.boot_isinstance (pa_cons (pv 0) (pa_cons (pe_glob (v := .ref A.C_BadNumber) rfl T.m_BadNumber rfl) pa_nil))) (pa_cons (pe_callB Xc.call_isX (by rfl) T.n_isinstance PyProof.Rows.boot_isinstance (pa_cons (pv 0) (pa_cons (pe_glob (v := .ref A.C_NoSuch) rfl T.m_NoSuch rfl) pa_nil))) (pa_cons (pe_callB Xc.call_isX (by rfl) T.n_isinstance PyProof.Rows.boot_isinstance (pa_cons (pv 0) (pa_cons (pe_glob (v := .ref A.C_TooMany) rfl T.m_TooMany rfl) pa_nil))) (pa_cons (pe_callB Xc.call_isX (by rfl) T.n_isinstance PyProof.Rows.boot_isinstance (pa_cons (pv 0) (pa_cons (pe_glob (v := .ref A.C_Stopped) rfl T.m_Stopped rfl) pa_nil))) pa_nil)))))))
      (pss_cons (ps_if (pt_cmpR op_ne (pe_bm PySem.F.plainAttrs_list PySem.F.slot_list_count PySem.F.type_list_count Xc.mt_bcount (pv 1) (pa_cons pe_bl pa_nil)) pe_int (nomark _))
        (pss_one (ps_ret (pe_tup (pa_cons pe_str (pa_cons pe_non pa_nil)))))
        pss_nil)
      (pss_cons (ps_if (PW.pt (pw_or (pt_val (pe_ix ix_list (pv 1) pe_int (fun _ _ => rfl))) (pw_or (pt_val (pe_ix ix_list (pv 1) pe_int (fun _ _ => rfl))) (pw_or1 (pt_val (pe_ix ix_list (pv 1) pe_int (fun _ _ => rfl)))))))
        (pss_one (ps_ret (pe_tup (pa_cons (pe_ix ix_list (pe_lst (pa_cons pe_str (pa_cons pe_str (pa_cons pe_str pa_nil)))) (pe_op Xc.op_addBI (pe_ix ix_list (pv 1) pe_int (fun _ _ => rfl)) (pe_op Xc.op_mulIB pe_int (pe_ix ix_list (pv 1) pe_int (fun _ _ => rfl)))) (fun _ _ => rfl)) (pa_cons (Xc.pe_xv (pv 0)) pa_nil)))))
        pss_nil)
      (pss_cons (ps_if (pt_val (pe_ix ix_list (pv 1) pe_int (fun _ _ => rfl)))
        (pss_one (ps_ret (pe_tup (pa_cons pe_str (pa_cons (pe_tup (pa_cons (Xc.pe_xv (pv 0)) (pa_cons (Xc.pe_xv (pv 0)) pa_nil))) pa_nil)))))
        pss_nil)
      (pss_cons (ps_if (pt_val (pe_ix ix_list (pv 1) pe_int (fun _ _ => rfl)))
        (pss_one (ps_ret (pe_tup (pa_cons pe_str (pa_cons (Xc.pe_xv (pv 0)) pa_nil)))))
        pss_nil)
      (pss_cons (ps_if (pt_val (pe_ix ix_list (pv 1) pe_int (fun _ _ => rfl)))
        (pss_one (ps_ret (pe_tup (pa_cons pe_str (pa_cons (Xc.pe_xv (pv 0)) pa_nil)))))
        pss_nil)
      (pss_cons (ps_if (pt_val (pe_ix ix_list (pv 1) pe_int (fun _ _ => rfl)))
        (pss_one (ps_ret (pe_tup (pa_cons pe_str (pa_cons (Xc.pe_xv (pv 0)) pa_nil)))))
        pss_nil)
      (pss_one (ps_ret (pe_ifExp (pt_val (pe_ix ix_list (pv 1) pe_int (fun _ _ => rfl))) (pe_tup (pa_cons pe_str (pa_cons (Xc.pe_xv (pv 0)) pa_nil))) (pe_tup (pa_cons pe_str (pa_cons pe_non pa_nil))))))))))))))), ?_⟩
    have S := Sep.led nd is hc
    walk_at "st"
    walk_at "rd"
    cases hrf with
    | num =>
      refine Xc.rd_isX S (by walk_at "mem") (by walk_at "mem") T.k_BadNumber (.own _) T.x_i_BadNumber_BadPaper ?_
      walk_at "rd"
      refine Xc.rd_isX S (by walk_at "mem") (by walk_at "mem") T.k_BadNumber (.own _) T.x_i_BadNumber_Flawed ?_
      walk_at "rd"
      refine Xc.rd_isX S (by walk_at "mem") (by walk_at "mem") T.k_BadNumber (.own _) T.x_i_BadNumber_BadLine ?_
      walk_at "rd"
      refine Xc.rd_isX S (by walk_at "mem") (by walk_at "mem") T.k_BadNumber (.own _) T.x_i_BadNumber_Busy ?_
      walk_at "rd"
      rename_i p1 H1 hp1 S1
      refine Xc.rd_isX S1 (by walk_at "mem") (by walk_at "mem") T.k_BadNumber (.own _) T.x_i_BadNumber_Gone ?_
      walk_at "rd"
      refine Xc.rd_isX S1 (by walk_at "mem") (by walk_at "mem") T.k_BadNumber (.own _) T.x_i_BadNumber_BadAnswer ?_
      walk_at "rd"
      refine Xc.rd_isX S1 (by walk_at "mem") (by walk_at "mem") T.k_BadNumber (.own _) T.x_i_BadNumber_BadKind ?_
      walk_at "rd"
      refine Xc.rd_isX S1 (by walk_at "mem") (by walk_at "mem") T.k_BadNumber (.own _) T.x_i_BadNumber_BadText ?_
      walk_at "rd"
      rename_i p2 H2 hp2 S2 p3 H3 hp3 S3
      refine Xc.rd_isX S3 (by walk_at "mem") (by walk_at "mem") T.k_BadNumber (.own _) T.x_i_BadNumber_BadNumber ?_
      walk_at "rd"
      refine Xc.rd_isX S3 (by walk_at "mem") (by walk_at "mem") T.k_BadNumber (.own _) T.x_i_BadNumber_NoSuch ?_
      walk_at "rd"
      refine Xc.rd_isX S3 (by walk_at "mem") (by walk_at "mem") T.k_BadNumber (.own _) T.x_i_BadNumber_TooMany ?_
      walk_at "rd"
      refine Xc.rd_isX S3 (by walk_at "mem") (by walk_at "mem") T.k_BadNumber (.own _) T.x_i_BadNumber_Stopped ?_
      walk_at "rd"
      rename_i p4 H4 hp4 S4 p5 H5 hp5 S5
      simp only [List.cons_append, List.nil_append] at S5
      have S6 : Hs H [] H5 [(p5, .lst [.bl false, .bl false, .bl false, .bl false, .bl false, .bl false, .bl false, .bl false, .bl true, .bl false, .bl false, .bl false]), (a, Xc.Exv a (.ref A.C_BadNumber) (some dx)), (dx, .xd [("at", v)])] := S5.sub (by walk_at "sub")
      clear S S1 S2 S3 S4 S5
      refine' Xc.rd_cntB (bs := [false, false, false, false, false, false, false, false, true, false, false, false]) S6 ?m ?e ?_
      (case m => (walk_at "mem"; done))
      (case e => rfl)
      rw [show PySem.Spec.countIn (.bool true) (List.map PyData.bool [false, false, false, false, false, false, false, false, true, false, false, false]) = 1 from by decide +kernel]
      walk_at "rd"
      refine rd_decF (by simp) ?_
      walk_at "rd"
      iterate 3 (walk_at "if0")
      walk_at "if1"
      rename_i p7 H7 hp7 S7
      refine Xc.rd_xvV S7 (by walk_at "mem") (by walk_at "mem") T.k_BadNumber T.na_BadNumber_at rfl ?_
      walk_at "rd"
      rename_i t H8 ht S8
      exact k _ _ [_] _ ⟨t, rfl, rfl, rfl⟩ (S8.re (by walk_at "led")) (fun q hq => List.mem_map_of_mem (f := (·.1)) hq) (by simpa using ht)
    | knd =>
      refine Xc.rd_isX S (by walk_at "mem") (by walk_at "mem") T.k_BadKind (.own _) T.x_i_BadKind_BadPaper ?_
      walk_at "rd"
      refine Xc.rd_isX S (by walk_at "mem") (by walk_at "mem") T.k_BadKind (.own _) T.x_i_BadKind_Flawed ?_
      walk_at "rd"
      refine Xc.rd_isX S (by walk_at "mem") (by walk_at "mem") T.k_BadKind (.own _) T.x_i_BadKind_BadLine ?_
      walk_at "rd"
      refine Xc.rd_isX S (by walk_at "mem") (by walk_at "mem") T.k_BadKind (.own _) T.x_i_BadKind_Busy ?_
      walk_at "rd"
      rename_i p1 H1 hp1 S1
      refine Xc.rd_isX S1 (by walk_at "mem") (by walk_at "mem") T.k_BadKind (.own _) T.x_i_BadKind_Gone ?_
      walk_at "rd"
      refine Xc.rd_isX S1 (by walk_at "mem") (by walk_at "mem") T.k_BadKind (.own _) T.x_i_BadKind_BadAnswer ?_
      walk_at "rd"
      refine Xc.rd_isX S1 (by walk_at "mem") (by walk_at "mem") T.k_BadKind (.own _) T.x_i_BadKind_BadKind ?_
      walk_at "rd"
      refine Xc.rd_isX S1 (by walk_at "mem") (by walk_at "mem") T.k_BadKind (.own _) T.x_i_BadKind_BadText ?_
      walk_at "rd"
      rename_i p2 H2 hp2 S2 p3 H3 hp3 S3
      refine Xc.rd_isX S3 (by walk_at "mem") (by walk_at "mem") T.k_BadKind (.own _) T.x_i_BadKind_BadNumber ?_
      walk_at "rd"
      refine Xc.rd_isX S3 (by walk_at "mem") (by walk_at "mem") T.k_BadKind (.own _) T.x_i_BadKind_NoSuch ?_
      walk_at "rd"
      refine Xc.rd_isX S3 (by walk_at "mem") (by walk_at "mem") T.k_BadKind (.own _) T.x_i_BadKind_TooMany ?_
      walk_at "rd"
      refine Xc.rd_isX S3 (by walk_at "mem") (by walk_at "mem") T.k_BadKind (.own _) T.x_i_BadKind_Stopped ?_
      walk_at "rd"
      rename_i p4 H4 hp4 S4 p5 H5 hp5 S5
      simp only [List.cons_append, List.nil_append] at S5
      have S6 : Hs H [] H5 [(p5, .lst [.bl false, .bl false, .bl false, .bl false, .bl false, .bl false, .bl true, .bl false, .bl false, .bl false, .bl false, .bl false]), (a, Xc.Exv a (.ref A.C_BadKind) (some dx)), (dx, .xd [("wanted", v)])] := S5.sub (by walk_at "sub")
      clear S S1 S2 S3 S4 S5
      refine' Xc.rd_cntB (bs := [false, false, false, false, false, false, true, false, false, false, false, false]) S6 ?m ?e ?_
      (case m => (walk_at "mem"; done))
      (case e => rfl)
      rw [show PySem.Spec.countIn (.bool true) (List.map PyData.bool [false, false, false, false, false, false, true, false, false, false, false, false]) = 1 from by decide +kernel]
      walk_at "rd"
      refine rd_decF (by simp) ?_
      walk_at "rd"
      iterate 3 (walk_at "if0")
      refine Xc.rd_xvV S6 (by walk_at "mem") (by walk_at "mem") T.k_BadKind T.na_BadKind_wanted rfl ?_
      walk_at "rd"
      rename_i t H8 ht S8
      exact k _ _ [_] _ ⟨t, rfl, rfl, rfl⟩ (S8.re (by walk_at "led")) (fun q hq => List.mem_map_of_mem (f := (·.1)) hq) (by simpa using ht)
    | mny =>
      refine Xc.rd_isX S (by walk_at "mem") (by walk_at "mem") T.k_TooMany (.own _) T.x_i_TooMany_BadPaper ?_
      walk_at "rd"
      refine Xc.rd_isX S (by walk_at "mem") (by walk_at "mem") T.k_TooMany (.own _) T.x_i_TooMany_Flawed ?_
      walk_at "rd"
      refine Xc.rd_isX S (by walk_at "mem") (by walk_at "mem") T.k_TooMany (.own _) T.x_i_TooMany_BadLine ?_
      walk_at "rd"
      refine Xc.rd_isX S (by walk_at "mem") (by walk_at "mem") T.k_TooMany (.own _) T.x_i_TooMany_Busy ?_
      walk_at "rd"
      rename_i p1 H1 hp1 S1
      refine Xc.rd_isX S1 (by walk_at "mem") (by walk_at "mem") T.k_TooMany (.own _) T.x_i_TooMany_Gone ?_
      walk_at "rd"
      refine Xc.rd_isX S1 (by walk_at "mem") (by walk_at "mem") T.k_TooMany (.own _) T.x_i_TooMany_BadAnswer ?_
      walk_at "rd"
      refine Xc.rd_isX S1 (by walk_at "mem") (by walk_at "mem") T.k_TooMany (.own _) T.x_i_TooMany_BadKind ?_
      walk_at "rd"
      refine Xc.rd_isX S1 (by walk_at "mem") (by walk_at "mem") T.k_TooMany (.own _) T.x_i_TooMany_BadText ?_
      walk_at "rd"
      rename_i p2 H2 hp2 S2 p3 H3 hp3 S3
      refine Xc.rd_isX S3 (by walk_at "mem") (by walk_at "mem") T.k_TooMany (.own _) T.x_i_TooMany_BadNumber ?_
      walk_at "rd"
      refine Xc.rd_isX S3 (by walk_at "mem") (by walk_at "mem") T.k_TooMany (.own _) T.x_i_TooMany_NoSuch ?_
      walk_at "rd"
      refine Xc.rd_isX S3 (by walk_at "mem") (by walk_at "mem") T.k_TooMany (.own _) T.x_i_TooMany_TooMany ?_
      walk_at "rd"
      refine Xc.rd_isX S3 (by walk_at "mem") (by walk_at "mem") T.k_TooMany (.own _) T.x_i_TooMany_Stopped ?_
      walk_at "rd"
      rename_i p4 H4 hp4 S4 p5 H5 hp5 S5
      simp only [List.cons_append, List.nil_append] at S5
      have S6 : Hs H [] H5 [(p5, .lst [.bl false, .bl false, .bl false, .bl false, .bl false, .bl false, .bl false, .bl false, .bl false, .bl false, .bl true, .bl false]), (a, Xc.Exv a (.ref A.C_TooMany) (some dx)), (dx, .xd [("most", v)])] := S5.sub (by walk_at "sub")
      clear S S1 S2 S3 S4 S5
      refine' Xc.rd_cntB (bs := [false, false, false, false, false, false, false, false, false, false, true, false]) S6 ?m ?e ?_
      (case m => (walk_at "mem"; done))
      (case e => rfl)
      rw [show PySem.Spec.countIn (.bool true) (List.map PyData.bool [false, false, false, false, false, false, false, false, false, false, true, false]) = 1 from by decide +kernel]
      walk_at "rd"
      refine rd_decF (by simp) ?_
      walk_at "rd"
      iterate 3 (walk_at "if0")
      refine Xc.rd_xvV S6 (by walk_at "mem") (by walk_at "mem") T.k_TooMany T.na_TooMany_most rfl ?_
      walk_at "rd"
      rename_i t H8 ht S8
      exact k _ _ [_] _ ⟨t, rfl, rfl, rfl⟩ (S8.re (by walk_at "led")) (fun q hq => List.mem_map_of_mem (f := (·.1)) hq) (by simpa using ht)
end
/-! a lambda handed to _law_heard -/
def csA (A : Ad) : List Value := [.ref A.C_SortError, .ref A.C_BadAnswer, .ref A.C_BadKind, .ref A.C_BadText, .ref A.C_BadNumber, .ref A.C_NoSuch, .ref A.C_TooMany, .ref A.C_Stopped]
def TSaid (K : PySem.W.Frag) (A : Ad) : (XK → Hp → VK → Prop) → Hp → VK → Prop := fun tl H Q =>
  ∀ (H1 : Hp) (R : VK), Same H H1 → (∀ v H', (∀ t, H' t = none → Q (.ref t) (upd H' t (.tup [.str "told", v]))) → R v H') → tl (fun cls d H' => PySem.W.exmAny K cls (csA A) = some true ∧ ∀ a, H' a = none → SepN (R_ref A) [.ref a] (upd H' a (Xc.Exv a cls d)) Q E0) H1 R
section
variable {X : Cx} {A : Ad} {c P : Addr} {TT : List (Addr × Str)}
theorem said_gives (T : Txt X.K X.mg w A) (hr0 : Room 6 X.A) (Gw : FnOk X.prog X.w X.K X.mg X.base CX0 1 A.f__law_refusal A.d__law_refusal ["_law_e"] (SepN (R_ref A))) {q : Str} {cdv : Value} :
    LamX.GivesTo X ["_law_deed", "_law_caught", "_law_found", "error"] "_law_heard" (defScope s_l_heard) A.f__law_heard cdv (defBody s_l_heard) "_law_deed" q (TSaid X.K A) := by
  intro f c' s H Q tl act hc' h
  have hr := hr0.deeper (PyProof.Rows.envOfC "_law_heard" (defScope s_l_heard) s.heap.objs.size A.f__law_heard cdv)
  have G__law_refusal := Gw
  refine ⟨_, pss_cons (ps_asg (pe_tup (pa_cons pe_non (pa_cons pe_non pa_nil))) (pg_tup rfl (pgs_cons (pg_name (i := 1) sc_l_heard.nd rfl (Or.inl rfl)) (pgs_cons (pg_name (i := 2) sc_l_heard.nd rfl (Or.inl rfl)) pgs_nil))))
    (pss_cons (Xc.ps_try_keep (i := 3) (X := (cxOf C8.CX0 X.prog X.w X.K X.mg X.base ["_law_deed", "_law_caught", "_law_found", "error"] "_law_heard" (defScope s_l_heard) A.f__law_heard cdv X.A X.stack s H C8.E0).nox)
      (cs := csA A)
      (tb := fun W D σ H => ∃ Ech : XK, (∀ cls d σ' H', Ech cls d H' → σ'.length = 4 → W cls d σ' H') ∧ σ[0]? = some (some (.ref f)) ∧ H c' = some (LamX.CodeO c' q) ∧ tl Ech H (fun v H' => D.nx (σ.set 2 (some v)) H'))
      rfl rfl sc_l_heard.nd rfl rfl ((.cons ⟨rfl, by decide, .inl T.m_SortError⟩ (.cons ⟨rfl, by decide, .inl T.m_BadAnswer⟩ (.cons ⟨rfl, by decide, .inl T.m_BadKind⟩ (.cons ⟨rfl, by decide, .inl T.m_BadText⟩ (.cons ⟨rfl, by decide, .inl T.m_BadNumber⟩ (.cons ⟨rfl, by decide, .inl T.m_NoSuch⟩ (.cons ⟨rfl, by decide, .inl T.m_TooMany⟩ (.cons ⟨rfl, by decide, .inl T.m_Stopped⟩ .nil))))))))) (by simp [csA]) LamX.takes0
      (fun W pn xe tk _ => ⟨fun pins s1 σ1 H1 D I ⟨Ech, hW, h1, h2, h3⟩ => (pss_one (ps_set (i := 2) sc_l_heard.nd rfl (Or.inl rfl) (act _ pn xe Ech _ _ (Xc.takes_len tk) fun cls d σ' H' z l => hW cls d σ' H' z l))).run pins s1 σ1 H1 D I ⟨h1, h2, h3⟩⟩)
      (fun a oe cls d pn _ _ => pss_one (ps_set (i := 1) sc_l_heard.nd rfl (Or.inl rfl) (pv 3))))
    (pss_one (ps_ret (pe_ifExp (pt_cmpR op_isN (pv 1) pe_non (nomark _)) (pe_tup (pa_cons pe_str (pa_cons (pv 2) pa_nil))) (pe_call G__law_refusal (hr.mono (by decide)) rfl T.c__law_refusal.m T.c__law_refusal.F.kp T.c__law_refusal.b .nil pass0 (pa_cons (pv 1) pa_nil)))))), ?_⟩
  have S := Hs.start0 H
  walk_at "st"
  walk_at "rd"
  rename_i t0 H1 ht0 S1
  have sm : Same H H1 := S1.same
  refine ⟨fun cls d H' => PySem.W.exmAny X.K cls (csA A) = some true ∧ ∀ a, H' a = none → SepN (R_ref A) [.ref a] (upd H' a (Xc.Exv a cls d)) Q E0, ?_, rfl, sm _ _ hc', ?_⟩
  · rintro cls d σ' H' ⟨e1, e2⟩ hl
    obtain ⟨x0, x1, x2, x3, rfl⟩ : ∃ x0 x1 x2 x3, σ' = [x0, x1, x2, x3] := by
      match σ', hl with
      | [x0, x1, x2, x3], _ => exact ⟨_, _, _, _, rfl⟩
    refine ⟨true, e1, fun _ a ha => ?_, fun z => Bool.noConfusion z⟩
    dsimp only [List.set]
    walk_at "rd"
    dsimp only [List.set]
    walk_at "rd"
    refine rd_decF (by simp) ?_
    walk_at "rd"
    exact e2 a ha
  · refine h H1 _ sm fun v H' kk => ?_
    dsimp only [List.set]
    walk_at "rd"
    refine rd_decT rfl ?_
    walk_at "rd"
    exact ⟨by rw [sizeLine_eq]; simp, fun t ht => kk t ht⟩
theorem pe_heard {params : Arguments} {body : Expr} {scope : Scope} {t : XK → TE} {p lpos pos : Pos} (T : Txt X.K X.mg X.w A) (TB : LamX.TabB X.base X.mg c P) (hm : (P, X.env.qual ++ "<lambda>") ∈ TT) (hu : ∀ p ∈ TT, p.1 = P → p.2 = X.env.qual ++ "<lambda>")
    (Gw : FnOk X.prog X.w X.K X.mg X.base CX0 1 A.f__law_refusal A.d__law_refusal ["_law_e"] (SepN (R_ref A)))
    (hg : Gl X "_law_heard") (hcode : X.env.code = .ref c) (hr : Room 6 X.A) (L : LamX.LamS X.env.scope scope) (hdef : defaultsOf params X.env = ([], []))
    (hbind : ∀ (q : Str) (cl : List (Str × Addr)) (pm cv ctv : Value), bindArgs (PySem.W.kla_fn "<lambda>" q params body scope cl pm cv ctv) ⟨[], []⟩ = pure [])
    (hbody : ∀ (A : Around) (outer : List Env) (s : Shared) (H : Hp) (E : XK) (f c' : Addr), Room 4 (A.deeper (LamX.lamEnv X scope s.heap.objs.size f c')) → PE (LamX.lamCx X A outer s H E scope f c') body (t E)) :
    PE X (.Call (.Name "_law_heard" p) [.Lambda params body scope lpos] [] pos) (LamX.tLam TT (TSaid X.K A) t) := by
  obtain ⟨oc, od, kV, doc, pm, an, cdv, ct, osl, e, lk, hcd⟩ := T.c__law_heard.F.ex
  have b := T.c__law_heard.b
  rw [e] at lk b
  exact LamX.pe_lamcall (k := 4) hg T.c__law_heard.m T.c__law_heard.F.kp lk hcd b sc_l_heard rfl (Or.inl rfl) (said_gives T hr Gw) TB hcode hm hu hr L hdef hbind hbody
end
end K01
namespace K01
open PySem L2 Rs
def TT : List (Addr × Str) := [(307, (("_law_bits_right" : Str) ++ ".<locals>.") ++ "<lambda>"), (312, (("_law_row_right" : Str) ++ ".<locals>.") ++ "<lambda>")]
/-- what bits tells, or its refusal, as a word and a thing -/
structure Wy (K : PySem.W.Frag) (H : Hp) (x : V) (wd : Str) (y : V) (d : PyData) : Prop where
  way : (∃ i : Int, x = .int i ∧ 0 ≤ i ∧ wd = "told" ∧ y = .int (Builtin.Int.intBits i : Nat)) ∨ (∃ kd, (∀ H', LamX.ExtN H H' → Kin K H' x kd) ∧ (∀ i, x = .int i → i < 0) ∧ wd = "number" ∧ y = x)
  sz : (PyData.tuple [.str wd, d]).shown.length ≤ sizeLine
  dp : d.depth ≤ 30
  tz : ∀ H', LamX.ExtN H H' → Xc.Tz K H' y d
theorem same_up {H : Hp} {t : Addr} {o : HO} (h : H t = none) : Same H (upd H t o) := fun b u e => by rw [upd_ne (ne_of_none e h)]; exact e
theorem bits_said {K : PySem.W.Frag} {mg : Str → Option Value} {w : World} {A : Ad} {H H2 : Hp} {x y : V} {wd : Str} {d : PyData} {Q R : VK} (T : Txt K mg w A) (W : Wy K H x wd y d) (e : LamX.ExtN H H2)
    (hR : ∀ v H', (∀ t, H' t = none → Q (.ref t) (upd H' t (.tup [.str "told", v]))) → R v H') (h : ∀ (t : Addr) (H' : Hp), Same H2 H' → H2 t = none → H' t = some (.tup [.str wd, y]) → Q (.ref t) H') :
    sp_bits K A.C_BadNumber [x] H2 R (fun cls d H' => PySem.W.exmAny K cls (csA A) = some true ∧ ∀ a, H' a = none → SepN (R_ref A) [.ref a] (upd H' a (Xc.Exv a cls d)) Q E0) := by
  rcases W.way with ⟨i, rfl, h0, rfl, rfl⟩ | ⟨kd, hk, hb, rfl, rfl⟩
  · exact ⟨_, rfl, .inl ⟨i, rfl, h0, hR _ _ fun t ht => h t _ (same_up ht) ht upd_same⟩⟩
  · refine ⟨_, rfl, .inr ⟨kd, hk _ e, hb, fun dx hdx => ⟨T.x_any_BadNumber, fun ea hea => ?_⟩⟩⟩
    have S := Hs.start0 H2
    obtain ⟨n1, S3⟩ := S.newAt (o := .xd [("at", y)]) hdx
    obtain ⟨n2, S4⟩ := S3.newAt (o := Xc.Exv ea (.ref A.C_BadNumber) (some dx)) hea
    refine sepn_use (F := []) S4 ⟨ea, dx, A.C_BadNumber, "at", "number", y, .num, rfl, rfl, rfl, rfl⟩ (by intro a'; simp only [Rs.cn_app, Rs.cn_cons, Rs.cn_nil, List.append_assoc, List.cons_append, List.nil_append]; omega) (fun c hc => nomatch hc) fun v H5 N L' ⟨t5, e1, e2, e3⟩ hn S5 => ?_
    subst e1 e2 e3
    exact h t5 H5 S5.same (hn _ List.mem_cons_self) (S5.is (t5, HO.tup [.str "number", y]) List.mem_cons_self)
end K01

namespace K01
open PySem L2 Rs
theorem bits_step {n : Nat} (k : Nat) (h : 2 ^ k ≤ n) : Builtin.Int.intBits ((n / 2 ^ k : Nat) : Int) + k = Builtin.Int.intBits (n : Int) := by
  have hp : 0 < 2 ^ k := Nat.pow_pos (by decide)
  have hn : n ≠ 0 := by omega
  have hq : n / 2 ^ k ≠ 0 := by
    have := (Nat.le_div_iff_mul_le hp (x := 1) (y := n)).mpr (by omega)
    omega
  have e : (n / 2 ^ k).log2 + k = n.log2 := by
    obtain ⟨a1, a2⟩ := (Nat.log2_eq_iff hq).mp rfl
    symm
    refine (Nat.log2_eq_iff hn).mpr ⟨?_, ?_⟩
    · rw [Nat.pow_add]
      exact Nat.le_trans (Nat.mul_le_mul_right _ a1) (Nat.div_mul_le_self n _)
    · rw [show (n / 2 ^ k).log2 + k + 1 = ((n / 2 ^ k).log2 + 1) + k by omega, Nat.pow_add]
      exact (Nat.div_lt_iff_lt_mul hp).mp a2
  unfold Builtin.Int.intBits
  simp only [Int.natAbs_natCast]
  have z1 : ¬ (((n / 2 ^ k : Nat) : Int) == 0) = true := by
    rw [beq_iff_eq]
    intro z
    exact hq (Int.ofNat.inj z)
  have z2 : ¬ ((n : Int) == 0) = true := by
    rw [beq_iff_eq]
    intro z
    exact hn (Int.ofNat.inj z)
  first | rw [if_neg z1, if_neg z2] | rw [if_neg (by simpa using z1), if_neg (by simpa using z2)]
  omega
theorem bits_step64 {l : Int} (h0 : 0 ≤ l) (h : l > 18446744073709551615) : 0 ≤ l / 18446744073709551616 ∧ Builtin.Int.intBits (l / 18446744073709551616) + 64 = Builtin.Int.intBits l := by
  obtain ⟨n, rfl⟩ : ∃ n : Nat, l = n := ⟨l.toNat, by omega⟩
  have h6 : 18446744073709551616 ≤ n := by omega
  have := bits_step 64 (n := n) h6
  refine ⟨by omega, ?_⟩
  rw [show ((n : Int) / 18446744073709551616) = ((n / 2 ^ 64 : Nat) : Int) by simp]
  exact this
theorem bits_step1 {l : Int} (h : l > 0) : 0 ≤ l / 2 ∧ Builtin.Int.intBits (l / 2) + 1 = Builtin.Int.intBits l := by
  obtain ⟨n, rfl⟩ : ∃ n : Nat, l = n := ⟨l.toNat, by omega⟩
  by_cases h1 : n = 1
  · subst h1; exact ⟨by decide, by decide⟩
  have := bits_step 1 (n := n) (by omega)
  refine ⟨by omega, ?_⟩
  rw [show ((n : Int) / 2) = ((n / 2 ^ 1 : Nat) : Int) by simp]
  exact this
theorem bits_zero : Builtin.Int.intBits 0 = 0 := by decide
def sp_br (K : PySem.W.Frag) : Sp := fun vs H Q _ => ∃ x, vs = [x] ∧ ((∃ i : Int, x = .int i ∧ Xc.Fig i) ∨ Odd H x) ∧ LamX.Tabs TT H ∧ ∀ H', LamX.ExtN H H' → LamX.Tabs TT H' → Q (.bl true) H'
theorem tabs_lst {TT : List (Addr × Str)} {H H' : Hp} (h : LamX.Tabs TT H) (k : ∀ b o, H b = some o → (∀ xs, o ≠ .lst xs) → H' b = some o) : LamX.Tabs TT H' := fun p hp => by
  obtain ⟨ps, h1, h2, h3⟩ := h p hp
  refine ⟨ps, k _ _ h1 (fun _ z => by cases z), h2, fun pos cv hc => ?_⟩
  obtain ⟨c, e1, e2⟩ := h3 pos cv hc
  exact ⟨c, e1, k _ _ e2 (fun _ z => by unfold LamX.CodeO at z; cases z)⟩
theorem fig_bits {i : Int} (f : Xc.Fig i) (h : 0 ≤ i) : Builtin.Int.intBits i ≤ 29000 := by
  have := f.b
  unfold Builtin.Int.intBits
  split <;> omega
theorem wy_good {K : PySem.W.Frag} {H : Hp} {i : Int} (f : Xc.Fig i) (h : 0 ≤ i) : Wy K H (.int i) "told" (.int (Builtin.Int.intBits i : Nat)) (.int (Builtin.Int.intBits i : Nat)) := by
  have hb := fig_bits f h
  have ht : tame (PyData.tuple [.str "told", .int (Builtin.Int.intBits i : Nat)]) = true := by
    have : tame (.str "told") = true := by decide +kernel
    simp only [tame, tames, Bool.and_eq_true, Bool.and_true, decide_eq_true_eq] at this ⊢
    exact ⟨this, by omega⟩
  have hs := shw_of ht (by simp [cnt, cnts])
  exact ⟨.inl ⟨i, rfl, h, rfl, rfl⟩, hs.sz, by simp [PyData.depth], fun H' _ => .dp (.int _) (by
    simp only [PyData.showable, decide_eq_true_eq]
    have : ((Builtin.Int.intBits i : Nat) : Int).natAbs < 2 ^ 40 := by omega
    by_cases z : ((Builtin.Int.intBits i : Nat) : Int).natAbs = 0
    · rw [z]; decide
    · have := (Nat.log2_lt z).mpr this
      omega)⟩
theorem wy_neg {K : PySem.W.Frag} {H : Hp} {i : Int} (f : Xc.Fig i) (h : i < 0) : Wy K H (.int i) "number" (.int i) (.int i) := by
  obtain ⟨h1, h2, h3⟩ := int_sh (H := H) K f
  exact ⟨.inr ⟨.int, fun _ _ => .int i, fun j e => by cases e; exact h, rfl, rfl⟩, h1, h2, h3⟩
theorem wy_odd {K : PySem.W.Frag} {H : Hp} {x : V} (o : Odd H x) : ∃ d, Wy K H x "number" x d := by
  obtain ⟨d, h1, h2, h3⟩ := o.tz K
  obtain ⟨k, e1, e2, e3, _⟩ := o.kin K
  exact ⟨d, .inr ⟨k, e1, fun i z => absurd z (e3 i), rfl, rfl⟩, h1, h2, h3⟩
section
variable {P : Program} {w : World} {K : PySem.W.Frag} {mg : Str → Option Value} {base : Heap} {A : Ad} {H H0 : Hp} {MM : List Addr} {L L' F : Led} {Q : VK} {E : XK}
theorem kb_bits (T : Txt K mg w A) : KBn K A.d_bits ["number"] 0 ["number"] (fun us ws => us ++ [0].filterMap (ws[·]?)) (fun us ws => us ++ [0].filterMap (ws[·]?)) :=
  kb_of T.c_bits.F _ fun _ _ _ _ _ _ us ws h1 h2 => match us, h1, ws, h2 with | [], _, [_], _ => rfl
abbrev Wy.tx {K : PySem.W.Frag} {H : Hp} {x y : V} {wd : Str} {d : PyData} (_ : Wy K H x wd y d) : Str := (PyData.tuple [.str wd, d]).shown
theorem three_led {H : Hp} {a b c : Addr} {o1 o2 o3 : HO} (i1 : H a = some o1) (i2 : H b = some o2) (i3 : H c = some o3) (n1 : a ≠ b) (n2 : c ≠ b) (n3 : c ≠ a) : Hs H [a] H [(a, o1), (b, o2), (c, o3)] :=
  Hs.start H [a] _ (by simp [n1, n2.symm, n3.symm]) (by simp [i1, i2, i3]) (by simp [i1])
set_option hygiene false in
local macro_rules | `(tactic| walk_at "restb") => `(tactic| (
  rename_i p0 H1 hp0 S1
  refine Xc.rd_reprZ S1 (by walk_at "mem") (W.tz H1 (LamX.ExtN.of S1.same)) W.sz W.dp ?_
  walk_at "rd"
  refine ⟨tb.ext S1.same, fun G1 eN1 tb1 => ?_⟩
  unfold TSaid
  intro G2 R2 sm2 hR2
  walk_at "rd"
  have e1 : LamX.ExtN H G2 := ((LamX.ExtN.of S1.same).trans eN1).trans (LamX.ExtN.of sm2)
  refine bits_said T W e1 hR2 fun t1 G3 sm3 ht1 et1 => ?_
  have S3 := Rs.Hs.start1 et1 [] (.inl rfl)
  clear S1 S
  walk_at "rd"
  rename_i p G4 hp S4
  have e4 : LamX.ExtN H G4 := (e1.trans (LamX.ExtN.of sm3)).trans (LamX.ExtN.of S4.same)
  refine ⟨(((tb1.ext sm2).ext sm3).ext S4.same), fun G5 eN5 tb5 => ?_⟩
  intro G6 R6 sm6 hR6
  walk_at "rd"
  have e6 := (e4.trans eN5).trans (LamX.ExtN.of sm6)
  refine ⟨rfl, rfl, ?_⟩
  refine bits_said T W e6 hR6 fun t2 G7 sm7 ht2 et2 => ?_
  have j1 := sm6 _ _ (eN5 _ _ (S4.is _ (List.mem_cons_of_mem _ List.mem_cons_self)) (fun _ z => by cases z))
  have j2 := sm6 _ _ (eN5 _ _ (S4.is _ List.mem_cons_self) (fun _ z => by cases z))
  have i1 := sm7 _ _ j1
  have i2 := sm7 _ _ j2
  dsimp only at i1 i2 j1 j2
  have n1 : p ≠ t1 := fun z => by rw [z, i1] at i2; cases i2
  have n2 : t2 ≠ t1 := fun z => by rw [z, j1] at ht2; cases ht2
  have n3 : t2 ≠ p := fun z => by rw [z, j2] at ht2; cases ht2
  have e7 : LamX.ExtN H G7 := e6.trans (LamX.ExtN.of sm7)
  have e3 : LamX.ExtN H G3 := e1.trans (LamX.ExtN.of sm3)
  have S7 := three_led i2 i1 et2 n1 n2 n3
  have fe : ∀ (H' : Hp) (L' : Led), Rs.Hs G7 [p] H' L' → LamX.ExtN H H' := fun H' L' S b o eb nt => S.old _ _ (e7 _ _ eb nt) (fun hm => by
    have hbp : b = p := by simpa using hm
    have := e3 _ _ eb nt
    rw [hbp, hp] at this
    cases this)
  walk_at "rd"
  rename_i G8 S8
  clear S7
  simp only [List.cons_append, List.nil_append] at S8
  refine lcw_list (xs := [.ref t1, .ref t2]) S8 (fun i acc => acc = List.replicate i (V.str W.tx)) rfl (fun H' acc D S => S.lst (by walk_at "mem")) ?_ ?_
  · rintro D i x acc G9 hx rfl hD S9
    have hi : i < 2 := (List.getElem?_eq_some_iff.mp hx).1
    have hm := List.mem_of_getElem? hx
    simp only [List.mem_cons, List.not_mem_nil, or_false] at hm
    walk_at "lc"
    rcases hm with rfl | rfl
    · refine Xc.rd_reprZ S9 (by walk_at "mem") (W.tz G9 (fe _ _ S9)) W.sz W.dp ?_
      walk_at "rd"
      refine rd_lcPut S9 (by walk_at "chg") hD (Rs.sz' (by simp; omega)) (by walk_at "sub") ?_
      rw [List.replicate_succ']
    · refine Xc.rd_reprZ S9 (by walk_at "mem") (W.tz G9 (fe _ _ S9)) W.sz W.dp ?_
      walk_at "rd"
      refine rd_lcPut S9 (by walk_at "chg") hD (Rs.sz' (by simp; omega)) (by walk_at "sub") ?_
      rw [List.replicate_succ']
  · rintro D acc G9 rfl hD S9
    rw [show List.replicate [V.ref t1, V.ref t2].length (V.str W.tx) = [V.str W.tx, V.str W.tx] from rfl] at S9
    walk_at "rd"
    rename_i q G10 hq S10
    refine ⟨1, by decide, .inl ⟨D, q, _, _, rfl, rfl, S10.lst (by walk_at "mem"), S10.lst (by walk_at "mem"), .cons (.inl ⟨rfl, rfl⟩) (.cons (.inl ⟨rfl, rfl⟩) .nil)⟩, ?_⟩
    refine k _ (fe _ _ S10) (tabs_lst (tb5.ext (Same.trans sm6 sm7)) fun b o eb nl => S10.old _ _ eb (fun hm => ?_))
    have hbp : b = p := by simpa using hm
    rw [hbp, i2] at eb
    cases eb
    exact nl _ rfl))
theorem ok_br (T : Txt K mg w A) (TB : LamX.TabB base mg A.cc__law_bits_right 307) : FnG P w K mg base 8 A.f__law_bits_right A.d__law_bits_right ["_law_item"] (sp_br K) := by
  have G__law_refusal : FnOk P w K mg base CX0 1 A.f__law_refusal A.d__law_refusal ["_law_e"] (SepN (R_ref A)) := ok_refusal T
  have G_bits : FnOk P w K mg base (L2.CX P w) 3 A.f_bits A.d_bits ["number"] (sp_bits K A.C_BadNumber) := ok_bits T
  have hmem : ((307 : Addr), (("_law_bits_right" : Str) ++ ".<locals>.") ++ "<lambda>") ∈ TT := List.mem_cons_self
  have huni : ∀ p ∈ TT, p.1 = 307 → p.2 = (("_law_bits_right" : Str) ++ ".<locals>.") ++ "<lambda>" := by
    intro p hp e
    simp only [TT, List.mem_cons, List.not_mem_nil, or_false] at hp
    rcases hp with rfl | rfl
    · rfl
    · exact absurd e (by decide)
  refine Xc.defGC T.cx__law_bits_right sc_l_bits_right (fun vs H Q E h => ?_) (fun Ar outer s H vs Q E cl hr h => ?_)
  · obtain ⟨x, rfl, _⟩ := h; rfl
  · obtain ⟨x, rfl, hx, tb, k⟩ := h
    refine ⟨_, (pss_cons (ps_if (PW.pt (pw_or (pt_not (pt_val (pe_callB call_isi (by rfl) T.n_isinstance PyProof.Rows.boot_isinstance (pa_cons (pv 0) (pa_cons (pe_bltn (v := .ty "int") rfl T.n_int PyProof.Rows.boot_int rfl) pa_nil))))) (pw_or (pt_val (pe_callB call_isi (by rfl) T.n_isinstance PyProof.Rows.boot_isinstance (pa_cons (pv 0) (pa_cons (pe_bltn (v := .ty "bool") rfl T.n_bool PyProof.Rows.boot_bool rfl) pa_nil)))) (pw_or1 (pt_cmpR op_lt (pv 0) pe_int (nomark _))))))
        (pss_one (ps_set (i := 1) sc_l_bits_right.nd rfl (Or.inl rfl) (pe_callB (Xc.call_reprZ T.x_stat cl hr) (by rfl) T.n_repr PyProof.Rows.boot_repr (pa_cons (pe_tup (pa_cons pe_str (pa_cons (pv 0) pa_nil))) pa_nil))))
        (pss_cons (ps_par (i := 2) (j := 3) rfl sc_l_bits_right.nd rfl rfl (by decide) rfl rfl (pa_cons pe_int (pa_cons (pv 0) pa_nil)) (by rfl))
        (pss_cons (ps_while PassesOwn.never (pt_cmpR op_gt (pv 3) pe_int (nomark _))
          (pss_one (ps_par (i := 2) (j := 3) rfl sc_l_bits_right.nd rfl rfl (by decide) rfl rfl (pa_cons (pe_op op_add (pv 2) pe_int) (pa_cons (pe_op op_fdivW (pv 3) pe_int) pa_nil)) (by rfl))))
        (pss_cons (ps_while PassesOwn.never (pt_cmpR op_gt (pv 3) pe_int (nomark _))
          (pss_one (ps_par (i := 2) (j := 3) rfl sc_l_bits_right.nd rfl rfl (by decide) rfl rfl (pa_cons (pe_op op_add (pv 2) pe_int) (pa_cons (pe_op op_fdivW (pv 3) pe_int) pa_nil)) (by rfl))))
        (pss_one (ps_set (i := 1) sc_l_bits_right.nd rfl (Or.inl rfl) (pe_callB (Xc.call_reprZ T.x_stat cl hr) (by rfl) T.n_repr PyProof.Rows.boot_repr (pa_cons (pe_tup (pa_cons pe_str (pa_cons (pv 2) pa_nil))) pa_nil))))))))
      (pss_cons (ps_set (i := 4) sc_l_bits_right.nd rfl (Or.inl rfl) (pe_lst (pa_cons (pe_heard T TB hmem huni G__law_refusal rfl rfl (hr.mono (by decide)) (LamX.lamS_by (by first | rfl | kernel_rfl)) rfl (fun _ _ _ _ _ => rfl) (fun _ _ _ _ _ _ _ hr2 => pe_call G_bits (hr2.mono (by decide)) rfl T.c_bits.m T.c_bits.F.kp T.c_bits.b .nil (passes_call (takes_of rfl rfl rfl rfl) fun _ _ _ _ z => z) (pa_cons (pv 0) pa_nil))) pa_nil)))
      (pss_cons (ps_expr (pe_bm PySem.F.plainAttrs_list PySem.F.slot_list_append PySem.F.type_list_append mt_append (pv 4) (pa_cons (pe_heard T TB hmem huni G__law_refusal rfl rfl (hr.mono (by decide)) (LamX.lamS_by (by first | rfl | kernel_rfl)) rfl (fun _ _ _ _ _ => rfl) (fun _ _ _ _ _ _ _ hr2 => pe_callK0 G_bits (hr2.mono (by decide)) rfl T.c_bits.m T.c_bits.F.kp (kb_bits T) (passes_call (takes_of rfl rfl rfl rfl) fun _ _ _ _ z => z) (pk_cons (pv 0) pk_nil))) pa_nil)))
      (pss_one (ps_ret (pe_cmpR (op_eqV hr.units) (pe_lc (own := [("_law_one", 5)]) (g := gName 5) (tt := tYes) rfl sc_l_bits_right.nd (pi_list (pv 4)) (blkOk_by (N := ["_law_item", "_law_due", "_law_many", "_law_left", "_law_told", "_law_one"]) (sc := defScope s_l_bits_right) (by decide +kernel)) (fun _ _ _ _ _ => (pg_name (i := 5) sc_l_bits_right.nd rfl (Or.inl rfl))) (fun _ _ _ _ _ => pts_nil) (fun _ _ _ _ _ => (pe_callB (show CallR _ (.builtin "repr") (Xc.rReprZ K) from Xc.call_reprZ T.x_stat cl hr) (by rfl) T.n_repr PyProof.Rows.boot_repr (pa_cons (pv 5) pa_nil)))) (pe_lst (pa_cons (pv 1) (pa_cons (pv 1) pa_nil))) (nomark _))))))), ?_⟩
    have S := Hs.start0 H
    have sm0 : LamX.ExtN H H := LamX.ExtN.refl H
    walk_at "st"
    walk_at "rd"
    rcases hx with ⟨i, rfl, f⟩ | ho
    · refine rd_isi (Kin.int i) (kit_int _) ?_
      walk_at "rd"
      walk_at "if0"
      refine rd_isi (Kin.int i) (kit_bool _) ?_
      walk_at "rd"
      walk_at "if0"
      by_cases hi : 0 ≤ i
      · refine rd_decF (by omega) ?_
        walk_at "rd"
        refine rd_while (fun m σ H' => ∃ (c : Nat) (l : Int), σ = [some (.int i), none, some (.int (c : Nat)), some (.int l), none, none] ∧ H = H' ∧ 0 ≤ l ∧ Builtin.Int.intBits l + c = Builtin.Int.intBits i ∧ m = l.toNat) _ ⟨0, i, rfl, rfl, hi, by omega, rfl⟩ ?_
        rintro m σ H' ⟨c, l, rfl, rfl, hl, hb, rfl⟩
        walk_at "rd"
        refine rd_dec ?_ ?_ <;> intro hc
        · obtain ⟨q1, q2⟩ := bits_step64 hl hc
          walk_at "rd"
          refine Xc.rd_divB (b := 65) (by decide) (by decide) (by decide) (by decide) ?_
          walk_at "rd"
          refine ⟨(l / 18446744073709551616).toNat, by omega, c + 64, l / 18446744073709551616, rfl, rfl, q1, by omega, rfl⟩
        · walk_at "rd"
          refine rd_while (fun m σ H' => ∃ (c : Nat) (l : Int), σ = [some (.int i), none, some (.int (c : Nat)), some (.int l), none, none] ∧ H = H' ∧ 0 ≤ l ∧ Builtin.Int.intBits l + c = Builtin.Int.intBits i ∧ m = l.toNat) _ ⟨c, l, rfl, rfl, hl, hb, rfl⟩ ?_
          rintro m σ H' ⟨c, l, rfl, rfl, hl, hb, rfl⟩
          walk_at "rd"
          refine rd_dec ?_ ?_ <;> intro hc
          · obtain ⟨q1, q2⟩ := bits_step1 hc
            walk_at "rd"
            refine ⟨(l / 2).toNat, by omega, c + 1, l / 2, rfl, rfl, q1, by omega, rfl⟩
          · have hl0 : l = 0 := by omega
            subst hl0
            rw [bits_zero] at hb
            obtain rfl : c = Builtin.Int.intBits i := by omega
            have W := wy_good (K := K) (H := H) f hi
            walk_at "rd"
            walk_at "restb"
      · refine rd_decT (by omega) ?_
        have W := wy_neg (K := K) (H := H) f (by omega)
        walk_at "rd"
        walk_at "restb"
    · obtain ⟨d, W⟩ := wy_odd (K := K) ho
      obtain ⟨kd, h1, h2, h3, _⟩ := ho.kin K
      refine rd_isi (h1 _ sm0) (kit_int _) ?_
      walk_at "rd"
      by_cases hb : kd = .bool
      · subst hb
        rw [show (!(Kn.bool == Kn.int || Kn.bool == Kn.bool)) = false from rfl]
        walk_at "if0"
        refine rd_isi (h1 _ sm0) (kit_bool _) ?_
        rw [show (Kn.bool == Kn.bool) = true from rfl]
        walk_at "rd"
        walk_at "restb"
      · rw [show (!(kd == Kn.int || kd == Kn.bool)) = true by rw [beq_eq_false_iff_ne.mpr h2, beq_eq_false_iff_ne.mpr hb]; rfl]
        walk_at "if1"
        walk_at "restb"
end
end K01

namespace K01
open PySem L2 Rs
structure Wr (K : PySem.W.Frag) (H : Hp) (x : V) (wd : Str) (y : V) : Prop where
  way : (∃ (a : Addr) (xs : List V), x = .ref a ∧ H a = some (.lst xs) ∧ xs.length ≤ 4096 ∧ wd = "told" ∧ y = .non) ∨ (∃ (a : Addr) (xs : List V), x = .ref a ∧ H a = some (.lst xs) ∧ 4096 < xs.length ∧ wd = "many" ∧ y = .int 4096) ∨
    (∃ kd, (∀ H', LamX.ExtN H H' → Kin K H' x kd) ∧ kd ≠ .list ∧ wd = "kind" ∧ y = .str "list")
theorem Wr.dat {K : PySem.W.Frag} {H : Hp} {x y : V} {wd : Str} (W : Wr K H x wd y) : ∃ yd, (∀ H' t, H' t = some (.tup [.str wd, y]) → Dp K H' (.ref t) (.tuple [.str wd, yd])) ∧ SeqAt.shaped (.list [.tuple [.str wd, yd], .tuple [.str wd, yd]]) = true ∧ PyData.eqv (.list [.tuple [.str wd, yd], .tuple [.str wd, yd]]) (.list [.tuple [.str wd, yd], .tuple [.str wd, yd]]) = true := by
  rcases W.way with ⟨_, _, _, _, _, rfl, rfl⟩ | ⟨_, _, _, _, _, rfl, rfl⟩ | ⟨_, _, _, rfl, rfl⟩
  · exact ⟨_, fun _ t h => .tup (SqT.of h) (.cons (.str _) (.cons .non .nil)), by decide +kernel, by decide +kernel⟩
  · exact ⟨_, fun _ t h => .tup (SqT.of h) (.cons (.str _) (.cons (.int _) .nil)), by decide +kernel, by decide +kernel⟩
  · exact ⟨_, fun _ t h => .tup (SqT.of h) (.cons (.str _) (.cons (.str _) .nil)), by decide +kernel, by decide +kernel⟩
theorem row_said {K : PySem.W.Frag} {mg : Str → Option Value} {w : World} {A : Ad} {H H2 : Hp} {x y : V} {wd : Str} {Q R : VK} (T : Txt K mg w A) (W : Wr K H x wd y) (e : LamX.ExtN H H2)
    (hR : ∀ v H', (∀ t, H' t = none → Q (.ref t) (upd H' t (.tup [.str "told", v]))) → R v H') (h : ∀ (t : Addr) (H' : Hp), Same H2 H' → H2 t = none → H' t = some (.tup [.str wd, y]) → Q (.ref t) H') :
    sp_row K A.C_BadKind A.C_TooMany [x] H2 R (fun cls d H' => PySem.W.exmAny K cls (csA A) = some true ∧ ∀ a, H' a = none → SepN (R_ref A) [.ref a] (upd H' a (Xc.Exv a cls d)) Q E0) := by
  rcases W.way with ⟨a, xs, rfl, ha, hl, rfl, rfl⟩ | ⟨a, xs, rfl, ha, hl, rfl, rfl⟩ | ⟨kd, hk, hb, rfl, rfl⟩
  · exact ⟨_, rfl, .inl ⟨a, xs, rfl, e _ _ ha (fun _ z => by cases z), hl, hR _ _ fun t ht => h t _ (same_up ht) ht upd_same⟩⟩
  · refine ⟨_, rfl, .inr (.inl ⟨a, xs, rfl, e _ _ ha (fun _ z => by cases z), hl, fun dx hdx => ⟨T.x_any_TooMany, fun ea hea => ?_⟩⟩)⟩
    have S := Hs.start0 H2
    obtain ⟨n1, S3⟩ := S.newAt (o := .xd [("most", .int 4096)]) hdx
    obtain ⟨n2, S4⟩ := S3.newAt (o := Xc.Exv ea (.ref A.C_TooMany) (some dx)) hea
    refine sepn_use (F := []) S4 ⟨ea, dx, A.C_TooMany, "most", "many", .int 4096, .mny, rfl, rfl, rfl, rfl⟩ (by intro a'; simp only [Rs.cn_app, Rs.cn_cons, Rs.cn_nil, List.append_assoc, List.cons_append, List.nil_append]; omega) (fun c hc => nomatch hc) fun v H5 N L' ⟨t5, e1, e2, e3⟩ hn S5 => ?_
    subst e1 e2 e3
    exact h t5 H5 S5.same (hn _ List.mem_cons_self) (S5.is (t5, HO.tup [.str "many", .int 4096]) List.mem_cons_self)
  · refine ⟨_, rfl, .inr (.inr ⟨kd, hk _ e, hb, fun dx hdx => ⟨T.x_any_BadKind, fun ea hea => ?_⟩⟩)⟩
    have S := Hs.start0 H2
    obtain ⟨n1, S3⟩ := S.newAt (o := .xd [("wanted", .str "list")]) hdx
    obtain ⟨n2, S4⟩ := S3.newAt (o := Xc.Exv ea (.ref A.C_BadKind) (some dx)) hea
    refine sepn_use (F := []) S4 ⟨ea, dx, A.C_BadKind, "wanted", "kind", .str "list", .knd, rfl, rfl, rfl, rfl⟩ (by intro a'; simp only [Rs.cn_app, Rs.cn_cons, Rs.cn_nil, List.append_assoc, List.cons_append, List.nil_append]; omega) (fun c hc => nomatch hc) fun v H5 N L' ⟨t5, e1, e2, e3⟩ hn S5 => ?_
    subst e1 e2 e3
    exact h t5 H5 S5.same (hn _ List.mem_cons_self) (S5.is (t5, HO.tup [.str "kind", .str "list"]) List.mem_cons_self)
theorem four_led {H : Hp} {a b c d : Addr} {o1 o2 o3 o4 : HO} (i1 : H a = some o1) (i2 : H b = some o2) (i3 : H c = some o3) (i4 : H d = some o4) (n1 : a ≠ b) (n2 : c ≠ b) (n3 : c ≠ a) (n4 : a ≠ d) (n5 : b ≠ d) (n6 : c ≠ d) : Hs H [a] H [(a, o1), (b, o2), (c, o3), (d, o4)] :=
  Hs.start H [a] _ (by simp [n1, n2.symm, n3.symm, n4, n5, n6]) (by simp [i1, i2, i3, i4]) (by simp [i1])
def RowV (K : PySem.W.Frag) (H : Hp) (x : V) : Prop := (∃ (a : Addr) (xs : List V), x = .ref a ∧ H a = some (.lst xs)) ∨ (∃ kd, (∀ H', LamX.ExtN H H' → Kin K H' x kd) ∧ kd ≠ .list)
theorem Odd.row {K : PySem.W.Frag} {H : Hp} {x : V} (o : Odd H x) : RowV K H x := by
  obtain ⟨k, h1, h2, h3, h4⟩ := o.kin K
  by_cases hk : k = .list
  · obtain ⟨a, xs, e, ha, _⟩ := h4 hk
    exact .inl ⟨a, xs, e, ha⟩
  · exact .inr ⟨k, h1, hk⟩
def sp_rr (K : PySem.W.Frag) : Sp := fun vs H Q _ => ∃ x, vs = [x] ∧ RowV K H x ∧ LamX.Tabs TT H ∧ ∀ H', LamX.ExtN H H' → LamX.Tabs TT H' → Q (.bl true) H'
section
variable {P : Program} {w : World} {K : PySem.W.Frag} {mg : Str → Option Value} {base : Heap} {A : Ad} {H H0 : Hp} {MM : List Addr} {L L' F : Led} {Q : VK} {E : XK}
theorem kb_need_row (T : Txt K mg w A) : KBn K A.d_need_row ["thing"] 0 ["thing"] (fun us ws => us ++ [0].filterMap (ws[·]?)) (fun us ws => us ++ [0].filterMap (ws[·]?)) :=
  kb_of T.c_need_row.F _ fun _ _ _ _ _ _ us ws h1 h2 => match us, h1, ws, h2 with | [], _, [_], _ => rfl
set_option hygiene false in
local macro_rules | `(tactic| walk_at "restr") => `(tactic| (
  walk_at "rd"
  refine ⟨tb.ext Sx.same, fun G1 eN1 tb1 => ?_⟩
  unfold TSaid
  intro G2 R2 sm2 hR2
  walk_at "rd"
  have e1 : LamX.ExtN H G2 := ((LamX.ExtN.of Sx.same).trans eN1).trans (LamX.ExtN.of sm2)
  have d1 := sm2 _ _ (eN1 _ _ (Sx.is _ List.mem_cons_self) (fun _ z => by cases z))
  dsimp only at d1
  have dn0 := Sx.none0 (a := td)
  refine row_said T W e1 hR2 fun t1 G3 sm3 ht1 et1 => ?_
  have S3 := Rs.Hs.start1 et1 [] (.inl rfl)
  have m1 : t1 ≠ td := fun z => by rw [z, d1] at ht1; cases ht1
  clear Sx S
  walk_at "rd"
  rename_i p G4 hp S4
  have m2 : p ≠ td := fun z => by rw [z, sm3 _ _ d1] at hp; cases hp
  have e4 : LamX.ExtN H G4 := (e1.trans (LamX.ExtN.of sm3)).trans (LamX.ExtN.of S4.same)
  refine ⟨(((tb1.ext sm2).ext sm3).ext S4.same), fun G5 eN5 tb5 => ?_⟩
  intro G6 R6 sm6 hR6
  walk_at "rd"
  have e6 := (e4.trans eN5).trans (LamX.ExtN.of sm6)
  refine ⟨rfl, rfl, ?_⟩
  refine row_said T W e6 hR6 fun t2 G7 sm7 ht2 et2 => ?_
  have j1 := sm6 _ _ (eN5 _ _ (S4.is _ (List.mem_cons_of_mem _ List.mem_cons_self)) (fun _ z => by cases z))
  have j2 := sm6 _ _ (eN5 _ _ (S4.is _ List.mem_cons_self) (fun _ z => by cases z))
  have j3 := sm6 _ _ (eN5 _ _ (S4.same _ _ (sm3 _ _ d1)) (fun _ z => by cases z))
  have i1 := sm7 _ _ j1
  have i2 := sm7 _ _ j2
  have i3 := sm7 _ _ j3
  dsimp only at i1 i2 j1 j2 i3 j3
  have n1 : p ≠ t1 := fun z => by rw [z, i1] at i2; cases i2
  have n2 : t2 ≠ t1 := fun z => by rw [z, j1] at ht2; cases ht2
  have n3 : t2 ≠ p := fun z => by rw [z, j2] at ht2; cases ht2
  have n6 : t2 ≠ td := fun z => by rw [z, j3] at ht2; cases ht2
  have e7 : LamX.ExtN H G7 := e6.trans (LamX.ExtN.of sm7)
  have e3 : LamX.ExtN H G3 := e1.trans (LamX.ExtN.of sm3)
  have S7 := four_led i2 i1 et2 i3 n1 n2 n3 m2 m1 n6
  have fe : ∀ (H' : Hp) (L' : Led), Rs.Hs G7 [p] H' L' → LamX.ExtN H H' := fun H' L' S b o eb nt => S.old _ _ (e7 _ _ eb nt) (fun hm => by
    have hbp : b = p := by simpa using hm
    have := e3 _ _ eb nt
    rw [hbp, hp] at this
    cases this)
  walk_at "rd"
  rename_i G8 S8 q G10 hq S10
  clear S7
  simp only [List.cons_append, List.nil_append] at S10
  obtain ⟨yd, w1, w2, w3⟩ := W.dat
  refine ⟨_, _, .lst (S10.lst (xs := [.ref t1, .ref t2]) (by walk_at "mem")) (.cons (w1 _ _ (S10.is (t1, _) (by walk_at "mem"))) (.cons (w1 _ _ (S10.is (t2, _) (by walk_at "mem"))) .nil)),
    .lst (S10.lst (xs := [.ref td, .ref td]) (by walk_at "mem")) (.cons (w1 _ _ (S10.is (td, _) (by walk_at "mem"))) (.cons (w1 _ _ (S10.is (td, _) (by walk_at "mem"))) .nil)), w2, w2, ?_⟩
  rw [w3]
  refine k _ (fe _ _ S10) (tabs_lst (tb5.ext (Same.trans sm6 sm7)) fun b o eb nl => S10.old _ _ eb (fun hm => ?_))
  have hbp : b = p := by simpa using hm
  rw [hbp, i2] at eb
  cases eb
  exact nl _ rfl))
theorem ok_rr (T : Txt K mg w A) (TB : LamX.TabB base mg A.cc__law_row_right 312) : FnG P w K mg base 8 A.f__law_row_right A.d__law_row_right ["_law_item"] (sp_rr K) := by
  have G__law_refusal : FnOk P w K mg base CX0 1 A.f__law_refusal A.d__law_refusal ["_law_e"] (SepN (R_ref A)) := ok_refusal T
  have G_need_row : FnOk P w K mg base (L2.CX P w) 3 A.f_need_row A.d_need_row ["thing"] (sp_row K A.C_BadKind A.C_TooMany) := ok_need_row T
  have hmem : ((312 : Addr), (("_law_row_right" : Str) ++ ".<locals>.") ++ "<lambda>") ∈ TT := List.mem_cons_of_mem _ List.mem_cons_self
  have huni : ∀ p ∈ TT, p.1 = 312 → p.2 = (("_law_row_right" : Str) ++ ".<locals>.") ++ "<lambda>" := by
    intro p hp e
    simp only [TT, List.mem_cons, List.not_mem_nil, or_false] at hp
    rcases hp with rfl | rfl
    · exact absurd e (by decide)
    · rfl
  refine Xc.defGC T.cx__law_row_right sc_l_row_right (fun vs H Q E h => ?_) (fun Ar outer s H vs Q E cl hr h => ?_)
  · obtain ⟨x, rfl, _⟩ := h; rfl
  · obtain ⟨x, rfl, hx, tb, k⟩ := h
    refine ⟨_, (pss_cons (ps_set (i := 1) sc_l_row_right.nd rfl (Or.inl rfl) (pe_tup (pa_cons pe_str (pa_cons pe_non pa_nil))))
      (pss_cons (ps_if (pt_not (pt_val (pe_callB call_isi (by rfl) T.n_isinstance PyProof.Rows.boot_isinstance (pa_cons (pv 0) (pa_cons (pe_bltn (v := .ty "list") rfl T.n_list PyProof.Rows.boot_list rfl) pa_nil)))))
        (pss_one (ps_set (i := 1) sc_l_row_right.nd rfl (Or.inl rfl) (pe_tup (pa_cons pe_str (pa_cons pe_str pa_nil)))))
        (pss_one (ps_if (pt_cmpR op_gt (pe_callB call_len_seq (by rfl) T.n_len PySem.boot_len (pa_cons (pv 0) pa_nil)) pe_int (nomark _))
          (pss_one (ps_set (i := 1) sc_l_row_right.nd rfl (Or.inl rfl) (pe_tup (pa_cons pe_str (pa_cons pe_int pa_nil)))))
          pss_nil)))
      (pss_cons (ps_set (i := 2) sc_l_row_right.nd rfl (Or.inl rfl) (pe_lst (pa_cons (pe_heard T TB hmem huni G__law_refusal rfl rfl (hr.mono (by decide)) (LamX.lamS_by (by first | rfl | kernel_rfl)) rfl (fun _ _ _ _ _ => rfl) (fun _ _ _ _ _ _ _ hr2 => pe_call G_need_row (hr2.mono (by decide)) rfl T.c_need_row.m T.c_need_row.F.kp T.c_need_row.b .nil (passes_call (takes_of rfl rfl rfl rfl) fun _ _ _ _ z => z) (pa_cons (pv 0) pa_nil))) pa_nil)))
      (pss_cons (ps_expr (pe_bm PySem.F.plainAttrs_list PySem.F.slot_list_append PySem.F.type_list_append mt_append (pv 2) (pa_cons (pe_heard T TB hmem huni G__law_refusal rfl rfl (hr.mono (by decide)) (LamX.lamS_by (by first | rfl | kernel_rfl)) rfl (fun _ _ _ _ _ => rfl) (fun _ _ _ _ _ _ _ hr2 => pe_callK0 G_need_row (hr2.mono (by decide)) rfl T.c_need_row.m T.c_need_row.F.kp (kb_need_row T) (passes_call (takes_of rfl rfl rfl rfl) fun _ _ _ _ z => z) (pk_cons (pv 0) pk_nil))) pa_nil)))
      (pss_one (ps_ret (pe_cmpR (op_eqD hr.units) (pv 2) (pe_lst (pa_cons (pv 1) (pa_cons (pv 1) pa_nil))) (nomark _)))))))), ?_⟩
    have S := Hs.start0 H
    walk_at "st"
    walk_at "rd"
    rename_i td H1 hu0 Sx
    rcases hx with ⟨a, xs, rfl, ha⟩ | ⟨kd, hk, hb⟩
    · have ha1 := Sx.same _ _ ha
      refine rd_isi (Kin.lst ha1) (kit_list _) ?_
      walk_at "rd"
      walk_at "if0"
      refine ⟨a, xs, rfl, Or.inl (SqL.of ha1), ?_⟩
      walk_at "rd"
      refine rd_dec ?_ ?_ <;> intro hl
      · have W : Wr K H (.ref a) "many" (.int 4096) := ⟨.inr (.inl ⟨a, xs, rfl, ha, by omega, rfl, rfl⟩)⟩
        walk_at "rd"
        clear Sx
        rename_i td H2 hu1 S2
        have Sx : Hs H [] H2 [(td, .tup [.str "many", .int 4096])] := S2.sub (by walk_at "sub")
        walk_at "restr"
      · have W : Wr K H (.ref a) "told" .non := ⟨.inl ⟨a, xs, rfl, ha, by omega, rfl, rfl⟩⟩
        walk_at "restr"
    · have W : Wr K H x "kind" (.str "list") := ⟨.inr (.inr ⟨kd, hk, hb, rfl, rfl⟩)⟩
      refine rd_isi (hk _ (LamX.ExtN.of Sx.same)) (kit_list _) ?_
      rw [show (kd == .list) = false from beq_eq_false_iff_ne.mpr hb]
      walk_at "rd"
      walk_at "if1"
      clear Sx
      rename_i td H2 hu1 S2
      have Sx : Hs H [] H2 [(td, .tup [.str "kind", .str "list"])] := S2.sub (by walk_at "sub")
      walk_at "restr"
end
end K01

namespace K01
open PySem L2 Rs
def NT (L : Led) : Prop := ∀ q ∈ L, ∀ ps, q.2 ≠ .tbl ps
theorem nt_nil : NT [] := fun q hq => nomatch hq
theorem nt_lst {a : Addr} {xs : List V} {L : Led} (h : NT L) : NT ((a, .lst xs) :: L) := fun q hq ps z => by
  rcases List.mem_cons.mp hq with rfl | hq
  · cases z
  · exact h q hq ps z
theorem nt_tup {a : Addr} {xs : List V} {L : Led} (h : NT L) : NT ((a, .tup xs) :: L) := fun q hq ps z => by
  rcases List.mem_cons.mp hq with rfl | hq
  · cases z
  · exact h q hq ps z
theorem nt_dK {a : Addr} {kv : List (Key × V)} {L : Led} (h : NT L) : NT ((a, .dK kv) :: L) := fun q hq ps z => by
  rcases List.mem_cons.mp hq with rfl | hq
  · cases z
  · exact h q hq ps z
section
variable {P : Program} {w : World} {K : PySem.W.Frag} {mg : Str → Option Value} {base : Heap} {A : Ad} {H H0 : Hp} {MM : List Addr} {L L' F : Led} {Q : VK} {E : XK} {a : Addr}
theorem rd_repG {xs : List V} {k : Int} {n : Nat} (S : Hs H0 MM H L) (m : (a, HO.lst xs) ∈ L) (h1 : k = n) (h2 : n < 2 ^ 40) (hz : xs.length * n ≤ sizeLine) (h : ∀ p H' ys, ys.length = xs.length * n → H0 p = none → Hs H0 MM H' ((p, .lst ys) :: L) → Q (.ref p) H') : rRep (.ref a) (.int k) H Q := by
  subst h1
  refine rd_repL S m (by omega) (by omega) (by simpa using hz) fun p H' hp S' => h p H' _ ?_ hp S'
  rw [List.length_flatten, List.map_replicate, List.sum_replicate_nat, Int.toNat_natCast, Nat.mul_comm]
theorem use_row {x : V} (S : Hs (Xc.noT H0) MM H L) (nt : NT L) (m : ∀ b ∈ MM, b ∈ L.map (·.1)) (tb : LamX.Tabs TT H) (r : RowV K H x) (h : ∀ H', Hs (Xc.noT H0) MM H' L → LamX.Tabs TT H' → Q (.bl true) H') : sp_rr K [x] H Q E :=
  ⟨x, rfl, r, tb, fun H' e tb' => h H' (Xc.Hs.extN S e nt m) tb'⟩
theorem use_br {x : V} (S : Hs (Xc.noT H0) MM H L) (nt : NT L) (m : ∀ b ∈ MM, b ∈ L.map (·.1)) (tb : LamX.Tabs TT H) (r : (∃ i : Int, x = .int i ∧ Xc.Fig i) ∨ Odd H x) (h : ∀ H', Hs (Xc.noT H0) MM H' L → LamX.Tabs TT H' → Q (.bl true) H') : sp_br K [x] H Q E :=
  ⟨x, rfl, r, tb, fun H' e tb' => h H' (Xc.Hs.extN S e nt m) tb'⟩
def sp_hand : Sp := fun vs H Q _ => vs = [] ∧ LamX.Tabs TT H ∧ ∀ H', LamX.ExtN H H' → LamX.Tabs TT H' → Q (.bl true) H'
theorem fig_of {i : Int} (h : i.natAbs < 10 ^ 4000) : Xc.Fig i := by
  have h1 : (10 : Nat) ^ 4000 < 10 ^ 4300 := by decide +kernel
  have h2 : (10 : Nat) ^ 4000 < 2 ^ 29000 := by decide +kernel
  refine ⟨Nat.lt_trans h h1, ?_⟩
  by_cases z : i.natAbs = 0
  · rw [z]; decide
  · exact (Nat.log2_lt z).mpr (Nat.lt_trans h h2)
theorem great_lt : (10 : Nat) ^ (64 * 62) + 5 < 10 ^ 4000 := by decide +kernel
theorem great_bits {i : Nat} (h : i < 62) : (((10 ^ (64 * i) : Nat) : Int)).natAbs < 2 ^ 13100 := by
  rw [Int.natAbs_natCast]
  refine Nat.lt_of_le_of_lt (Nat.pow_le_pow_right (by decide) (show 64 * i ≤ 3904 by omega)) ?_
  decide +kernel
theorem great_step (i : Nat) : ((10 ^ (64 * i) : Nat) : Int) * (10 : Int) ^ (64 : Int).toNat = ((10 ^ (64 * (i + 1)) : Nat) : Int) := by
  rw [show (10 : Int) ^ (64 : Int).toNat = ((10 ^ 64 : Nat) : Int) from by decide +kernel, ← Int.natCast_mul, ← Nat.pow_add]
  rfl
theorem mlst_nil {H : Hp} : Xc.MLst [] H := fun b hb => nomatch hb
local macro_rules | `(tactic| walk_at "nt") => `(tactic| repeat (with_reducible first | exact nt_nil | apply nt_lst | apply nt_tup | apply nt_dK))
theorem ok_hand (T : Txt K mg w A) (TB1 : LamX.TabB base mg A.cc__law_bits_right 307) (TB2 : LamX.TabB base mg A.cc__law_row_right 312) : FnG P w K mg base 9 A.f__law_by_hand_right A.d__law_by_hand_right [] sp_hand := by
  have G_is_whole : FnOk P w K mg base CX0 1 A.f_is_whole A.d_is_whole ["thing", "least", "most"] (sp_whole K) := ok_is_whole T
  have G__law_bits_right : FnG P w K mg base 8 A.f__law_bits_right A.d__law_bits_right ["_law_item"] (sp_br K) := ok_br T TB1
  have G__law_row_right : FnG P w K mg base 8 A.f__law_row_right A.d__law_row_right ["_law_item"] (sp_rr K) := ok_rr T TB2
  obtain ⟨_, kb_is_whole_least⟩ := kb_l T
  obtain ⟨_, d_is_whole, b_is_whole⟩ := kb_1 T
  refine defG T.c__law_by_hand_right.F sc_l_by_hand_right (fun vs H Q E h => ?_) (fun cdv Ar outer s H vs Q E cl hr h => ?_)
  · obtain ⟨rfl, _⟩ := h; rfl
  · obtain ⟨rfl, tb, k⟩ := h
    refine ⟨_, (pss_cons (ps_if (PW.pt (pw_or (pt_cmpR op_ne (pe_callB (call_repr cl hr) (by rfl) T.n_repr PyProof.Rows.boot_repr (pa_cons (pe_gl rfl T.g_MOST_THINGS) pa_nil)) pe_str (nomark _)) (pw_or (pt_cmpR op_notBl (pe_callN G_is_whole (hr.mono (by decide)) rfl T.c_is_whole.m T.c_is_whole.F.kp kb_is_whole_least pass0 (pa_cons pe_int pa_nil) (pk_cons pe_int pk_nil)) pe_bl (nomark _)) (pw_or1 (pt_cmpR op_notBl (pe_call G_is_whole (hr.mono (by decide)) rfl T.c_is_whole.m T.c_is_whole.F.kp b_is_whole d_is_whole pass0 (pa_cons pe_int pa_nil)) pe_bl (nomark _))))))
        (pss_one (ps_ret pe_bl))
        pss_nil)
      (pss_cons (ps_set (i := 0) sc_l_by_hand_right.nd rfl (Or.inl rfl) (pe_lst (pa_cons (pe_op op_rep (pe_lst (pa_cons pe_non pa_nil)) pe_int) (pa_cons (pe_op op_rep (pe_lst (pa_cons pe_non pa_nil)) pe_int) (pa_cons (pe_op op_rep (pe_lst (pa_cons (pe_lst pa_nil) pa_nil)) pe_int) (pa_cons (pe_op op_repT (pe_tup (pa_cons pe_non pa_nil)) pe_int) (pa_cons (pe_lst pa_nil) (pa_cons (pe_lst (pa_cons (pe_lst pa_nil) pa_nil)) (pa_cons pe_str (pa_cons pe_non (pa_cons pe_int (pa_cons pe_bl (pa_cons pe_dnewK pa_nil)))))))))))))
      (pss_cons (ps_if (PW.pt (pw_or (pt_not (pt_val (pe_callB (cr_all rfl) (by rfl) T.n_all PyProof.Rows.boot_all (pa_cons (pe_lc (own := [("_law_row", 4)]) (g := gName 4) (tt := tYes) rfl sc_l_by_hand_right.nd (pi_list (pv 0)) (blkOk_by (N := ["_law_rows", "_law_great", "_law_turn", "_law_power", "_law_row", "_law_step"]) (sc := defScope s_l_by_hand_right) (by decide +kernel)) (fun _ _ _ _ _ => (pg_name (i := 4) sc_l_by_hand_right.nd rfl (Or.inl rfl))) (fun _ _ _ _ _ => pts_nil) (fun _ _ _ _ _ => (pe_callG G__law_row_right cl (hr.mono (by decide)) rfl T.c__law_row_right.m T.c__law_row_right.F.kp T.c__law_row_right.b .nil (pa_cons (pv 4) pa_nil)))) pa_nil)))) (pw_or1 (pt_cmpR (op_neD hr.units) (pe_lc (own := [("_law_row", 4)]) (g := gName 4) (tt := tYes) rfl sc_l_by_hand_right.nd (pi_list (pe_slice sl_list (pv 0) po_none (po_some pe_int))) (blkOk_by (N := ["_law_rows", "_law_great", "_law_turn", "_law_power", "_law_row", "_law_step"]) (sc := defScope s_l_by_hand_right) (by decide +kernel)) (fun _ _ _ _ _ => (pg_name (i := 4) sc_l_by_hand_right.nd rfl (Or.inl rfl))) (fun _ _ _ _ _ => pts_nil) (fun _ _ _ _ _ => (pe_callB (show CallR _ (.builtin "len") (fun xs H Q => ∃ (p : Addr) (ys : List V), xs = [V.ref p] ∧ (SqL K H p ys ∨ SqT K H p ys) ∧ Q (V.int ys.length) H) from call_len_seq) (by rfl) T.n_len PySem.boot_len (pa_cons (pv 4) pa_nil)))) (pe_lst (pa_cons pe_int (pa_cons pe_int (pa_cons pe_int pa_nil)))) (nomark _)))))
        (pss_one (ps_ret pe_bl))
        pss_nil)
      (pss_cons (ps_set (i := 1) sc_l_by_hand_right.nd rfl (Or.inr rfl) pe_int)
      (pss_cons (ps_for PassesOwn.never rfl (pi_range1 rfl T.n_range (pa_cons pe_int pa_nil)) (pg_name (i := 2) sc_l_by_hand_right.nd rfl (Or.inl rfl))
        (pss_one (ps_set (i := 1) sc_l_by_hand_right.nd rfl (Or.inr rfl) (pe_op op_mulW (pv 1) (pe_op op_pow pe_int pe_int)))))
      (pss_cons (ps_if (PW.pt (pw_or (pt_not (pt_val (pe_callB (cr_all rfl) (by rfl) T.n_all PyProof.Rows.boot_all (pa_cons (pe_lc (own := [("_law_step", 5)]) (g := gName 5) (tt := tYes) rfl sc_l_by_hand_right.nd (pi_tup (pe_tup (pa_cons (pe_un un_neg pe_int) (pa_cons pe_int (pa_cons pe_int pa_nil))))) (blkOk_by (N := ["_law_rows", "_law_great", "_law_turn", "_law_power", "_law_row", "_law_step"]) (sc := defScope s_l_by_hand_right) (by decide +kernel)) (fun _ _ _ _ _ => (pg_name (i := 5) sc_l_by_hand_right.nd rfl (Or.inl rfl))) (fun _ _ _ _ _ => pts_nil) (fun _ _ _ _ _ => (pe_callG G__law_bits_right cl (hr.mono (by decide)) rfl T.c__law_bits_right.m T.c__law_bits_right.F.kp T.c__law_bits_right.b .nil (pa_cons (pe_op op_add (pv 1) (pv 5)) pa_nil)))) pa_nil)))) (pw_or1 (pt_not (pt_val (pe_callG G__law_bits_right cl (hr.mono (by decide)) rfl T.c__law_bits_right.m T.c__law_bits_right.F.kp T.c__law_bits_right.b .nil (pa_cons (pe_op op_sub pe_int (pv 1)) pa_nil)))))))
        (pss_one (ps_ret pe_bl))
        pss_nil)
      (pss_cons (ps_set (i := 3) sc_l_by_hand_right.nd rfl (Or.inr rfl) pe_int)
      (pss_cons (ps_for PassesOwn.never rfl (pi_range1 rfl T.n_range (pa_cons pe_int pa_nil)) (pg_name (i := 2) sc_l_by_hand_right.nd rfl (Or.inl rfl))
        (pss_cons (ps_if (pt_not (pt_val (pe_callB (cr_all rfl) (by rfl) T.n_all PyProof.Rows.boot_all (pa_cons (pe_lc (own := [("_law_step", 5)]) (g := gName 5) (tt := tYes) rfl sc_l_by_hand_right.nd (pi_tup (pe_tup (pa_cons (pe_un un_neg pe_int) (pa_cons (pe_un un_neg pe_int) (pa_cons pe_int (pa_cons pe_int pa_nil)))))) (blkOk_by (N := ["_law_rows", "_law_great", "_law_turn", "_law_power", "_law_row", "_law_step"]) (sc := defScope s_l_by_hand_right) (by decide +kernel)) (fun _ _ _ _ _ => (pg_name (i := 5) sc_l_by_hand_right.nd rfl (Or.inl rfl))) (fun _ _ _ _ _ => pts_nil) (fun _ _ _ _ _ => (pe_callG G__law_bits_right cl (hr.mono (by decide)) rfl T.c__law_bits_right.m T.c__law_bits_right.F.kp T.c__law_bits_right.b .nil (pa_cons (pe_op op_add (pv 3) (pv 5)) pa_nil)))) pa_nil))))
          (pss_one (ps_ret pe_bl))
          pss_nil)
        (pss_one (ps_set (i := 3) sc_l_by_hand_right.nd rfl (Or.inr rfl) (pe_op op_mul pe_int (pv 3))))))
      (pss_one (ps_ret pe_bl)))))))))), ?_⟩
    have S := Hs.start0 H
    walk_at "st"
    walk_at "rd"
    refine ⟨.int 4096, .int 4096, rfl, .int _, shw_of (by decide +kernel) (by decide), by decide +kernel, ?_⟩
    rw [show (PyData.int 4096).shown = "4096" from by decide +kernel]
    walk_at "rd"
    refine rd_decF (by simp) ?_
    refine ⟨rfl, rfl, _, _, _, _, rfl, Kin.int _, ?_⟩
    walk_at "rd"
    refine Xc.rd_notBl ?_
    rw [show (!decide (isWh (V.int 4096) 4096 4096 = true)) = false from by decide]
    walk_at "rd"
    walk_at "if0"
    refine ⟨_, _, _, _, rfl, Kin.int _, ?_⟩
    walk_at "rd"
    refine Xc.rd_notBl ?_
    rw [show (!decide (isWh (V.int 4097) 0 4096 = false)) = false from by decide]
    walk_at "rd"
    walk_at "if0"
    rename_i u1 G1 hu1 S1
    refine rd_repG (n := 4096) S1 (by walk_at "mem") rfl (by decide) (by rw [sizeLine_eq]; simp) fun p1 H1 y1 hy1 hp1 R1 => ?_
    clear S S1
    walk_at "rd"
    rename_i u2 G2 hu2 S2
    refine rd_repG (n := 4097) S2 (by walk_at "mem") rfl (by decide) (by rw [sizeLine_eq]; simp) fun p2 H2 y2 hy2 hp2 R2 => ?_
    clear R1 S2
    walk_at "rd"
    rename_i u3 G3 hu3 S3 u4 G4 hu4 S4
    refine rd_repG (n := 5000) S4 (by walk_at "mem") rfl (by decide) (by rw [sizeLine_eq]; simp) fun p3 H3 y3 hy3 hp3 R3 => ?_
    clear R2 S3 S4
    walk_at "rd"
    rename_i u5 G5 hu5 S5
    refine rd_repT S5 (by walk_at "mem") (by simp) (by decide) (by decide) (by simp) fun p4 H4 hp4 R4 => ?_
    clear R3 S5
    walk_at "rd"
    rename_i u6 G6 hu6 S6 u7 G7 hu7 S7 u8 G8 hu8 S8
    intro u9 hu9
    obtain ⟨hu90, S9⟩ := S8.newAt (o := .dK []) hu9
    clear R4 S6 S7 S8
    walk_at "rd"
    rename_i q G9 hq S10
    clear S9
    have tb1 : LamX.Tabs TT G9 := tb.ext S10.same
    replace S10 := Xc.Hs.toT S10
    refine Xc.lcwj_list (xs := [.ref p1, .ref p2, .ref p3, .ref p4, .ref u6, .ref u8, .str "list", .non, .int 4096, .bl true, .ref u9]) (Xc.lsts_tabs TT) tb1 S10 (fun i acc => acc = List.replicate i (V.bl true)) rfl (fun H' acc D S => S.lst (by walk_at "mem")) ?_ ?_
    · rintro D i x acc H3 hi rfl hD jt S
      have hil : i < 11 := (List.getElem?_eq_some_iff.mp hi).1
      have hm := List.mem_of_getElem? hi
      have rv : RowV K H3 x := by
        simp only [List.mem_cons, List.not_mem_nil, or_false] at hm
        rcases hm with rfl | rfl | rfl | rfl | rfl | rfl | rfl | rfl | rfl | rfl | rfl
        · exact .inl ⟨_, _, rfl, S.get (o := .lst y1) (by walk_at "mem")⟩
        · exact .inl ⟨_, _, rfl, S.get (o := .lst y2) (by walk_at "mem")⟩
        · exact .inl ⟨_, _, rfl, S.get (o := .lst y3) (by walk_at "mem")⟩
        · exact .inr ⟨.tup, fun H' e => .tup (e _ _ (S.get (a := p4) (o := .tup _) (by walk_at "mem")) (fun _ z => by cases z)), by decide⟩
        · exact .inl ⟨_, _, rfl, S.get (o := .lst []) (by walk_at "mem")⟩
        · exact .inl ⟨_, _, rfl, S.get (o := .lst _) (by walk_at "mem")⟩
        · exact .inr ⟨.str, fun H' e => .str _, by decide⟩
        · exact .inr ⟨.none, fun H' e => .non, by decide⟩
        · exact .inr ⟨.int, fun H' e => .int _, by decide⟩
        · exact .inr ⟨.bool, fun H' e => .bl _, by decide⟩
        · exact .inr ⟨.dict, fun H' e => .dK (e _ _ (S.get (a := u9) (o := .dK []) (by walk_at "mem")) (fun _ z => by cases z)), by decide⟩
      walk_at "lc"
      refine use_row S (by walk_at "nt") (by simp) jt rv fun H4 S4 jt4 => ?_
      walk_at "rd"
      refine Xc.rd_lcPutJ (Xc.lsts_tabs TT) jt4 S4 (by walk_at "chg") hD (Rs.sz' (by simp; omega)) (by walk_at "sub") ?_
      rw [List.replicate_succ']
    · rintro D acc H3 rfl hD jt S
      walk_at "rd"
      refine rd_all (bs := List.replicate 11 true) S (by walk_at "mem") (by simp) ?_
      rw [show (List.replicate 11 true).all id = true from rfl]
      walk_at "rd"
      have R := Xc.Hs.toR S
      refine Xc.rd_slVx R (by walk_at "mem") fun q2 H4 hq2 R4 => ?_
      rw [show cutV [V.ref p1, V.ref p2, V.ref p3, V.ref p4, V.ref u6, V.ref u8, V.str "list", V.non, V.int 4096, V.bl true, V.ref u9] none (some 3) = [.ref p1, .ref p2, .ref p3] from rfl] at R4
      walk_at "rd"
      refine lcw_list (xs := [.ref p1, .ref p2, .ref p3]) R4 (fun i acc => acc = ([4096, 4097, 5000].take i).map V.int) rfl (fun H' acc D S => S.lst (by walk_at "mem")) ?_ ?_
      · rintro D2 i x acc H5 hi rfl hD2 R5
        have hil : i < 3 := (List.getElem?_eq_some_iff.mp hi).1
        have hc : i = 0 ∨ i = 1 ∨ i = 2 := by omega
        walk_at "lc"
        rcases hc with rfl | rfl | rfl
        · cases hi
          refine ⟨p1, y1, rfl, .inl (R5.lst (by walk_at "mem")), ?_⟩
          refine rd_lcPut R5 (by walk_at "chg") hD2 (Rs.sz' (by simp)) (by walk_at "sub") ?_
          rw [hy1]; rfl
        · cases hi
          refine ⟨p2, y2, rfl, .inl (R5.lst (by walk_at "mem")), ?_⟩
          refine rd_lcPut R5 (by walk_at "chg") hD2 (Rs.sz' (by simp)) (by walk_at "sub") ?_
          rw [hy2]; rfl
        · cases hi
          refine ⟨p3, y3, rfl, .inl (R5.lst (by walk_at "mem")), ?_⟩
          refine rd_lcPut R5 (by walk_at "chg") hD2 (Rs.sz' (by simp)) (by walk_at "sub") ?_
          rw [hy3]; rfl
      · rintro D2 acc H5 rfl hD2 R5
        rw [show List.map V.int (List.take [V.ref p1, V.ref p2, V.ref p3].length [4096, 4097, 5000]) = [V.int 4096, .int 4097, .int 5000] from rfl] at R5
        walk_at "rd"
        rename_i q3 H6 hq3 R6
        refine rd_neIs (xs := [.int 4096, .int 4097, .int 5000]) (ys := [.int 4096, .int 4097, .int 5000]) (ns := [4096, 4097, 5000]) (ms := [4096, 4097, 5000]) R6 (by walk_at "mem") (by walk_at "mem") rfl rfl ?_
        walk_at "rd"
        refine rd_decF (by simp) ?_
        have tb6 : LamX.Tabs TT H6 := Xc.Hs.tabR R6 mlst_nil jt
        have S6 : Hs (Xc.noT H) [] H6 [] := (Xc.Hs.ofR S R6).sub (List.nil_sublist _)
        clear R6 R5 R4 R S S10
        walk_at "rd"
        refine fw_range (fun i σ H' => ∃ o2, σ = [some (.ref q), some (.int ((10 ^ (64 * i) : Nat) : Int)), o2, none, none, none] ∧ H6 = H') ⟨_, rfl, rfl⟩ ?_ ?_
        · rintro i σ H' hi ⟨o2, rfl, rfl⟩
          walk_at "rd"
          refine Xc.rd_mulB (a := 13100) (b := 213) (great_bits hi) (by decide +kernel) (by decide) (by decide) (by decide) ?_
          rw [great_step]
          walk_at "rd"
          exact ⟨_, rfl, rfl⟩
        · rintro σ H' ⟨o2, rfl, rfl⟩
          have hg0 : (10 : Nat) ^ (64 * Int.toNat 62) + 5 < 10 ^ 4000 := great_lt
          generalize (10 : Nat) ^ (64 * Int.toNat 62) = g at hg0
          have R := Xc.Hs.toR S6
          walk_at "rd"
          rename_i t1 H7 ht1 R7
          have tb7 : LamX.Tabs TT H7 := Xc.Hs.tabR R7 mlst_nil tb6
          have S7 := Xc.Hs.ofR S6 R7
          clear R R7 S6
          walk_at "rd"
          refine Xc.lcwj_tup (xs := [.int (-1), .int 0, .int 1]) (Xc.lsts_tabs TT) tb7 S7 (fun i acc => acc = List.replicate i (V.bl true)) rfl (fun H' acc D S => S.tup (by walk_at "mem")) ?_ ?_
          · rintro D i x acc H8 hi rfl hD jt S
            have hil : i < 3 := (List.getElem?_eq_some_iff.mp hi).1
            have hm := List.mem_of_getElem? hi
            obtain ⟨z, rfl, z1, z2⟩ : ∃ z : Int, x = .int z ∧ -2 ≤ z ∧ z ≤ 1 := by
              simp only [List.mem_cons, List.not_mem_nil, or_false] at hm
              rcases hm with rfl | rfl | rfl <;> exact ⟨_, rfl, by decide, by decide⟩
            walk_at "lc"
            refine use_br S (by walk_at "nt") (by simp) jt (.inl ⟨_, rfl, fig_of ?_⟩) fun H9 S9 jt9 => ?_
            · generalize (10 : Nat) ^ 4000 = b at hg0 ⊢; omega
            walk_at "rd"
            refine Xc.rd_lcPutJ (Xc.lsts_tabs TT) jt9 S9 (by walk_at "chg") hD (Rs.sz' (by simp; omega)) (by walk_at "sub") ?_
            rw [List.replicate_succ']
          · rintro D acc H8 rfl hD jt S
            walk_at "rd"
            refine rd_all (bs := List.replicate 3 true) S (by walk_at "mem") (by simp) ?_
            rw [show (List.replicate 3 true).all id = true from rfl]
            walk_at "rd"
            refine use_br S (by walk_at "nt") (by simp) jt (.inl ⟨_, rfl, fig_of ?_⟩) fun H9 S9 jt9 => ?_
            · generalize (10 : Nat) ^ 4000 = b at hg0 ⊢; omega
            walk_at "rd"
            have S9b : Hs (Xc.noT H) [] H9 [] := S9.sub (List.nil_sublist _)
            clear S9 S S7
            refine fw_range (fun i σ H' => ∃ (o2 : Option V) (p : Int), σ = [some (.ref q), some (.int (g : Nat)), o2, some (.int p), none, none] ∧ 0 ≤ p ∧ p ≤ ((2 ^ i : Nat) : Int) ∧ Hs (Xc.noT H) [] H' [] ∧ LamX.Tabs TT H') ⟨_, 1, rfl, by decide, by decide, S9b, jt9⟩ ?_ ?_
            · rintro i σ H' hi ⟨o2, p, rfl, hp0, hp1, S, jt⟩
              have hp2 : p ≤ 2 ^ 70 := by
                have : (2 : Nat) ^ i ≤ 2 ^ 70 := Nat.pow_le_pow_right (by decide) (by have : i < 70 := hi; omega)
                omega
              have h4k : (2 : Nat) ^ 71 < 10 ^ 4000 := by decide +kernel
              have R := Xc.Hs.toR S
              walk_at "rd"
              rename_i t1 H7 ht1 R7
              have tb7 : LamX.Tabs TT H7 := Xc.Hs.tabR R7 mlst_nil jt
              have S7 := Xc.Hs.ofR S R7
              clear R R7 S
              walk_at "rd"
              refine Xc.lcwj_tup (xs := [.int (-2), .int (-1), .int 0, .int 1]) (Xc.lsts_tabs TT) tb7 S7 (fun i acc => acc = List.replicate i (V.bl true)) rfl (fun H' acc D S => S.tup (by walk_at "mem")) ?_ ?_
              · rintro D j x acc H8 hj rfl hD jt S
                have hil : j < 4 := (List.getElem?_eq_some_iff.mp hj).1
                have hm := List.mem_of_getElem? hj
                obtain ⟨z, rfl, z1, z2⟩ : ∃ z : Int, x = .int z ∧ -2 ≤ z ∧ z ≤ 1 := by
                  simp only [List.mem_cons, List.not_mem_nil, or_false] at hm
                  rcases hm with rfl | rfl | rfl | rfl <;> exact ⟨_, rfl, by decide, by decide⟩
                walk_at "lc"
                refine use_br S (by walk_at "nt") (by simp) jt (.inl ⟨_, rfl, fig_of ?_⟩) fun H9 S9 jt9 => ?_
                · generalize (10 : Nat) ^ 4000 = b at h4k ⊢; omega
                walk_at "rd"
                refine Xc.rd_lcPutJ (Xc.lsts_tabs TT) jt9 S9 (by walk_at "chg") hD (Rs.sz' (by simp; omega)) (by walk_at "sub") ?_
                rw [List.replicate_succ']
              · rintro D acc H8 rfl hD jt S
                walk_at "rd"
                refine rd_all (bs := List.replicate 4 true) S (by walk_at "mem") (by simp) ?_
                rw [show (List.replicate 4 true).all id = true from rfl]
                walk_at "rd"
                refine ⟨_, 2 * p, rfl, by omega, ?_, S.sub (List.nil_sublist _), jt⟩
                rw [Nat.pow_succ]; omega
            · rintro σ H' ⟨o2, p, rfl, _, _, S, jt⟩
              walk_at "rd"
              exact k _ (Xc.Hs.toN S) jt
end
end K01

namespace K01
open PySem L2 Rs
def sp_law (K : PySem.W.Frag) : Sp := fun vs H Q _ => ∃ (a : Addr) (ns : List Int), vs = [.ref a] ∧ SqL K H a (ns.map V.int) ∧ ns.length ≤ 63 ∧ LamX.Tabs TT H ∧ ∀ H', Q (.bl true) H'
theorem OddE.odd {v : V} {OL L : Led} {H0 H : Hp} {MM : List Addr} (h : OddE v OL) (S : Hs H0 MM H L) (sub : ∀ q ∈ OL, q ∈ L) : Odd H v := by
  rcases h with ⟨h, _⟩ | ⟨p, o, rfl, ho, rfl⟩
  · exact .pl h
  · exact .rf (S.is (p, o) (sub _ List.mem_cons_self)) ho
theorem OddE.nt {v : V} {OL : Led} (h : OddE v OL) : NT OL := by
  rcases h with ⟨_, rfl⟩ | ⟨p, o, _, ho, rfl⟩
  · exact nt_nil
  · intro q hq
    simp only [List.mem_cons, List.not_mem_nil, or_false] at hq
    subst hq
    exact obO_tbl ho
theorem sq_extN {K : PySem.W.Frag} {H H' : Hp} {a : Addr} {xs : List V} (h : SqL K H a xs) (k : LamX.ExtN H H') : SqL K H' a xs := by
  rcases h with (h | ⟨o, h⟩) | h
  · exact .inl (.inl (k _ _ h (fun _ z => by cases z)))
  · exact .inl (.inr ⟨o, k _ _ h (fun _ z => by cases z)⟩)
  · exact .inr h
section
variable {P : Program} {w : World} {K : PySem.W.Frag} {mg : Str → Option Value} {base : Heap} {A : Ad} {H H0 : Hp} {MM : List Addr} {L L' F : Led} {Q : VK} {E : XK}
theorem OddN.led {G1 G2 : Hp} {v : V} {OL : Led} (h : OddN G1 G2 v OL) (S : Hs H0 MM G1 L) (sm : Same G1 G2) : Hs H0 MM G2 (OL ++ L) := by
  refine (S.moreN sm ⟨?_, fun q hq => (h.2 q hq).1, fun q hq => (h.2 q hq).2⟩).2
  rcases h.1 with ⟨_, rfl⟩ | ⟨p, o, _, _, rfl⟩
  · exact List.nodup_nil
  · simp
theorem rot3 {x y z : Addr × HO} (S : Hs H0 MM H (x :: y :: z :: F)) : Hs H0 MM H (y :: z :: x :: F) := S.re (by walk_at "led")
theorem rotO {y z : Addr × HO} (S : Hs H0 MM H (F ++ [y, z])) : Hs H0 MM H (y :: z :: F) := S.re (by walk_at "led")
theorem use_t {a b : Addr} {l k m n : Int} {ns : List Int} (S : Hs H0 MM H ((a, stm b l k m) :: (b, HO.lst (ns.map V.int)) :: F)) (own : a ∈ MM) (own2 : b ∈ MM) (h1 : 1 ≤ n) (h2 : n < 2 ^ 40) (h3 : 0 ≤ k) (h4 : k < 2 ^ 15)
    (h : ∀ (r l' m' : Int) (ns' : List Int) (H' : Hp), Hs H0 MM H' ((a, stm b l' (k + 1) m') :: (b, .lst (ns'.map V.int)) :: F) → 0 ≤ r → r < n → Q (.int r) H') : SepN R_take [.ref a, .int n] H Q E :=
  use_take S (fun _ => Nat.le_refl _) (.inr own) (.inr own2) h1 h2 h3 h4 h
theorem ok_law (T : Txt K mg w A) (TB : ∀ p ∈ [(A.cc__law_row_right, 312), (A.cc__law_bits_right, 307)], LamX.TabB base mg p.1 p.2) : FnG P w K mg base 10 A.f_law A.d_law ["_law_script"] (sp_law K) := by
  have TB2 : LamX.TabB base mg A.cc__law_row_right 312 := TB (A.cc__law_row_right, 312) List.mem_cons_self
  have TB1 : LamX.TabB base mg A.cc__law_bits_right 307 := TB (A.cc__law_bits_right, 307) (List.mem_cons_of_mem _ List.mem_cons_self)
  have G__law_by_hand_right : FnG P w K mg base 9 A.f__law_by_hand_right A.d__law_by_hand_right [] sp_hand := ok_hand T TB1 TB2
  have G__law_take : FnOk P w K mg base CX0 2 A.f__law_take A.d__law_take ["_law_stream", "_law_many"] (SepN R_take) := ok_take T
  have G__law_odd : FnOk P w K mg base CX0 1 A.f__law_odd A.d__law_odd ["_law_k"] sp_odd := ok_odd T
  have G__law_whole_right : FnG P w K mg base 3 A.f__law_whole_right A.d__law_whole_right ["_law_item", "_law_low", "_law_high"] (sp_wr K) := ok_wr T
  have G__law_bits_right : FnG P w K mg base 8 A.f__law_bits_right A.d__law_bits_right ["_law_item"] (sp_br K) := ok_br T TB1
  have G__law_row_right : FnG P w K mg base 8 A.f__law_row_right A.d__law_row_right ["_law_item"] (sp_rr K) := ok_rr T TB2
  refine defG T.c_law.F sc_law (fun vs H Q E h => ?_) (fun cdv Ar outer s H vs Q E cl hr h => ?_)
  · obtain ⟨a, ns, rfl, _⟩ := h; rfl
  · obtain ⟨sa, ns, rfl, hs, hn, tb, k⟩ := h
    refine ⟨_, (pss_cons (ps_if (pt_not (pt_val (pe_callG0 G__law_by_hand_right cl (hr.mono (by decide)) rfl T.c__law_by_hand_right.m T.c__law_by_hand_right.F.kp T.c__law_by_hand_right.b .nil)))
        (pss_one (ps_ret pe_bl))
        pss_nil)
      (pss_cons (ps_set (i := 1) sc_law.nd rfl (Or.inl rfl) (pe_lst (pa_cons (pe_slice sl_list (pe_op Xc.op_catL (pv 0) (pe_lst (pa_cons pe_int pa_nil))) po_none (po_some pe_int)) (pa_cons pe_int (pa_cons pe_int (pa_cons pe_int pa_nil))))))
      (pss_cons (ps_for PassesOwn.never rfl (pi_range1 rfl T.n_range (pa_cons (pe_op op_add pe_int (pe_callB (call_min2 rfl) (by rfl) T.n_min PyProof.Rows.boot_min (pa_cons pe_int (pa_cons (pe_callB call_len_seq (by rfl) T.n_len PySem.boot_len (pa_cons (pv 0) pa_nil)) pa_nil)))) pa_nil)) (pg_name (i := 2) sc_law.nd rfl (Or.inl rfl))
        (pss_cons (ps_set (i := 3) sc_law.nd rfl (Or.inl rfl) (pe_call G__law_odd (hr.mono (by decide)) rfl T.c__law_odd.m T.c__law_odd.F.kp T.c__law_odd.b .nil pass0 (pa_cons (pe_call G__law_take (hr.mono (by decide)) rfl T.c__law_take.m T.c__law_take.F.kp T.c__law_take.b .nil pass0 (pa_cons (pv 1) (pa_cons pe_int pa_nil))) pa_nil)))
        (pss_cons (ps_set (i := 4) sc_law.nd rfl (Or.inl rfl) (pe_lst (pa_cons (pe_op op_sub (pe_call G__law_take (hr.mono (by decide)) rfl T.c__law_take.m T.c__law_take.F.kp T.c__law_take.b .nil pass0 (pa_cons (pv 1) (pa_cons pe_int pa_nil))) pe_int) (pa_cons (pe_op op_add pe_int (pe_call G__law_take (hr.mono (by decide)) rfl T.c__law_take.m T.c__law_take.F.kp T.c__law_take.b .nil pass0 (pa_cons (pv 1) (pa_cons pe_int pa_nil)))) (pa_cons (pe_op op_add (pe_op op_pow pe_int pe_int) (pe_call G__law_take (hr.mono (by decide)) rfl T.c__law_take.m T.c__law_take.F.kp T.c__law_take.b .nil pass0 (pa_cons (pv 1) (pa_cons pe_int pa_nil)))) pa_nil)))))
        (pss_cons (ps_par (i := 5) (j := 6) rfl sc_law.nd rfl rfl (by decide) rfl rfl (pa_cons (pe_ix ix_list (pv 4) (pe_call G__law_take (hr.mono (by decide)) rfl T.c__law_take.m T.c__law_take.F.kp T.c__law_take.b .nil pass0 (pa_cons (pv 1) (pa_cons pe_int pa_nil))) (fun _ _ => rfl)) (pa_cons (pe_ix ix_list (pv 4) (pe_call G__law_take (hr.mono (by decide)) rfl T.c__law_take.m T.c__law_take.F.kp T.c__law_take.b .nil pass0 (pa_cons (pv 1) (pa_cons pe_int pa_nil))) (fun _ _ => rfl)) pa_nil)) (by rfl))
        (pss_cons (ps_set (i := 7) sc_law.nd rfl (Or.inl rfl) (pe_op op_sub (pe_op op_add (pe_ix ix_list (pe_lst (pa_cons (pv 5) (pa_cons (pv 6) (pa_cons pe_int pa_nil)))) (pe_call G__law_take (hr.mono (by decide)) rfl T.c__law_take.m T.c__law_take.F.kp T.c__law_take.b .nil pass0 (pa_cons (pv 1) (pa_cons pe_int pa_nil))) (fun _ _ => rfl)) (pe_call G__law_take (hr.mono (by decide)) rfl T.c__law_take.m T.c__law_take.F.kp T.c__law_take.b .nil pass0 (pa_cons (pv 1) (pa_cons pe_int pa_nil)))) pe_int))
        (pss_cons (ps_for PassesOwn.never rfl (pi_tup (pe_tup (pa_cons (pv 3) (pa_cons (pv 7) (pa_cons (pe_op op_sub pe_int (pv 7)) (pa_cons (pv 5) (pa_cons (pv 6) pa_nil))))))) (pg_name (i := 8) sc_law.nd rfl (Or.inl rfl))
          (pss_one (ps_if (pt_not (pt_val (pe_callG G__law_whole_right cl (hr.mono (by decide)) rfl T.c__law_whole_right.m T.c__law_whole_right.F.kp T.c__law_whole_right.b .nil (pa_cons (pv 8) (pa_cons (pv 5) (pa_cons (pv 6) pa_nil))))))
            (pss_one (ps_ret pe_bl))
            pss_nil)))
        (pss_cons (ps_set (i := 9) sc_law.nd rfl (Or.inl rfl) pe_int)
        (pss_cons (ps_for PassesOwn.never rfl (pi_range1 rfl T.n_range (pa_cons (pe_op op_add pe_int (pe_call G__law_take (hr.mono (by decide)) rfl T.c__law_take.m T.c__law_take.F.kp T.c__law_take.b .nil pass0 (pa_cons (pv 1) (pa_cons pe_int pa_nil)))) pa_nil)) (pg_name (i := 10) sc_law.nd rfl (Or.inl rfl))
          (pss_one (ps_set (i := 9) sc_law.nd rfl (Or.inl rfl) (pe_op op_add (pe_op op_mul (pv 9) pe_int) (pe_call G__law_take (hr.mono (by decide)) rfl T.c__law_take.m T.c__law_take.F.kp T.c__law_take.b .nil pass0 (pa_cons (pv 1) (pa_cons pe_int pa_nil)))))))
        (pss_cons (ps_for PassesOwn.never rfl (pi_tup (pe_tup (pa_cons (pv 3) (pa_cons (pv 9) (pa_cons (pe_op op_add (pv 9) pe_int) (pa_cons (pe_op op_sub pe_int (pv 9)) (pa_cons (pv 7) pa_nil))))))) (pg_name (i := 8) sc_law.nd rfl (Or.inl rfl))
          (pss_one (ps_if (pt_not (pt_val (pe_callG G__law_bits_right cl (hr.mono (by decide)) rfl T.c__law_bits_right.m T.c__law_bits_right.F.kp T.c__law_bits_right.b .nil (pa_cons (pv 8) pa_nil))))
            (pss_one (ps_ret pe_bl))
            pss_nil)))
        (pss_one (ps_if (PW.pt (pw_or (pt_not (pt_val (pe_callG G__law_row_right cl (hr.mono (by decide)) rfl T.c__law_row_right.m T.c__law_row_right.F.kp T.c__law_row_right.b .nil (pa_cons (pv 3) pa_nil)))) (pw_or1 (pt_not (pt_val (pe_callG G__law_row_right cl (hr.mono (by decide)) rfl T.c__law_row_right.m T.c__law_row_right.F.kp T.c__law_row_right.b .nil (pa_cons (pe_op op_rep (pe_lst (pa_cons (pv 3) pa_nil)) (pe_call G__law_take (hr.mono (by decide)) rfl T.c__law_take.m T.c__law_take.F.kp T.c__law_take.b .nil pass0 (pa_cons (pv 1) (pa_cons pe_int pa_nil)))) pa_nil)))))))
          (pss_one (ps_ret pe_bl))
          pss_nil)))))))))))
      (pss_one (ps_ret pe_bl))))), ?_⟩
    walk_at "st"
    walk_at "rd"
    refine ⟨rfl, tb, fun H1 e1 tb1 => ?_⟩
    have hs1 := sq_extN hs e1
    have S := Hs.start0 H1
    walk_at "rd"
    rename_i p1 H2 hp1 S1
    refine ⟨sa, p1, _, _, rfl, rfl, S1.sq hs1 (by simp), S1.lst (by walk_at "mem"), by rw [sizeLine_eq]; simp; omega, fun p2 hp2 => ?_⟩
    obtain ⟨hp20, S2⟩ := S1.newAt (o := .lst (ns.map V.int ++ [V.int 0])) hp2
    rw [show ns.map V.int ++ [V.int 0] = (ns ++ [0]).map V.int by simp] at S2 ⊢
    walk_at "rd"
    rename_i p3 H3 hp3 S3 p4 H4 hp4 S4
    clear S1 S2 S S3
    generalize cutI (ns ++ [0]) none (some 63) = ns3 at S4
    have tb4 := tb1.ext S4.same
    refine ⟨sa, _, rfl, Or.inl (S4.sq hs1 (by simp)), ?_⟩
    walk_at "rd"
    rw [List.length_map]
    have i1 := S4.is (p4, HO.lst [.ref p3, .int 0, .int 0, .int 7]) (by walk_at "mem")
    have i2 := S4.is (p3, HO.lst (ns3.map V.int)) (by walk_at "mem")
    have hne : p4 ≠ p3 := fun z => by
      have := S4.nd
      simp [z] at this
    dsimp only at i1 i2
    refine fw_range (fun i σ H' => ∃ (o2 o3 o4 o5 o6 o7 o8 o9 o10 : Option V) (l kk m : Int) (ns' : List Int), σ = [some (.ref sa), some (.ref p4), o2, o3, o4, o5, o6, o7, o8, o9, o10] ∧ H' p4 = some (stm p3 l kk m) ∧ H' p3 = some (.lst (ns'.map V.int)) ∧ LamX.Tabs TT H' ∧ 0 ≤ kk ∧ kk ≤ 20 * i)
      ⟨_, _, _, _, _, _, _, _, _, 0, 0, 7, ns3, rfl, i1, i2, tb4, by omega, by omega⟩ ?_ ?_
    · clear S4 tb4 i1 i2 tb1 tb hs1 hs
      rintro i σ H5 hi ⟨o2, o3, o4, o5, o6, o7, o8, o9, o10, l, kk, m, ns', rfl, i1, i2, tb, hk0, hk1⟩
      have hi40 : i < 40 := by
        revert hi
        split <;> intro hi <;> omega
      have S0 : Hs (Xc.noT H5) [p4, p3] H5 [(p4, stm p3 l kk m), (p3, .lst (ns'.map V.int))] := Xc.Hs.begin [(p4, stm p3 l kk m), (p3, .lst (ns'.map V.int))] (by simp [hne]) (by simp [i1, i2])
      have R := Xc.Hs.toR S0
      have ml : Xc.MLst [p4, p3] H5 := by
        intro b hb
        simp only [List.mem_cons, List.not_mem_nil, or_false] at hb
        rcases hb with rfl | rfl
        · exact ⟨_, i1⟩
        · exact ⟨_, i2⟩
      walk_at "rd"
      refine use_t R (by simp) (by simp) (by omega) (by omega) (by omega) (by omega) fun r1 l1 m1 n1 G1 R1 a1 b1 => ?_
      refine ⟨r1, rfl, a1, b1, fun od G2 OL sm2 ho => ?_⟩
      have R2 := rotO (ho.led R1 sm2)
      clear R R1
      walk_at "rd"
      refine use_t R2 (by simp) (by simp) (by omega) (by omega) (by omega) (by omega) fun r2 l2 m2 n2 G3 R3 a2 b2 => ?_
      walk_at "rd"
      refine use_t R3 (by simp) (by simp) (by omega) (by omega) (by omega) (by omega) fun r3 l3 m3 n3 G4 R4 a3 b3 => ?_
      walk_at "rd"
      refine use_t R4 (by simp) (by simp) (by omega) (by omega) (by omega) (by omega) fun r4 l4 m4 n4 G5 R5 a4 b4 => ?_
      clear R2 R3 R4
      walk_at "rd"
      rename_i p5 G6 hp5 R6
      have R6b := rot3 R6
      clear R5 R6
      refine use_t R6b (by simp) (by simp) (by omega) (by omega) (by omega) (by omega) fun r5 l5 m5 n5 G7 R7 a5 b5 => ?_
      walk_at "rd"
      have h30 : (10 : Int) ^ Int.toNat 30 = 1000000000000000000000000000000 := by decide +kernel
      have bnd : ∀ v : V, v ∈ [V.int (r2 - 20), V.int (4086 + r3), V.int (10 ^ Int.toNat 30 + r4)] → ∃ z : Int, v = .int z ∧ -30 ≤ z ∧ z ≤ 1000000000000000000000000000030 := fun v hv => by
        rw [h30] at hv
        simp only [List.mem_cons, List.not_mem_nil, or_false] at hv
        rcases hv with rfl | rfl | rfl
        · exact ⟨_, rfl, by omega, by omega⟩
        · exact ⟨_, rfl, by omega, by omega⟩
        · exact ⟨_, rfl, by omega, by omega⟩
      refine rd_ixAny R7 (by walk_at "mem") a5 (by show r5 < 3; omega) fun v5 hv5 _ => ?_
      obtain ⟨lo, rfl, lo1, lo2⟩ := bnd v5 hv5
      walk_at "rd"
      refine use_t R7 (by simp) (by simp) (by omega) (by omega) (by omega) (by omega) fun r6 l6 m6 n6 G8 R8 a6 b6 => ?_
      walk_at "rd"
      refine rd_ixAny R8 (by walk_at "mem") a6 (by show r6 < 3; omega) fun v6 hv6 _ => ?_
      obtain ⟨hh, rfl, hh1, hh2⟩ := bnd v6 hv6
      clear R6b R7
      walk_at "rd"
      rename_i p6 G9 hp6 R9
      have R9b := rot3 R9
      clear R8 R9
      refine use_t R9b (by simp) (by simp) (by omega) (by omega) (by omega) (by omega) fun r7 l7 m7 n7 G10 R10 a7 b7 => ?_
      walk_at "rd"
      refine rd_ixAny R10 (by walk_at "mem") a7 (by show r7 < 3; omega) fun v7 hv7 _ => ?_
      obtain ⟨ne0, rfl, ne1, ne2⟩ : ∃ z : Int, v7 = .int z ∧ -30 ≤ z ∧ z ≤ 1000000000000000000000000000030 := by
        simp only [List.mem_cons, List.not_mem_nil, or_false] at hv7
        rcases hv7 with rfl | rfl | rfl
        · exact ⟨_, rfl, lo1, lo2⟩
        · exact ⟨_, rfl, hh1, hh2⟩
        · exact ⟨_, rfl, by omega, by omega⟩
      walk_at "rd"
      refine use_t R10 (by simp) (by simp) (by omega) (by omega) (by omega) (by omega) fun r8 l8 m8 n8 G11 R11 a8 b8 => ?_
      clear R9b R10
      walk_at "rd"
      rename_i p7 G12 hp7 R12
      have R12b : Hs (Xc.rb H5 H5) [p4, p3] G12 ((p7, HO.tup [od, V.int (ne0 + r8 - 2), V.int (0 - (ne0 + r8 - 2)), V.int lo, V.int hh]) :: (p4, stm p3 l8 (kk + 1 + 1 + 1 + 1 + 1 + 1 + 1 + 1) m8) :: (p3, .lst (n8.map V.int)) :: OL) := R12.re (by walk_at "led")
      clear R11 R12
      refine fw_tup (xs := [od, V.int (ne0 + r8 - 2), V.int (0 - (ne0 + r8 - 2)), V.int lo, V.int hh]) (fun j σ H' => ∃ o8 : Option V, σ = [some (.ref sa), some (.ref p4), some (.int (0 + (i : Int))), some od, some (.ref p5), some (.int lo), some (.int hh), some (.int (ne0 + r8 - 2)), o8, o9, o10] ∧ Hs (Xc.rb H5 H5) [p4, p3] H' ((p7, HO.tup [od, V.int (ne0 + r8 - 2), V.int (0 - (ne0 + r8 - 2)), V.int lo, V.int hh]) :: (p4, stm p3 l8 (kk + 1 + 1 + 1 + 1 + 1 + 1 + 1 + 1) m8) :: (p3, .lst (n8.map V.int)) :: OL)) ⟨_, rfl, R12b⟩ ?_ ?_ ?_
      · rintro j σ H' _ ⟨o8, rfl, R⟩
        exact R.tup (by walk_at "mem")
      · rintro j x σ H' hj ⟨o8, rfl, R⟩
        clear R12b
        have hx : (∃ i, x = .int i) ∨ Odd H' x := by
          have hm := List.mem_of_getElem? hj
          simp only [List.mem_cons, List.not_mem_nil, or_false] at hm
          rcases hm with rfl | rfl | rfl | rfl | rfl
          · exact .inr (ho.1.odd R (fun q hq => by simp [hq]))
          · exact .inl ⟨_, rfl⟩
          · exact .inl ⟨_, rfl⟩
          · exact .inl ⟨_, rfl⟩
          · exact .inl ⟨_, rfl⟩
        walk_at "rd"
        refine ⟨x, lo, hh, rfl, hx, fun H6 sm => ?_⟩
        walk_at "rd"
        exact ⟨_, rfl, R.more sm⟩
      · rintro σ H' ⟨o8, rfl, R⟩
        clear R12b
        walk_at "rd"
        have Ra : Hs (Xc.rb H5 H5) [p4, p3] H' ((p4, stm p3 l8 (kk + 1 + 1 + 1 + 1 + 1 + 1 + 1 + 1) m8) :: (p3, .lst (n8.map V.int)) :: OL) := R.sub (List.sublist_cons_self _ _)
        clear R
        refine use_t Ra (by simp) (by simp) (by omega) (by omega) (by omega) (by omega) fun r9 l9 m9 n9 G13 R13 a9 b9 => ?_
        clear Ra
        walk_at "rd"
        refine fw_range (fun j σ H' => ∃ (g l m kq : Int) (ns : List Int) (o8 o10 : Option V), σ = [some (.ref sa), some (.ref p4), some (.int (0 + (i : Int))), some od, some (.ref p5), some (.int lo), some (.int hh), some (.int (ne0 + r8 - 2)), o8, some (.int g), o10] ∧ 0 ≤ g ∧ g < ((2 ^ (29 * j) : Nat) : Int) ∧ 0 ≤ kq ∧ kq ≤ kk + 9 + j ∧ Hs (Xc.rb H5 H5) [p4, p3] H' ((p4, stm p3 l kq m) :: (p3, .lst (ns.map V.int)) :: OL)) ⟨0, l9, m9, _, n9, _, _, rfl, by decide, by decide, by omega, by omega, R13⟩ ?_ ?_
        · clear R13
          rintro j σ H' hj ⟨g, l, m, kq, ns, o8, o10, rfl, g0, g1, q0, q1, R⟩
          have hj7 : j < 8 := by omega
          walk_at "rd"
          refine use_t R (by simp) (by simp) (by omega) (by omega) (by omega) (by omega) fun r l m ns G R a b => ?_
          walk_at "rd"
          have e2 : (2 : Nat) ^ (29 * (j + 1)) = 2 ^ (29 * j) * 536870912 := by rw [Nat.mul_add, Nat.pow_add]
          exact ⟨_, _, _, _, _, _, _, rfl, by omega, by rw [e2]; omega, by omega, by omega, R⟩
        · clear R13
          rintro σ H' ⟨g, l, m, kq, ns, o8, o10, rfl, g0, g1, q0, q1, R⟩
          have hg : g < ((2 ^ 203 : Nat) : Int) := by
            have : (2 : Nat) ^ (29 * (1 + r9).toNat) ≤ 2 ^ 203 := Nat.pow_le_pow_right (by decide) (by omega)
            omega
          have f4k : (2 : Nat) ^ 203 + 1000 < 10 ^ 4000 := by decide +kernel
          have f4m : 1000000000000000000000000001000 < (10 : Nat) ^ 4000 := by decide +kernel
          have q2 : kq ≤ kk + 16 := by omega
          clear g1 q1
          walk_at "rd"
          rename_i p8 G14 hp8 R14
          clear R
          have jt := Xc.Hs.tabR R14 ml tb
          have S14 := Xc.Hs.ofR S0 R14
          clear R14
          refine fw_tup (xs := [od, V.int g, V.int (g + 1), V.int (0 - g), V.int (ne0 + r8 - 2)]) (fun j σ H' => ∃ o8 : Option V, σ = [some (.ref sa), some (.ref p4), some (.int (0 + (i : Int))), some od, some (.ref p5), some (.int lo), some (.int hh), some (.int (ne0 + r8 - 2)), o8, some (.int g), o10] ∧ Hs (Xc.noT H5) [p4, p3] H' ((p8, HO.tup [od, V.int g, V.int (g + 1), V.int (0 - g), V.int (ne0 + r8 - 2)]) :: (p4, stm p3 l kq m) :: (p3, .lst (ns.map V.int)) :: OL) ∧ LamX.Tabs TT H') ⟨_, rfl, S14, jt⟩ ?_ ?_ ?_
          · rintro j σ H' _ ⟨o8, rfl, S, _⟩
            exact S.tup (by walk_at "mem")
          · rintro j x σ H' hj ⟨o8, rfl, S, jt⟩
            clear S14
            have hx : (∃ i : Int, x = .int i ∧ Xc.Fig i) ∨ Odd H' x := by
              have hm := List.mem_of_getElem? hj
              simp only [List.mem_cons, List.not_mem_nil, or_false] at hm
              have ff : ∀ i : Int, i.natAbs < 10 ^ 4000 → Xc.Fig i := fun i hi => fig_of hi
              generalize (10 : Nat) ^ 4000 = b4 at f4k f4m ff
              generalize (2 : Nat) ^ 203 = b2 at hg f4k
              rcases hm with rfl | rfl | rfl | rfl | rfl
              · exact .inr (ho.1.odd S (fun q hq => by simp [hq]))
              · exact .inl ⟨_, rfl, ff _ (by omega)⟩
              · exact .inl ⟨_, rfl, ff _ (by omega)⟩
              · exact .inl ⟨_, rfl, ff _ (by omega)⟩
              · exact .inl ⟨_, rfl, ff _ (by omega)⟩
            walk_at "rd"
            refine use_br S (nt_tup (nt_lst (nt_lst ho.1.nt))) (by simp) jt hx fun H6 S6 jt6 => ?_
            walk_at "rd"
            exact ⟨_, rfl, S6, jt6⟩
          · rintro σ H' ⟨o8, rfl, S, jt⟩
            clear S14
            walk_at "rd"
            refine use_row S (nt_tup (nt_lst (nt_lst ho.1.nt))) (by simp) jt (ho.1.odd S (fun q hq => by simp [hq])).row fun H6 S6 jt6 => ?_
            clear S jt
            have ml6 : Xc.MLst [p4, p3] H6 := by
              intro b hb
              simp only [List.mem_cons, List.not_mem_nil, or_false] at hb
              rcases hb with rfl | rfl
              · exact ⟨_, S6.get (by walk_at "mem")⟩
              · exact ⟨_, S6.get (by walk_at "mem")⟩
            have R6 := Xc.Hs.toR S6
            walk_at "rd"
            walk_at "if0"
            rename_i p9 G15 hp9 R15
            have R15b : Hs (Xc.rb H5 H6) [p4, p3] G15 ((p4, stm p3 l kq m) :: (p3, .lst (ns.map V.int)) :: (p9, HO.lst [od]) :: OL) := R15.re (by walk_at "led")
            clear R6 R15
            refine use_t R15b (by simp) (by simp) (by omega) (by omega) (by omega) (by omega) fun rA lA mA nA G16 R16 aA bA => ?_
            clear R15b
            walk_at "rd"
            refine rd_repG (n := rA.toNat) R16 (by walk_at "mem") (by omega) (by omega) (by rw [sizeLine_eq]; simp; omega) fun pB G17 yB hyB hpB R17 => ?_
            clear R16
            have jt17 := Xc.Hs.tabR R17 ml6 jt6
            have S17 := Xc.Hs.ofR S6 R17
            clear R17 S6
            walk_at "rd"
            refine use_row S17 (nt_lst (nt_lst (nt_lst (nt_lst ho.1.nt)))) (by simp) jt17 (.inl ⟨pB, yB, rfl, S17.get (by walk_at "mem")⟩) fun H7 S7 jt7 => ?_
            clear S17
            walk_at "rd"
            walk_at "if0"
            exact ⟨_, _, _, _, _, _, _, _, _, lA, kq + 1, mA, nA, rfl, S7.get (by walk_at "mem"), S7.get (by walk_at "mem"), jt7, by omega, by omega⟩
    · rintro σ H' ⟨o2, o3, o4, o5, o6, o7, o8, o9, o10, l, kk, m, ns', rfl, _⟩
      walk_at "rd"
      exact k _
theorem end_law (K : PySem.W.Frag) (H : Hp) (a : Addr) (ns : List Int) (hn : ns.length ≤ 63) (_ : ∀ z ∈ ns, Builtin.Int.intBits z ≤ 1048576) (hT : ∀ p ∈ [312, 307], H p = some (.tbl #[])) (h : SqL K H a (ns.map V.int)) : sp_law K [.ref a] H (fun v _ => v = .bl true) E0 :=
  ⟨a, ns, rfl, h, hn, fun p hp => by
    simp only [TT, List.mem_cons, List.not_mem_nil, or_false] at hp
    rcases hp with rfl | rfl
    · exact LamX.TabS.nil (hT 307 (by simp))
    · exact LamX.TabS.nil (hT 312 (by simp)), fun _ => rfl⟩
end
end K01

namespace K01
end K01
open PySem PySem.W PyProof.Rows
set_option maxRecDepth 100000 in
set_option maxHeartbeats 0 in
theorem PySem.Challenge.cw_runsort_k01_digits_and_rows_holds : PySem.Challenge.rw_runsort_k01_digits_and_rows.Holds := by
  w_on; o_law; k_head; (case hw => w_witness2)
  k_fill
  refine Xc.walkGT (ts := [312, 307]) (n := 63) (k := 10) (st := K01.s_law) (x := "_law_script") (sp := K01.sp_law) rfl (by decide) rfl ⟨rfl, by decide, by decide⟩ (fun w h Y => PySem.W.km_in_of Y) (fun w h Y => PySem.W.km_tabs_of Y) rfl (fun _ _ _ _ _ _ _ => rfl) ?F K01.end_law
  case F =>
    intro w mg h KX G
    obtain ⟨A, T⟩ : ∃ A, K01.Txt _ mg w A := by
      refine' K01.all_mk (w := w) KX G ?a_SortError ?a_BadPaper ?a_Flawed ?a_BadLine ?a_Busy ?a_Gone ?a_BadAnswer ?a_BadText ?a_NoSuch ?a_Stopped ?a_BadNumber ?ini_BadNumber ?ovr_BadNumber ?dic_BadNumber ?sav_BadNumber ?bex_BadNumber ?tyc_BadNumber ?kpc_BadNumber ?xcl_BadNumber ?xga_BadNumber ?xgg_BadNumber ?xha_BadNumber ?xhn_BadNumber ?xht_BadNumber ?xhm_BadNumber ?tk_BadNumber_at ?na_BadNumber_at ?a_BadNumber___init__ ?y_BadNumber___init__ ?l_BadNumber___init__ ?e_BadNumber___init__ ?k_BadNumber___init__ ?v_BadNumber ?a_BadKind ?ini_BadKind ?ovr_BadKind ?dic_BadKind ?sav_BadKind ?bex_BadKind ?tyc_BadKind ?kpc_BadKind ?xcl_BadKind ?xga_BadKind ?xgg_BadKind ?xha_BadKind ?xhn_BadKind ?xht_BadKind ?xhm_BadKind ?tk_BadKind_wanted ?na_BadKind_wanted ?a_BadKind___init__ ?y_BadKind___init__ ?l_BadKind___init__ ?e_BadKind___init__ ?k_BadKind___init__ ?v_BadKind ?a_TooMany ?ini_TooMany ?ovr_TooMany ?dic_TooMany ?sav_TooMany ?bex_TooMany ?tyc_TooMany ?kpc_TooMany ?xcl_TooMany ?xga_TooMany ?xgg_TooMany ?xha_TooMany ?xhn_TooMany ?xht_TooMany ?xhm_TooMany ?tk_TooMany_most ?na_TooMany_most ?a_TooMany___init__ ?y_TooMany___init__ ?l_TooMany___init__ ?e_TooMany___init__ ?k_TooMany___init__ ?v_TooMany ?a_is_whole ?l_is_whole ?e_is_whole ?k_is_whole ?dd_is_whole ?a_bits ?l_bits ?e_bits ?k_bits ?a_need_row ?l_need_row ?e_need_row ?k_need_row ?a__law_mixed ?l__law_mixed ?e__law_mixed ?k__law_mixed ?a__law_take ?l__law_take ?e__law_take ?k__law_take ?a__law_refusal ?l__law_refusal ?e__law_refusal ?k__law_refusal ?a__law_heard ?l__law_heard ?e__law_heard ?k__law_heard ?a__law_odd ?l__law_odd ?e__law_odd ?k__law_odd ?a__law_whole_right ?l__law_whole_right ?e__law_whole_right ?k__law_whole_right ?a__law_bits_right ?l__law_bits_right ?e__law_bits_right ?nt__law_bits_right ?ht__law_bits_right ?k__law_bits_right ?a__law_row_right ?l__law_row_right ?e__law_row_right ?nt__law_row_right ?ht__law_row_right ?k__law_row_right ?a__law_by_hand_right ?l__law_by_hand_right ?e__law_by_hand_right ?k__law_by_hand_right ?a_law ?l_law ?e_law ?k_law ?g_MOST_THINGS ?r_MOST_THINGS ?x_stat ?x_any_BadNumber ?x_i_BadNumber_BadPaper ?x_i_BadNumber_Flawed ?x_i_BadNumber_BadLine ?x_i_BadNumber_Busy ?x_i_BadNumber_Gone ?x_i_BadNumber_BadAnswer ?x_i_BadNumber_BadKind ?x_i_BadNumber_BadText ?x_i_BadNumber_BadNumber ?x_i_BadNumber_NoSuch ?x_i_BadNumber_TooMany ?x_i_BadNumber_Stopped ?x_any_BadKind ?x_i_BadKind_BadPaper ?x_i_BadKind_Flawed ?x_i_BadKind_BadLine ?x_i_BadKind_Busy ?x_i_BadKind_Gone ?x_i_BadKind_BadAnswer ?x_i_BadKind_BadKind ?x_i_BadKind_BadText ?x_i_BadKind_BadNumber ?x_i_BadKind_NoSuch ?x_i_BadKind_TooMany ?x_i_BadKind_Stopped ?x_any_TooMany ?x_i_TooMany_BadPaper ?x_i_TooMany_Flawed ?x_i_TooMany_BadLine ?x_i_TooMany_Busy ?x_i_TooMany_Gone ?x_i_TooMany_BadAnswer ?x_i_TooMany_BadKind ?x_i_TooMany_BadText ?x_i_TooMany_BadNumber ?x_i_TooMany_NoSuch ?x_i_TooMany_TooMany ?x_i_TooMany_Stopped ?z_len ?z_min ?z_all ?z_range ?z_repr ?z_isinstance ?z_int ?z_bool ?z_list ?z_IndexError ?z_TypeError ?z_OverflowError
      (case a_SortError => k_is)
      (case a_BadPaper => k_is)
      (case a_Flawed => k_is)
      (case a_BadLine => k_is)
      (case a_Busy => k_is)
      (case a_Gone => k_is)
      (case a_BadAnswer => k_is)
      (case a_BadText => k_is)
      (case a_NoSuch => k_is)
      (case a_Stopped => k_is)
      (case a_BadNumber => k_is)
      (case ini_BadNumber => first | k_is | kx_is | kts_exm | kit_is | kernel_rfl)
      (case ovr_BadNumber => first | k_is | kx_is | kts_exm | kit_is | kernel_rfl)
      (case dic_BadNumber => first | k_is | kx_is | kts_exm | kit_is | kernel_rfl)
      (case sav_BadNumber => first | k_is | kx_is | kts_exm | kit_is | kernel_rfl)
      (case bex_BadNumber => first | k_is | kx_is | kts_exm | kit_is | kernel_rfl)
      (case tyc_BadNumber => first | k_is | kx_is | kts_exm | kit_is | kernel_rfl)
      (case kpc_BadNumber => first | k_is | kx_is | kts_exm | kit_is | kernel_rfl)
      (case xcl_BadNumber => first | k_is | kx_is | kts_exm | kit_is | kernel_rfl)
      (case xga_BadNumber => first | k_is | kx_is | kts_exm | kit_is | kernel_rfl)
      (case xgg_BadNumber => first | k_is | kx_is | kts_exm | kit_is | kernel_rfl)
      (case xha_BadNumber => first | k_is | kx_is | kts_exm | kit_is | kernel_rfl)
      (case xhn_BadNumber => first | k_is | kx_is | kts_exm | kit_is | kernel_rfl)
      (case xht_BadNumber => first | k_is | kx_is | kts_exm | kit_is | kernel_rfl)
      (case xhm_BadNumber => first | k_is | kx_is | kts_exm | kit_is | kernel_rfl)
      (case tk_BadNumber_at => first | k_is | kx_is | kts_exm | kit_is | kernel_rfl)
      (case na_BadNumber_at => first | k_is | kx_is | kts_exm | kit_is | kernel_rfl)
      (case a_BadNumber___init__ => k_is)
      (case y_BadNumber___init__ => k_is)
      (case l_BadNumber___init__ => k_is)
      (case e_BadNumber___init__ => k_is)
      (case k_BadNumber___init__ => k_is)
      (case v_BadNumber => first | k_is | kx_is | kts_exm | kit_is | kernel_rfl)
      (case a_BadKind => k_is)
      (case ini_BadKind => first | k_is | kx_is | kts_exm | kit_is | kernel_rfl)
      (case ovr_BadKind => first | k_is | kx_is | kts_exm | kit_is | kernel_rfl)
      (case dic_BadKind => first | k_is | kx_is | kts_exm | kit_is | kernel_rfl)
      (case sav_BadKind => first | k_is | kx_is | kts_exm | kit_is | kernel_rfl)
      (case bex_BadKind => first | k_is | kx_is | kts_exm | kit_is | kernel_rfl)
      (case tyc_BadKind => first | k_is | kx_is | kts_exm | kit_is | kernel_rfl)
      (case kpc_BadKind => first | k_is | kx_is | kts_exm | kit_is | kernel_rfl)
      (case xcl_BadKind => first | k_is | kx_is | kts_exm | kit_is | kernel_rfl)
      (case xga_BadKind => first | k_is | kx_is | kts_exm | kit_is | kernel_rfl)
      (case xgg_BadKind => first | k_is | kx_is | kts_exm | kit_is | kernel_rfl)
      (case xha_BadKind => first | k_is | kx_is | kts_exm | kit_is | kernel_rfl)
      (case xhn_BadKind => first | k_is | kx_is | kts_exm | kit_is | kernel_rfl)
      (case xht_BadKind => first | k_is | kx_is | kts_exm | kit_is | kernel_rfl)
      (case xhm_BadKind => first | k_is | kx_is | kts_exm | kit_is | kernel_rfl)
      (case tk_BadKind_wanted => first | k_is | kx_is | kts_exm | kit_is | kernel_rfl)
      (case na_BadKind_wanted => first | k_is | kx_is | kts_exm | kit_is | kernel_rfl)
      (case a_BadKind___init__ => k_is)
      (case y_BadKind___init__ => k_is)
      (case l_BadKind___init__ => k_is)
      (case e_BadKind___init__ => k_is)
      (case k_BadKind___init__ => k_is)
      (case v_BadKind => first | k_is | kx_is | kts_exm | kit_is | kernel_rfl)
      (case a_TooMany => k_is)
      (case ini_TooMany => first | k_is | kx_is | kts_exm | kit_is | kernel_rfl)
      (case ovr_TooMany => first | k_is | kx_is | kts_exm | kit_is | kernel_rfl)
      (case dic_TooMany => first | k_is | kx_is | kts_exm | kit_is | kernel_rfl)
      (case sav_TooMany => first | k_is | kx_is | kts_exm | kit_is | kernel_rfl)
      (case bex_TooMany => first | k_is | kx_is | kts_exm | kit_is | kernel_rfl)
      (case tyc_TooMany => first | k_is | kx_is | kts_exm | kit_is | kernel_rfl)
      (case kpc_TooMany => first | k_is | kx_is | kts_exm | kit_is | kernel_rfl)
      (case xcl_TooMany => first | k_is | kx_is | kts_exm | kit_is | kernel_rfl)
      (case xga_TooMany => first | k_is | kx_is | kts_exm | kit_is | kernel_rfl)
      (case xgg_TooMany => first | k_is | kx_is | kts_exm | kit_is | kernel_rfl)
      (case xha_TooMany => first | k_is | kx_is | kts_exm | kit_is | kernel_rfl)
      (case xhn_TooMany => first | k_is | kx_is | kts_exm | kit_is | kernel_rfl)
      (case xht_TooMany => first | k_is | kx_is | kts_exm | kit_is | kernel_rfl)
      (case xhm_TooMany => first | k_is | kx_is | kts_exm | kit_is | kernel_rfl)
      (case tk_TooMany_most => first | k_is | kx_is | kts_exm | kit_is | kernel_rfl)
      (case na_TooMany_most => first | k_is | kx_is | kts_exm | kit_is | kernel_rfl)
      (case a_TooMany___init__ => k_is)
      (case y_TooMany___init__ => k_is)
      (case l_TooMany___init__ => k_is)
      (case e_TooMany___init__ => k_is)
      (case k_TooMany___init__ => k_is)
      (case v_TooMany => first | k_is | kx_is | kts_exm | kit_is | kernel_rfl)
      (case a_is_whole => k_is)
      (case l_is_whole => k_is)
      (case e_is_whole => k_is)
      (case k_is_whole => k_is)
      (case dd_is_whole => (intro q hq; simp only [List.mem_cons, List.not_mem_nil, or_false] at hq; rcases hq with rfl | rfl <;> (dsimp only; refine' Rs.ex_u ?_ ?_; rotate_left; k_is; first | exact ⟨_, rfl⟩ | exact rfl)))
      (case a_bits => k_is)
      (case l_bits => k_is)
      (case e_bits => k_is)
      (case k_bits => k_is)
      (case a_need_row => k_is)
      (case l_need_row => k_is)
      (case e_need_row => k_is)
      (case k_need_row => k_is)
      (case a__law_mixed => k_is)
      (case l__law_mixed => k_is)
      (case e__law_mixed => k_is)
      (case k__law_mixed => k_is)
      (case a__law_take => k_is)
      (case l__law_take => k_is)
      (case e__law_take => k_is)
      (case k__law_take => k_is)
      (case a__law_refusal => k_is)
      (case l__law_refusal => k_is)
      (case e__law_refusal => k_is)
      (case k__law_refusal => k_is)
      (case a__law_heard => k_is)
      (case l__law_heard => k_is)
      (case e__law_heard => k_is)
      (case k__law_heard => k_is)
      (case a__law_odd => k_is)
      (case l__law_odd => k_is)
      (case e__law_odd => k_is)
      (case k__law_odd => k_is)
      (case a__law_whole_right => k_is)
      (case l__law_whole_right => k_is)
      (case e__law_whole_right => k_is)
      (case k__law_whole_right => k_is)
      (case a__law_bits_right => k_is)
      (case l__law_bits_right => k_is)
      (case e__law_bits_right => k_is)
      (case nt__law_bits_right => first | k_is | kernel_rfl)
      (case ht__law_bits_right => first | k_is | kernel_rfl)
      (case k__law_bits_right => k_is)
      (case a__law_row_right => k_is)
      (case l__law_row_right => k_is)
      (case e__law_row_right => k_is)
      (case nt__law_row_right => first | k_is | kernel_rfl)
      (case ht__law_row_right => first | k_is | kernel_rfl)
      (case k__law_row_right => k_is)
      (case a__law_by_hand_right => k_is)
      (case l__law_by_hand_right => k_is)
      (case e__law_by_hand_right => k_is)
      (case k__law_by_hand_right => k_is)
      (case a_law => k_is)
      (case l_law => k_is)
      (case e_law => k_is)
      (case k_law => k_is)
      (case g_MOST_THINGS => k_is)
      (case r_MOST_THINGS => first | exact ⟨_, rfl⟩ | exact rfl)
      (case x_stat => first | k_is | kx_is | kts_exm | kit_is | kernel_rfl)
      (case x_any_BadNumber => first | k_is | kx_is | kts_exm | kit_is | kernel_rfl)
      (case x_i_BadNumber_BadPaper => first | k_is | kx_is | kts_exm | kit_is | kernel_rfl)
      (case x_i_BadNumber_Flawed => first | k_is | kx_is | kts_exm | kit_is | kernel_rfl)
      (case x_i_BadNumber_BadLine => first | k_is | kx_is | kts_exm | kit_is | kernel_rfl)
      (case x_i_BadNumber_Busy => first | k_is | kx_is | kts_exm | kit_is | kernel_rfl)
      (case x_i_BadNumber_Gone => first | k_is | kx_is | kts_exm | kit_is | kernel_rfl)
      (case x_i_BadNumber_BadAnswer => first | k_is | kx_is | kts_exm | kit_is | kernel_rfl)
      (case x_i_BadNumber_BadKind => first | k_is | kx_is | kts_exm | kit_is | kernel_rfl)
      (case x_i_BadNumber_BadText => first | k_is | kx_is | kts_exm | kit_is | kernel_rfl)
      (case x_i_BadNumber_BadNumber => first | k_is | kx_is | kts_exm | kit_is | kernel_rfl)
      (case x_i_BadNumber_NoSuch => first | k_is | kx_is | kts_exm | kit_is | kernel_rfl)
      (case x_i_BadNumber_TooMany => first | k_is | kx_is | kts_exm | kit_is | kernel_rfl)
      (case x_i_BadNumber_Stopped => first | k_is | kx_is | kts_exm | kit_is | kernel_rfl)
      (case x_any_BadKind => first | k_is | kx_is | kts_exm | kit_is | kernel_rfl)
      (case x_i_BadKind_BadPaper => first | k_is | kx_is | kts_exm | kit_is | kernel_rfl)
      (case x_i_BadKind_Flawed => first | k_is | kx_is | kts_exm | kit_is | kernel_rfl)
      (case x_i_BadKind_BadLine => first | k_is | kx_is | kts_exm | kit_is | kernel_rfl)
      (case x_i_BadKind_Busy => first | k_is | kx_is | kts_exm | kit_is | kernel_rfl)
      (case x_i_BadKind_Gone => first | k_is | kx_is | kts_exm | kit_is | kernel_rfl)
      (case x_i_BadKind_BadAnswer => first | k_is | kx_is | kts_exm | kit_is | kernel_rfl)
      (case x_i_BadKind_BadKind => first | k_is | kx_is | kts_exm | kit_is | kernel_rfl)
      (case x_i_BadKind_BadText => first | k_is | kx_is | kts_exm | kit_is | kernel_rfl)
      (case x_i_BadKind_BadNumber => first | k_is | kx_is | kts_exm | kit_is | kernel_rfl)
      (case x_i_BadKind_NoSuch => first | k_is | kx_is | kts_exm | kit_is | kernel_rfl)
      (case x_i_BadKind_TooMany => first | k_is | kx_is | kts_exm | kit_is | kernel_rfl)
      (case x_i_BadKind_Stopped => first | k_is | kx_is | kts_exm | kit_is | kernel_rfl)
      (case x_any_TooMany => first | k_is | kx_is | kts_exm | kit_is | kernel_rfl)
      (case x_i_TooMany_BadPaper => first | k_is | kx_is | kts_exm | kit_is | kernel_rfl)
      (case x_i_TooMany_Flawed => first | k_is | kx_is | kts_exm | kit_is | kernel_rfl)
      (case x_i_TooMany_BadLine => first | k_is | kx_is | kts_exm | kit_is | kernel_rfl)
      (case x_i_TooMany_Busy => first | k_is | kx_is | kts_exm | kit_is | kernel_rfl)
      (case x_i_TooMany_Gone => first | k_is | kx_is | kts_exm | kit_is | kernel_rfl)
      (case x_i_TooMany_BadAnswer => first | k_is | kx_is | kts_exm | kit_is | kernel_rfl)
      (case x_i_TooMany_BadKind => first | k_is | kx_is | kts_exm | kit_is | kernel_rfl)
      (case x_i_TooMany_BadText => first | k_is | kx_is | kts_exm | kit_is | kernel_rfl)
      (case x_i_TooMany_BadNumber => first | k_is | kx_is | kts_exm | kit_is | kernel_rfl)
      (case x_i_TooMany_NoSuch => first | k_is | kx_is | kts_exm | kit_is | kernel_rfl)
      (case x_i_TooMany_TooMany => first | k_is | kx_is | kts_exm | kit_is | kernel_rfl)
      (case x_i_TooMany_Stopped => first | k_is | kx_is | kts_exm | kit_is | kernel_rfl)
      (case z_len => k_is)
      (case z_min => k_is)
      (case z_all => k_is)
      (case z_range => k_is)
      (case z_repr => k_is)
      (case z_isinstance => k_is)
      (case z_int => k_is)
      (case z_bool => k_is)
      (case z_list => k_is)
      (case z_IndexError => k_is)
      (case z_TypeError => k_is)
      (case z_OverflowError => k_is)
    refine ⟨[(A.cc__law_row_right, 312), (A.cc__law_bits_right, 307)], rfl, ?_, ?_, _, _, T.c_law, fun base TB => K01.ok_law T TB⟩
    · intro p hp; simp only [List.mem_cons, List.not_mem_nil, or_false] at hp; rcases hp with rfl | rfl; exact T.nt__law_row_right; exact T.nt__law_bits_right
    · intro p hp; simp only [List.mem_cons, List.not_mem_nil, or_false] at hp; rcases hp with rfl | rfl; exact T.ht__law_row_right; exact T.ht__law_bits_right
