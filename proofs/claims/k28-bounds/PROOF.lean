import PyProof.Rows.All
import Wide.All
import OpenK.AllK
import Wide.FinOn
import HandS.ForMost
import HandS.EndBits
import HandS.Defaults
import HandS.WideBits
import HandS.Style
import HandS.IsInst
import HandS.NoneIn
import HandS.More
import HandS.MakeKwOnly
import HandS.CallLocal
import HandS.SortKw
import HandS.TupMul
import HandS.TupAny
import KE.DataMinMax
import KE.KMinKey
import PySem.Challenge.RW_runsort_k28_bounds_and_gallops
set_option Elab.async false
set_option maxRecDepth 100000
set_option maxHeartbeats 4000000
namespace Rs
open PySem PySem.Spec PyProof.Rows L2

/-! ### a promise that is kept while no text of a container is under way -/
def Clr (A : Around) : Prop := A.guards = some []
theorem Clr.deep {A : Around} (c : Clr A) (e : Env) : Clr (A.deeper e) := c

structure FnG (P : Program) (w : World) (K : PySem.W.Frag) (mg : Str → Option Value) (base : Heap) (k : Nat) (f : Addr) (fd : FuncData) (ps : List Str) (sp : Sp) : Prop where
  many : ∀ vs H Q E, sp vs H Q E → vs.length = ps.length
  go : ∀ (A : Around) (o : List Env) (s : Shared) (H : Hp) (us : List Value) (a : Args) (vs : List V) (Q : VK) (E : XK), Clr A → Room k A → Env0 P w K mg base A o s H →
    BindsTo s fd a (ps.zip us) → Vals vs us → sp vs H Q E → codeAny (model P w) A (.call (.ref f) a) (CR CX0 o P w H s Q E) s
theorem FnG.up {P : Program} {w : World} {K : PySem.W.Frag} {mg : Str → Option Value} {base : Heap} {j k : Nat} {f : Addr} {fd : FuncData} {ps : List Str} {sp : Sp}
    (F : FnG P w K mg base j f fd ps sp) (h : j ≤ k) : FnG P w K mg base k f fd ps sp :=
  ⟨F.many, fun A o s H us a vs Q E c r => F.go A o s H us a vs Q E c (r.mono h)⟩
theorem FnG.of {P : Program} {w : World} {K : PySem.W.Frag} {mg : Str → Option Value} {base : Heap} {k : Nat} {f : Addr} {fd : FuncData} {ps : List Str} {sp : Sp}
    (F : FnOk P w K mg base CX0 k f fd ps sp) : FnG P w K mg base k f fd ps sp :=
  ⟨F.len, fun A o s H us a vs Q E _ r e b v h => F.run A o s H a us vs Q E r e b v h⟩

section
variable {P : Program} {w : World} {K : PySem.W.Frag} {mg : Str → Option Value} {base : Heap}
/-- a def by its body, as FnG -/
theorem defG {x qual : Str} {st : Stmt} {f : Addr} {fd : FuncData} {N ps : List Str} {k : Nat} {sp : Sp} (F : Fun K x qual st f fd) (S : FnScope N ps (defScope st))
    (many : ∀ vs H Q E, sp vs H Q E → vs.length = ps.length)
    (body : ∀ (cdv : Value) (A : Around) (o : List Env) (s : Shared) (H : Hp) (vs : List V) (Q : VK) (E : XK), Clr A →
      Room k (A.deeper (envOfC qual (defScope st) s.heap.objs.size f cdv)) → sp vs H Q E →
      ∃ t, PSs (cxOf CX0 P w K mg base N qual (defScope st) f cdv A o s H E).nox (defBody st) t ∧ t { nx := fun _ H' => Q .non H', rt := Q } (start N vs) H) :
    FnG P w K mg base (k + 1) f fd ps sp := by
  obtain ⟨oc, od, kV, doc, pm, an, cdv, ct, osl, rfl, lk, hcd⟩ := F.ex
  refine ⟨many, ?_⟩
  intro A o s H us a vs Q E c r e0 hb rv hsp
  obtain ⟨t, ht, hq⟩ := body cdv A o s H vs Q E c (r.deeper _) hsp
  have inK : ∀ b ob, K.lookup b = some ob → s.heap.get? b = some ob := fun b ob e => (e0.bs b ob (e0.mod.kin b ob e)).1
  have noL : s.heap.NoLimit := e0.mod.nolimit.keeps fun b ob e => (e0.bs b ob e).1
  refine codeAny_call_function r.depth (inK _ _ lk) rfl S.co S.gen rfl (PySem.W.codeRec_of inK hcd) (hb _ _ _ _ ?_)
  refine wpAny_newFunctionEnv_cells S.kind ?_ ?_
  · rintro ⟨n, v⟩ hy
    rcases S.par n (List.of_mem_zip hy).1 with q | q
    · exact Or.inl q
    · exact Or.inr ⟨q, PySem.W.cellsFrom_some _ _ _ (Or.inl q)⟩
  · intro env he s1 x1
    subst he
    refine ⟨noL.keeps x1.toInCall.keep, codeAny_func ?_⟩
    have J := inv_start (CX := CX0) (mg := mg) (E := E) (qual := qual) S r.hd e0 (many _ _ _ _ hsp) rv x1
    refine wpAny_mono (ht.nox.run [] s1 _ H _ J hq) ?_ ?_
    · intro fl s2 h2
      cases fl with
      | next => obtain ⟨_, H2, J2, q2⟩ := h2; exact ⟨V.non, H2, J2.os, J2.bare, J2.base, J2.hok, rfl, q2⟩
      | ret u => obtain ⟨v, _, H2, J2, r2, q2⟩ := h2; exact ⟨v, H2, J2.os, J2.bare, J2.base, J2.hok, r2, q2⟩
      | brk => obtain ⟨_, _, _, q2⟩ := h2; exact q2.elim
      | cont => obtain ⟨_, _, _, q2⟩ := h2; exact q2.elim
    · intro e s2 h2; exact h2
end

section
variable {X : Cx} {k : Nat} {f : Addr} {fd : FuncData} {ps : List Str} {sp : Sp} {dvs : List V} {ds : List Value} {x : Str} {p pos : Pos} {e : Expr} {es : List Expr} {t : TA}
theorem goG {pins : List (Addr × Obj)} {σ : L2.St} {H : Hp} {s : Shared} {Q : VK} {us : List Value} {vs : List V} (F : FnG X.prog X.w X.K X.mg X.base k f fd ps sp) (c : Clr X.A) (hr : Room k X.A)
    (hb : Binds X.K fd ps ds) (hd : Vals dvs ds) (I : Inv X pins σ H s) (r : Vals vs us) (h : sp (vs ++ dvs) H Q E0) : wpAny (model X.prog X.w) X.A (call (.ref f) us) (EP X pins σ Q) X.xe s := by
  have r2 := r.append hd
  have hl : (us ++ ds).length = ps.length := r2.length.symm.trans (F.many _ _ _ _ h)
  apply wpAny_call
  refine codeAny_mono (F.go X.A X.stack s H (us ++ ds) ⟨us, []⟩ (vs ++ dvs) Q E0 c hr I.env0 (hb s us I.kIn hl) r2 h) ?_
  intro q s2 h2
  match q, h2 with
  | .error _, h2 => exact h2.elim
  | .ok (.ret _), h2 => exact I.after h2
  | .ok .next, h2 => exact h2.elim
  | .ok .brk, h2 => exact h2.elim
  | .ok .cont, h2 => exact h2.elim
/-- f(e, ..) of such a def -/
theorem pe_callG (F : FnG X.prog X.w X.K X.mg X.base k f fd ps sp) (c : Clr X.A) (hr : Room k X.A) (hg : Gl X x) (hm : X.mg x = some (.ref f)) (hk : PySem.W.keepIn X.K (.ref f) = true)
    (hb : Binds X.K fd ps ds) (hd : Vals dvs ds) (ha : PA X (e :: es) t) (hdb : (x == ("__debug__" : Str)) = false := by decide)
    (he : starEach (e :: es) X.env = (false, eval e X.env) :: starEach es X.env := by rfl) (hpl : (backTo pos (starEach es X.env)).any (·.1) = false := by rfl) :
    PE X (.Call (.Name x p) (e :: es) [] pos) (tCall sp dvs E0 t) := by
  constructor
  intro pins s σ H Q I h
  apply wpAny_Call_Name_kw
  refine ld_glob I hg hm ?_ hdb
  refine PySem.W.callWith_K (h₀ := X.base) I.ok.mod.kin hk ?_ he hpl
  refine thn (ha.run pos pins s σ H _ I h) ?_
  rintro us s1 ⟨vs, H1, I1, r, q⟩
  exact ⟨I1.kIn, goG F c hr hb hd I1 r q⟩
theorem pe_callG0 (F : FnG X.prog X.w X.K X.mg X.base k f fd ps sp) (c : Clr X.A) (hr : Room k X.A) (hg : Gl X x) (hm : X.mg x = some (.ref f)) (hk : PySem.W.keepIn X.K (.ref f) = true)
    (hb : Binds X.K fd ps ds) (hd : Vals dvs ds) (hdb : (x == ("__debug__" : Str)) = false := by decide) : PE X (.Call (.Name x p) [] [] pos) (tCall sp dvs E0 tNil) := by
  constructor
  intro pins s σ H Q I h
  apply wpAny_Call_Name_kw
  refine ld_glob I hg hm ?_ hdb
  exact PySem.W.callWith_K0 I.kIn hk (goG (us := []) F c hr hb hd I .nil h)
end

/-! ### repr of data -/
/-- data that can be shown -/
structure Shw (d : PyData) : Prop where
  ok : d.showable = true
  sz : d.shown.length ≤ sizeLine
def rRepr (K : PySem.W.Frag) : List V → Hp → VK → Prop := fun xs H Q => ∃ x d, xs = [x] ∧ Dp K H x d ∧ Shw d ∧ d.depth ≤ 50 ∧ Q (.str d.shown) H
mutual
theorem dp_noDict {K : PySem.W.Frag} {H : Hp} : ∀ (d : PyData) (v : V), Dp K H v d → d.hasDict = false
  | .none, _, _ => by simp only [PyData.hasDict]
  | .bool _, _, _ => by simp only [PyData.hasDict]
  | .int _, _, _ => by simp only [PyData.hasDict]
  | .str _, _, _ => by simp only [PyData.hasDict]
  | .list ds, _, h => by
    cases h with
    | lst _ ha => simp only [PyData.hasDict]; exact dps_noDict ds _ ha
  | .tuple ds, _, h => by
    cases h with
    | tup _ ha => simp only [PyData.hasDict]; exact dps_noDict ds _ ha
  | .dict _, _, h => by cases h
theorem dps_noDict {K : PySem.W.Frag} {H : Hp} : ∀ (ds : List PyData) (vs : List V), DpAll K H vs ds → PyData.hasDictAll ds = false
  | [], _, _ => by simp only [PyData.hasDictAll]
  | d :: ds, _, h => by
    cases h with
    | cons h1 h2 => simp only [PyData.hasDictAll, dp_noDict d _ h1, dps_noDict ds _ h2, Bool.or_self]
end
section
variable {X : Cx}
theorem call_repr {k : Nat} (c : Clr X.A) (hr : Room k X.A) : CallR X (.builtin "repr") (rRepr X.K) := by
  intro pins s σ H xs us Q I r h
  obtain ⟨x, d, rfl, hd, hs, hdp, q⟩ := h
  cases r with
  | cons r1 r2 =>
    cases r2
    rename_i u
    have nd := dp_noDict d x hd
    obtain ⟨as, rd⟩ := Dp.reads I d x u hd r1
    have fin : ∀ h' t tk, (∀ b o, s.heap.get? b = some o → h'.get? b = some o) → EP X pins σ Q (.str d.shown t) { s with heap := h', toks := tk } :=
      fun h' t tk kp => ⟨.str d.shown, H, I.kept kp, ⟨t, rfl⟩, q⟩
    have un := hr.units
    have room : X.A.units + (d.depth + 1) < cLine := by omega
    cases x with
    | ref a =>
      cases (show u = Value.ref a from r1)
      exact repr_of_reads' (s := s) rd hs.ok (PyData.noDict_hsm nd) c room (fun _ _ e => e) fin hs.sz
    | non =>
      cases (show u = Value.none from r1)
      cases hd
      have e : PyData.shown .none = ("None" : Str) := by simp only [PyData.shown]
      rw [e] at q
      exact PySem.P.repr_of_none ⟨.str _, H, I.tok _, ⟨_, rfl⟩, q⟩
    | bl b =>
      cases (show u = Value.bool b from r1)
      cases hd
      have e : PyData.shown (.bool b) = ((if b then "True" else "False" : String) : Str) := by cases b <;> simp only [PyData.shown] <;> rfl
      rw [e] at q
      cases b <;> exact PySem.P.repr_of_bool ⟨.str _, H, I.tok _, ⟨_, rfl⟩, q⟩
    | int i =>
      obtain ⟨t, rfl⟩ := (show ∃ t, u = Value.int i t from r1)
      cases hd
      have e : PyData.shown (.int i) = ((toString i : String) : Str) := by simp only [PyData.shown]
      have z : i.natAbs.log2 < 1920 := by simpa [PyData.showable] using hs.ok
      rw [e] at q
      exact PySem.P.repr_of_int z ⟨.str _, H, I.tok _, ⟨_, rfl⟩, q⟩
    | str x =>
      obtain ⟨t, rfl⟩ := (show ∃ t, u = Value.str x t from r1)
      cases hd
      have e : PyData.shown (.str x) = reprText x := by simp only [PyData.shown]
      have z := hs.sz
      rw [e] at q z
      exact PySem.P.repr_of_str ⟨.str _, H, I.tok _, ⟨_, rfl⟩, q⟩ z
    | byt _ => cases hd
    | flt _ => cases hd
    | ty _ => cases hd
end

/-! ### slices with a step -/
/-- the places that a slice takes -/
def slIx (n : Nat) (lo hi st : Option Int) : List Nat := sliceRange (sliceBounds lo hi st n).1 (sliceBounds lo hi st n).2.1 (sliceBounds lo hi st n).2.2
def pickV (xs : List V) (lo hi st : Option Int) : List V := (slIx xs.length lo hi st).filterMap (xs[·]?)
theorem vals_pick {xs : List V} {us : List Value} (r : Vals xs us) : ∀ ix : List Nat, Vals (ix.filterMap (xs[·]?)) (ix.filterMap (us[·]?))
  | [] => .nil
  | i :: ix => by
    have ih := vals_pick r ix
    cases e : xs[i]? with
    | none =>
      have e' := r.none_of e
      rw [List.filterMap_cons_none e, List.filterMap_cons_none e']
      exact ih
    | some x =>
      obtain ⟨u, e', ru⟩ := r.get e
      rw [List.filterMap_cons_some e, List.filterMap_cons_some e']
      exact .cons ru ih
def tSl3 (K : PySem.W.Frag) (te : TE) (tl th ts : TO) : TE := fun σ H Q => te σ H fun x H1 => tl σ H1 fun l H2 => th σ H2 fun u H3 => ts σ H3 fun st H4 => ∃ a xs, x = .ref a ∧ SqL K H4 a xs ∧ st ≠ some 0 ∧
  ∀ p, H4 p = none → Q (.ref p) (upd H4 p (.lst (pickV xs l u st)))
section
variable {X : Cx}
theorem pe_slice3 {e : Expr} {te : TE} {lo hi st : Option Expr} {tl th ts : TO} {p2 pos : Pos} (he : PE X e te) (hl : PO X lo tl) (hh : PO X hi th) (hs : PO X st ts)
    (hsub : ∀ ov iv, subscripted (.Slice lo hi st p2) false ov iv = operate [ov, iv] (getItem ov iv) := by intro _ _; with_unfolding_all rfl) : PE X (.Subscript e (.Slice lo hi st p2) pos) (tSl3 X.K te tl th ts) := by
  constructor
  intro pins s σ H Q I h
  refine PyProof.Rows.Subscript_ (thn (he.run pins s σ H _ I h) ?_)
  rintro v s1 ⟨x, H1, I1, r1, q1⟩
  refine wpAny_Slice (thn (hl.run pins s1 σ H1 _ I1 q1) ?_)
  rintro vl s2 ⟨l, H2, I2, pl, q2⟩
  refine thn (hh.run pins s2 σ H2 _ I2 q2) ?_
  rintro vu s3 ⟨u, H3, I3, pu, q3⟩
  refine thn (hs.run pins s3 σ H3 _ I3 q3) ?_
  rintro vs s4 ⟨c, H4, I4, ps, a, xs, ex, hx, h0, q4⟩
  subst ex
  cases r1
  have I5 : Inv X pins σ H4 { s4 with heap := s4.heap.push { cls := .type "slice", data := .fields #[vl, vu, vs] } } := I4.kept (t' := s4.toks) fun b ob q => Heap.get?_push_of_some _ q
  obtain ⟨its, rv, ht, hz⟩ := I5.list hx
  have hlen : its.length = xs.length := rv.length.symm
  show wpAny (model X.prog X.w) X.A (subscriptTail e (.Slice lo hi st p2) (.ref a) (.ref s4.heap.objs.size)) (EP X pins σ Q) X.xe _
  refine tail_any (ops := [.ref a, .ref s4.heap.objs.size]) ht.isList.typeIs PySem.slot_list_getitem.lookup ?_ (hsub _ _)
  refine wpAny_getItem_list_slice ht.isList (Heap.IsSliceOf.new _ vl vu vs) pl pu ps h0 ?_ (by rw [List.size_toArray, hlen]; exact hz)
  have hp : PySem.slicePick its.toArray l u c = ((slIx xs.length l u c).filterMap (its[·]?)).toArray := by
    unfold PySem.slicePick slIx
    rw [List.size_toArray, hlen]
    simp only [List.getElem?_toArray]
  have hn := PySem.slicePick_size_le its.toArray l u c
  rw [hp, List.size_toArray, List.size_toArray, hlen] at hn
  rw [hp]
  refine ⟨.ref _, _, I5.laid (t' := s4.toks) (o := .lst (pickV xs l u c)) (fun b ob q => Heap.get?_push_of_some _ q) (Nat.le_refl _) ?_, rfl, q4 _ (I5.hok.fresh (Nat.le_refl _))⟩
  refine ⟨?_, _, 0, vals_pick rv _, Heap.get?_push_size _ rfl⟩
  have e := (vals_pick rv (slIx xs.length l u c)).length
  show (List.filterMap (fun i => xs[i]?) (slIx xs.length l u c)).length ≤ sizeLine
  rw [e]
  exact Nat.le_trans hn hz
end

/-! ### a call by keywords alone -/
section
variable {X : Cx} {CX : CXT} {k : Nat} {f : Addr} {fd : FuncData} {ps ks : List Str} {sp : Sp} {E : XK} {x : Str} {p pos : Pos} {kws : List Keyword} {tk : TA} {g : List Value → List Value → List Value} {gV : List V → List V → List V}
theorem pe_callK0 (F : FnOk X.prog X.w X.K X.mg X.base CX k f fd ps sp) (hr : Room k X.A) (hg : Gl X x) (hm : X.mg x = some (.ref f)) (hk : PySem.W.keepIn X.K (.ref f) = true) (hb : KBn X.K fd ps 0 ks g gV) (hx : Passes CX X E)
    (hkw : PK X kws tk) (hall : (backToKw pos (keywordEach kws X.env)).all (·.1.isSome) = true := by rfl) (hks : (backToKw pos (keywordEach kws X.env)).filterMap (·.1) = ks := by rfl)
    (hdb : (x == ("__debug__" : Str)) = false := by decide) : PE X (.Call (.Name x p) [] kws pos) (tCallN 0 ks.length sp gV E tNil tk) := by
  constructor
  intro pins s σ H Q I h
  apply wpAny_Call_Name_kw
  refine ld_glob I hg hm ?_ hdb
  have np : ((backTo pos (starEach [] X.env)).any (·.1) || (backToKw pos (keywordEach kws X.env)).any (·.1.isNone)) = false := by
    have z : ∀ l : List (Option Str × Sem Value), l.all (·.1.isSome) = true → l.any (·.1.isNone) = false := by
      intro l hl
      induction l with
      | nil => rfl
      | cons q l ih =>
        simp only [List.all_cons, Bool.and_eq_true] at hl
        simp only [List.any_cons, ih hl.2, Bool.or_false]
        cases e : q.1 with
        | none => rw [e] at hl; exact absurd hl.1 (by decide)
        | some _ => rfl
    rw [z _ hall]; rfl
  refine PySem.W.callWith_KW0 (h₀ := X.base) I.ok.mod.kin hk hall ?_ np
  refine thn (hkw.run pos pins s σ H _ I h) ?_
  rintro ws s1 ⟨zs, H1, I1, rz, _, l2, q⟩
  refine ⟨I1.kIn, ?_⟩
  rw [hks]
  exact run_fnN (us := []) F hr hb hx I1 .nil rz rfl l2 q
end

/-! ### the law's own call -/
/-- the heap that knows of nothing but the script (at a, where it stands apart) -/
def scriptH (own : Bool) (a : Addr) (o : Obj) (ns : List Int) : Hp := fun b => if own = true ∧ b = a then some (.frz o (.lst (ns.map V.int))) else none
theorem scriptH_only (own : Bool) (a : Addr) (o : Obj) (ns : List Int) : Only (scriptH own a o ns) := fun b => by
  unfold scriptH
  split
  · exact Or.inr ⟨_, _, rfl⟩
  · exact Or.inl rfl
theorem scriptH_some {own : Bool} {a b : Addr} {o : Obj} {ns : List Int} {u : HO} (h : scriptH own a o ns b = some u) : own = true ∧ b = a ∧ u = .frz o (.lst (ns.map V.int)) := by
  unfold scriptH at h
  split at h
  · rename_i z; exact ⟨z.1, z.2, (Option.some.inj h).symm⟩
  · cases h
theorem lawG {P : Program} {w : World} {K : PySem.W.Frag} {mg mb : Str → Option Value} {k : Nat} {fa a : Addr} {fd : FuncData} {x : Str} {sp : Sp} {s : Shared} {vs : List Value} {ns : List Int}
    (KX : K.In s.heap) (hm : s.heap.Ns mainGlobals mg) (hb : s.heap.Ns builtinsNs mb) (hbb : ∀ x : Str, x ≠ "__name__" → mb x = bootBuiltins x) (hlim : s.heap.NoLimit) (hg : s.gens = #[])
    (ha : s.heap.get? a = some { cls := .type "list", data := .seq vs.toArray }) (hi : IntsAre vs ns) (hl : ns.length ≤ sizeLine) (hr : Room k callerA)
    (F : ∀ base : Heap, K.In base → base.Ns mainGlobals mg → FnG P w K mg base k fa fd [x] sp) (hbind : ∀ (s : Shared) (u : Value), BindsTo s fd ⟨[u], []⟩ [(x, u)])
    (hsp : ∀ H : Hp, Only H → SqL K H a (ns.map V.int) → sp [.ref a] H (fun v _ => v = .bl true) E0) :
    codeAny (model P w) callerA (.call (.ref fa) ⟨[.ref a], []⟩) (fun r s' => r = .ok (.ret (.bool true)) ∧ OldK s.heap s'.heap ∧ s'.os = s.os ∧ AllBare s'.gens) s := by
  have rv := vals_ints hi
  have lv := hi.length
  -- own: the script is no object of the written part
  have key : ∀ own : Bool, (own = true → K.lookup a = none) → (own = false → ∃ o, K.lookup a = some o) →
      codeAny (model P w) callerA (.call (.ref fa) ⟨[.ref a], []⟩) (fun r s' => r = .ok (.ret (.bool true)) ∧ OldK s.heap s'.heap ∧ s'.os = s.os ∧ AllBare s'.gens) s := by
    intro own h1 h2
    have hO := scriptH_only own a { cls := .type "list", data := .seq vs.toArray } ns
    have hS := fun {b : Addr} {u : HO} => scriptH_some (own := own) (a := a) (b := b) (o := { cls := .type "list", data := .seq vs.toArray }) (ns := ns) (u := u)
    generalize eH : scriptH own a { cls := .type "list", data := .seq vs.toArray } ns = H at hO hS
    have frs0 : ∀ {b : Addr} {o : Obj} {es : Array DictEntry} {n : Nat}, s.heap.get? b = some o → o.data = .dict es n → H b = none := by
      intro b o es n e d
      cases q : H b with
      | none => rfl
      | some u =>
        obtain ⟨_, rfl, _⟩ := hS q
        rw [ha] at e
        cases e
        have d' : Data.seq vs.toArray _ = Data.dict es n := d
        cases d'
    have ns0 : ∀ {b : Addr} {m : Str → Option Value}, s.heap.Ns b m → (hidT s.heap H).Ns b m := by
      rintro b m ⟨o, es, n, e, d, r⟩
      exact ⟨o, es, n, hidT_get e (frs0 e d), d, r⟩
    have K0 : K.In (hidT s.heap H) := by
      intro b o e
      refine hidT_get (KX b o e) ?_
      cases q : H b with
      | none => rfl
      | some u =>
        obtain ⟨z, rfl, _⟩ := hS q
        rw [h1 z] at e
        cases e
    have hok : HOk P w H s.heap := by
      intro b u q
      obtain ⟨_, rfl, rfl⟩ := hS q
      exact ⟨ha, by rw [List.length_map]; exact hl, vs, _, rv, ha⟩
    have M0 : Mod K mg (hidT s.heap H) := by
      refine ⟨K0, ns0 hm, ⟨mb, ns0 hb, hbb⟩, ?_⟩
      obtain ⟨mc, q1, q2⟩ := hlim
      exact ⟨mc, ns0 q1, q2⟩
    have env : Env0 P w K mg (hidT s.heap H) callerA [] s H := by
      refine ⟨rfl, M0, fun b o e => of_hidT e, Nat.le_of_eq (hidT_size _ _), trivial, ?_, hok, .of_eq hg⟩
      intro b hb'
      cases hb'
    have sq : SqL K H a (ns.map V.int) := by
      cases own with
      | true => exact Or.inl (Or.inr ⟨_, by rw [← eH]; exact if_pos ⟨rfl, rfl⟩⟩)
      | false =>
        obtain ⟨o, e⟩ := h2 rfl
        have e' := KX a o e
        rw [ha] at e'
        cases e'
        exact Or.inr ⟨_, vs.toArray, _, e, rfl, rfl, rfl, by rw [List.size_toArray, lv]; exact hl, by simpa using rv⟩
    refine codeAny_mono ((F _ K0 (ns0 hm)).go callerA [] s H [.ref a] ⟨[.ref a], []⟩ [.ref a] _ E0 rfl hr env (hbind s (.ref a)) (.cons rfl .nil) (hsp H hO sq)) ?_
    intro r s' h
    match r, h with
    | .error _, h => exact h.elim
    | .ok .next, h => exact h.elim
    | .ok .brk, h => exact h.elim
    | .ok .cont, h => exact h.elim
    | .ok (.ret u), h =>
      obtain ⟨v, H', os, bare, un, hok', r', q⟩ := h
      cases (show v = .bl true from q)
      cases (show u = Value.bool true from r')
      refine ⟨rfl, OldK.of_keep ?_, os, bare⟩
      intro b o e
      cases q : H b with
      | none => exact un.keep b o e q (fun z => nomatch z) (fun z => nomatch z)
      | some u =>
        obtain ⟨_, rfl, rfl⟩ := hS q
        rw [ha] at e
        cases e
        obtain ⟨e2, _⟩ := hok' b _ (un.frzs b _ _ q)
        exact e2
  cases hk : K.lookup a with
  | some o => exact key false (fun z => Bool.noConfusion z) (fun _ => ⟨o, hk⟩)
  | none => exact key true (fun _ => hk) (fun z => Bool.noConfusion z)
theorem walkG {l : PySem.W.OpenLaw} {n k : Nat} {q : Program} {loose : List Str} {XP : (Str → Option Value) → Heap → Prop} {YP : World → Heap → Prop} {d : DefRec} {K : Params → PySem.W.Frag} {sp : PySem.W.Frag → Sp} {x : Str}
    (hn : l.most = some n) (hn2 : n ≤ sizeLine) (hdf : d.params.defaults = []) (hr : Room k callerA) (hY : ∀ (w : World) (h : Heap), YP w h → (K w.params).In h)
    (F : ∀ (w : World) (mg : Str → Option Value) (fa : Addr) (h : Heap), (K w.params).In h → h.Ns mainGlobals mg → mg d.name = some (.ref fa) →
      ∃ fd : FuncData, (∀ (s : Shared) (u : Value), BindsTo s fd ⟨[u], []⟩ [(x, u)]) ∧
        ∀ base : Heap, (K w.params).In base → base.Ns mainGlobals mg → FnG l.prog w (K w.params) mg base k fa fd [x] (sp (K w.params)))
    (hsp : ∀ (K : PySem.W.Frag) (H : Hp) (a : Addr) (ns : List Int), ns.length ≤ n → (∀ z ∈ ns, Builtin.Int.intBits z ≤ 1048576) → SqL K H a (ns.map V.int) → sp K [.ref a] H (fun v _ => v = .bl true) E0) :
    PySem.W.WalkO q loose XP YP l.row.toRowW d [] (fun f vs => PySem.call f vs) := by
  apply Att.attach_callB hn hdf
  intro w s0 s1 mg mb fa o pm cd doc a vs ns G Y ho hd hcd hmg hobj hints hlen hbits hg
  have KX := hY w _ Y
  obtain ⟨fd, hb, hF⟩ := F w mg fa _ KX G.T.g hmg
  exact lawG KX G.T.g G.T.b G.T.builtins G.T.nolimit hg hobj hints (Nat.le_trans hlen hn2) hr hF hb fun H _ hS => hsp _ H a ns hlen hbits hS
end Rs

namespace Rs
open PySem PySem.Spec PyProof.Rows L2

/-! ### what is known of the heap -/
abbrev Led := List (Addr × HO)
/-- H0: the heap at the entry; M: the objects of it that may have changed; L: what stands now -/
structure Hs (H0 : Hp) (M : List Addr) (H : Hp) (L : Led) : Prop where
  nd : (L.map (·.1)).Nodup
  is : ∀ q ∈ L, H q.1 = some q.2
  old : ∀ b o, H0 b = some o → b ∉ M → H b = some o
  mu : ∀ b ∈ M, H b ≠ none
/-- one entry exchanged -/
inductive Chg (a : Addr) (o o' : HO) : Led → Led → Prop where
  | here {L : Led} : Chg a o o' ((a, o) :: L) ((a, o') :: L)
  | there {q : Addr × HO} {L L' : Led} : Chg a o o' L L' → Chg a o o' (q :: L) (q :: L')
theorem Chg.keys {a : Addr} {o o' : HO} {L L' : Led} (c : Chg a o o' L L') : L'.map (·.1) = L.map (·.1) := by
  induction c with
  | here => rfl
  | there _ ih => simp only [List.map_cons, ih]
theorem Chg.mem {a : Addr} {o o' : HO} {L L' : Led} (c : Chg a o o' L L') : (a, o) ∈ L := by
  induction c with
  | here => exact List.mem_cons_self
  | there _ ih => exact List.mem_cons_of_mem _ ih
theorem Chg.of {a : Addr} {o o' : HO} {L L' : Led} (c : Chg a o o' L L') (nd : (L.map (·.1)).Nodup) : ∀ q ∈ L', q = (a, o') ∨ (q ∈ L ∧ q.1 ≠ a) := by
  induction c with
  | @here L =>
    intro q hq
    rcases List.mem_cons.mp hq with e | hq
    · exact Or.inl e
    · refine Or.inr ⟨List.mem_cons_of_mem _ hq, ?_⟩
      intro e
      simp only [List.map_cons, List.nodup_cons] at nd
      exact nd.1 (e ▸ List.mem_map_of_mem hq)
  | @there p L L' c ih =>
    intro q hq
    simp only [List.map_cons, List.nodup_cons] at nd
    rcases List.mem_cons.mp hq with e | hq
    · subst e
      refine Or.inr ⟨List.mem_cons_self, ?_⟩
      intro e
      exact nd.1 (e ▸ List.mem_map_of_mem (f := (·.1)) c.mem)
    · rcases ih nd.2 q hq with e | ⟨h1, h2⟩
      · exact Or.inl e
      · exact Or.inr ⟨List.mem_cons_of_mem _ h1, h2⟩
section
variable {H0 H H' : Hp} {M : List Addr} {L L' : Led} {a : Addr} {o o' : HO}
theorem Hs.new (S : Hs H0 M H L) (hp : H a = none) (o : HO) : H0 a = none ∧ Hs H0 M (upd H a o) ((a, o) :: L) := by
  have n0 : H0 a = none := by
    cases e : H0 a with
    | none => rfl
    | some u =>
      by_cases hm : a ∈ M
      · exact absurd hp (S.mu a hm)
      · have := S.old a u e hm
        rw [hp] at this
        cases this
  have ne : ∀ q ∈ L, q.1 ≠ a := fun q hq e => by
    have := S.is q hq
    rw [e, hp] at this
    cases this
  refine ⟨n0, ?_, ?_, ?_, ?_⟩
  · simp only [List.map_cons, List.nodup_cons]
    refine ⟨fun hm => ?_, S.nd⟩
    obtain ⟨q, hq, e⟩ := List.mem_map.mp hm
    exact ne q hq e
  · intro q hq
    rcases List.mem_cons.mp hq with e | hq
    · subst e; exact upd_same
    · rw [upd_ne (ne q hq)]; exact S.is q hq
  · intro b u e hm
    have hb : b ≠ a := fun z => by rw [z, n0] at e; cases e
    rw [upd_ne hb]
    exact S.old b u e hm
  · intro b hb
    unfold upd
    split
    · simp
    · exact S.mu b hb
theorem Hs.put (S : Hs H0 M H L) (c : Chg a o o' L L') (hm : H0 a = none ∨ a ∈ M) : Hs H0 M (upd H a o') L' := by
  refine ⟨by rw [c.keys]; exact S.nd, ?_, ?_, ?_⟩
  · intro q hq
    rcases c.of S.nd q hq with e | ⟨h1, h2⟩
    · subst e; exact upd_same
    · rw [upd_ne h2]; exact S.is q h1
  · intro b u e hb
    have ne : b ≠ a := fun z => by
      subst z
      rcases hm with z | z
      · rw [z] at e; cases e
      · exact hb z
    rw [upd_ne ne]
    exact S.old b u e hb
  · intro b hb
    unfold upd
    split
    · simp
    · exact S.mu b hb
/-- behind a call that changed at most the objects of C (each fresh or in M), and left L' -/
theorem Hs.call (S : Hs H0 M H L) {C : List Addr} (k : ∀ b u, H b = some u → b ∉ C → H' b = some u) (hC : ∀ b ∈ C, (H0 b = none ∨ b ∈ M) ∧ H' b ≠ none) (nd : (L'.map (·.1)).Nodup)
    (is : ∀ q ∈ L', H' q.1 = some q.2) : Hs H0 M H' L' := by
  refine ⟨nd, is, ?_, ?_⟩
  · intro b u e hb
    refine k b u (S.old b u e hb) fun hc => ?_
    rcases (hC b hc).1 with z | z
    · rw [z] at e; cases e
    · exact hb z
  · intro b hb
    by_cases hc : b ∈ C
    · exact (hC b hc).2
    · intro z
      cases e : H b with
      | none => exact S.mu b hb e
      | some u =>
        rw [k b u e hc] at z
        cases z
/-- nothing was changed -/
theorem Hs.more (S : Hs H0 M H L) (k : Same H H') : Hs H0 M H' L :=
  S.call (C := []) (fun b u e _ => k b u e) (fun b hb => nomatch hb) S.nd fun q hq => k _ _ (S.is q hq)
/-- nothing was changed, one object is new -/
theorem Hs.more1 (S : Hs H0 M H L) (k : Same H H') (hp : H a = none) (h' : H' a = some o) : H0 a = none ∧ Hs H0 M H' ((a, o) :: L) := by
  obtain ⟨n0, S'⟩ := S.new hp o
  refine ⟨n0, (S.more k).call (C := []) (fun b u e _ => e) (fun b hb => nomatch hb) S'.nd ?_⟩
  intro q hq
  rcases List.mem_cons.mp hq with e | hq
  · subst e; exact h'
  · exact k _ _ (S.is q hq)
/-- one object was changed, to o' -/
theorem Hs.one (S : Hs H0 M H L) (c : Chg a o o' L L') (hm : H0 a = none ∨ a ∈ M) (k : ∀ b u, H b = some u → b ≠ a → H' b = some u) (h' : H' a = some o') : Hs H0 M H' L' := by
  have S' := S.put c hm
  refine S.call (C := [a]) (fun b u e hb => k b u e fun z => hb (by simp [z])) ?_ S'.nd ?_
  · intro b hb
    have e : b = a := by simpa using hb
    subst e
    exact ⟨hm, by rw [h']; simp⟩
  · intro q hq
    rcases c.of S.nd q hq with e | ⟨h1, h2⟩
    · subst e; exact h'
    · exact k _ _ (S.is q h1) h2
/-- one object was changed, one is new -/
theorem Hs.one1 {p : Addr} {u : HO} (S : Hs H0 M H L) (c : Chg a o o' L L') (hm : H0 a = none ∨ a ∈ M) (k : ∀ b u, H b = some u → b ≠ a → H' b = some u) (h' : H' a = some o') (hp : H p = none) (hp' : H' p = some u) : H0 p = none ∧ Hs H0 M H' ((p, u) :: L') := by
  have S' := S.one c hm k h'
  have S2 := S.new hp u
  refine ⟨S2.1, ?_, ?_, S'.old, S'.mu⟩
  · simp only [List.map_cons, List.nodup_cons]
    refine ⟨fun hq => ?_, S'.nd⟩
    rw [c.keys] at hq
    obtain ⟨q, hq, e⟩ := List.mem_map.mp hq
    have := S.is q hq
    rw [e, hp] at this
    cases this
  · intro q hq
    rcases List.mem_cons.mp hq with e | hq
    · subst e; exact hp'
    · exact S'.is q hq
theorem Hs.sub (S : Hs H0 M H L) (h : L'.Sublist L) : Hs H0 M H L' := ⟨S.nd.sublist (h.map _), fun q hq => S.is q (h.subset hq), S.old, S.mu⟩
theorem Hs.start (H : Hp) (M : List Addr) (L : Led) (nd : (L.map (·.1)).Nodup) (is : ∀ q ∈ L, H q.1 = some q.2) (hM : ∀ b ∈ M, H b ≠ none) : Hs H M H L := ⟨nd, is, fun b u e _ => e, hM⟩
theorem Hs.start0 (H : Hp) : Hs H [] H [] := ⟨List.nodup_nil, fun q hq => (nomatch hq), fun b u e _ => e, fun b hb => nomatch hb⟩
theorem Hs.start1 {H : Hp} {a : Addr} {o : HO} (h : H a = some o) (M : List Addr) (hM : M = [] ∨ M = [a]) : Hs H M H [(a, o)] := by
  refine ⟨by simp, fun q hq => ?_, fun b u e _ => e, fun b hb => ?_⟩
  · have e : q = (a, o) := by simpa using hq
    subst e; exact h
  · rcases hM with rfl | rfl
    · cases hb
    · have e : b = a := by simpa using hb
      subst e; rw [h]; simp
theorem Hs.get (S : Hs H0 M H L) (m : (a, o) ∈ L) : H a = some o := S.is _ m
theorem Hs.old1 {d b : Addr} {u : HO} (S : Hs H0 [d] H L) (e : H0 b = some u) (hb : b ≠ d) : H b = some u := S.old b u e (by simpa using hb)
theorem Hs.same (S : Hs H0 [] H L) : Same H0 H := fun b o e => S.old b o e (fun z => nomatch z)
theorem Hs.lst {K : PySem.W.Frag} {xs : List V} (S : Hs H0 M H L) (m : (a, HO.lst xs) ∈ L) : SqL K H a xs := SqL.of (S.is _ m)
theorem Hs.tup {K : PySem.W.Frag} {xs : List V} (S : Hs H0 M H L) (m : (a, HO.tup xs) ∈ L) : SqT K H a xs := SqT.of (S.is _ m)
/-- the script, or what else stands in the written part, at a list -/
theorem Hs.sq {K : PySem.W.Frag} {xs : List V} (S : Hs H0 M H L) (h : SqL K H0 a xs) (hm : a ∉ M) : SqL K H a xs := by
  rcases h with (h | ⟨u, h⟩) | h
  · exact Or.inl (Or.inl (S.old _ _ h hm))
  · exact Or.inl (Or.inr ⟨u, S.old _ _ h hm⟩)
  · exact Or.inr h
end

/-! ### readings, step by step -/
/-- the slots at the entry -/
def stV : List Str → List V → L2.St
  | [], _ => []
  | _ :: N, vs => vs.head? :: stV N vs.tail
theorem start_eq : ∀ (N : List Str) (vs : List V), vs.length ≤ N.length → L2.start N vs = stV N vs
  | [], [], _ => by simp [L2.start, stV]
  | [], v :: vs, h => by simp at h
  | n :: N, [], _ => by
    have ih := start_eq N [] (Nat.zero_le _)
    simp only [stV, List.tail_nil, ← ih]
    simp [L2.start, List.replicate_succ]
  | n :: N, v :: vs, h => by
    have ih := start_eq N vs (by simpa using h)
    simp only [stV, List.tail_cons, ← ih]
    simp [L2.start]
section
variable {σ : L2.St} {H H0 : Hp} {M : List Addr} {L L' : Led} {Q : VK} {v x y : V} {nx : L2.St → Hp → Prop} {rt : VK} {bk ct : L2.St → Hp → Prop} {t u : TS} {te ta tb tc : TE} {g : TG} {tt tu : TT} {r r' : R2} {A B : Prop}
theorem rd_start {t : TS} {D : Ends} {N : List Str} {vs : List V} (h : t D (stV N vs) H) (hl : vs.length ≤ N.length := by exact Nat.le_of_ble_eq_true rfl) : t D (L2.start N vs) H := by rw [start_eq N vs hl]; exact h
theorem rd_seq (h : t ⟨fun σ H => u ⟨nx, rt, bk, ct⟩ σ H, rt, bk, ct⟩ σ H) : tSeq t u ⟨nx, rt, bk, ct⟩ σ H := h
theorem rd_asg (h : te σ H fun x H1 => g x σ H1 nx) : tAsg te g ⟨nx, rt, bk, ct⟩ σ H := h
theorem rd_name {i : Nat} {σ' : L2.St} {N : L2.St → Hp → Prop} (e : σ.set i (some v) = σ') (h : N σ' H) : gName i v σ H N := by subst e; exact h
theorem rd_ret (h : te σ H rt) : tRet te ⟨nx, rt, bk, ct⟩ σ H := h
theorem rd_retN (h : rt .non H) : tRetN ⟨nx, rt, bk, ct⟩ σ H := h
theorem rd_drop (h : te σ H fun _ H1 => nx σ H1) : tDrop te ⟨nx, rt, bk, ct⟩ σ H := h
theorem rd_next (h : nx σ H) : tNext ⟨nx, rt, bk, ct⟩ σ H := h
theorem rd_ifS (h : tt σ H fun b H1 => if b = true then t ⟨nx, rt, bk, ct⟩ σ H1 else u ⟨nx, rt, bk, ct⟩ σ H1) : tIfS tt t u ⟨nx, rt, bk, ct⟩ σ H := h
theorem rd_par {i j : Nat} {ta : TA} (h : ta σ H fun vs H1 => ∃ v w, vs = [v, w] ∧ nx ((σ.set i (some v)).set j (some w)) H1) : tPar i j ta ⟨nx, rt, bk, ct⟩ σ H := h
theorem rd_par3 {i j l : Nat} {ta : TA} (h : ta σ H fun vs H1 => ∃ u v w, vs = [u, v, w] ∧ nx (((σ.set i (some u)).set j (some v)).set l (some w)) H1) : tPar3 i j l ta ⟨nx, rt, bk, ct⟩ σ H := h
theorem rd_two {R : V → V → Prop} (h : R x y) : ∃ v w, [x, y] = [v, w] ∧ R v w := ⟨_, _, rfl, h⟩
theorem rd_three {z : V} {R : V → V → V → Prop} (h : R x y z) : ∃ u v w, [x, y, z] = [u, v, w] ∧ R u v w := ⟨_, _, _, rfl, h⟩
theorem rd_var {i : Nat} (e : σ[i]? = some (some v)) (h : Q v H) : tVar i σ H Q := ⟨v, e, h⟩
theorem rd_c (h : Q v H) : tC v σ H Q := h
theorem rd_op (h : ta σ H fun x H1 => tb σ H1 fun y H2 => r x y H2 Q) : tOp r ta tb σ H Q := h
theorem rd_un {r : V → Hp → VK → Prop} (h : ta σ H fun x H1 => r x H1 Q) : tUn r ta σ H Q := h
theorem rd_I0 {f : Int → Int → V} {i j : Int} (h : Q (f i j) H) : rI0 f (.int i) (.int j) H Q := ⟨i, j, rfl, rfl, h⟩
theorem rd_I {C : Int → Int → Prop} {f : Int → Int → V} {i j : Int} (hc : C i j) (h : Q (f i j) H) : rI C f (.int i) (.int j) H Q := ⟨i, j, rfl, rfl, hc, h⟩
theorem rd_U {f : Int → V} {i : Int} (h : Q (f i) H) : rU f (.int i) H Q := ⟨i, rfl, h⟩
theorem rd_eqI {i j : Int} (h : Q (.bl (decide (i = j))) H) : rEq (.int i) (.int j) H Q := by
  refine ⟨rfl, ?_⟩
  have e : decide (V.int i = V.int j) = decide (i = j) := by simp
  rw [e]; exact h
theorem rd_neI {i j : Int} (h : Q (.bl (decide (¬ i = j))) H) : rNe (.int i) (.int j) H Q := by
  refine ⟨rfl, ?_⟩
  have e : (!decide (V.int i = V.int j)) = decide (¬ i = j) := by simp
  rw [e]; exact h
theorem rd_eqS {i j : Str} (h : Q (.bl (decide (i = j))) H) : rEq (.str i) (.str j) H Q := by
  refine ⟨rfl, ?_⟩
  have e : decide (V.str i = V.str j) = decide (i = j) := by simp
  rw [e]; exact h
theorem rd_neS {i j : Str} (h : Q (.bl (decide (¬ i = j))) H) : rNe (.str i) (.str j) H Q := by
  refine ⟨rfl, ?_⟩
  have e : (!decide (V.str i = V.str j)) = decide (¬ i = j) := by simp
  rw [e]; exact h
theorem rd_eqB {i j : Bool} (h : Q (.bl (decide (i = j))) H) : rEq (.bl i) (.bl j) H Q := by
  refine ⟨rfl, ?_⟩
  have e : decide (V.bl i = V.bl j) = decide (i = j) := by simp
  rw [e]; exact h
theorem rd_test {Q : Bool → Hp → Prop} (h : te σ H fun x H' => ∃ k, x = .bl k ∧ Q k H') : tTest te σ H Q := h
theorem rd_tB {Q : Bool → Hp → Prop} (h : te σ H fun x H' => ∃ k, x = .bl k ∧ Q k H') : tB te σ H Q := h
theorem rd_bl {b : Bool} {R : Bool → Prop} (h : R b) : ∃ k, V.bl b = .bl k ∧ R k := ⟨b, rfl, h⟩
theorem rd_and {Q : Bool → Hp → Prop} (h : tt σ H fun c H1 => if c = true then tu σ H1 Q else Q false H1) : tAnd tt tu σ H Q := h
theorem rd_or {Q : Bool → Hp → Prop} (h : tt σ H fun c H1 => if c = true then Q true H1 else tu σ H1 Q) : tOr tt tu σ H Q := h
theorem rd_not {Q : Bool → Hp → Prop} (h : tt σ H fun c H1 => Q (!c) H1) : tNot tt σ H Q := h
theorem rd_andV (h : ta σ H fun x H1 => ∃ c, x = .bl c ∧ if c = true then tb σ H1 Q else Q (.bl false) H1) : tAndV ta tb σ H Q := h
theorem rd_orV (h : ta σ H fun x H1 => ∃ c, x = .bl c ∧ if c = true then Q (.bl true) H1 else tb σ H1 Q) : tOrV ta tb σ H Q := h
theorem rd_notV (h : ta σ H fun x H1 => ∃ c, x = .bl c ∧ Q (.bl (!c)) H1) : tNotV ta σ H Q := h
theorem rd_if (h : tt σ H fun c H1 => if c = true then ta σ H1 Q else tb σ H1 Q) : tIf tt ta tb σ H Q := h
theorem rd_cons {tr : TA} {Q : List V → Hp → Prop} (h : te σ H fun x H1 => tr σ H1 fun xs H2 => Q (x :: xs) H2) : tCons te tr σ H Q := h
theorem rd_nil {Q : List V → Hp → Prop} (h : Q [] H) : tNil σ H Q := h
/-- what is wanted of a new object -/
def nw (Q : VK) (H : Hp) (o : HO) : Prop := ∀ p, H p = none → Q (.ref p) (upd H p o)
def nwL (Q : VK) (H : Hp) (xs : List V) : Prop := xs.length ≤ sizeLine ∧ nw Q H (.lst xs)
def nwT (Q : VK) (H : Hp) (xs : List V) : Prop := xs.length ≤ sizeLine ∧ nw Q H (.tup xs)
theorem rd_tup {ta : TA} (h : ta σ H fun xs H1 => nwT Q H1 xs) : tTup ta σ H Q := h
theorem rd_lst {ta : TA} (h : ta σ H fun xs H1 => nwL Q H1 xs) : tLst ta σ H Q := h
theorem rd_cb {r : List V → Hp → VK → Prop} {ta : TA} (h : ta σ H fun vs H1 => r vs H1 Q) : tCB r ta σ H Q := h
theorem rd_call {sp : Sp} {dvs : List V} {E : XK} {ta : TA} (h : ta σ H fun vs H1 => sp (vs ++ dvs) H1 Q E) : tCall sp dvs E ta σ H Q := h
theorem rd_call0 {sp : Sp} {E : XK} {ta : TA} (h : ta σ H fun vs H1 => sp vs H1 Q E) : tCall sp [] E ta σ H Q := by
  have e : (fun (vs : List V) H1 => sp (vs ++ []) H1 Q E) = fun vs H1 => sp vs H1 Q E := by funext vs H1; rw [List.append_nil]
  show ta σ H (fun vs H1 => sp (vs ++ []) H1 Q E)
  rw [e]; exact h
theorem rd_callN {n m : Nat} {sp : Sp} {gV : List V → List V → List V} {E : XK} {ta tk : TA} (h : ta σ H fun vs H1 => tk σ H1 fun zs H2 => vs.length = n ∧ zs.length = m ∧ sp (gV vs zs) H2 Q E) : tCallN n m sp gV E ta tk σ H Q := h
theorem rd_chain (h : ta σ H fun x H1 => tb σ H1 fun y H2 => r x y H2 fun z H3 => ∃ k, z = .bl k ∧ (if k = true then tc σ H3 fun w H4 => r' y w H4 Q else Q (.bl false) H3)) : tChain r r' ta tb tc σ H Q := h
theorem rd_bits (h : te σ H fun x H1 => ∃ i, x = .int i ∧ Q (.int (Builtin.Int.intBits i : Nat)) H1) : tBits te σ H Q := h
theorem rd_int1 {i : Int} {R : Int → Prop} (h : R i) : ∃ j, V.int i = .int j ∧ R j := ⟨i, rfl, h⟩
theorem rd_int2 {i j : Int} {R : Int → Int → Prop} (h : R i j) : ∃ i' j', [V.int i, V.int j] = [.int i', .int j'] ∧ R i' j' := ⟨i, j, rfl, h⟩
theorem rd_dget {td ty : TE} (h : td σ H fun x H1 => ty σ H1 fun y H2 => ∃ a v, x = .ref a ∧ DGet H2 a y (some v) ∧ Q v H2) : tDGet td ty σ H Q := h
theorem rd_dput {td ty tv : TE} (h : tv σ H fun v H1 => td σ H1 fun x H2 => ty σ H2 fun y H3 => ∃ a H4, x = .ref a ∧ DPut H3 a y v H4 ∧ nx σ H4) : sDPut td ty tv ⟨nx, rt, bk, ct⟩ σ H := h
theorem rd_slice3 {K : PySem.W.Frag} {tl th ts : TO} (h : te σ H fun x H1 => tl σ H1 fun l H2 => th σ H2 fun u H3 => ts σ H3 fun st H4 => ∃ a xs, x = .ref a ∧ SqL K H4 a xs ∧ st ≠ some 0 ∧ nw Q H4 (.lst (pickV xs l u st))) : tSl3 K te tl th ts σ H Q := h
theorem rd_sl {r : V → Option Int → Option Int → Hp → VK → Prop} {tl th : TO} (h : te σ H fun x H1 => tl σ H1 fun l H2 => th σ H2 fun u H3 => r x l u H3 Q) : tSl r te tl th σ H Q := h
theorem rd_noPart {Q : Option Int → Hp → Prop} (h : Q none H) : tNoPart σ H Q := h
theorem rd_part {Q : Option Int → Hp → Prop} (h : te σ H fun x H1 => ∃ i, x = .int i ∧ Q (some i) H1) : tPart te σ H Q := h
theorem sz {n : Nat} (h : n ≤ 1000000) : n ≤ sizeLine := Nat.le_trans h (by decide)
theorem sz' {n : Nat} (h : n ≤ 1000000) : n < sizeLine := Nat.lt_of_le_of_lt h (by decide)
theorem rd_mod {i j : Int} (hj : 0 < j) (h : ∀ r, r = i % j → 0 ≤ r → r < j → Q (.int r) H) : rI (fun _ j => 0 < j) (fun i j => .int (i % j)) (.int i) (.int j) H Q :=
  ⟨i, j, rfl, rfl, hj, h _ rfl (Int.emod_nonneg _ (by omega)) (Int.emod_lt_of_pos _ hj)⟩
theorem rd_div {i j : Int} (hj : 0 < j) (hb : j < 2 ^ 64) (h : Q (.int (i / j)) H) : rI CDivW (fun i j => .int (i / j)) (.int i) (.int j) H Q :=
  ⟨i, j, rfl, rfl, wide_div (b := 64) hj (by omega) (by decide) (by decide), h⟩
theorem rd_mulL {i j : Int} (h0 : -(2 ^ 64) < i) (h1 : i < 2 ^ 64) (h : Q (.int (i * j)) H) : rI CMul (fun i j => .int (i * j)) (.int i) (.int j) H Q := ⟨i, j, rfl, rfl, .inl ⟨h0, h1⟩, h⟩
theorem rd_mulR {i j : Int} (h0 : -(2 ^ 64) < j) (h1 : j < 2 ^ 64) (h : Q (.int (i * j)) H) : rI CMul (fun i j => .int (i * j)) (.int i) (.int j) H Q := ⟨i, j, rfl, rfl, .inr ⟨h0, h1⟩, h⟩
theorem rd_pow {f : Int → Int → V} {i j : Int} (h0 : 0 ≤ j) (h1 : j ≤ 1000000) (h2 : i.natAbs < 2 ^ 64) (h : Q (f i j) H) : rI CPow f (.int i) (.int j) H Q := ⟨i, j, rfl, rfl, ⟨h0, h1, h2⟩, h⟩
/-! tests -/
theorem rd_dec {p : Prop} [Decidable p] (h1 : p → A) (h2 : ¬ p → B) : if decide p = true then A else B := by
  by_cases h : p
  · rw [if_pos (decide_eq_true h)]; exact h1 h
  · rw [if_neg (by simp [h])]; exact h2 h
theorem rd_decT {p : Prop} [Decidable p] (h : p) (h1 : A) : if decide p = true then A else B := by rw [if_pos (decide_eq_true h)]; exact h1
theorem rd_decF {p : Prop} [Decidable p] (h : ¬ p) (h1 : B) : if decide p = true then A else B := by rw [if_neg (by simp [h])]; exact h1
theorem rd_ite {b : Bool} (h1 : b = true → A) (h2 : b = false → B) : if b = true then A else B := by
  cases b with
  | true => rw [if_pos rfl]; exact h1 rfl
  | false => rw [if_neg Bool.false_ne_true]; exact h2 rfl
theorem rd_iteT (h : A) : if true = true then A else B := by rw [if_pos rfl]; exact h
theorem rd_iteF (h : B) : if false = true then A else B := by rw [if_neg Bool.false_ne_true]; exact h
theorem rd_ndec {p : Prop} [Decidable p] (h1 : ¬ p → A) (h2 : p → B) : if (!decide p) = true then A else B := by
  by_cases h : p
  · rw [if_neg (by simp [h])]; exact h2 h
  · rw [if_pos (by simp [h])]; exact h1 h
theorem rd_ndecT {p : Prop} [Decidable p] (h : p) (h2 : B) : if (!decide p) = true then A else B := by rw [if_neg (by simp [h])]; exact h2
theorem rd_ndecF {p : Prop} [Decidable p] (h : ¬ p) (h1 : A) : if (!decide p) = true then A else B := by rw [if_pos (by simp [h])]; exact h1
theorem rd_nT (h : B) : if (!true) = true then A else B := by rw [if_neg (by decide)]; exact h
theorem rd_nF (h : A) : if (!false) = true then A else B := by rw [if_pos (by decide)]; exact h
/-! with the ledger -/
theorem rd_newL {xs : List V} (S : Hs H0 M H L) (hz : xs.length ≤ sizeLine) (h : ∀ p H', H0 p = none → Hs H0 M H' ((p, .lst xs) :: L) → Q (.ref p) H') : nwL Q H xs :=
  ⟨hz, fun p hp => h p _ (S.new hp (.lst xs)).1 (S.new hp (.lst xs)).2⟩
theorem rd_newT {xs : List V} (S : Hs H0 M H L) (hz : xs.length ≤ sizeLine) (h : ∀ p H', H0 p = none → Hs H0 M H' ((p, .tup xs) :: L) → Q (.ref p) H') : nwT Q H xs :=
  ⟨hz, fun p hp => h p _ (S.new hp (.tup xs)).1 (S.new hp (.tup xs)).2⟩
theorem rd_newO {o : HO} (S : Hs H0 M H L) (h : ∀ p H', H0 p = none → Hs H0 M H' ((p, o) :: L) → Q (.ref p) H') : nw Q H o :=
  fun p hp => h p _ (S.new hp o).1 (S.new hp o).2
theorem rd_ixL {K : PySem.W.Frag} {a : Addr} {xs : List V} {i : Int} (S : Hs H0 M H L) (m : (a, HO.lst xs) ∈ L) (e : atI xs i = some v) (h : Q v H) : rIxL K (.ref a) (.int i) H Q := ⟨a, xs, i, v, rfl, rfl, S.lst m, e, h⟩
theorem atI_any {α : Type} {xs : List α} {i : Int} (h0 : 0 ≤ i) (h1 : i < xs.length) : ∃ v, v ∈ xs ∧ xs[i.toNat]? = some v ∧ atI xs i = some v := by
  have hl : i.toNat < xs.length := by omega
  have e : xs[i.toNat]? = some xs[i.toNat] := by simp [hl]
  refine ⟨xs[i.toNat], List.getElem_mem hl, e, ?_⟩
  have z : ((i.toNat : Nat) : Int) = i := by omega
  have q := atI_nat e
  rw [z] at q
  exact q
theorem rd_ixAny {K : PySem.W.Frag} {a : Addr} {xs : List V} {i : Int} (S : Hs H0 M H L) (m : (a, HO.lst xs) ∈ L) (h0 : 0 ≤ i) (h1 : i < xs.length) (h : ∀ v, v ∈ xs → xs[i.toNat]? = some v → Q v H) : rIxL K (.ref a) (.int i) H Q := by
  obtain ⟨v, hv, e, he⟩ := atI_any h0 h1
  exact ⟨a, xs, i, v, rfl, rfl, S.lst m, he, h v hv e⟩
theorem rd_ixT {K : PySem.W.Frag} {a : Addr} {xs : List V} {i : Int} (S : Hs H0 M H L) (m : (a, HO.tup xs) ∈ L) (e : atI xs i = some v) (h : Q v H) : rIxT K (.ref a) (.int i) H Q := ⟨a, xs, i, v, rfl, rfl, S.tup m, e, h⟩
theorem rd_len {K : PySem.W.Frag} {a : Addr} {xs : List V} (S : Hs H0 M H L) {R : List V → Prop} (m : (a, HO.lst xs) ∈ L) (h : R xs) : ∃ p ys, [V.ref a] = [.ref p] ∧ (SqL K H p ys ∨ SqT K H p ys) ∧ R ys := ⟨a, xs, rfl, Or.inl (S.lst m), h⟩
theorem rd_lenT {K : PySem.W.Frag} {a : Addr} {xs : List V} (S : Hs H0 M H L) {R : List V → Prop} (m : (a, HO.tup xs) ∈ L) (h : R xs) : ∃ p ys, [V.ref a] = [.ref p] ∧ (SqL K H p ys ∨ SqT K H p ys) ∧ R ys := ⟨a, xs, rfl, Or.inr (S.tup m), h⟩
theorem rd_getS {a : Addr} {kvs : List (Key × V)} {k : Str} (S : Hs H0 M H L) (m : (a, HO.dK kvs) ∈ L) (e : valV kvs (.inr k) = some v) {R : V → Prop} (h : R v) : ∃ a' v', V.ref a = .ref a' ∧ DGet H a' (.str k) (some v') ∧ R v' :=
  ⟨a, v, rfl, by rw [← e]; exact DGet.k (k := Sum.inr k) (S.is _ m), h⟩
theorem rd_putS {a : Addr} {kvs kvs' : List (Key × V)} {k : Str} {R : Hp → Prop} (S : Hs H0 M H L) (c : Chg a (.dK kvs) (.dK kvs') L L') (hm : H0 a = none ∨ a ∈ M) (hl : kvs.length < sizeLine) (e : putK kvs (.inr k) v = kvs')
    (h : ∀ H', Hs H0 M H' L' → R H') : ∃ a' H4, V.ref a = .ref a' ∧ DPut H a' (.str k) v H4 ∧ R H4 := by
  subst e
  exact ⟨a, _, rfl, DPut.k (k := Sum.inr k) (S.is _ c.mem) hl, h _ (S.put c hm)⟩
theorem gt_ref {K : PySem.W.Frag} {a : Addr} {xs : List V} {n : Nat} {ts : TGs} {N : L2.St → Hp → Prop} (S : Hs H0 M H L) (m : (a, HO.tup xs) ∈ L) (hn : xs.length = n) (h : ts xs σ H N) : gTup K n ts (.ref a) σ H N := ⟨a, xs, rfl, S.tup m, hn, h⟩
theorem gt_cons {ts : TGs} {w : V} {vs : List V} {N : L2.St → Hp → Prop} (h : g w σ H fun σ' H' => ts vs σ' H' N) : gCons g ts (w :: vs) σ H N := ⟨w, vs, rfl, h⟩
theorem gt_nil {N : L2.St → Hp → Prop} (h : N σ H) : gNil [] σ H N := ⟨rfl, h⟩
end
/-! ### a def as it is called by its name -/
structure Cal (K : PySem.W.Frag) (mg : Str → Option Value) (x : Str) (st : Stmt) (ps : List Str) (f : Addr) (fd : FuncData) : Prop where
  F : Fun K x x st f fd
  b : Binds K fd ps []
  m : mg x = some (.ref f)
end Rs

namespace Rs
open PySem PySem.Spec PyProof.Rows L2

/-! ### kinds of values -/
inductive Kn where
  | int | bool | str | none | list | tup | dict
  deriving DecidableEq
def Kn.nm : Kn → String
  | .int => "int" | .bool => "bool" | .str => "str" | .none => "NoneType" | .list => "list" | .tup => "tuple" | .dict => "dict"
inductive Kin (K : PySem.W.Frag) (H : Hp) : V → Kn → Prop where
  | int (i : Int) : Kin K H (.int i) .int
  | bl (b : Bool) : Kin K H (.bl b) .bool
  | str (x : Str) : Kin K H (.str x) .str
  | non : Kin K H .non .none
  | ref {a : Addr} {k : Kn} (h : TyX K H (.ref a) (.type k.nm)) (n : k = .list ∨ k = .tup ∨ k = .dict) : Kin K H (.ref a) k
section
variable {K : PySem.W.Frag} {H H0 : Hp} {M : List Addr} {L : Led} {x : V} {k : Kn} {Q : VK} {a : Addr}
theorem Kin.ty (h : Kin K H x k) : TyX K H x (.type k.nm) := by
  cases h with
  | int i => exact .base (.int i)
  | bl b => exact .base (.bl b)
  | str x => exact .base (.str x)
  | non => exact .base .non
  | ref h n => exact h
theorem Kin.lst {xs : List V} (h : H a = some (.lst xs)) : Kin K H (.ref a) .list := .ref (.base (.lst h)) (.inl rfl)
theorem Kin.tup {xs : List V} (h : H a = some (.tup xs)) : Kin K H (.ref a) .tup := .ref (.base (.tup h)) (.inr (.inl rfl))
theorem Kin.dK {kvs : List (Key × V)} (h : H a = some (.dK kvs)) : Kin K H (.ref a) .dict := .ref (.base (.dK h)) (.inr (.inr rfl))
theorem kit_int (k : Kn) : kitB k.nm "int" = some (k == .int || k == .bool) := by cases k <;> decide +kernel
theorem kit_bool (k : Kn) : kitB k.nm "bool" = some (k == .bool) := by cases k <;> decide +kernel
theorem kit_list (k : Kn) : kitB k.nm "list" = some (k == .list) := by cases k <;> decide +kernel
theorem kit_tuple (k : Kn) : kitB k.nm "tuple" = some (k == .tup) := by cases k <;> decide +kernel
theorem kit_str (k : Kn) : kitB k.nm "str" = some (k == .str) := by cases k <;> decide +kernel
theorem rd_isi {T : String} {b : Bool} (h : Kin K H x k) (e : kitB k.nm T = some b) (q : Q (.bl b) H) : rIsi K [x, .ty T] H Q := ⟨x, .ty T, .type k.nm, .type T, b, rfl, .ty T, h.ty, kit_ty e, q⟩
end
/-- a def with keyword-only defaults, as it is called by its name -/
structure CalK (K : PySem.W.Frag) (mg : Str → Option Value) (x : Str) (st : Stmt) (f : Addr) (fd : FuncData) : Prop where
  F : Fun K x x st f fd
  m : mg x = some (.ref f)
/-- whether a thing is a whole number from l to m -/
def isWh (x : V) (l m : Int) : Bool := match x with
  | .int t => decide (l ≤ t) && decide (t ≤ m)
  | _ => false
theorem isWh_int (t l m : Int) : isWh (.int t) l m = (decide (l ≤ t) && decide (t ≤ m)) := rfl

/-! ### more readings -/
section
variable {X : Cx}
/-- a module's constant -/
theorem pe_gl {x : Str} {v : V} {pos : Pos} (hg : Gl X x) (h : ∃ u, X.mg x = some u ∧ RelV v u) (hd : (x == ("__debug__" : Str)) = false := by decide) : PE X (.Name x pos) (tC v) := by
  obtain ⟨u, h1, h2⟩ := h
  exact pe_glob hg h1 h2 hd
end
/-- the keys of written pairs -/
def toK : List (V × V) → List (Key × V)
  | [] => []
  | (.int i, v) :: r => (.inl i, v) :: toK r
  | (.str x, v) :: r => (.inr x, v) :: toK r
  | _ :: r => toK r
def dspEnd (Q : VK) (p : Addr) (ps : List (V × V)) (H : Hp) : Prop := H p = some (.dK []) ∧ ∃ kvs : List (Key × V), ps = kvs.map (fun kv => (kV kv.1, kv.2)) ∧ kvs.length ≤ 15 ∧ Q (.ref p) (upd H p (.dK (mergeK [] kvs)))
def forW (J : It) (g : TG) (tb : TS) (D : Ends) (σ : L2.St) (H : Hp) : Prop := ∃ W : Nat → Nat → L2.St → Hp → Prop, (∃ m, W 0 m σ H) ∧ ∀ i m σ H, W i m σ H →
  (J.stop i H ∧ D.nx σ H) ∨ (J.go i H ∧ ∃ N : L2.St → Hp → Prop, (∀ σ' H', N σ' H' → ∃ m', m' < m ∧ W (i + 1) m' σ' H') ∧ ∀ x H', J.yld i H x H' → g x σ H' fun σ2 H2 => tb { D with nx := N, ct := N, bk := D.nx } σ2 H2)
def wl (W : Nat → L2.St → Hp → Prop) (m : Nat) (tw : TS) (nx : L2.St → Hp → Prop) (rt : VK) (σ : L2.St) (H : Hp) : Prop := ∃ N : L2.St → Hp → Prop, (∀ σ' H', N σ' H' → ∃ m', m' < m ∧ W m' σ' H') ∧ tw ⟨N, rt, nx, N⟩ σ H
def rng1 (R : It → Hp → Prop) (vs : List V) (H : Hp) : Prop := ∃ j : Int, vs = [.int j] ∧ -(2 ^ 62) ≤ j ∧ j < 2 ^ 62 ∧ R (Itr 0 j.toNat) H
def rng2 (R : It → Hp → Prop) (vs : List V) (H : Hp) : Prop := ∃ i j : Int, vs = [.int i, .int j] ∧ (-(2 ^ 62) ≤ i ∧ i < 2 ^ 62 ∧ -(2 ^ 62) ≤ j ∧ j < 2 ^ 62) ∧ R (Itr i (j - i).toNat) H
def lstI (K : PySem.W.Frag) (R : It → Hp → Prop) (x : V) (H : Hp) : Prop := ∃ a, x = .ref a ∧ (∃ xs, SqL K H a xs) ∧ R (Itl K a) H
def tupI (K : PySem.W.Frag) (R : It → Hp → Prop) (x : V) (H : Hp) : Prop := ∃ a, x = .ref a ∧ (∃ xs, SqT K H a xs) ∧ R (Itt K a) H
section
variable {σ : L2.St} {H H0 : Hp} {M : List Addr} {L L' : Led} {Q : VK} {v x y : V} {nx : L2.St → Hp → Prop} {rt : VK} {bk ct : L2.St → Hp → Prop} {t u : TS} {te ta tb tc : TE} {g : TG} {tt tu : TT} {tw : TS} {wi : TI}
theorem rd_disp {trs : List (TE × TE)} (S : Hs H0 M H L) (h : ∀ p H', H0 p = none → Hs H0 M H' ((p, .dK []) :: L) → tPairs trs σ H' fun ps H2 => dspEnd Q p ps H2) : tDisp trs σ H Q :=
  fun p hp => h p _ (S.new hp (.dK [])).1 (S.new hp (.dK [])).2
theorem rd_dspEnd {p : Addr} {ps : List (V × V)} {kvs : List (Key × V)} (S : Hs H0 M H L) (c : Chg p (.dK []) (.dK kvs) L L') (hm : H0 p = none ∨ p ∈ M) (e : ps = (toK ps).map fun kv => (kV kv.1, kv.2)) (hl : (toK ps).length ≤ 15)
    (ek : mergeK [] (toK ps) = kvs) (h : ∀ H', Hs H0 M H' L' → Q (.ref p) H') : dspEnd Q p ps H := by
  subst ek
  exact ⟨S.is _ c.mem, toK ps, e, hl, h _ (S.put c hm)⟩
theorem rd_prs {r : List (TE × TE)} {R : List (V × V) → Hp → Prop} (h : ta σ H fun k H1 => tb σ H1 fun v H2 => tPairs r σ H2 fun ps H3 => R ((k, v) :: ps) H3) : tPairs ((ta, tb) :: r) σ H R := h
theorem rd_prs0 {R : List (V × V) → Hp → Prop} (h : R [] H) : tPairs [] σ H R := h
theorem rd_for (h : wi σ H fun J H1 => forW J g tw ⟨nx, rt, bk, ct⟩ σ H1) : tFor wi g tw ⟨nx, rt, bk, ct⟩ σ H := h
theorem rd_rng1 {ta : TA} {R : It → Hp → Prop} (h : ta σ H fun vs H1 => rng1 R vs H1) : iRng1 ta σ H R := h
theorem rd_rng2 {ta : TA} {R : It → Hp → Prop} (h : ta σ H fun vs H1 => rng2 R vs H1) : iRng2 ta σ H R := h
theorem rd_rng1v {R : It → Hp → Prop} {j : Int} (h1 : -(2 ^ 62) ≤ j) (h2 : j < 2 ^ 62) (h : R (Itr 0 j.toNat) H) : rng1 R [.int j] H := ⟨j, rfl, h1, h2, h⟩
theorem rd_rng2v {R : It → Hp → Prop} {i j : Int} (h1 : -(2 ^ 62) ≤ i) (h2 : i < 2 ^ 62) (h3 : -(2 ^ 62) ≤ j) (h4 : j < 2 ^ 62) (h : R (Itr i (j - i).toNat) H) : rng2 R [.int i, .int j] H := ⟨i, j, rfl, ⟨h1, h2, h3, h4⟩, h⟩
theorem rd_iList {K : PySem.W.Frag} {R : It → Hp → Prop} (h : te σ H fun x H1 => lstI K R x H1) : iList K te σ H R := h
theorem rd_iTup {K : PySem.W.Frag} {R : It → Hp → Prop} (h : te σ H fun x H1 => tupI K R x H1) : iTup K te σ H R := h
theorem rd_lstI {K : PySem.W.Frag} {R : It → Hp → Prop} {a : Addr} {xs : List V} (S : Hs H0 M H L) (m : (a, HO.lst xs) ∈ L) (h : R (Itl K a) H) : lstI K R (.ref a) H := ⟨a, rfl, ⟨xs, S.lst m⟩, h⟩
theorem rd_tupI {K : PySem.W.Frag} {R : It → Hp → Prop} {a : Addr} {xs : List V} (S : Hs H0 M H L) (m : (a, HO.tup xs) ∈ L) (h : R (Itt K a) H) : tupI K R (.ref a) H := ⟨a, rfl, ⟨xs, S.tup m⟩, h⟩
/-- over lo, lo + 1, .. -/
theorem fw_range {lo : Int} {n : Nat} (Pv : Nat → L2.St → Hp → Prop) (h0 : Pv 0 σ H) (hs : ∀ i σ H, i < n → Pv i σ H → g (.int (lo + i)) σ H fun σ2 H2 => tw ⟨Pv (i + 1), rt, nx, Pv (i + 1)⟩ σ2 H2) (hd : ∀ σ H, Pv n σ H → nx σ H) :
    forW (Itr lo n) g tw ⟨nx, rt, bk, ct⟩ σ H := for_range Pv h0 hs hd
/-- over a list that stays as it is -/
theorem fw_list {K : PySem.W.Frag} {a : Addr} {xs : List V} (Pv : Nat → L2.St → Hp → Prop) (h0 : Pv 0 σ H) (hl : ∀ i σ H, i ≤ xs.length → Pv i σ H → SqL K H a xs)
    (hs : ∀ i x σ H, xs[i]? = some x → Pv i σ H → g x σ H fun σ2 H2 => tw ⟨Pv (i + 1), rt, nx, Pv (i + 1)⟩ σ2 H2) (hd : ∀ σ H, Pv xs.length σ H → nx σ H) : forW (Itl K a) g tw ⟨nx, rt, bk, ct⟩ σ H := for_list Pv h0 hl hs hd
theorem fw_tup {K : PySem.W.Frag} {a : Addr} {xs : List V} (Pv : Nat → L2.St → Hp → Prop) (h0 : Pv 0 σ H) (hl : ∀ i σ H, i ≤ xs.length → Pv i σ H → SqT K H a xs)
    (hs : ∀ i x σ H, xs[i]? = some x → Pv i σ H → g x σ H fun σ2 H2 => tw ⟨Pv (i + 1), rt, nx, Pv (i + 1)⟩ σ2 H2) (hd : ∀ σ H, Pv xs.length σ H → nx σ H) : forW (Itt K a) g tw ⟨nx, rt, bk, ct⟩ σ H := for_tup Pv h0 hl hs hd
/-- while: W a word with a number that falls -/
theorem rd_while (W : Nat → L2.St → Hp → Prop) (m0 : Nat) (h0 : W m0 σ H) (hs : ∀ m σ H, W m σ H → tt σ H fun b H1 => if b = true then wl W m tw nx rt σ H1 else nx σ H1) : tWhile tt tw ⟨nx, rt, bk, ct⟩ σ H := ⟨W, ⟨m0, h0⟩, hs⟩
theorem rd_wl {W : Nat → L2.St → Hp → Prop} {m : Nat} (h : tw ⟨fun σ' H' => ∃ m', m' < m ∧ W m' σ' H', rt, nx, fun σ' H' => ∃ m', m' < m ∧ W m' σ' H'⟩ σ H) : wl W m tw nx rt σ H := ⟨_, fun _ _ h => h, h⟩
end
end Rs

namespace Rs
open PySem PySem.Spec PyProof.Rows L2

/-! ### plain data: how far it reaches -/
mutual
/-- whole numbers below 10 ^ 12, short texts of small signs, no dicts -/
def tame : PyData → Bool
  | .none | .bool _ => true
  | .int i => decide (i.natAbs < 10 ^ 12)
  | .str x => PyData.strOk x && decide (x.cps.size ≤ 40) && x.cps.toList.all fun c => decide (c < 16 ^ 8)
  | .list xs | .tuple xs => tames xs
  | .dict _ => false
def tames : List PyData → Bool
  | [] => true
  | x :: xs => tame x && tames xs
end
mutual
/-- how many there are in all -/
def cnt : PyData → Nat
  | .list xs | .tuple xs => 1 + cnts xs
  | _ => 1
def cnts : List PyData → Nat
  | [] => 0
  | x :: xs => cnt x + cnts xs
end
mutual
theorem tame_show : ∀ d : PyData, tame d = true → d.showable = true ∧ d.canLay0 = true ∧ d.intsShort 13 = true ∧ d.weight + 1 ≤ 46 * cnt d
  | .none, _ => by simp [PyData.showable, PyData.canLay0, PyData.intsShort, PyData.weight, cnt]
  | .bool _, _ => by simp [PyData.showable, PyData.canLay0, PyData.intsShort, PyData.weight, cnt]
  | .int i, h => by
    have h1 : i.natAbs < 10 ^ 12 := by simpa [tame] using h
    have h2 : i.natAbs.log2 < 40 := by
      by_cases z : i.natAbs = 0
      · rw [z]; decide
      · exact (Nat.log2_lt z).mpr (by omega)
    have h3 := PyData.shown_int_le h1
    refine ⟨by simp [PyData.showable]; omega, by simp [PyData.canLay0], by simp [PyData.intsShort]; omega, ?_⟩
    simp only [PyData.weight, cnt]
    split <;> omega
  | .str x, h => by
    simp only [tame, Bool.and_eq_true, decide_eq_true_eq] at h
    refine ⟨by simp [PyData.showable], by simpa [PyData.canLay0] using h.1.1, by simp [PyData.intsShort], ?_⟩
    simp only [PyData.weight, cnt]
    omega
  | .list xs, h => by
    obtain ⟨h1, h2, h3, h4⟩ := tames_show xs (by simpa [tame] using h)
    refine ⟨by simpa [PyData.showable] using h1, by simpa [PyData.canLay0] using h2, by simpa [PyData.intsShort] using h3, ?_⟩
    simp only [PyData.weight, cnt]
    omega
  | .tuple xs, h => by
    obtain ⟨h1, h2, h3, h4⟩ := tames_show xs (by simpa [tame] using h)
    refine ⟨by simpa [PyData.showable] using h1, by simpa [PyData.canLay0] using h2, by simpa [PyData.intsShort] using h3, ?_⟩
    simp only [PyData.weight, cnt]
    omega
  | .dict _, h => by simp [tame] at h
theorem tames_show : ∀ xs : List PyData, tames xs = true → PyData.showableAll xs = true ∧ PyData.canLayAll0 xs = true ∧ PyData.intsShortAll 13 xs = true ∧ PyData.weightAll xs ≤ 46 * cnts xs
  | [], _ => by simp [PyData.showableAll, PyData.canLayAll0, PyData.intsShortAll, PyData.weightAll, cnts]
  | x :: xs, h => by
    have h' : tame x = true ∧ tames xs = true := by simpa [tames] using h
    obtain ⟨a1, a2, a3, a4⟩ := tame_show x h'.1
    obtain ⟨b1, b2, b3, b4⟩ := tames_show xs h'.2
    simp only [PyData.showableAll, PyData.canLayAll0, PyData.intsShortAll, PyData.weightAll, cnts, a1, a2, a3, b1, b2, b3, Bool.and_self, true_and]
    omega
end
theorem shw_of {d : PyData} (h : tame d = true) (hc : cnt d ≤ 20000) : Shw d := by
  obtain ⟨h1, h2, h3, h4⟩ := tame_show d h
  exact ⟨h1, PyData.shown_fits (B := 13) (by decide) (by decide) (PyData.leavesShort_of_canLay0 13 d h2 h3) (by omega)⟩
theorem shaped_of {d : PyData} (h : tame d = true) (hd : d.depth ≤ 64) : SeqAt.shaped d = true := by
  obtain ⟨_, h2, _, _⟩ := tame_show d h
  unfold SeqAt.shaped
  rw [h2, Bool.true_and]
  exact decide_eq_true hd
/-! ### lists of whole numbers -/
def dI (ns : List Int) : PyData := .list (ns.map .int)
section
variable {K : PySem.W.Frag} {H H0 : Hp} {M : List Addr} {L L' : Led} {Q : VK} {a b : Addr}
theorem dps_ints : ∀ ns : List Int, DpAll K H (ns.map V.int) (ns.map .int)
  | [] => .nil
  | n :: ns => .cons (.int n) (dps_ints ns)
theorem dp_ints {ns : List Int} (h : SqL K H a (ns.map V.int)) : Dp K H (.ref a) (dI ns) := .lst h (dps_ints ns)
theorem depth_ints : ∀ ns : List Int, PyData.depthAll (ns.map .int) = 0
  | [] => by simp [PyData.depthAll]
  | n :: ns => by simp [PyData.depthAll, PyData.depth, depth_ints ns]
theorem depth_dI (ns : List Int) : (dI ns).depth = 1 := by simp [dI, PyData.depth, depth_ints]
theorem canLay_ints : ∀ ns : List Int, PyData.canLayAll0 (ns.map .int) = true
  | [] => by simp [PyData.canLayAll0]
  | n :: ns => by simp [PyData.canLayAll0, PyData.canLay0, canLay_ints ns]
theorem shaped_dI (ns : List Int) : SeqAt.shaped (dI ns) = true := by
  unfold SeqAt.shaped
  rw [depth_dI]
  simp [dI, PyData.canLay0, canLay_ints]
theorem eqv_ints : ∀ ns ms : List Int, PyData.eqvAll (ns.map .int) (ms.map .int) = decide (ns = ms)
  | [], [] => by simp [PyData.eqvAll]
  | [], m :: ms => by simp [PyData.eqvAll]
  | n :: ns, [] => by simp [PyData.eqvAll]
  | n :: ns, m :: ms => by
    simp only [List.map_cons, PyData.eqvAll, PyData.eqv, eqv_ints ns ms, List.cons.injEq, Bool.decide_and]
    rfl
theorem eqv_dI (ns ms : List Int) : PyData.eqv (dI ns) (dI ms) = decide (ns = ms) := by
  simp only [dI, PyData.eqv, eqv_ints]
theorem tames_ints : ∀ ns : List Int, (∀ n ∈ ns, n.natAbs < 10 ^ 12) → tames (ns.map .int) = true
  | [], _ => by simp [tames]
  | n :: ns, h => by
    simp only [List.map_cons, tames, tame, Bool.and_eq_true, decide_eq_true_eq]
    exact ⟨h n List.mem_cons_self, tames_ints ns fun m hm => h m (List.mem_cons_of_mem _ hm)⟩
theorem cnts_ints : ∀ ns : List Int, cnts (ns.map .int) = ns.length
  | [] => by simp [cnts]
  | n :: ns => by simp only [List.map_cons, cnts, cnt, cnts_ints ns, List.length_cons]; omega
theorem shw_dI {ns : List Int} (h : ∀ n ∈ ns, n.natAbs < 10 ^ 12) (hl : ns.length ≤ 10000) : Shw (dI ns) :=
  shw_of (by simp [dI, tame, tames_ints ns h]) (by simp only [dI, cnt, cnts_ints]; omega)
/-- == and != of two lists of whole numbers -/
theorem rd_eqIs {xs ys : List V} {ns ms : List Int} (S : Hs H0 M H L) (m1 : (a, HO.lst xs) ∈ L) (m2 : (b, HO.lst ys) ∈ L) (e1 : xs = ns.map V.int) (e2 : ys = ms.map V.int) (h : Q (.bl (decide (ns = ms))) H) : rEqD K (.ref a) (.ref b) H Q := by
  subst e1 e2
  exact ⟨_, _, dp_ints (S.lst m1), dp_ints (S.lst m2), shaped_dI ns, shaped_dI ms, by rw [eqv_dI]; exact h⟩
theorem rd_neIs {xs ys : List V} {ns ms : List Int} (S : Hs H0 M H L) (m1 : (a, HO.lst xs) ∈ L) (m2 : (b, HO.lst ys) ∈ L) (e1 : xs = ns.map V.int) (e2 : ys = ms.map V.int) (h : Q (.bl (decide (¬ ns = ms))) H) : rNeD K (.ref a) (.ref b) H Q := by
  subst e1 e2
  refine ⟨_, _, dp_ints (S.lst m1), dp_ints (S.lst m2), shaped_dI ns, shaped_dI ms, ?_⟩
  rw [eqv_dI]
  have e : (!decide (ns = ms)) = decide (¬ ns = ms) := by simp
  rw [e]; exact h
theorem rd_reprI {xs : List V} {ns : List Int} (S : Hs H0 M H L) (m : (a, HO.lst xs) ∈ L) (e : xs = ns.map V.int) (hb : ∀ n ∈ ns, n.natAbs < 10 ^ 12) (hl : ns.length ≤ 10000) (h : Q (.str (dI ns).shown) H) : rRepr K [.ref a] H Q := by
  subst e
  exact ⟨.ref a, dI ns, rfl, dp_ints (S.lst m), shw_dI hb hl, by rw [depth_dI]; decide, h⟩
theorem pick_ints (ns : List Int) (lo hi st : Option Int) : ∃ ks : List Int, pickV (ns.map V.int) lo hi st = ks.map V.int ∧ (∀ k ∈ ks, k ∈ ns) := by
  have e : ∀ ix : List Nat, ix.filterMap ((ns.map V.int)[·]?) = (ix.filterMap (ns[·]?)).map V.int := fun ix => by
    induction ix with
    | nil => rfl
    | cons i ix ih =>
      cases h : ns[i]? with
      | none => rw [List.filterMap_cons_none (by rw [List.getElem?_map, h]; rfl), List.filterMap_cons_none h, ih]
      | some z => rw [List.filterMap_cons_some (by rw [List.getElem?_map, h]; rfl), List.filterMap_cons_some h, ih]; rfl
  refine ⟨(slIx (ns.map V.int).length lo hi st).filterMap (ns[·]?), e _, fun k hk => ?_⟩
  obtain ⟨i, _, hi⟩ := List.mem_filterMap.mp hk
  exact List.mem_of_getElem? hi
end
/-- how keywords are put in the parameters' order -/
theorem kb_of {K : PySem.W.Frag} {x qual : Str} {st : Stmt} {f : Addr} {fd : FuncData} {ps ks : List Str} {n : Nat} (F : Fun K x qual st f fd) (ix : List Nat)
    (h : ∀ (kV doc pm : Value) (an : Option Addr) (cdv ct : Value) (us ws : List Value), us.length = n → ws.length = ks.length →
      bindArgs (PySem.W.fnOf x qual (defArgs st) (defBody st) (defScope st) .none kV doc pm an cdv ct) ⟨us, ks.zip ws⟩ = pure (ps.zip (us ++ ix.filterMap (ws[·]?)))) :
    KBn K fd ps n ks (fun us ws => us ++ ix.filterMap (ws[·]?)) (fun us ws => us ++ ix.filterMap (ws[·]?)) := by
  obtain ⟨oc, od, kV, doc, pm, an, cdv, ct, osl, rfl, lk, hcd⟩ := F.ex
  exact ⟨fun s us ws _ h1 h2 => .of_eq (h kV doc pm an cdv ct us ws h1 h2), fun r1 r2 => r1.append (vals_pick r2 ix)⟩
end Rs

namespace Rs
open PySem PySem.Spec PyProof.Rows L2
section
variable {K : PySem.W.Frag} {mg : Str → Option Value} {h : Heap}
theorem ex_calK {x : Str} {st : Stmt} {f : Addr} {oc : Value} {od an : Option Addr} {osl : Array (Option Value)} {kV doc pm cdv ct : Value} (X : K.In h) (G : h.Ns mainGlobals mg) (a : PySem.W.nsIn K mainGlobals x = some (some (.ref f)))
    (l : K.lookup f = some ⟨oc, od, .func (PySem.W.fnOf x x (defArgs st) (defBody st) (defScope st) .none kV doc pm an cdv ct), osl⟩) (c : PySem.W.codeIn K cdv x = true) (k : PySem.W.keepIn K (.ref f) = true) : ∃ f fd, CalK K mg x st f fd :=
  ⟨_, _, fun_mk l c k, PySem.W.mg_of X G a⟩
theorem ex_cal {x : Str} {st : Stmt} {ps : List Str} {f : Addr} {oc : Value} {od an : Option Addr} {osl : Array (Option Value)} {kV doc pm cdv ct : Value} (X : K.In h) (G : h.Ns mainGlobals mg) (a : PySem.W.nsIn K mainGlobals x = some (some (.ref f)))
    (l : K.lookup f = some ⟨oc, od, .func (PySem.W.fnOf x x (defArgs st) (defBody st) (defScope st) .none kV doc pm an cdv ct), osl⟩) (c : PySem.W.codeIn K cdv x = true) (k : PySem.W.keepIn K (.ref f) = true)
    (b : ∀ (kV doc pm : Value) (an : Option Addr) (cdv ct : Value) (us : List Value), us.length = ps.length → bindArgs (PySem.W.fnOf x x (defArgs st) (defBody st) (defScope st) .none kV doc pm an cdv ct) ⟨us, []⟩ = pure (ps.zip us)) : ∃ f fd, Cal K mg x st ps f fd :=
  ⟨_, _, fun_mk l c k, (fun_mk l c k).binds b, PySem.W.mg_of X G a⟩
theorem ex_gl {x : Str} {v : V} {u : Value} (X : K.In h) (G : h.Ns mainGlobals mg) (a : PySem.W.nsIn K mainGlobals x = some (some u)) (r : RelV v u) : ∃ u, mg x = some u ∧ RelV v u := ⟨u, PySem.W.mg_of X G a, r⟩
end
/-- the end, the law's def by its facts -/
theorem walkE {l : PySem.W.OpenLaw} {n k : Nat} {q : Program} {loose : List Str} {XP : (Str → Option Value) → Heap → Prop} {YP : World → Heap → Prop} {d : DefRec} {K : Params → PySem.W.Frag} {sp : PySem.W.Frag → Sp} {st : Stmt} {x : Str}
    (hn : l.most = some n) (hn2 : n ≤ sizeLine) (hdf : d.params.defaults = []) (hr : Room k callerA) (hY : ∀ (w : World) (h : Heap), YP w h → (K w.params).In h) (hx : d.name = "law")
    (hb : ∀ (kV doc pm : Value) (an : Option Addr) (cdv ct u : Value), bindArgs (PySem.W.fnOf "law" "law" (defArgs st) (defBody st) (defScope st) .none kV doc pm an cdv ct) ⟨[u], []⟩ = pure [(x, u)])
    (F : ∀ (w : World) (mg : Str → Option Value) (h : Heap), (K w.params).In h → h.Ns mainGlobals mg →
      ∃ (fa : Addr) (fd : FuncData), Cal (K w.params) mg "law" st [x] fa fd ∧ ∀ base : Heap, FnG l.prog w (K w.params) mg base k fa fd [x] (sp (K w.params)))
    (hsp : ∀ (K : PySem.W.Frag) (H : Hp) (a : Addr) (ns : List Int), ns.length ≤ n → (∀ z ∈ ns, Builtin.Int.intBits z ≤ 1048576) → SqL K H a (ns.map V.int) → sp K [.ref a] H (fun v _ => v = .bl true) E0) :
    PySem.W.WalkO q loose XP YP l.row.toRowW d [] (fun f vs => PySem.call f vs) := by
  refine walkG (x := x) hn hn2 hdf hr hY (fun w mg fa h KX G hmg => ?_) hsp
  obtain ⟨f, fd, C, ok⟩ := F w mg h KX G
  rw [hx] at hmg
  have e := C.m.symm.trans hmg
  cases e
  obtain ⟨oc, od, kV, doc, pm, an, cdv, ct, osl, rfl, lk, hcd⟩ := C.F.ex
  exact ⟨_, fun s u => .of_eq (hb kV doc pm an cdv ct u), fun base _ _ => ok base⟩
end Rs

namespace Rs
open PySem PySem.Spec PyProof.Rows L2

/-- xs[i:j] = another list -/
def gSlc (to : TE) (tl th : L2.St → Hp → (Option Int → Hp → Prop) → Prop) : TG := fun v σ H Q => to σ H fun o H1 => tl σ H1 fun l H2 => th σ H2 fun u H3 => ∃ (a b : Addr) (xs ys : List V) (i j : Int), o = .ref a ∧ v = .ref b ∧ l = some i ∧ u = some j ∧
  H3 a = some (.lst xs) ∧ H3 b = some (.lst ys) ∧ a ≠ b ∧ 0 ≤ i ∧ i ≤ j ∧ j ≤ xs.length ∧ xs.length + ys.length ≤ sizeLine ∧ Q σ (upd H3 a (.lst (xs.take i.toNat ++ ys ++ xs.drop j.toNat)))
theorem pg_slc {X : Cx} {o : Expr} {lo hi : Option Expr} {p2 pos : Pos} {to : TE} {tl th : L2.St → Hp → (Option Int → Hp → Prop) → Prop} (ho : PE X o to) (hl : PO X lo tl) (hh : PO X hi th)
    (ha : ∀ v, assign (.Subscript o (.Slice lo hi none p2) pos) X.env v = (do
      let ov ← holding [v] (eval o X.env)
      let iv ← holding [v, ov] (eval (.Slice lo hi none p2) X.env)
      standAt pos
      holding [v, ov, iv] (setItem ov iv v)
      release [iv, v, ov] []) := by intro _; rfl) : PG X (.Subscript o (.Slice lo hi none p2) pos) (gSlc to tl th) := by
  refine ⟨fun pins s σ H v u Q I r h => ?_⟩
  rw [ha]
  refine wpAny_bind (wpAny_holding (thn (ho.run pins s σ H _ I h) fun ov s1 ⟨x, H1, I1, r1, q1⟩ => ?_))
  refine wpAny_bind (wpAny_holding ?_)
  refine wpAny_Slice (thn (hl.run pins s1 σ H1 _ I1 q1) fun vl s2 ⟨l, H2, I2, pl, q2⟩ => thn (hh.run pins s2 σ H2 _ I2 q2) fun vu s3 ⟨w, H3, I3, pu, q3⟩ => ?_)
  rw [evalPart_none]
  refine wpAny_pure ?_
  have I4 : Inv X pins σ H3 { s3 with heap := s3.heap.push { cls := .type "slice", data := .fields #[vl, vu, .none] } } := I3.kept (t' := s3.toks) fun b ob q => Heap.get?_push_of_some _ q
  obtain ⟨a, b, xs, ys, i, j, rfl, rfl, rfl, rfl, hA, hB, hne, h0, h1, h2, h3, q⟩ := q3
  cases r1
  cases r
  cases pl
  cases pu
  refine wpAny_bind (wpAny_standAt (wpAny_bind (wpAny_holding ?_)))
  refine set_slice I4 hA hB hne (Heap.IsSliceOf.new ..) ⟨_, rfl⟩ ⟨_, rfl⟩ h0 h1 h2 h3 fun s5 I5 => ?_
  exact wpAny_release ⟨σ, _, I5, q⟩

/-! ### classes -/
/-- a method as it stands behind the top -/
structure CalM (K : PySem.W.Frag) (x qual : Str) (st : Stmt) (ps : List Str) (f : Addr) (fd : FuncData) : Prop where
  F : Fun K x qual st f fd
  b : Binds K fd ps []
section
variable {K : PySem.W.Frag} {mg : Str → Option Value} {h : Heap}
theorem ex_calM {C : Addr} {x qual : Str} {st : Stmt} {ps : List Str} {f : Addr} {oc : Value} {od an : Option Addr} {osl : Array (Option Value)} {kV doc pm cdv ct : Value} (a : PySem.W.findIn K (.ref C) x = some (some (.ref f))) (i : PySem.W.isFn K (.ref f) = true)
    (l : K.lookup f = some ⟨oc, od, .func (PySem.W.fnOf x qual (defArgs st) (defBody st) (defScope st) .none kV doc pm an cdv ct), osl⟩) (c : PySem.W.codeIn K cdv qual = true) (k : PySem.W.keepIn K (.ref f) = true)
    (b : ∀ (kV doc pm : Value) (an : Option Addr) (cdv ct : Value) (us : List Value), us.length = ps.length → bindArgs (PySem.W.fnOf x qual (defArgs st) (defBody st) (defScope st) .none kV doc pm an cdv ct) ⟨us, []⟩ = pure (ps.zip us)) :
    ∃ f fd, Meth K C x f ∧ CalM K x qual st ps f fd := ⟨_, _, ⟨a, i, k⟩, fun_mk l c k, (fun_mk l c k).binds b⟩
/-- an __init__ with keyword-only defaults -/
structure CalI (K : PySem.W.Frag) (C : Addr) (qual : Str) (st : Stmt) (kws : List (Str × V)) (f : Addr) (fd : FuncData) : Prop where
  M : Mk K C f
  F : FunD K "__init__" qual (defArgs st) (defBody st) (defScope st) [] kws f fd
theorem ex_calI {C D : Addr} {qual : Str} {st : Stmt} {kws : List (Str × V)} {f : Addr} {oc : Value} {od an : Option Addr} {osl : Array (Option Value)} {doc pm cdv ct : Value} (m : PySem.W.makesIn K C = true) (kc : PySem.W.keepIn K (.ref C) = true)
    (a : PySem.W.findIn K (.ref C) "__init__" = some (some (.ref f))) (i : PySem.W.isFn K (.ref f) = true)
    (l : K.lookup f = some ⟨oc, od, .func (PySem.W.fnOf "__init__" qual (defArgs st) (defBody st) (defScope st) .none (.ref D) doc pm an cdv ct), osl⟩) (c : PySem.W.codeIn K cdv qual = true) (k : PySem.W.keepIn K (.ref f) = true)
    (d : ∀ q ∈ kws, ∃ u, PySem.W.nsIn K D q.1 = some (some u) ∧ RelV q.2 u) : ∃ f fd, CalI K C qual st kws f fd :=
  ⟨_, _, ⟨m, a, i, kc⟩, ⟨⟨oc, od, .none, .ref D, doc, pm, an, cdv, ct, osl, rfl, l, c, Or.inl ⟨rfl, rfl⟩, Or.inr ⟨D, rfl, d⟩⟩, k⟩⟩
end
end Rs

namespace Rs
open PySem PySem.Spec PyProof.Rows L2

/-- the part of a list of whole numbers -/
def cutI (ns : List Int) (lo hi : Option Int) : List Int := (ns.drop (HT.sIx ns.length 0 lo)).take (HT.sIx ns.length ns.length hi - HT.sIx ns.length 0 lo)
theorem cutV_map (ns : List Int) (lo hi : Option Int) : cutV (ns.map V.int) lo hi = (cutI ns lo hi).map V.int := by
  unfold cutV cutI
  rw [List.map_take, List.map_drop, List.length_map]
theorem cutI_le (ns : List Int) (lo hi : Option Int) : (cutI ns lo hi).length ≤ ns.length := by
  unfold cutI
  rw [List.length_take, List.length_drop]
  omega
section
variable {σ : L2.St} {H H0 : Hp} {M : List Addr} {L L' : Led} {Q : VK} {v x y : V} {nx : L2.St → Hp → Prop} {rt : VK} {bk ct : L2.St → Hp → Prop} {t u : TS} {te ta tb tc : TE} {g : TG} {tt tu : TT} {tw : TS} {wi : TI} {K : PySem.W.Frag} {a p : Addr}
/-! attributes -/
theorem rd_fld {f : Str} (h : ta σ H fun x H1 => ∃ a C dx fs v, x = .ref a ∧ H1 a = some (.ins C dx fs) ∧ Cls K C ∧ NoAttr K C f ∧ fs.lookup f = some v ∧ Q v H1) : tFld K ta f σ H Q := h
theorem rd_fldV {f : Str} {C dx : Addr} {fs : List (Str × V)} {R : V → Prop} (S : Hs H0 M H L) (m : (a, HO.ins C dx fs) ∈ L) (c : Cls K C) (n : NoAttr K C f) (e : fs.lookup f = some v) (h : R v) :
    ∃ a' C dx fs v', V.ref a = .ref a' ∧ H a' = some (.ins C dx fs) ∧ Cls K C ∧ NoAttr K C f ∧ fs.lookup f = some v' ∧ R v' := ⟨a, C, dx, fs, v, rfl, S.is _ m, c, n, e, h⟩
theorem rd_sfld {f : Str} {tv : TE} (h : tv σ H fun y H1 => ta σ H1 fun x H2 => ∃ a C dx fs, x = .ref a ∧ H2 a = some (.ins C dx fs) ∧ Cls K C ∧ NoAttr K C f ∧ fs.length < 1000 ∧ nx σ (upd H2 a (.ins C dx (putF f y fs)))) : sFld K ta tv f ⟨nx, rt, bk, ct⟩ σ H := h
theorem rd_sfldV {f : Str} {C dx : Addr} {fs fs' : List (Str × V)} {R : Hp → Prop} (S : Hs H0 M H L) (ch : Chg a (.ins C dx fs) (.ins C dx fs') L L') (hm : H0 a = none ∨ a ∈ M) (c : Cls K C) (n : NoAttr K C f) (hl : fs.length < 1000) (e : putF f y fs = fs') (h : ∀ H', Hs H0 M H' L' → R H') :
    ∃ a' C dx fs, V.ref a = .ref a' ∧ H a' = some (.ins C dx fs) ∧ Cls K C ∧ NoAttr K C f ∧ fs.length < 1000 ∧ R (upd H a' (.ins C dx (putF f y fs))) := by
  subst e
  exact ⟨a, C, dx, fs, rfl, S.is _ ch.mem, c, n, hl, h _ (S.put ch hm)⟩
theorem rd_meth {C : Addr} {m : Str} {sp : Sp} {E : XK} {t : TA} (h : ta σ H fun x H1 => ∃ a dx fs, x = .ref a ∧ H1 a = some (.ins C dx fs) ∧ fs.lookup m = none ∧ t σ H1 fun vs H2 => sp (x :: vs) H2 Q E) : tMeth C m sp [] E ta t σ H Q := by
  have e : ∀ x, (fun (vs : List V) H2 => sp (x :: (vs ++ [])) H2 Q E) = fun vs H2 => sp (x :: vs) H2 Q E := fun x => by funext vs H2; rw [List.append_nil]
  show ta σ H fun x H1 => ∃ a dx fs, x = .ref a ∧ H1 a = some (.ins C dx fs) ∧ fs.lookup m = none ∧ t σ H1 fun vs H2 => sp (x :: (vs ++ [])) H2 Q E
  simp only [List.append_nil]
  exact h
theorem rd_methV {C dx : Addr} {m : Str} {fs : List (Str × V)} {R : Prop} (S : Hs H0 M H L) (hm : (a, HO.ins C dx fs) ∈ L) (e : fs.lookup m = none) (h : R) : ∃ a' dx fs, V.ref a = .ref a' ∧ H a' = some (.ins C dx fs) ∧ fs.lookup m = none ∧ R :=
  ⟨a, dx, fs, rfl, S.is _ hm, e, h⟩
theorem rd_mkK {C : Addr} {n m : Nat} {sp : Sp} {gV : List V → List V → List V} {E : XK} {t tk : TA} (h : t σ H fun vs H1 => tk σ H1 fun zs H2 => vs.length = n ∧ zs.length = m ∧ ∀ x dx, H2 x = none → H2 dx = none → dx ≠ x →
    sp (gV (.ref x :: vs) zs) (upd (upd H2 dx (.own x)) x (.ins C dx [])) (fun v H3 => v = .non ∧ Q (.ref x) H3) E) : tMakeK C n m sp gV E t tk σ H Q := h
theorem rd_mkV {C : Addr} {R : Addr → Hp → Prop} (S : Hs H0 M H L) (h : ∀ x dx H', H0 x = none → Hs H0 M H' ((x, .ins C dx []) :: L) → R x H') : ∀ x dx, H x = none → H dx = none → dx ≠ x → R x (upd (upd H dx (.own x)) x (.ins C dx [])) := by
  intro x dx hx hd ne
  obtain ⟨_, S1⟩ := S.new hd (.own x)
  have hx' : upd H dx (HO.own x) x = none := by rw [upd_ne (Ne.symm ne)]; exact hx
  obtain ⟨n0, S2⟩ := S1.new hx' (.ins C dx [])
  exact h x dx _ n0 (S2.sub (List.Sublist.cons_cons _ (List.Sublist.cons _ (List.Sublist.refl _))))
theorem rd_callL {i : Nat} {f : Addr} {sp : Sp} {E : XK} {t : TA} (e : σ[i]? = some (some (.ref f))) (h : t σ H fun vs H1 => sp vs H1 Q E) : tCallL i f sp [] E t σ H Q := by
  refine ⟨e, ?_⟩
  simp only [List.append_nil]
  exact h
/-! methods of lists -/
theorem rd_bm {T : String} {r : V → List V → Hp → VK → Prop} {t : TA} (h : ta σ H fun x H1 => tyV K T x H1 ∧ t σ H1 fun xs H2 => r x xs H2 Q) : tBM K T r ta t σ H Q := h
theorem rd_bm0 {T : String} {r : V → List V → Hp → VK → Prop} (h : ta σ H fun x H1 => tyV K T x H1 ∧ r x [] H1 Q) : tBM0 K T r ta σ H Q := h
theorem rd_tyL {xs : List V} {R : Prop} (S : Hs H0 M H L) (m : (a, HO.lst xs) ∈ L) (h : R) : tyV K "list" (.ref a) H ∧ R := ⟨Or.inl ⟨rfl, xs, S.lst m⟩, h⟩
theorem rd_app {xs : List V} (S : Hs H0 M H L) (c : Chg a (.lst xs) (.lst (xs ++ [y])) L L') (hm : H0 a = none ∨ a ∈ M) (hl : xs.length < sizeLine) (h : ∀ H', Hs H0 M H' L' → Q .non H') : rAppend (.ref a) [y] H Q :=
  ⟨a, xs, y, rfl, rfl, S.is _ c.mem, hl, h _ (S.put c hm)⟩
/-! calls over lists -/
theorem rd_sumI {xs : List V} {ns : List Int} (S : Hs H0 M H L) (m : (a, HO.lst xs) ∈ L) (e : xs = ns.map V.int) (h : Q (.int ns.sum) H) : rSum K [.ref a] H Q := ⟨a, ns, rfl, by subst e; exact S.lst m, h⟩
theorem rd_slL {xs : List V} {ns : List Int} {lo hi : Option Int} (S : Hs H0 M H L) (m : (a, HO.lst xs) ∈ L) (e : xs = ns.map V.int) (h : ∀ p H', H0 p = none → Hs H0 M H' ((p, .lst ((cutI ns lo hi).map V.int)) :: L) → Q (.ref p) H') : rSlL K (.ref a) lo hi H Q := by
  subst e
  refine ⟨a, _, rfl, S.lst m, ?_⟩
  rw [cutV_map]
  exact rd_newO S h
theorem rd_catL {xs ys : List V} {b : Addr} (S : Hs H0 M H L) (m : (a, HO.lst xs) ∈ L) (m2 : (b, HO.lst ys) ∈ L) (hz : xs.length + ys.length ≤ sizeLine) (h : ∀ p H', H0 p = none → Hs H0 M H' ((p, .lst (xs ++ ys)) :: L) → Q (.ref p) H') : rCat (.ref a) (.ref b) H Q :=
  ⟨a, b, xs, ys, rfl, rfl, S.is _ m, S.is _ m2, hz, rd_newO S h⟩
theorem rd_repL {xs : List V} {k : Int} (S : Hs H0 M H L) (m : (a, HO.lst xs) ∈ L) (h1 : 0 ≤ k) (h2 : k < 2 ^ 63) (hz : xs.length * k.toNat ≤ sizeLine) (h : ∀ p H', H0 p = none → Hs H0 M H' ((p, .lst (List.replicate k.toNat xs).flatten) :: L) → Q (.ref p) H') : rRep (.ref a) (.int k) H Q :=
  ⟨a, k, xs, rfl, rfl, S.is _ m, by omega, h2, hz, rd_newO S h⟩
def revR (K : PySem.W.Frag) (Q : VK) (x : V) (H1 : Hp) : Prop := ∃ a xs, x = .ref a ∧ SqL K H1 a xs ∧ ∀ p, H1 p = none → Q (.ref p) (upd H1 p (.lst xs.reverse))
theorem rd_revL (h : te σ H fun x H1 => revR K Q x H1) : tRevL K te σ H Q := h
theorem rd_revV {xs : List V} (S : Hs H0 M H L) (m : (a, HO.lst xs) ∈ L) (h : ∀ p H', H0 p = none → Hs H0 M H' ((p, .lst xs.reverse) :: L) → Q (.ref p) H') : revR K Q (.ref a) H := ⟨a, xs, rfl, S.lst m, rd_newO S h⟩
theorem rd_isN (h : Q (.bl (decide (x = .non))) H) : (fun x y H Q => y = V.non ∧ Q (.bl (decide (x = .non))) H : R2) x .non H Q := ⟨rfl, h⟩
theorem rd_notN (h : Q (.bl (!decide (x = .non))) H) : (fun x y H Q => y = V.non ∧ Q (.bl (!decide (x = .non))) H : R2) x .non H Q := ⟨rfl, h⟩
/-! targets -/
theorem gt_unl {xs : List V} {n : Nat} {ts : TGs} {N : L2.St → Hp → Prop} (S : Hs H0 M H L) (m : (a, HO.lst xs) ∈ L) (hn : xs.length = n) (h : ts xs σ H N) : gUnl K n ts (.ref a) σ H N := ⟨a, xs, rfl, S.lst m, hn, h⟩
theorem gt_sub {to ti : TE} {ts : TSet} {N : L2.St → Hp → Prop} (h : to σ H fun o H1 => ti σ H1 fun i H2 => ts o i v H2 fun H3 => N σ H3) : gSub to ti ts v σ H N := h
theorem gt_setL {xs : List V} {k : Int} {j : Nat} {N : Hp → Prop} (S : Hs H0 M H L) (c : Chg a (.lst xs) (.lst (xs.set j v)) L L') (hm : H0 a = none ∨ a ∈ M) (e : ixN xs.length k = some j) (h : ∀ H', Hs H0 M H' L' → N H') : rSetL (.ref a) (.int k) v H N :=
  ⟨a, xs, k, j, rfl, rfl, S.is _ c.mem, e, h _ (S.put c hm)⟩
theorem gt_slc {to : TE} {tl th : L2.St → Hp → (Option Int → Hp → Prop) → Prop} {N : L2.St → Hp → Prop} (h : to σ H fun o H1 => tl σ H1 fun l H2 => th σ H2 fun u H3 => ∃ (a b : Addr) (xs ys : List V) (i j : Int), o = .ref a ∧ v = .ref b ∧ l = some i ∧ u = some j ∧
    H3 a = some (.lst xs) ∧ H3 b = some (.lst ys) ∧ a ≠ b ∧ 0 ≤ i ∧ i ≤ j ∧ j ≤ xs.length ∧ xs.length + ys.length ≤ sizeLine ∧ N σ (upd H3 a (.lst (xs.take i.toNat ++ ys ++ xs.drop j.toNat)))) : gSlc to tl th v σ H N := h
theorem gt_slcV {b : Addr} {xs ys zs : List V} {i j : Int} {N : Hp → Prop} (S : Hs H0 M H L) (c : Chg a (.lst xs) (.lst zs) L L') (m : (b, HO.lst ys) ∈ L) (hne : a ≠ b) (hm : H0 a = none ∨ a ∈ M) (h0 : 0 ≤ i) (h1 : i ≤ j) (h2 : j ≤ xs.length) (hz : xs.length + ys.length ≤ sizeLine)
    (e : xs.take i.toNat ++ ys ++ xs.drop j.toNat = zs) (h : ∀ H', Hs H0 M H' L' → N H') : ∃ (a' b' : Addr) (xs ys : List V) (i' j' : Int), V.ref a = .ref a' ∧ V.ref b = .ref b' ∧ some i = some i' ∧ some j = some j' ∧
    H a' = some (.lst xs) ∧ H b' = some (.lst ys) ∧ a' ≠ b' ∧ 0 ≤ i' ∧ i' ≤ j' ∧ j' ≤ xs.length ∧ xs.length + ys.length ≤ sizeLine ∧ N (upd H a' (.lst (xs.take i'.toNat ++ ys ++ xs.drop j'.toNat))) := by
  subst e
  exact ⟨a, b, xs, ys, i, j, rfl, rfl, rfl, rfl, S.is _ c.mem, S.is _ m, hne, h0, h1, h2, hz, h _ (S.put c hm)⟩
/-! a comprehension over a range, all its steps without new objects left behind but the list itself -/
def lcW (J : It) (g : TG) (tt : TT) (te : TE) (vs : List Nat) (σ : L2.St) (H1 : Hp) (Q : VK) : Prop := ∀ D, H1 D = none → ∃ W : Nat → Nat → Hp → Prop, (∃ m, W 0 m (upd H1 D (.lst []))) ∧ ∀ i m H, W i m H →
  (J.stop i H ∧ Q (.ref D) H) ∨ (J.go i H ∧ ∃ Nx : Hp → Prop, (∀ H', Nx H' → ∃ m', m' < m ∧ W (i + 1) m' H') ∧ ∀ x H', J.yld i H x H' → g x (wipe σ vs) H' fun σ2 H2 => wipe σ2 vs = wipe σ vs ∧ tt σ2 H2 fun b H3 =>
    if b = true then te σ2 H3 fun y H4 => ∃ acc, H4 D = some (.lst acc) ∧ acc.length < sizeLine ∧ Nx (upd H4 D (.lst (acc ++ [y]))) else Nx H3)
theorem rd_lc {vs : List Nat} (h : wi σ H fun J H1 => lcW J g tt te vs σ H1 Q) : tLc wi g tt te vs σ H Q := h
def lcSkip (H0 : Hp) (M : List Addr) (L : Led) (R1 : List V → Prop) (D : Addr) (H : Hp) : Prop := H0 D = none ∧ ∃ acc, R1 acc ∧ Hs H0 M H ((D, .lst acc) :: L)
def lcPut (H0 : Hp) (M : List Addr) (L : Led) (R1 : List V → Prop) (D : Addr) (y : V) (H : Hp) : Prop := ∃ acc, H D = some (.lst acc) ∧ acc.length < sizeLine ∧ lcSkip H0 M L R1 D (upd H D (.lst (acc ++ [y])))
theorem rd_lcPut {D : Addr} {acc : List V} {L2 L3 : Led} {R1 : List V → Prop} (S : Hs H0 M H L2) (c : Chg D (.lst acc) (.lst (acc ++ [y])) L2 L3) (n : H0 D = none) (hl : acc.length < sizeLine) (sub : ((D, HO.lst (acc ++ [y])) :: L).Sublist L3) (r : R1 (acc ++ [y])) : lcPut H0 M L R1 D y H :=
  ⟨acc, S.is _ c.mem, hl, n, _, r, (S.put c (Or.inl n)).sub sub⟩
theorem rd_lcSkip {D : Addr} {acc : List V} {L2 : Led} {R1 : List V → Prop} (S : Hs H0 M H L2) (n : H0 D = none) (sub : ((D, HO.lst acc) :: L).Sublist L2) (r : R1 acc) : lcSkip H0 M L R1 D H := ⟨n, _, r, S.sub sub⟩
theorem lcw_range {lo : Int} {n : Nat} {vs : List Nat} (S : Hs H0 M H L) (R : Nat → List V → Prop) (r0 : R 0 [])
    (hs : ∀ D i acc H', i < n → R i acc → H0 D = none → Hs H0 M H' ((D, .lst acc) :: L) → g (.int (lo + i)) (wipe σ vs) H' fun σ2 H2 => wipe σ2 vs = wipe σ vs ∧ tt σ2 H2 fun b H3 => if b = true then te σ2 H3 fun y H4 => lcPut H0 M L (R (i + 1)) D y H4 else lcSkip H0 M L (R (i + 1)) D H3)
    (hd : ∀ D acc H', R n acc → H0 D = none → Hs H0 M H' ((D, .lst acc) :: L) → Q (.ref D) H') : lcW (Itr lo n) g tt te vs σ H Q := by
  intro D hD
  have S1 := S.new hD (.lst [])
  refine lc_range (fun i H' => lcSkip H0 M L (R i) D H') ⟨S1.1, [], r0, S1.2⟩ ?_ ?_
  · rintro i H' hi ⟨n0, acc, r, S'⟩
    exact hs D i acc H' hi r n0 S'
  · rintro H' ⟨n0, acc, r, S'⟩
    exact hd D acc H' r n0 S'
theorem lcw_list {a : Addr} {xs : List V} {vs : List Nat} (S : Hs H0 M H L) (R : Nat → List V → Prop) (r0 : R 0 []) (hl : ∀ H' acc D, Hs H0 M H' ((D, .lst acc) :: L) → SqL K H' a xs)
    (hs : ∀ D i x acc H', xs[i]? = some x → R i acc → H0 D = none → Hs H0 M H' ((D, .lst acc) :: L) → g x (wipe σ vs) H' fun σ2 H2 => wipe σ2 vs = wipe σ vs ∧ tt σ2 H2 fun b H3 => if b = true then te σ2 H3 fun y H4 => lcPut H0 M L (R (i + 1)) D y H4 else lcSkip H0 M L (R (i + 1)) D H3)
    (hd : ∀ D acc H', R xs.length acc → H0 D = none → Hs H0 M H' ((D, .lst acc) :: L) → Q (.ref D) H') : lcW (Itl K a) g tt te vs σ H Q := by
  intro D hD
  have S1 := S.new hD (.lst [])
  refine lc_list (xs := xs) (fun i H' => lcSkip H0 M L (R i) D H') ⟨S1.1, [], r0, S1.2⟩ (fun i H' _ ⟨_, acc, _, S'⟩ => hl H' acc D S') ?_ ?_
  · rintro i x H' hi ⟨n0, acc, r, S'⟩
    exact hs D i x acc H' hi r n0 S'
  · rintro H' ⟨n0, acc, r, S'⟩
    exact hd D acc H' r n0 S'
theorem lcw_tup {a : Addr} {xs : List V} {vs : List Nat} (S : Hs H0 M H L) (R : Nat → List V → Prop) (r0 : R 0 []) (hl : ∀ H' acc D, Hs H0 M H' ((D, .lst acc) :: L) → SqT K H' a xs)
    (hs : ∀ D i x acc H', xs[i]? = some x → R i acc → H0 D = none → Hs H0 M H' ((D, .lst acc) :: L) → g x (wipe σ vs) H' fun σ2 H2 => wipe σ2 vs = wipe σ vs ∧ tt σ2 H2 fun b H3 => if b = true then te σ2 H3 fun y H4 => lcPut H0 M L (R (i + 1)) D y H4 else lcSkip H0 M L (R (i + 1)) D H3)
    (hd : ∀ D acc H', R xs.length acc → H0 D = none → Hs H0 M H' ((D, .lst acc) :: L) → Q (.ref D) H') : lcW (Itt K a) g tt te vs σ H Q := by
  intro D hD
  have S1 := S.new hD (.lst [])
  refine lc_tup (xs := xs) (fun i H' => lcSkip H0 M L (R i) D H') ⟨S1.1, [], r0, S1.2⟩ (fun i H' _ ⟨_, acc, _, S'⟩ => hl H' acc D S') ?_ ?_
  · rintro i x H' hi ⟨n0, acc, r, S'⟩
    exact hs D i x acc H' hi r n0 S'
  · rintro H' ⟨n0, acc, r, S'⟩
    exact hd D acc H' r n0 S'
end
end Rs
namespace Rs
open PySem PySem.Spec PyProof.Rows L2
/-- an expression that the proof never comes to -/
def tNevE : TE := fun _ _ _ => False
theorem pe_nev {X : Cx} {e : Expr} : PE X e tNevE := ⟨fun _ _ _ _ _ _ h => h.elim⟩
end Rs
namespace Rs
open PySem PySem.Spec PyProof.Rows L2
theorem ex_u {K : PySem.W.Frag} {D : Addr} {x : Str} {v : V} {u : Value} (a : PySem.W.nsIn K D x = some (some u)) (r : RelV v u) : ∃ u, PySem.W.nsIn K D x = some (some u) ∧ RelV v u := ⟨u, a, r⟩
end Rs

namespace Rs
open PySem PySem.Spec PyProof.Rows L2
section
variable {H0 H H' : Hp} {M : List Addr} {L L' N : Led} {a p : Addr} {o o' : HO} {K : PySem.W.Frag}
theorem Hs.perm (S : Hs H0 M H L) (h : L'.Perm L) : Hs H0 M H L' := ⟨(h.map (·.1)).nodup_iff.mpr S.nd, fun q hq => S.is q (h.mem_iff.mp hq), S.old, S.mu⟩
/-- the objects of N are new, each another -/
structure NewL (H H' : Hp) (N : Led) : Prop where
  nd : (N.map (·.1)).Nodup
  nw : ∀ q ∈ N, H q.1 = none
  is : ∀ q ∈ N, H' q.1 = some q.2
/-- one object was changed, those of N are new -/
theorem Hs.oneN (S : Hs H0 M H L) (c : Chg a o o' L L') (hm : H0 a = none ∨ a ∈ M) (k : ∀ b u, H b = some u → b ≠ a → H' b = some u) (h' : H' a = some o') (n : NewL H H' N) : (∀ q ∈ N, H0 q.1 = none) ∧ Hs H0 M H' (N ++ L') := by
  have S' := S.one c hm k h'
  refine ⟨fun q hq => (S.new (n.nw q hq) q.2).1, ?_, ?_, S'.old, S'.mu⟩
  · rw [List.map_append, List.nodup_append]
    refine ⟨n.nd, S'.nd, ?_⟩
    intro x hx y hy e
    subst e
    obtain ⟨q, hq, rfl⟩ := List.mem_map.mp hx
    rw [c.keys] at hy
    obtain ⟨r, hr, e⟩ := List.mem_map.mp hy
    have := S.is r hr
    rw [e, n.nw q hq] at this
    cases this
  · intro q hq
    rcases List.mem_append.mp hq with h | h
    · exact n.is q h
    · exact S'.is q h
/-- nothing was changed, those of N are new -/
theorem Hs.moreN (S : Hs H0 M H L) (k : Same H H') (n : NewL H H' N) : (∀ q ∈ N, H0 q.1 = none) ∧ Hs H0 M H' (N ++ L) := by
  have S' := S.more k
  refine ⟨fun q hq => (S.new (n.nw q hq) q.2).1, ?_, ?_, S'.old, S'.mu⟩
  · rw [List.map_append, List.nodup_append]
    refine ⟨n.nd, S'.nd, ?_⟩
    intro x hx y hy e
    subst e
    obtain ⟨q, hq, rfl⟩ := List.mem_map.mp hx
    obtain ⟨r, hr, e⟩ := List.mem_map.mp hy
    have := S.is r hr
    rw [e, n.nw q hq] at this
    cases this
  · intro q hq
    rcases List.mem_append.mp hq with h | h
    · exact n.is q h
    · exact S'.is q h
/-- what a ledger tells of new ones -/
theorem Hs.news (S : Hs H0 M H L) (h : N.Sublist L) (n : ∀ q ∈ N, H0 q.1 = none) : NewL H0 H N := ⟨S.nd.sublist (h.map _), n, fun q hq => S.is q (h.subset hq)⟩
/-- plain data that a ledger holds: refs of tuples of whole numbers -/
def TupL (rs : List V) (T : Led) : Prop := (∀ r ∈ rs, ∃ q ∈ T, r = .ref q.1) ∧ ∀ q ∈ T, ∃ ns : List Int, q.2 = .tup (ns.map V.int)
theorem TupL.nil : TupL [] [] := ⟨fun r h => (nomatch h), fun q h => (nomatch h)⟩
theorem TupL.app {rs rs2 : List V} {T T2 : Led} (h : TupL rs T) (h2 : TupL rs2 T2) : TupL (rs ++ rs2) (T2 ++ T) := by
  refine ⟨fun r hr => ?_, fun q hq => ?_⟩
  · rcases List.mem_append.mp hr with z | z
    · obtain ⟨q, hq, e⟩ := h.1 r z; exact ⟨q, List.mem_append_right _ hq, e⟩
    · obtain ⟨q, hq, e⟩ := h2.1 r z; exact ⟨q, List.mem_append_left _ hq, e⟩
  · rcases List.mem_append.mp hq with z | z
    · exact h2.2 q z
    · exact h.2 q z
theorem TupL.snoc {rs : List V} {T : Led} (h : TupL rs T) (q : Addr) (ns : List Int) : TupL (rs ++ [.ref q]) ((q, .tup (ns.map V.int)) :: T) :=
  h.app (T2 := [(q, .tup (ns.map V.int))]) ⟨fun r hr => ⟨_, List.mem_cons_self, by simpa using hr⟩, fun z hz => ⟨ns, by simp at hz; rw [hz]⟩⟩
theorem dpT {rs : List V} {T : Led} (h : TupL rs T) (is : ∀ q ∈ T, H q.1 = some q.2) : ∃ nss : List (List Int), nss.length = rs.length ∧ DpAll K H rs (nss.map fun ns => .tuple (ns.map .int)) := by
  induction rs with
  | nil => exact ⟨[], rfl, .nil⟩
  | cons r rs ih =>
    obtain ⟨nss, e, d⟩ := ih ⟨fun x hx => h.1 x (List.mem_cons_of_mem _ hx), h.2⟩
    obtain ⟨q, hq, rfl⟩ := h.1 r List.mem_cons_self
    obtain ⟨ns, e2⟩ := h.2 q hq
    have hi := is q hq
    rw [e2] at hi
    exact ⟨ns :: nss, by simp [e], .cons (.tup (SqT.of hi) (dps_ints ns)) d⟩
theorem lay_T : ∀ nss : List (List Int), PyData.canLayAll0 (nss.map fun ns => .tuple (ns.map .int)) = true ∧ PyData.depthAll (nss.map fun ns => .tuple (ns.map .int)) ≤ 1
  | [] => by simp [PyData.canLayAll0, PyData.depthAll]
  | ns :: nss => by
    obtain ⟨a, b⟩ := lay_T nss
    simp only [List.map_cons, PyData.canLayAll0, PyData.canLay0, canLay_ints, a, Bool.and_self, PyData.depthAll, PyData.depth, depth_ints, true_and]
    omega
/-- a list of such tuples: data -/
theorem dpLT {rs : List V} {T : Led} (h : TupL rs T) (S : Hs H0 M H L) (m : (a, HO.lst rs) ∈ L) (sub : ∀ q ∈ T, q ∈ L) : ∃ nss : List (List Int), nss.length = rs.length ∧ Dp K H (.ref a) (.list (nss.map fun ns => .tuple (ns.map .int))) ∧ SeqAt.shaped (.list (nss.map fun ns => .tuple (ns.map .int))) = true := by
  obtain ⟨nss, e, d⟩ := dpT (K := K) (H := H) h fun q hq => S.is q (sub q hq)
  obtain ⟨y, z⟩ := lay_T nss
  refine ⟨nss, e, .lst (S.lst m) d, ?_⟩
  unfold SeqAt.shaped
  have e1 : PyData.canLay0 (.list (nss.map fun ns => .tuple (ns.map .int))) = true := by simp only [PyData.canLay0, y]
  rw [e1, Bool.true_and]
  refine decide_eq_true ?_
  simp only [PyData.depth]
  omega
theorem eqv_nil (xs : List PyData) : PyData.eqv (.list xs) (.list []) = decide (xs.length = 0) := by
  cases xs <;> simp [PyData.eqv, PyData.eqvAll]
/-- == [] and != [] of a list of such tuples -/
theorem rd_eqT0 {Q : VK} {rs : List V} {T : Led} {b : Addr} (h : TupL rs T) (S : Hs H0 M H L) (m : (a, HO.lst rs) ∈ L) (m2 : (b, HO.lst []) ∈ L) (sub : ∀ q ∈ T, q ∈ L) (k : Q (.bl (decide (rs.length = 0))) H) : rEqD K (.ref a) (.ref b) H Q := by
  obtain ⟨nss, e, d, sh⟩ := dpLT (K := K) h S m sub
  refine ⟨_, .list [], d, .lst (S.lst m2) .nil, sh, by decide, ?_⟩
  rw [eqv_nil, List.length_map, e]
  exact k
theorem rd_neT0 {Q : VK} {rs : List V} {T : Led} {b : Addr} (h : TupL rs T) (S : Hs H0 M H L) (m : (a, HO.lst rs) ∈ L) (m2 : (b, HO.lst []) ∈ L) (sub : ∀ q ∈ T, q ∈ L) (k : Q (.bl (!decide (rs.length = 0))) H) : rNeD K (.ref a) (.ref b) H Q := by
  obtain ⟨nss, e, d, sh⟩ := dpLT (K := K) h S m sub
  refine ⟨_, .list [], d, .lst (S.lst m2) .nil, sh, by decide, ?_⟩
  rw [eqv_nil, List.length_map, e]
  exact k
end
end Rs
namespace Rs
open PySem PySem.Spec PyProof.Rows L2
theorem rd_nn {R : Prop} (h : R) : V.non = V.non ∧ R := ⟨rfl, h⟩
end Rs
namespace Rs
open PySem PySem.Spec PyProof.Rows L2
section
variable {σ : L2.St} {H : Hp} {nx : L2.St → Hp → Prop} {rt : VK} {bk ct : L2.St → Hp → Prop} {te : TE}
theorem rd_aug {i : Nat} {v : V} {rd : V → V → Hp → VK → Prop} (e : σ[i]? = some (some v)) (h : te σ H fun y H1 => rd v y H1 fun z H2 => nx (σ.set i (some z)) H2) : tAug i te rd ⟨nx, rt, bk, ct⟩ σ H := ⟨v, e, h⟩
theorem rd_ipI {f : Int → Int → Int} {Q : VK} {i j : Int} (h : Q (.int (f i j)) H) : ipI f (.int i) (.int j) H Q := ⟨i, j, rfl, rfl, h⟩
end
end Rs
namespace Rs
open PySem PySem.Spec PyProof.Rows L2
theorem Hs.made {C x dx : Addr} {H0 H : Hp} {M : List Addr} {L : Led} (S : Hs H0 M H L) (hx : H x = none) (hd : H dx = none) (ne : dx ≠ x) : H0 x = none ∧ Hs H0 M (upd (upd H dx (.own x)) x (.ins C dx [])) ((x, .ins C dx []) :: L) := by
  obtain ⟨_, S1⟩ := S.new hd (.own x)
  have hx' : upd H dx (HO.own x) x = none := by rw [upd_ne (Ne.symm ne)]; exact hx
  obtain ⟨n0, S2⟩ := S1.new hx' (.ins C dx [])
  exact ⟨n0, S2.sub (List.Sublist.cons_cons _ (List.Sublist.cons _ (List.Sublist.refl _)))⟩
end Rs

namespace Rs
open PySem PySem.Spec PyProof.Rows L2

/-! ### sum and max over tuples, with a start, with a default -/
section
variable {prog : Program} {w : World} {A : Around} {s : Shared} {R : Result → Shared → Prop} {E : Value → Shared → Prop}
/-- a walk with one more in front, that is over -/
theorem walk_more {I : Addr} {fp wr : List Addr} {n : Nat} {P : Nat → Value → Prop} {St : Nat → Heap → Prop} (W : Walks prog w A I fp wr n P St) :
    Walks prog w A I fp wr (n + 1) (fun i v => 0 < i ∧ P (i - 1) v) (fun i h => 0 < i ∧ St (i - 1) h) where
  sub := W.sub
  frame := fun i h h' st k => ⟨st.1, W.frame _ h h' st.2 k⟩
  item := fun i s Q E hi st hq => by
    obtain ⟨j, rfl⟩ : ∃ j, i = j + 1 := ⟨i - 1, by have := st.1; omega⟩
    refine W.item j s Q E (by omega) st.2 fun v h' tk p st' k => hq v h' tk ⟨Nat.succ_pos _, p⟩ ⟨Nat.succ_pos _, st'⟩ k
  done := fun s Q E st hq => W.done s Q E st.2 hq
  self := fun i s Q E st hq => W.self _ s Q E st.2 hq
theorem sumK_args (a v : Value) : argsOk "sum" ⟨[a], [(Str.ofString "start", v)]⟩ := by unfold argsOk; kernel_rfl
theorem maxD_args (a v : Value) : argsOk "max" ⟨[a], [(Str.ofString "default", v)]⟩ := by unfold argsOk; kernel_rfl
def shiftV (k : Int) (val : Nat → Int) : Nat → Int
  | 0 => k
  | i + 1 => val i
theorem preSum_shift (k : Int) (val : Nat → Int) : ∀ n, preSum (shiftV k val) (n + 1) = k + preSum val n
  | 0 => by simp [preSum, shiftV]
  | n + 1 => by
    rw [preSum, preSum_shift k val n, preSum]
    simp [shiftV]
    omega
/-- sum(x, start=k) -/
theorem sum_from {x : Value} {k : Int} {tok : Tok} {Q : Value → Shared → Prop}
    (h : wpAny (model prog w) A.in1 (pyIter x) (fun it s₂ => ∃ I fp wr n P St val, it = .ref I ∧ Walks prog w A.in1 I fp wr n P St ∧ St 0 s₂.heap ∧ (∀ b ∈ fp, b < s₂.heap.objs.size) ∧ (∀ i v, P i v → ∃ t, v = .int (val i) t) ∧
      ∀ h' tk t', (∀ b o, b ∉ wr → s₂.heap.get? b = some o → h'.get? b = some o) → Q (.int (k + preSum val n) t') { s₂ with heap := h', toks := tk }) E s) :
    wpAny (model prog w) A (call (.builtin "sum") [x] [(Str.ofString "start", .int k tok)]) Q E s := by
  refine PyProof.Rows.kmk_tree F.kind_sum F.plain_sum F.entry_sum (sumK_args _ _) ?_
  unfold Builtin.«sum»
  simp only [List.length_cons, List.length_nil]
  rw [if_neg (by decide)]
  refine wpAny_bind (wpAny_of_eq (a := [some (.int k tok)]) rfl ?_)
  refine wpAny_bind (wpAny_mono h (fun it s₂ q => ?_) fun _ _ e => e)
  obtain ⟨I, fp, wr, n, P, St, val, rfl, W, st, hfp, hval, hQ⟩ := q
  have hv' : ∀ i v, (0 < i ∧ P (i - 1) v) → ∃ t, v = .int (shiftV k val i) t := fun i v z => by
    obtain ⟨j, rfl⟩ : ∃ j, i = j + 1 := ⟨i - 1, by omega⟩
    exact hval j v z.2
  have hS : s₂.heap.objs.size ∉ fp := fun m => Nat.lt_irrefl _ (hfp _ m)
  show wpAny _ A.in1 (if (_ : Bool) = true then _ else _) _ _ _
  split
  · refine wpAny_bind (wpAny_rule (wpAny_bind (wpAny_mkInt (wpAny_bind (wpAny_pure ?_)))))
    simp only [List.forIn_cons, List.forIn_nil]
    refine wpAny_bind (wpAny_bind (wpAny_bind (wpAny_isInstance (T := "int") (b := false) (typeIs_int _ _ _) PySem.sub_int_str ?_)))
    refine wpAny_pure (wpAny_bind (wpAny_bind (wpAny_isInstance (T := "int") (b := false) (typeIs_int _ _ _) PySem.sub_int_bytes ?_)))
    refine wpAny_pure (wpAny_bind (wpAny_bind (wpAny_isInstance (T := "int") (b := false) (typeIs_int _ _ _) PySem.sub_int_bytearray ?_)))
    refine wpAny_pure (wpAny_pure ?_)
    refine wpAny_bind (wpAny_newObj_type (wpAny_pure ⟨plainId_quiet F.plain_sum_loop _, codeAny_sum_loopG (walk_more W) (shiftV k val) hv' s₂.heap.objs.size hS n 1 _ _ 0 0 (Or.inl rfl) rfl (by omega)
      ⟨Nat.one_pos, W.frame _ _ _ st fun b _ o e => Heap.get?_push_of_some _ e⟩ (by rw [show preSum (shiftV k val) 1 = k by simp [preSum, shiftV]]; exact Heap.get?_push_size _ rfl) fun h' tk t' kp => ?_⟩))
    rw [preSum_shift]
    exact hQ h' tk t' fun b o hb e => kp b o hb (Nat.ne_of_lt (Heap.lt_size e)) (Heap.get?_push_of_some _ e)
  · refine wpAny_bind (wpAny_pure ?_)
    simp only [List.forIn_cons, List.forIn_nil]
    refine wpAny_bind (wpAny_bind (wpAny_bind (wpAny_isInstance (T := "int") (b := false) (typeIs_int _ _ _) PySem.sub_int_str ?_)))
    refine wpAny_pure (wpAny_bind (wpAny_bind (wpAny_isInstance (T := "int") (b := false) (typeIs_int _ _ _) PySem.sub_int_bytes ?_)))
    refine wpAny_pure (wpAny_bind (wpAny_bind (wpAny_isInstance (T := "int") (b := false) (typeIs_int _ _ _) PySem.sub_int_bytearray ?_)))
    refine wpAny_pure (wpAny_pure ?_)
    refine wpAny_bind (wpAny_newObj_type (wpAny_pure ⟨plainId_quiet F.plain_sum_loop _, codeAny_sum_loopG (walk_more W) (shiftV k val) hv' s₂.heap.objs.size hS n 1 _ _ 0 2 (Or.inr rfl) rfl (by omega)
      ⟨Nat.one_pos, W.frame _ _ _ st fun b _ o e => Heap.get?_push_of_some _ e⟩ (by rw [show preSum (shiftV k val) 1 = k by simp [preSum, shiftV]]; exact Heap.get?_push_size _ rfl) fun h' tk t' kp => ?_⟩))
    rw [preSum_shift]
    exact hQ h' tk t' fun b o hb e => kp b o hb (Nat.ne_of_lt (Heap.lt_size e)) (Heap.get?_push_of_some _ e)
/-- max(x, default=d): the loop -/
theorem max_loopD {I : Addr} {fp wr : List Addr} {n : Nat} {P : Nat → Value → Prop} {St : Nat → Heap → Prop} (W : Walks prog w A.in1 I fp wr n P St) (val : Nat → Int) (hval : ∀ i v, P i v → ∃ t, v = .int (val i) t) (T : Addr) (hT : T ∉ fp) (d : Value) :
    ∀ (k i : Nat) (s : Shared) (c : Nat) (best : Option (Int × Tok)), n - i = k → i ≤ n → St i s.heap →
      s.heap.get? T = some { cls := .type "list", dict := none, data := .seq (match best with | none => #[] | some b => #[.int b.1 b.2, .int b.1 b.2]) c, slots := #[] } →
      (∀ v h' tk, (best = none → i = n → v = d) → (best ≠ none ∨ i < n → ∃ m t, v = .int m t ∧ ((∃ b, best = some b ∧ m = b.1) ∨ ∃ j, i ≤ j ∧ j < n ∧ m = val j) ∧ (∀ b, best = some b → b.1 ≤ m) ∧ ∀ j, i ≤ j → j < n → val j ≤ m) →
        (∀ b o, b ∉ wr → b ≠ T → s.heap.get? b = some o → h'.get? b = some o) → R (.ok (.ret v)) { s with heap := h', toks := tk }) →
      codeAny (model prog w) A (.builtin "max.loop" ⟨[.ref I, .none, .ref T], [(Str.ofString "default", d)]⟩) R s := by
  have hTw : T ∉ wr := fun z => hT (W.sub _ z)
  have hname : (toString "max" ++ toString ".loop" : String) = "max.loop" := by decide
  intro k
  induction k with
  | zero =>
    intro i s c best hk hi hst hS hR
    have hin : i = n := by omega
    subst hin
    refine codeAny_builtin F.entry_max_loop ?_
    rw [Around.under_plainId F.plain_max_loop _]
    show wpAny _ A.in1 (seqItems? (.ref T) >>= _) _ _ s
    refine wpAny_bind (wpAny_seqItems hS rfl ?_)
    show wpAny _ A.in1 (tryCatch (pyNext (.ref I)) _ >>= _) _ _ s
    refine wpAny_bind (wpAny_tryCatch (W.done s _ _ hst fun h' tk kp => ?_))
    have hS' := kp T _ hTw hS
    cases best with
    | none =>
      show wpAny _ A.in1 (rule _ >>= _) _ _ _
      refine wpAny_bind (wpAny_rule (wpAny_pure ?_))
      exact hR d h' tk (fun _ _ => rfl) (fun z => by rcases z with z | z; exact absurd rfl z; omega) fun b o hb _ e => kp b o hb e
    | some b =>
      show wpAny _ A.in1 (updateSeq T (fun _ => #[]) >>= _) _ _ _
      refine wpAny_bind ?_
      refine wpAny_updateSeq hS' rfl (wpAny_bind (wpAny_letGo (wpAny_pure ?_)))
      refine hR (.int b.1 b.2) _ tk (fun z => nomatch z) (fun _ => ⟨b.1, b.2, rfl, Or.inl ⟨b, rfl, rfl⟩, fun b' e => by cases e; exact Int.le_refl _, fun j h1 h2 => by omega⟩) fun b o hb hbT e => (Heap.get?_update_other _ _ (Ne.symm hbT)).trans (kp b o hb e)
  | succ k ih =>
    intro i s c best hk hi hst hS hR
    have hlt : i < n := by omega
    refine codeAny_builtin F.entry_max_loop ?_
    rw [Around.under_plainId F.plain_max_loop _]
    show wpAny _ A.in1 (seqItems? (.ref T) >>= _) _ _ s
    refine wpAny_bind (wpAny_seqItems hS rfl ?_)
    show wpAny _ A.in1 (tryCatch (pyNext (.ref I)) _ >>= _) _ _ s
    refine wpAny_bind (wpAny_tryCatch (W.item i s _ _ hlt hst fun v h' tk hP hst' kp => ?_))
    have hS' := kp T _ hTw hS
    obtain ⟨t, rfl⟩ := hval i v hP
    have next : ∀ (b : Int × Tok) (h2 : Heap) (tk2 c2 : Nat), (b.1 = val i ∨ ∃ b0, best = some b0 ∧ b.1 = b0.1) → val i ≤ b.1 → (∀ b0, best = some b0 → b0.1 ≤ b.1) → St (i + 1) h2 →
        h2.get? T = some { cls := .type "list", dict := none, data := .seq #[.int b.1 b.2, .int b.1 b.2] c2, slots := #[] } → (∀ y o, y ∉ wr → y ≠ T → s.heap.get? y = some o → h2.get? y = some o) →
        codeAny (model prog w) A (.builtin "max.loop" ⟨[.ref I, .none, .ref T], [(Str.ofString "default", d)]⟩) R { s with heap := h2, toks := tk2 } := by
      intro b h2 tk2 c2 e1 e2 e3 st2 g2 kp2
      refine ih (i + 1) { s with heap := h2, toks := tk2 } c2 (some b) (by clear e1 e2 e3; omega) hlt st2 g2 fun v h3 tk3 _ z kp3 => ?_
      obtain ⟨m, t3, rfl, z1, z2, z3⟩ := z (Or.inl (by simp))
      have zb := z2 b rfl
      refine hR _ h3 tk3 (fun _ q => by omega) (fun _ => ⟨m, t3, rfl, ?_, fun b0 q => Int.le_trans (e3 b0 q) zb, fun j h1 h2 => ?_⟩) fun y o hy hyT e => kp3 y o hy hyT (kp2 y o hy hyT e)
      · rcases z1 with ⟨b', q1, rfl⟩ | ⟨j, q1, q2, rfl⟩
        · cases q1
          rcases e1 with e1 | ⟨b0, q2, e1⟩
          · exact Or.inr ⟨i, Nat.le_refl _, hlt, e1⟩
          · exact Or.inl ⟨b0, q2, e1⟩
        · exact Or.inr ⟨j, by omega, q2, rfl⟩
      · by_cases q : j = i
        · subst q; omega
        · exact z3 j (by omega) h2
    cases best with
    | none =>
      show wpAny _ A.in1 (updateSeq T (fun _ => #[.int (val i) t, .int (val i) t]) >>= _) _ _ _
      refine wpAny_bind ?_
      refine wpAny_updateSeq hS' rfl ?_
      rw [hname]
      refine wpAny_pure ⟨plainId_quiet F.plain_max_loop _, next (val i, t) _ _ _ (Or.inl rfl) (Int.le_refl _) (fun b0 q => nomatch q) (W.frame _ _ _ hst' fun b hb o e => ?_) (Heap.get?_update_self _ hS' rfl) fun b o hb hbT e => ?_⟩
      · exact (Heap.get?_update_other _ _ (fun z : T = b => hT (z ▸ hb))).trans e
      · exact (Heap.get?_update_other _ _ (Ne.symm hbT)).trans (kp b o hb e)
    | some b =>
      have cmp := CmpOf.ints_gt (prog := prog) (w := w) (A := A.in1) (P := fun (z : Nat) v => ∃ t, v = Value.int (if z = 0 then val i else b.1) t) (fun z => if z = 0 then val i else b.1) (fun _ _ z => z)
      show wpAny _ A.in1 (tryCatch (holding [Value.int (val i) t, Value.int (val i) t] (richCompare .Gt (.int (val i) t) (.int b.1 b.2) >>= _)) _ >>= _) _ _ _
      refine wpAny_bind (wpAny_tryCatch (wpAny_holding (wpAny_bind (cmp 0 1 _ _ _ _ _ ⟨t, rfl⟩ ⟨b.2, rfl⟩ ?_))))
      refine wpAny_bind (wpAny_holding (wpAny_truthy_bool ?_))
      refine wpAny_bind (wpAny_letGo (wpAny_pure ?_))
      simp only [if_true, Nat.one_ne_zero, if_false]
      by_cases q : val i > b.1
      · rw [decide_eq_true q]
        simp only [if_true]
        refine wpAny_bind ?_
        refine wpAny_updateSeq hS' rfl (wpAny_bind (wpAny_letGo ?_))
        rw [hname]
        refine wpAny_pure ⟨plainId_quiet F.plain_max_loop _, next (val i, t) _ _ _ (Or.inl rfl) (Int.le_refl _) (fun b0 z => by cases z; exact Int.le_of_lt q) (W.frame _ _ _ hst' fun y hb o e => ?_) (Heap.get?_update_self _ hS' rfl) fun y o hb hbT e => ?_⟩
        · exact (Heap.get?_update_other _ _ (fun z : T = y => hT (z ▸ hb))).trans e
        · exact (Heap.get?_update_other _ _ (Ne.symm hbT)).trans (kp y o hb e)
      · rw [decide_eq_false q]
        simp only [Bool.false_eq_true, if_false]
        refine wpAny_bind (wpAny_letGo ?_)
        rw [hname]
        exact wpAny_pure ⟨plainId_quiet F.plain_max_loop _, next b _ _ c (Or.inr ⟨b, rfl, rfl⟩) (by omega) (fun b0 z => by cases z; exact Int.le_refl _) hst' hS' fun y o hb _ e => kp y o hb e⟩
/-- max(x, default=d) -/
theorem max_dflt {x d : Value} {Q : Value → Shared → Prop}
    (h : wpAny (model prog w) A.in1 (pyIter x) (fun it s₂ => ∃ I fp wr n P St, ∃ val : Nat → Int, it = .ref I ∧ Walks prog w A.in1 I fp wr n P St ∧ St 0 s₂.heap ∧ (∀ b ∈ fp, b < s₂.heap.objs.size) ∧ (∀ i v, P i v → ∃ t, v = .int (val i) t) ∧
      ∀ v h' tk, (n = 0 → v = d) → (0 < n → ∃ m t, v = .int m t ∧ (∃ j, j < n ∧ m = val j) ∧ ∀ j, j < n → val j ≤ m) → (∀ b o, b ∉ wr → s₂.heap.get? b = some o → h'.get? b = some o) → Q v { s₂ with heap := h', toks := tk }) E s) :
    wpAny (model prog w) A (call (.builtin "max") [x] [(Str.ofString "default", d)]) Q E s := by
  have hname : (toString "max" ++ toString ".loop" : String) = "max.loop" := by decide
  refine PyProof.Rows.kmk_tree F.kind_max F.plain_max F.entry_max (maxD_args _ _) ?_
  show wpAny _ A.in1 (Builtin.Builtins.bindParams "max" ["key", "default"] 0 ⟨[], [(Str.ofString "default", d)]⟩ >>= _) _ _ s
  refine wpAny_bind (wpAny_of_eq (a := [none, some d]) rfl ?_)
  refine wpAny_bind (wpAny_pure ?_)
  refine wpAny_bind (wpAny_mono h (fun it s₂ q => ?_) fun _ _ e => e)
  obtain ⟨I, fp, wr, n, P, St, val, rfl, W, st, hfp, hval, hQ⟩ := q
  refine wpAny_bind (wpAny_newObj_type ?_)
  have hT : s₂.heap.objs.size ∉ fp := fun m => Nat.lt_irrefl _ (hfp _ m)
  rw [hname]
  refine wpAny_pure ⟨plainId_quiet F.plain_max_loop _, max_loopD W val hval s₂.heap.objs.size hT d n 0 _ 0 none (by omega) (Nat.zero_le _) (W.frame _ _ _ st fun b _ o e => Heap.get?_push_of_some _ e) (Heap.get?_push_size _ rfl) fun v h' tk z1 z2 kp => ?_⟩
  refine hQ v h' tk (fun z => z1 rfl z.symm) (fun z => ?_) fun b o hb e => kp b o hb (Nat.ne_of_lt (Heap.lt_size e)) (Heap.get?_push_of_some _ e)
  obtain ⟨m, t, e, y1, _, y3⟩ := z2 (Or.inr z)
  refine ⟨m, t, e, ?_, fun j hj => y3 j (Nat.zero_le _) hj⟩
  rcases y1 with ⟨b, q, _⟩ | ⟨j, _, q, r⟩
  · cases q
  · exact ⟨j, q, r⟩
end
end Rs
namespace Rs
open PySem PySem.Spec PyProof.Rows L2
theorem preSum_take (ns : List Int) : ∀ n, n ≤ ns.length → preSum (fun i => ns.getD i 0) n = (ns.take n).sum
  | 0, _ => by simp [preSum]
  | n + 1, h => by
    rw [preSum, preSum_take ns n (by omega), List.take_succ, List.getElem?_eq_getElem (by omega), List.sum_append]
    simp [List.getD_eq_getElem?_getD, List.getElem?_eq_getElem (show n < ns.length by omega)]
theorem preSum_all (ns : List Int) : preSum (fun i => ns.getD i 0) ns.length = ns.sum := by rw [preSum_take ns _ (Nat.le_refl _), List.take_length]
theorem vals_at {ns : List Int} {us : List Value} (r : Vals (ns.map V.int) us) (i : Nat) (v : Value) (h : us.toArray[i]? = some v) : ∃ t, v = .int (ns.getD i 0) t := by
  rw [List.getElem?_toArray] at h
  obtain ⟨hl, e⟩ := List.getElem?_eq_some_iff.mp h
  have hl2 : i < ns.length := by rw [← r.length, List.length_map] at hl; exact hl
  have e1 : (ns.map V.int)[i]? = some (.int (ns.getD i 0)) := by rw [List.getElem?_map, List.getD_eq_getElem?_getD, List.getElem?_eq_getElem hl2]; rfl
  obtain ⟨u, e2, ru⟩ := r.get e1
  rw [h] at e2
  cases e2
  exact ru
section
variable {prog : Program} {w : World} {A : Around} {s : Shared} {E : Value → Shared → Prop}
/-- iter(l) of a list, of a tuple: a walk over its items -/
theorem walk_list {l : Addr} {its : Array Value} {Q : Value → Shared → Prop} (hh : A.handled = none) (hl : s.heap.IsList l its)
    (h : ∀ s₂ : Shared, s₂ = { s with heap := s.heap.push { cls := .type "list_iterator", data := .fields #[.ref l, .int 0 0] } } → ∀ (St : Nat → Heap → Prop), Walks prog w A s.heap.objs.size [s.heap.objs.size, l] [s.heap.objs.size] its.size (fun i v => its[i]? = some v) St → St 0 s₂.heap →
      (∀ b ∈ [s.heap.objs.size, l], b < s₂.heap.objs.size) → Q (.ref s.heap.objs.size) s₂) : wpAny (model prog w) A (pyIter (.ref l)) Q E s := by
  have hlt : l < s.heap.objs.size := by obtain ⟨_, e, _⟩ := hl; exact Heap.lt_size e
  refine wpAny_pyIter_list hl (h _ rfl _ (Walks.list (A := A) hh _ l (Nat.ne_of_lt hlt) its) ⟨⟨_, Heap.get?_push_size _ rfl, rfl, rfl⟩, hl.push _⟩ ?_)
  intro b hb
  show b < (s.heap.push _).objs.size
  rw [Heap.size_push]
  simp only [List.mem_cons, List.not_mem_nil, or_false] at hb
  rcases hb with rfl | rfl
  · exact Nat.lt_succ_self _
  · exact Nat.lt_succ_of_lt hlt
theorem walk_tup {l : Addr} {its : Array Value} {Q : Value → Shared → Prop} (hh : A.handled = none) (hl : s.heap.IsTuple l its)
    (h : ∀ s₂ : Shared, s₂ = { s with heap := s.heap.push { cls := .type "tuple_iterator", data := .fields #[.ref l, .int 0 0] } } → ∀ (St : Nat → Heap → Prop), Walks prog w A s.heap.objs.size [s.heap.objs.size, l] [s.heap.objs.size] its.size (fun i v => its[i]? = some v) St → St 0 s₂.heap →
      (∀ b ∈ [s.heap.objs.size, l], b < s₂.heap.objs.size) → Q (.ref s.heap.objs.size) s₂) : wpAny (model prog w) A (pyIter (.ref l)) Q E s := by
  have hlt : l < s.heap.objs.size := by obtain ⟨_, e, _⟩ := hl; exact Heap.lt_size e
  refine wpAny_pyIter_tuple hl (h _ rfl _ (Walks.tuple (A := A) hh _ l (Nat.ne_of_lt hlt) its) ⟨⟨_, Heap.get?_push_size _ rfl, rfl, rfl⟩, hl.push _⟩ ?_)
  intro b hb
  show b < (s.heap.push _).objs.size
  rw [Heap.size_push]
  simp only [List.mem_cons, List.not_mem_nil, or_false] at hb
  rcases hb with rfl | rfl
  · exact Nat.lt_succ_self _
  · exact Nat.lt_succ_of_lt hlt
end
section
variable {X : Cx}
/-- what stood, stands -/
theorem it_old {s : Shared} {o : Obj} {h' : Heap} (k : ∀ b u, b ∉ [s.heap.objs.size] → (s.heap.push o).get? b = some u → h'.get? b = some u) : ∀ b u, s.heap.get? b = some u → h'.get? b = some u := fun b u e =>
  k b u (fun z => absurd (Heap.lt_size e) ((List.mem_singleton.mp z) ▸ Nat.lt_irrefl _)) (Heap.get?_push_of_some _ e)
def rSumT (K : PySem.W.Frag) : List V → Hp → VK → Prop := fun vs H Q => ∃ (a : Addr) (ns : List Int), vs = [V.ref a] ∧ SqT K H a (ns.map V.int) ∧ Q (.int ns.sum) H
theorem cr_sumT (hc : X.calm = true) : CallR X (.builtin "sum") (rSumT X.K) := by
  intro pins s σ H vs us Q I r h
  obtain ⟨a, ns, rfl, hs, q⟩ := h
  obtain ⟨its, rv, ht, hz⟩ := I.tuple hs
  rw [Vals.ref1 r]
  obtain ⟨o, e1, e2, n, e3⟩ := id ht
  refine call_sum_walkG (walk_tup (A := X.A.in1) (I.ok.hd hc) ⟨o, e1, e2, n, e3⟩ fun s₂ es St W st hfp => ?_)
  subst es
  refine ⟨_, _, _, _, _, _, fun i => ns.getD i 0, rfl, W, st, hfp, vals_at rv, fun h' tk t' hk => ⟨.int _, H, I.kept (it_old hk), ⟨_, rfl⟩, ?_⟩⟩
  rw [List.size_toArray, ← rv.length, List.length_map, preSum_all]
  exact q
def rSumK (K : PySem.W.Frag) : List V → List V → Hp → VK → Prop := fun vs zs H Q => ∃ (a : Addr) (ns : List Int) (k : Int), vs = [V.ref a] ∧ zs = [V.int k] ∧ SqL K H a (ns.map V.int) ∧ Q (.int (k + ns.sum)) H
theorem cr_sumK (hc : X.calm = true) : CallRK X (.builtin "sum") [Str.ofString "start"] (rSumK X.K) := by
  intro pins s σ H vs zs us ws Q I r rz h
  obtain ⟨a, ns, k, rfl, rfl, hs, q⟩ := h
  obtain ⟨its, rv, ht, hz⟩ := I.list hs
  rw [Vals.ref1 r]
  obtain ⟨u, rfl, t, rfl⟩ := vals1 rz
  refine sum_from (walk_list (A := X.A.in1) (I.ok.hd hc) ht.isList fun s₂ es St W st hfp => ?_)
  subst es
  refine ⟨_, _, _, _, _, _, fun i => ns.getD i 0, rfl, W, st, hfp, vals_at rv, fun h' tk t' hk => ⟨.int _, H, I.kept (it_old hk), ⟨_, rfl⟩, ?_⟩⟩
  rw [List.size_toArray, ← rv.length, List.length_map, preSum_all]
  exact q
def maxD (d : Int) : List Int → Int
  | [] => d
  | x :: xs => xs.foldl max x
theorem fold_max : ∀ (xs : List Int) (x : Int), (xs.foldl max x = x ∨ xs.foldl max x ∈ xs) ∧ x ≤ xs.foldl max x ∧ ∀ y ∈ xs, y ≤ xs.foldl max x
  | [], x => ⟨Or.inl rfl, Int.le_refl _, fun y h => (nomatch h)⟩
  | z :: xs, x => by
    obtain ⟨h1, h2, h3⟩ := fold_max xs (max x z)
    simp only [List.foldl_cons]
    have a1 : x ≤ max x z := by omega
    have a2 : z ≤ max x z := by omega
    refine ⟨?_, by omega, fun y hy => ?_⟩
    · rcases h1 with h1 | h1
      · rw [h1]
        by_cases c : x ≤ z
        · right; rw [show max x z = z by omega]; exact List.mem_cons_self
        · left; omega
      · exact Or.inr (List.mem_cons_of_mem _ h1)
    · rcases List.mem_cons.mp hy with rfl | hy
      · omega
      · exact h3 y hy
theorem maxD_is {d m : Int} {ns : List Int} (h0 : ns ≠ []) (h1 : m ∈ ns) (h2 : ∀ y ∈ ns, y ≤ m) : maxD d ns = m := by
  cases ns with
  | nil => exact absurd rfl h0
  | cons x xs =>
    obtain ⟨a, b, c⟩ := fold_max xs x
    show xs.foldl max x = m
    have z1 : xs.foldl max x ≤ m := by
      rcases a with a | a
      · rw [a]; exact h2 x List.mem_cons_self
      · exact h2 _ (List.mem_cons_of_mem _ a)
    have z2 : m ≤ xs.foldl max x := by
      rcases List.mem_cons.mp h1 with rfl | h
      · exact b
      · exact c m h
    omega
def rMaxDT (K : PySem.W.Frag) : List V → List V → Hp → VK → Prop := fun vs zs H Q => ∃ (a : Addr) (ns : List Int) (d : Int), vs = [V.ref a] ∧ zs = [V.int d] ∧ SqT K H a (ns.map V.int) ∧ Q (.int (maxD d ns)) H
theorem cr_maxDT (hc : X.calm = true) : CallRK X (.builtin "max") [Str.ofString "default"] (rMaxDT X.K) := by
  intro pins s σ H vs zs us ws Q I r rz h
  obtain ⟨a, ns, d, rfl, rfl, hs, q⟩ := h
  obtain ⟨its, rv, ht, hz⟩ := I.tuple hs
  rw [Vals.ref1 r]
  obtain ⟨u, rfl, t, rfl⟩ := vals1 rz
  obtain ⟨o, e1, e2, n, e3⟩ := id ht
  refine max_dflt (walk_tup (A := X.A.in1) (I.ok.hd hc) ⟨o, e1, e2, n, e3⟩ fun s₂ es St W st hfp => ?_)
  subst es
  have hl : its.toArray.size = ns.length := by rw [List.size_toArray, ← rv.length, List.length_map]
  refine ⟨_, _, _, _, _, _, fun i => ns.getD i 0, rfl, W, st, hfp, vals_at rv, fun v h' tk z1 z2 hk => ?_⟩
  rw [hl] at z1 z2
  by_cases h0 : ns = []
  · subst h0
    rw [z1 rfl]
    exact ⟨.int d, H, I.kept (it_old hk), ⟨t, rfl⟩, q⟩
  · have hp : 0 < ns.length := List.length_pos_iff.mpr h0
    obtain ⟨m, t2, rfl, ⟨j, hj, rfl⟩, hm⟩ := z2 hp
    refine ⟨.int _, H, I.kept (it_old hk), ⟨t2, rfl⟩, ?_⟩
    have em : maxD d ns = ns.getD j 0 := by
      refine maxD_is h0 ?_ fun y hy => ?_
      · rw [List.getD_eq_getElem?_getD, List.getElem?_eq_getElem hj]
        exact List.getElem_mem hj
      · obtain ⟨i, hi, rfl⟩ := List.mem_iff_getElem.mp hy
        have z : ns.getD i 0 ≤ ns.getD j 0 := hm i hi
        rw [List.getD_eq_getElem?_getD, List.getElem?_eq_getElem hi] at z
        exact z
    show Q (.int (ns.getD j 0)) H
    rw [← em]
    exact q
end
end Rs
namespace Rs
open PySem PySem.Spec PyProof.Rows L2
/-! ### a tuple's slice with a step -/
def ixT (n : Nat) (lo hi : Option Int) (st : Int) : List Nat := (List.range (Builtin.Slice.slicePlaces (Builtin.Slice.sliceAdjust lo hi st n).1 (Builtin.Slice.sliceAdjust lo hi st n).2 st)).map fun (k : Nat) => ((Builtin.Slice.sliceAdjust lo hi st n).1 + (k : Int) * st).toNat
def pickT (xs : List V) (lo hi : Option Int) (st : Int) : List V := (ixT xs.length lo hi st).filterMap (xs[·]?)
def pickI (ns : List Int) (lo hi : Option Int) (st : Int) : List Int := (ixT ns.length lo hi st).filterMap (ns[·]?)
theorem pickT_map (ns : List Int) (lo hi : Option Int) (st : Int) : pickT (ns.map V.int) lo hi st = (pickI ns lo hi st).map V.int := by
  unfold pickT pickI
  rw [List.length_map]
  generalize ixT ns.length lo hi st = ix
  induction ix with
  | nil => rfl
  | cons i ix ih =>
    cases h : ns[i]? with
    | none => rw [List.filterMap_cons_none (by rw [List.getElem?_map, h]; rfl), List.filterMap_cons_none h, ih]
    | some z => rw [List.filterMap_cons_some (by rw [List.getElem?_map, h]; rfl), List.filterMap_cons_some h, ih]; rfl
section
variable {prog : Program} {w : World} {A : Around} {s : Shared} {E : Value → Shared → Prop}
theorem part_ {v : Value} {o : Option Int} {Q : Option Int → Shared → Prop} (p : IsPart v o) (h : Q o s) : wpAny (model prog w) A (Builtin.Slice.slicePartIndex v) Q E s := HT.slicePart_ p h
theorem stepped {sl : Addr} {vl vu vs : Value} {lo hi : Option Int} {st : Int} {n : Nat} {Q : Int × Int × Nat → Shared → Prop} (hs : s.heap.IsSliceOf sl vl vu vs) (pl : IsPart vl lo) (pu : IsPart vu hi) (ps : IsPart vs (some st)) (h0 : st ≠ 0)
    (h : Q ((Builtin.Slice.sliceAdjust lo hi st n).1, st, Builtin.Slice.slicePlaces (Builtin.Slice.sliceAdjust lo hi st n).1 (Builtin.Slice.sliceAdjust lo hi st n).2 st) s) : wpAny (model prog w) A (Builtin.Slice.sliceApplied (.ref sl) (pure (n : Int))) Q E s := by
  obtain ⟨os, hos, hcs, hds⟩ := id hs
  unfold Builtin.Slice.sliceApplied Builtin.Slice.sliceFields
  refine wpAny_bind (wpAny_bind (wpAny_field hos hds (x := vl) rfl (wpAny_bind (wpAny_field hos hds (x := vu) rfl (wpAny_bind (wpAny_field hos hds (x := vs) rfl (wpAny_pure ?_)))))))
  refine wpAny_bind (part_ ps ?_)
  show wpAny _ _ (if (st == 0) = true then _ else _) _ _ s
  rw [if_neg (by simpa using h0)]
  exact wpAny_bind (part_ pl (wpAny_bind (part_ pu (wpAny_bind (wpAny_pure (wpAny_pure h))))))
theorem getItem_step {t sl : Addr} {items : Array Value} {vl vu vs : Value} {lo hi : Option Int} {st : Int} {Q : Value → Shared → Prop} (ht : IsTup s.heap t items) (hs : s.heap.IsSliceOf sl vl vu vs) (pl : IsPart vl lo) (pu : IsPart vu hi) (ps : IsPart vs (some st))
    (h0 : st ≠ 0) (h1 : st ≠ 1) (hz : ((ixT items.size lo hi st).filterMap (items[·]?)).length ≤ sizeLine)
    (h : Q (.ref s.heap.objs.size) { s with heap := s.heap.push { cls := .type "tuple", data := .seq ((ixT items.size lo hi st).filterMap (items[·]?)).toArray } }) : wpAny (model prog w) A (getItem (.ref t) (.ref sl)) Q E s := by
  obtain ⟨os, hos, hcs, hds⟩ := id hs
  have hT : s.TypeIs (.ref sl) "slice" := ⟨os, hos, hcs⟩
  have hk : sizeOk (.seq ((ixT items.size lo hi st).filterMap (items[·]?)).toArray) := by
    show ((ixT items.size lo hi st).filterMap (items[·]?)).toArray.size ≤ sizeLine
    rw [List.size_toArray]
    exact hz
  have ep : ((List.range (Builtin.Slice.slicePlaces (Builtin.Slice.sliceAdjust lo hi st items.size).1 (Builtin.Slice.sliceAdjust lo hi st items.size).2 st)).filterMap fun (k : Nat) => items[((Builtin.Slice.sliceAdjust lo hi st items.size).1 + (k : Int) * st).toNat]?) = (ixT items.size lo hi st).filterMap (items[·]?) := by
    unfold ixT
    rw [List.filterMap_map]
    rfl
  unfold getItem
  try with_reducible refine wpAny_holding ?_
  first | refine wpAny_bind (wpAny_pure ?_) | skip
  refine wpAny_bind (wpAny_sequenceKey ht.typeIs (by decide) ?_)
  refine wpAny_bind (wpAny_callSpecial?_slot (name := Str.ofString "__getitem__") ht.typeIs PyProof.Rows.slot_tuple_getitem (wpAny_call_entry PyProof.Rows.slot_tuple_getitem ht.typeIs entry_tuple_getitem ?_ (args_tuple_getitem _ _)))
  show wpAny _ _ (Builtin.Tuple.tupleItemsOf (.ref t) >>= _) _ _ s
  refine wpAny_bind (tupleItemsOf_ ht ?_)
  refine wpAny_bind (wpAny_typeOf hT ?_)
  rw [if_pos (by decide)]
  refine wpAny_bind (stepped hs pl pu ps h0 ?_)
  show wpAny _ _ (if (_ && st == 1 && _) = true then _ else _) _ _ s
  rw [if_neg (by
    have e : (st == 1) = false := by simpa using h1
    simp [e])]
  rw [ep]
  first
    | exact wpAny_bind (m := Builtin.Tuple.tupleExact _) (wpAny_newObj_type (wpAny_pure ⟨_, rfl, wpAny_pure h⟩) hk)
    | exact wpAny_bind (m := Builtin.Tuple.tupleExact _) (wpAny_newObj_type (wpAny_bind (wpAny_pure (wpAny_pure ⟨_, rfl, wpAny_pure h⟩))) hk)
    | exact wpAny_bind (wpAny_bind (m := Builtin.Tuple.tupleExact _) (wpAny_newObj_type (wpAny_pure (wpAny_pure ⟨_, rfl, wpAny_pure h⟩)) hk))
    | exact wpAny_bind (wpAny_bind (m := Builtin.Tuple.tupleExact _) (wpAny_newObj_type (wpAny_pure ⟨_, rfl, wpAny_pure h⟩) hk))
end
def tSlT3 (K : PySem.W.Frag) (te : TE) (tl th ts : TO) : TE := fun σ H Q => te σ H fun x H1 => tl σ H1 fun l H2 => th σ H2 fun u H3 => ts σ H3 fun st H4 => ∃ a xs k, x = .ref a ∧ SqT K H4 a xs ∧ st = some k ∧ k ≠ 0 ∧ k ≠ 1 ∧ (pickT xs l u k).length ≤ sizeLine ∧
  ∀ p, H4 p = none → Q (.ref p) (upd H4 p (.tup (pickT xs l u k)))
theorem pe_slT3 {X : Cx} {e : Expr} {te : TE} {lo hi st : Option Expr} {tl th ts : TO} {p2 pos : Pos} (he : PE X e te) (hl : PO X lo tl) (hh : PO X hi th) (hs : PO X st ts)
    (hsub : ∀ ov iv, subscripted (.Slice lo hi st p2) false ov iv = operate [ov, iv] (getItem ov iv) := by intro _ _; with_unfolding_all rfl) : PE X (.Subscript e (.Slice lo hi st p2) pos) (tSlT3 X.K te tl th ts) := by
  constructor
  intro pins s σ H Q I h
  refine PyProof.Rows.Subscript_ (thn (he.run pins s σ H _ I h) ?_)
  rintro v s1 ⟨x, H1, I1, r1, q1⟩
  refine wpAny_Slice (thn (hl.run pins s1 σ H1 _ I1 q1) ?_)
  rintro vl s2 ⟨l, H2, I2, pl, q2⟩
  refine thn (hh.run pins s2 σ H2 _ I2 q2) ?_
  rintro vu s3 ⟨u, H3, I3, pu, q3⟩
  refine thn (hs.run pins s3 σ H3 _ I3 q3) ?_
  rintro vs s4 ⟨c, H4, I4, ps, a, xs, k, ex, hx, ek, h0, h1, hz, q4⟩
  subst ex ek
  cases r1
  have I5 : Inv X pins σ H4 { s4 with heap := s4.heap.push { cls := .type "slice", data := .fields #[vl, vu, vs] } } := I4.kept (t' := s4.toks) fun b ob q => Heap.get?_push_of_some _ q
  obtain ⟨its, rv, ht, hz2⟩ := I5.tuple hx
  have hlen : its.length = xs.length := rv.length.symm
  have ei : ∀ ix : List Nat, ix.filterMap (its.toArray[·]?) = ix.filterMap (its[·]?) := fun ix => by simp only [List.getElem?_toArray]
  have vp := vals_pick rv (ixT xs.length l u k)
  show wpAny (model X.prog X.w) X.A (subscriptTail e (.Slice lo hi st p2) (.ref a) (.ref s4.heap.objs.size)) (EP X pins σ Q) X.xe _
  refine tail_any (ops := [.ref a, .ref s4.heap.objs.size]) ht.typeIs PyProof.Rows.slot_tuple_getitem.lookup ?_ (hsub _ _)
  refine getItem_step ht (Heap.IsSliceOf.new _ vl vu vs) pl pu ps h0 h1 ?_ ?_
  · rw [ei, List.size_toArray, hlen, ← vp.length]
    exact hz
  · rw [ei, show its.toArray.size = xs.length by rw [List.size_toArray, hlen]]
    refine ⟨.ref _, _, I5.laid (t' := s4.toks) (o := .tup (pickT xs l u k)) (fun b ob q => Heap.get?_push_of_some _ q) (Nat.le_refl _) ?_, rfl, q4 _ (I5.hok.fresh (Nat.le_refl _))⟩
    exact ⟨hz, _, vp, IsTup.new _ _⟩
end Rs

namespace Rs
open PySem PySem.Spec PyProof.Rows L2
/-- a def with keyword-only defaults -/
structure CalD (K : PySem.W.Frag) (mg : Str → Option Value) (x : Str) (st : Stmt) (kws : List (Str × V)) (f : Addr) (fd : FuncData) : Prop where
  F : FunD K x x (defArgs st) (defBody st) (defScope st) [] kws f fd
  m : mg x = some (.ref f)
def slR3 (K : PySem.W.Frag) (Q : VK) (x : V) (l u st : Option Int) (H : Hp) : Prop := ∃ a xs k, x = .ref a ∧ SqT K H a xs ∧ st = some k ∧ k ≠ 0 ∧ k ≠ 1 ∧ (pickT xs l u k).length ≤ sizeLine ∧ ∀ p, H p = none → Q (.ref p) (upd H p (.tup (pickT xs l u k)))
section
variable {σ : L2.St} {H H0 : Hp} {M : List Addr} {L L' : Led} {Q : VK} {v x y : V} {nx : L2.St → Hp → Prop} {rt : VK} {bk ct : L2.St → Hp → Prop} {t u : TS} {te ta tb tc : TE} {K : PySem.W.Frag} {a p : Addr}
theorem rd_sumT {xs : List V} {ns : List Int} (S : Hs H0 M H L) (m : (a, HO.tup xs) ∈ L) (e : xs = ns.map V.int) (h : Q (.int ns.sum) H) : rSumT K [.ref a] H Q := ⟨a, ns, rfl, by subst e; exact S.tup m, h⟩
theorem rd_cbk {r : List V → List V → Hp → VK → Prop} {t tk : TA} (h : t σ H fun vs H1 => tk σ H1 fun zs H2 => r vs zs H2 Q) : tCKw r t tk σ H Q := h
theorem rd_sumK {xs : List V} {ns : List Int} {k : Int} (S : Hs H0 M H L) (m : (a, HO.lst xs) ∈ L) (e : xs = ns.map V.int) (h : Q (.int (k + ns.sum)) H) : rSumK K [.ref a] [.int k] H Q := ⟨a, ns, k, rfl, rfl, by subst e; exact S.lst m, h⟩
theorem rd_maxDT {xs : List V} {ns : List Int} {k : Int} (S : Hs H0 M H L) (m : (a, HO.tup xs) ∈ L) (e : xs = ns.map V.int) (h : Q (.int (maxD k ns)) H) : rMaxDT K [.ref a] [.int k] H Q := ⟨a, ns, k, rfl, rfl, by subst e; exact S.tup m, h⟩
theorem rd_slT3 {tl th ts : TO} (h : te σ H fun x H1 => tl σ H1 fun l H2 => th σ H2 fun u H3 => ts σ H3 fun st H4 => slR3 K Q x l u st H4) : tSlT3 K te tl th ts σ H Q := h
theorem rd_slR3 {xs : List V} {ns : List Int} {l u : Option Int} {k : Int} (S : Hs H0 M H L) (m : (a, HO.tup xs) ∈ L) (e : xs = ns.map V.int) (h0 : k ≠ 0) (h1 : k ≠ 1) (hz : (pickI ns l u k).length ≤ sizeLine)
    (h : ∀ p H', H0 p = none → Hs H0 M H' ((p, .tup ((pickI ns l u k).map V.int)) :: L) → Q (.ref p) H') : slR3 K Q (.ref a) l u (some k) H := by
  subst e
  refine ⟨a, _, k, rfl, S.tup m, rfl, h0, h1, ?_, ?_⟩
  · rw [pickT_map, List.length_map]; exact hz
  · rw [pickT_map]; exact rd_newO S h
theorem rd_slTp {xs ys : List V} {lo hi : Option Int} (S : Hs H0 M H L) (m : (a, HO.tup xs) ∈ L) (w : ¬ (HT.sIx xs.length 0 lo = 0 ∧ HT.sIx xs.length xs.length hi = xs.length)) (e : cutV xs lo hi = ys) (h : ∀ p H', H0 p = none → Hs H0 M H' ((p, .tup ys) :: L) → Q (.ref p) H') : rSlT K (.ref a) lo hi H Q := by
  subst e
  exact ⟨a, xs, rfl, S.tup m, w, rd_newO S h⟩
theorem rd_repT {xs : List V} {k : Int} (S : Hs H0 M H L) (m : (a, HO.tup xs) ∈ L) (h0 : xs ≠ []) (h1 : 2 ≤ k) (h2 : k ≤ 1000) (h3 : xs.length ≤ 1000) (h : ∀ p H', H0 p = none → Hs H0 M H' ((p, .tup (List.replicate k.toNat xs).flatten) :: L) → Q (.ref p) H') : rRepT K (.ref a) (.int k) H Q :=
  ⟨a, k, xs, rfl, rfl, S.tup m, h0, h1, h2, h3, rd_newO S h⟩
theorem rd_catT {xs ys : List V} {b : Addr} (S : Hs H0 M H L) (m : (a, HO.tup xs) ∈ L) (m2 : (b, HO.tup ys) ∈ L) (h0 : xs ≠ []) (h1 : ys ≠ []) (hz : xs.length + ys.length ≤ sizeLine) (h : ∀ p H', H0 p = none → Hs H0 M H' ((p, .tup (xs ++ ys)) :: L) → Q (.ref p) H') : rCatT K (.ref a) (.ref b) H Q :=
  ⟨a, b, xs, ys, rfl, rfl, S.tup m, S.tup m2, h0, hz, fun z => absurd z h1, fun _ => rd_newO S h⟩
theorem rd_all {xs : List V} {bs : List Bool} (S : Hs H0 M H L) (m : (a, HO.lst xs) ∈ L) (e : xs = bs.map V.bl) (h : Q (.bl (bs.all id)) H) : rAll K [.ref a] H Q := ⟨a, bs, rfl, by subst e; exact S.lst m, h⟩
theorem rd_int1b {b : Bool} {R : Int → Prop} (h : R (if b then 1 else 0)) : (∃ i, [V.bl b] = [V.int i] ∧ R i) ∨ ∃ k, [V.bl b] = [.bl k] ∧ R (if k then 1 else 0) := Or.inr ⟨b, rfl, h⟩
end
theorem rd_yes {σ : L2.St} {H : Hp} {Q : Bool → Hp → Prop} (h : Q true H) : tYes σ H Q := h
theorem pick_le (ns : List Int) (lo : Option Int) (h : lo = none ∨ lo = some 1) : (pickI ns lo none 2).length ≤ ns.length := by
  unfold pickI
  refine Nat.le_trans (List.length_filterMap_le _ _) ?_
  unfold ixT
  rw [List.length_map, List.length_range]
  rcases h with rfl | rfl
  · simp [Builtin.Slice.sliceAdjust, Builtin.Slice.slicePlaces]
    split <;> omega
  · simp [Builtin.Slice.sliceAdjust, Builtin.Slice.slicePlaces]
    split <;> omega
theorem pick_mem {ns : List Int} {lo hi : Option Int} {k z : Int} (h : z ∈ pickI ns lo hi k) : z ∈ ns := by
  obtain ⟨i, _, hi⟩ := List.mem_filterMap.mp h
  exact List.mem_of_getElem? hi
end Rs

local macro_rules | `(tactic| walk_at "mem") => `(tactic| repeat (with_reducible first | exact List.mem_cons_self | apply List.mem_cons_of_mem))
local macro_rules | `(tactic| walk_at "chg") => `(tactic| repeat (with_reducible first | exact Rs.Chg.here | apply Rs.Chg.there))
local macro_rules | `(tactic| walk_at "chgF") => `(tactic| (intro o'; walk_at "chg"))
local macro_rules | `(tactic| walk_at "own") => `(tactic| first | (apply Or.inl; assumption) | (apply Or.inr; simp))
local macro_rules | `(tactic| walk_at "size") => `(tactic| first | exact Rs.sz (Nat.le_of_ble_eq_true rfl) | (refine Rs.sz ?_; omega) | (refine Rs.sz ?_; simp; done) | (refine Rs.sz ?_; simp; omega))
local macro_rules | `(tactic| walk_at "size1") => `(tactic| first | exact Rs.sz' (Nat.le_of_ble_eq_true rfl) | (refine Rs.sz' ?_; omega) | (refine Rs.sz' ?_; simp; done) | (refine Rs.sz' ?_; simp; omega))
local macro_rules | `(tactic| walk_at "val") => `(tactic| first | assumption | rfl)
local macro_rules | `(tactic| walk_at "put") => `(tactic| first | assumption | rfl)
local macro_rules | `(tactic| walk_at "rd1") => `(tactic| first
  | with_reducible refine Rs.rd_seq ?_
  | with_reducible refine Rs.rd_asg ?_
  | ((with_reducible refine' Rs.rd_var ?e ?_); (case e => rfl))
  | with_reducible refine Rs.rd_c ?_
  | with_reducible refine Rs.rd_op ?_
  | with_reducible refine Rs.rd_I0 ?_
  | with_reducible refine Rs.rd_cons ?_
  | with_reducible refine Rs.rd_nil ?_
  | ((with_reducible refine' Rs.rd_name ?e ?_); (case e => (dsimp only [List.set]; try rfl)))
  | with_reducible refine Rs.rd_ifS ?_
  | with_reducible refine Rs.rd_test ?_
  | with_reducible refine Rs.rd_bl ?_
  | with_reducible refine Rs.rd_ret ?_
  | with_reducible refine Rs.rd_retN ?_
  | with_reducible refine Rs.rd_drop ?_
  | with_reducible refine Rs.rd_next ?_
  | with_reducible refine Rs.rd_eqI ?_
  | with_reducible refine Rs.rd_neI ?_
  | with_reducible refine Rs.rd_eqS ?_
  | with_reducible refine Rs.rd_neS ?_
  | with_reducible refine Rs.rd_eqB ?_
  | with_reducible refine Rs.rd_par ?_
  | with_reducible refine Rs.rd_par3 ?_
  | ((with_reducible refine Rs.rd_two ?_); dsimp only [List.set])
  | ((with_reducible refine Rs.rd_three ?_); dsimp only [List.set])
  | with_reducible refine Rs.rd_un ?_
  | with_reducible refine Rs.rd_U ?_
  | with_reducible refine Rs.rd_tB ?_
  | with_reducible refine Rs.rd_and ?_
  | with_reducible refine Rs.rd_or ?_
  | with_reducible refine Rs.rd_not ?_
  | with_reducible refine Rs.rd_andV ?_
  | with_reducible refine Rs.rd_orV ?_
  | with_reducible refine Rs.rd_notV ?_
  | with_reducible refine Rs.rd_if ?_
  | with_reducible refine Rs.rd_tup ?_
  | with_reducible refine Rs.rd_lst ?_
  | with_reducible refine Rs.rd_cb ?_
  | with_reducible refine Rs.rd_call0 ?_
  | with_reducible refine Rs.rd_call ?_
  | with_reducible refine Rs.rd_callN ?_
  | with_reducible refine Rs.rd_chain ?_
  | with_reducible refine Rs.rd_bits ?_
  | with_reducible refine Rs.rd_int1 ?_
  | with_reducible refine Rs.rd_int2 ?_
  | with_reducible refine Rs.rd_dget ?_
  | with_reducible refine Rs.rd_dput ?_
  | with_reducible refine Rs.rd_slice3 ?_
  | with_reducible refine Rs.rd_sl ?_
  | with_reducible refine Rs.rd_noPart ?_
  | with_reducible refine Rs.rd_part ?_
  | ((with_reducible refine' Rs.rd_mod ?c ?_); (case c => omega); intro r e h0 h1)
  | ((with_reducible refine' Rs.rd_div ?c ?d ?_); (case c => omega); (case d => omega))
  | ((with_reducible refine' Rs.rd_mulL ?c ?d ?_); (case c => omega); (case d => omega))
  | ((with_reducible refine' Rs.rd_mulR ?c ?d ?_); (case c => omega); (case d => omega))
  | ((with_reducible refine' Rs.rd_pow ?c ?d ?f ?_); (case c => omega); (case d => omega); (case f => omega))
  | ((with_reducible refine' Rs.rd_newL (by assumption) ?z ?_); (case z => walk_at "size"); intro p H hp S)
  | ((with_reducible refine' Rs.rd_newT (by assumption) ?z ?_); (case z => walk_at "size"); intro p H hp S)
  | ((with_reducible refine' Rs.rd_newO (by assumption) ?_); intro p H hp S)
  | ((with_reducible refine' Rs.rd_ixL (by assumption) ?m ?e ?_); (case m => (walk_at "mem"; done)); (case e => first | rfl | assumption))
  | ((with_reducible refine' Rs.rd_ixT (by assumption) ?m ?e ?_); (case m => (walk_at "mem"; done)); (case e => first | rfl | assumption))
  | ((with_reducible refine' Rs.rd_len (by assumption) ?m ?_); (case m => (walk_at "mem"; done)))
  | ((with_reducible refine' Rs.rd_lenT (by assumption) ?m ?_); (case m => (walk_at "mem"; done)))
  | ((with_reducible refine' Rs.rd_getS (by assumption) ?m ?e ?_); (case m => (walk_at "mem"; done)); (case e => walk_at "val"))
  | ((with_reducible refine' Rs.rd_putS (by assumption) ?c ?m ?z ?e ?_); (case c => (walk_at "chg"; done)); (case m => walk_at "own"); (case z => walk_at "size1"); (case e => walk_at "put"); intro H S)
  | ((with_reducible refine' Rs.gt_ref (by assumption) ?m ?e ?_); (case m => (walk_at "mem"; done)); (case e => rfl))
  | with_reducible refine Rs.gt_cons ?_
  | with_reducible refine Rs.gt_nil ?_
  | with_reducible refine Rs.rd_for ?_
  | with_reducible refine Rs.rd_rng1 ?_
  | with_reducible refine Rs.rd_rng2 ?_
  | ((with_reducible refine' Rs.rd_rng1v ?c ?d ?_); (case c => omega); (case d => omega))
  | with_reducible refine Rs.rd_iList ?_
  | with_reducible refine Rs.rd_iTup ?_
  | ((with_reducible refine' Rs.rd_lstI (by assumption) ?m ?_); (case m => (walk_at "mem"; done)))
  | ((with_reducible refine' Rs.rd_tupI (by assumption) ?m ?_); (case m => (walk_at "mem"; done)))
  | with_reducible refine Rs.rd_wl ?_
  | ((with_reducible refine' Rs.rd_disp (by assumption) ?_); intro p H hp S)
  | with_reducible refine Rs.rd_prs ?_
  | with_reducible refine Rs.rd_prs0 ?_
  | ((with_reducible refine' Rs.rd_dspEnd (by assumption) ?c ?m ?e ?z ?f ?_); (case c => (walk_at "chg"; done)); (case m => walk_at "own"); (case e => rfl); (case z => exact Nat.le_of_ble_eq_true rfl); (case f => walk_at "put"); intro H S)
  | ((with_reducible refine' Rs.rd_isi (by assumption) ?e ?_); (case e => first | exact Rs.kit_int _ | exact Rs.kit_bool _ | exact Rs.kit_list _ | exact Rs.kit_tuple _ | exact Rs.kit_str _))
  | with_reducible refine Rs.rd_iteT ?_
  | with_reducible refine Rs.rd_nT ?_
  | with_reducible refine Rs.rd_nF ?_
  | with_reducible refine Rs.rd_iteF ?_)
local macro_rules | `(tactic| walk_at "end") => `(tactic| first
  | assumption
  | omega
  | exact Rs.Hs.get (by assumption) (by walk_at "mem"; done)
  | exact Rs.Hs.same (by assumption)
  | (intro b o e hb; exact Rs.Hs.old1 (by assumption) e hb)
  | rfl)
local macro_rules | `(tactic| walk_at "rd") => `(tactic| repeat (walk_at "rd1"))
local macro_rules | `(tactic| walk_at "st") => `(tactic| (refine Rs.rd_start ?_; dsimp only [Rs.stV, List.head?, List.tail]))
local macro_rules | `(tactic| walk_at "noat") => `(tactic| assumption)
local macro_rules | `(tactic| walk_at "cls") => `(tactic| assumption)
local macro_rules | `(tactic| walk_at "fv") => `(tactic| rfl)
local macro_rules | `(tactic| walk_at "sub") => `(tactic| repeat (with_reducible first | exact List.Sublist.refl _ | exact List.nil_sublist _ | apply List.Sublist.cons_cons | apply List.Sublist.cons))
local macro_rules | `(tactic| walk_at "rd1") => `(tactic| first
  | with_reducible refine Rs.rd_fld ?_
  | ((with_reducible refine' Rs.rd_fldV (by assumption) ?m ?c ?n ?e ?_); (case m => (walk_at "mem"; done)); (case c => walk_at "cls"); (case n => walk_at "noat"); (case e => walk_at "fv"))
  | with_reducible refine Rs.rd_sfld ?_
  | ((with_reducible refine' Rs.rd_sfldV (by assumption) ?ch ?o ?c ?n ?z ?e ?_); (case ch => (walk_at "chg"; done)); (case o => walk_at "own"); (case c => walk_at "cls"); (case n => walk_at "noat"); (case z => walk_at "fvz"); (case e => walk_at "fput"); intro H S)
  | with_reducible refine Rs.rd_meth ?_
  | ((with_reducible refine' Rs.rd_methV (by assumption) ?m ?e ?_); (case m => (walk_at "mem"; done)); (case e => walk_at "fv"))
  | with_reducible refine Rs.rd_bm ?_
  | with_reducible refine Rs.rd_bm0 ?_
  | ((with_reducible refine' Rs.rd_tyL (by assumption) ?m ?_); (case m => (walk_at "mem"; done)))
  | ((with_reducible refine' Rs.rd_app (by assumption) ?c ?o ?z ?_); (case c => (walk_at "chg"; done)); (case o => walk_at "own"); (case z => walk_at "size1"); intro H S)
  | ((with_reducible refine' Rs.rd_sumI (by assumption) ?m ?e ?_); (case m => (walk_at "mem"; done)); (case e => rfl))
  | ((with_reducible refine' Rs.rd_slL (by assumption) ?m ?e ?_); (case m => (walk_at "mem"; done)); (case e => rfl); intro p H hp S)
  | ((with_reducible refine' Rs.rd_catL (by assumption) ?m ?n ?z ?_); (case m => (walk_at "mem"; done)); (case n => (walk_at "mem"; done)); (case z => walk_at "size"); intro p H hp S)
  | with_reducible refine Rs.rd_revL ?_
  | ((with_reducible refine' Rs.rd_revV (by assumption) ?m ?_); (case m => (walk_at "mem"; done)); intro p H hp S)
  | with_reducible refine Rs.rd_isN ?_
  | with_reducible refine Rs.rd_notN ?_
  | ((with_reducible refine' Rs.gt_unl (by assumption) ?m ?e ?_); (case m => (walk_at "mem"; done)); (case e => rfl))
  | with_reducible refine Rs.gt_sub ?_
  | with_reducible refine Rs.gt_slc ?_
  | with_reducible refine Rs.rd_lc ?_)
local macro_rules | `(tactic| walk_at "cut") => `(tactic| repeat' (first | walk_at "rd1" | (refine Rs.rd_dec ?_ ?_ <;> intro hc)))
local macro_rules | `(tactic| walk_at "fvz") => `(tactic| exact Nat.le_of_ble_eq_true rfl)
local macro_rules | `(tactic| walk_at "fput") => `(tactic| rfl)
local macro_rules | `(tactic| walk_at "rd1") => `(tactic| with_reducible refine Rs.rd_nn ?_)
local macro_rules | `(tactic| walk_at "rd1") => `(tactic| first
  | ((with_reducible refine' Rs.rd_aug ?e ?_); (case e => rfl))
  | ((with_reducible refine Rs.rd_ipI ?_); dsimp only [List.set]))
local macro_rules | `(tactic| walk_at "lc") => `(tactic| (walk_at "rd"; dsimp only [L2.wipe, List.map, List.set]; refine ⟨rfl, ?_⟩; walk_at "rd"))
local macro_rules | `(tactic| walk_at "rd1") => `(tactic| first
  | ((with_reducible refine' Rs.rd_sumT (by assumption) ?m ?e ?_); (case m => (walk_at "mem"; done)); (case e => rfl))
  | with_reducible refine Rs.rd_cbk ?_
  | ((with_reducible refine' Rs.rd_sumK (by assumption) ?m ?e ?_); (case m => (walk_at "mem"; done)); (case e => rfl))
  | ((with_reducible refine' Rs.rd_maxDT (by assumption) ?m ?e ?_); (case m => (walk_at "mem"; done)); (case e => rfl))
  | with_reducible refine Rs.rd_slT3 ?_)
local macro_rules | `(tactic| walk_at "rd1") => `(tactic| with_reducible refine Rs.rd_yes ?_)
local macro_rules | `(tactic| walk_at "if0") => `(tactic| (first | (show if false = true then _ else _) | skip); walk_at "rd")
local macro_rules | `(tactic| walk_at "if1") => `(tactic| (first | (show if true = true then _ else _) | skip); walk_at "rd")
namespace K28
open PySem L2 Rs
def topS (i : Nat) : Stmt := PySem.Challenge.pw_runsort_k28_bounds_and_gallops.main.body.getD i (.Pass ⟨0, 0, 0, 0⟩)
/-! the draws -/
def drw (l c a : Int) : List (Key × V) := [(.inr "left", .int l), (.inr "cell", .int c), (.inr "at", .int a)]
theorem k_lc : ¬ (("left" : Str) = "cell") := by decide +kernel
theorem k_la : ¬ (("left" : Str) = "at") := by decide +kernel
theorem k_ca : ¬ (("cell" : Str) = "at") := by decide +kernel
theorem k_ne {a b : Str} (h : ¬ a = b) : ¬ ((Sum.inr a : Key) = Sum.inr b) := fun e => h (Sum.inr.inj e)
theorem drw_left (l c a : Int) : valV (drw l c a) (.inr "left") = some (.int l) := valV_pos rfl
theorem drw_cell (l c a : Int) : valV (drw l c a) (.inr "cell") = some (.int c) := (valV_neg (k_ne k_lc)).trans (valV_pos rfl)
theorem drw_at (l c a : Int) : valV (drw l c a) (.inr "at") = some (.int a) := (valV_neg (k_ne k_la)).trans ((valV_neg (k_ne k_ca)).trans (valV_pos rfl))
theorem put_left (l c a x : Int) : putK (drw l c a) (.inr "left") (.int x) = drw x c a := by
  unfold putK drw
  simp [show ¬ (("cell" : Str) = "left") from fun e => k_lc e.symm, show ¬ (("at" : Str) = "left") from fun e => k_la e.symm]
theorem put_at (l c a x : Int) : putK (drw l c a) (.inr "at") (.int x) = drw l c x := by
  unfold putK drw
  simp [k_ca, k_la]
theorem merge_drw (l c a : Int) : mergeK [] (toK [(.str "left", .int l), (.str "cell", .int c), (.str "at", .int a)]) = drw l c a := by
  simp only [toK, mergeK, List.foldl_cons, List.foldl_nil]
  unfold putK drw
  simp [k_lc, k_la, k_ca, show ¬ (("cell" : Str) = "left") from fun e => k_lc e.symm, show ¬ (("at" : Str) = "left") from fun e => k_la e.symm, show ¬ (("at" : Str) = "cell") from fun e => k_ca e.symm]
local macro_rules | `(tactic| walk_at "val") => `(tactic| first | exact drw_left _ _ _ | exact drw_cell _ _ _ | exact drw_at _ _ _)
local macro_rules | `(tactic| walk_at "put") => `(tactic| first | exact put_left _ _ _ _ | exact put_at _ _ _ _ | exact merge_drw _ _ _)
/-! what they compute -/
def bitI (n : Int) : Int := (Builtin.Int.intBits n : Nat)
def mx1 (n : Int) : Int := if n > 1 then n else 1
def pbI (g n : Int) : Int := if n < g then n else g + 2 * bitI (mx1 (n - g))
def mbI (a b : Int) (pk : List Int) (g : Int) : Int := (pk.map (pbI g)).sum + (2 * bitI (mx1 a) + (2 * bitI (mx1 b) + 0))
def ngI (pk : List Int) (g : Int) : Int := if g + 3 ≤ maxD 0 pk then mx1 (g - 1) else if g < maxD 0 pk then (if g + 1 < 64 then g + 1 else 64) else g
/-- a merge's paper that is right -/
structure VM (s m e a b : Int) (pk : List Int) : Prop where
  s0 : 0 ≤ s
  sm : s < m
  me : m < e
  e1 : e ≤ 4096
  a0 : 0 ≤ a
  b0 : 0 ≤ b
  am : a ≤ m - s
  bm : b ≤ e - m
  ev : pk.length % 2 = 0
  pos : ∀ x ∈ pk, 1 ≤ x ∧ x ≤ 4096
  len : pk.length ≤ 1000
  sec : (pickI pk none none 2).sum = e - m - b
  fst : (pickI pk (some 1) none 2).sum = m - s - a
structure MA (H : Hp) (p kq pq : Addr) (s m e a b : Int) (pk : List Int) : Prop where
  hp : H p = some (.tup [.int s, .int m, .int e, .ref kq, .ref pq])
  hk : H kq = some (.tup [.int a, .int b])
  hq : H pq = some (.tup (pk.map V.int))
  ne : kq ≠ pq
theorem MA.led {H : Hp} {p kq pq : Addr} {s m e a b : Int} {pk : List Int} (R : MA H p kq pq s m e a b pk) : Hs H [] H [(p, .tup [.int s, .int m, .int e, .ref kq, .ref pq]), (kq, .tup [.int a, .int b]), (pq, .tup (pk.map V.int))] := by
  have h1 : p ≠ kq := ne_of R.hp R.hk (by intro z; cases z)
  have h2 : p ≠ pq := ne_of R.hp R.hq (by
    intro z
    injection z with z
    have z1 := congrArg (fun l => l[3]?) z
    simp only [List.getElem?_map] at z1
    cases hx : pk[3]? <;> simp [hx] at z1)
  refine Hs.start H [] _ (by simp [h1, h2, R.ne]) ?_ (fun b hb => nomatch hb)
  intro q hq
  simp only [List.mem_cons, List.not_mem_nil, or_false] at hq
  rcases hq with rfl | rfl | rfl
  · exact R.hp
  · exact R.hk
  · exact R.hq
/-! the promises -/
def sp_whole : Sp := fun vs H Q _ => ∃ (t l m : Int), vs = [.int t, .int l, .int m] ∧ Q (.bl (decide (l ≤ t) && decide (t ≤ m))) H
def sp_bits : Sp := fun vs H Q _ => ∃ n : Int, vs = [.int n] ∧ 0 ≤ n ∧ Q (.int (Builtin.Int.intBits n : Nat)) H
def sp_gallop : Sp := fun vs H Q _ => ∃ g : Int, vs = [.int g] ∧ 1 ≤ g ∧ g ≤ 64 ∧ Q .non H
def sp_kept : Sp := fun vs H Q _ => ∃ (k : Addr) (a b f g : Int), vs = [.ref k, .int f, .int g] ∧ H k = some (.tup [.int a, .int b]) ∧ 0 ≤ a ∧ a ≤ f ∧ 0 ≤ b ∧ b ≤ g ∧ Q (.bl true) H
def sp_picks : Sp := fun vs H Q _ => ∃ (q : Addr) (pk : List Int) (f g : Int), vs = [.ref q, .int f, .int g] ∧ H q = some (.tup (pk.map V.int)) ∧ pk.length % 2 = 0 ∧ (∀ x ∈ pk, 1 ≤ x ∧ x ≤ 4096) ∧ pk.length ≤ 1000 ∧ (pickI pk none none 2).sum = g ∧ (pickI pk (some 1) none 2).sum = f ∧ ∀ H', Same H H' → Q (.bl true) H'
def sp_ismerge : Sp := fun vs H Q _ => ∃ (p kq pq : Addr) (s m e a b : Int) (pk : List Int), vs = [.ref p, .int 4096] ∧ MA H p kq pq s m e a b pk ∧ VM s m e a b pk ∧ ∀ H', Same H H' → Q (.bl true) H'
def sp_needmerge : Sp := fun vs H Q _ => ∃ (p kq pq : Addr) (s m e a b : Int) (pk : List Int), vs = [.ref p, .int 4096] ∧ MA H p kq pq s m e a b pk ∧ VM s m e a b pk ∧ ∀ H', Same H H' → Q .non H'
def sp_pb : Sp := fun vs H Q _ => ∃ (n g : Int), vs = [.int n, .int g] ∧ Q (.int (pbI g n)) H
def sp_mb : Sp := fun vs H Q _ => ∃ (p kq pq : Addr) (s m e a b g : Int) (pk : List Int), vs = [.ref p, .int g] ∧ MA H p kq pq s m e a b pk ∧ VM s m e a b pk ∧ 1 ≤ g ∧ g ≤ 64 ∧ ∀ H', Same H H' → Q (.int (mbI a b pk g)) H'
def sp_ng : Sp := fun vs H Q _ => ∃ (p kq pq : Addr) (s m e a b g : Int) (pk : List Int), vs = [.ref p, .int g] ∧ MA H p kq pq s m e a b pk ∧ VM s m e a b pk ∧ 1 ≤ g ∧ g ≤ 64 ∧ ∀ H', Same H H' → Q (.int (ngI pk g)) H'
def sp_lbits : Sp := fun vs H Q _ => ∃ n : Int, vs = [.int n] ∧ 0 ≤ n ∧ Q (.int (bitI n)) H
def sp_lbound : Sp := fun vs H Q _ => ∃ (p kq pq : Addr) (s m e a b g : Int) (pk : List Int), vs = [.ref p, .int g] ∧ MA H p kq pq s m e a b pk ∧ ∀ H', Same H H' → Q (.int (mbI a b pk g)) H'
def sp_lnext : Sp := fun vs H Q _ => ∃ (p kq pq : Addr) (s m e a b g : Int) (pk : List Int), vs = [.ref p, .int g] ∧ MA H p kq pq s m e a b pk ∧ 1 ≤ g ∧ g ≤ 64 ∧ pk.length ≤ 1000 ∧ ∀ H', Same H H' → Q (.int (ngI pk g)) H'
def sp_begun (K : PySem.W.Frag) : Sp := fun vs H Q _ => ∃ (s : Addr) (ns : List Int) (k : Int), vs = [.ref s, .int k] ∧ SqL K H s (ns.map V.int) ∧ 0 ≤ k ∧ k ≤ 100 ∧ ∀ (d : Addr) (l c : Int) (H' : Hp), H d = none → H' d = some (.dK (drw l c 0)) → Same H H' → Q (.ref d) H'
def sp_draw : Sp := fun vs H Q _ => ∃ (d : Addr) (l c a n : Int), vs = [.ref d, .int n] ∧ H d = some (.dK (drw l c a)) ∧ 1 ≤ n ∧ n < 2 ^ 60 ∧ 0 ≤ a ∧ a < 2 ^ 40 ∧
  ∀ (r l' a' : Int) (H' : Hp), H' d = some (.dK (drw l' c a')) → (∀ b o, H b = some o → b ≠ d → H' b = some o) → 0 ≤ r → r < n → a ≤ a' → a' ≤ a + 1 → Q (.int r) H'
def sp_law (K : PySem.W.Frag) : Sp := fun vs H Q _ => ∃ (a : Addr) (ns : List Int), vs = [.ref a] ∧ SqL K H a (ns.map V.int) ∧ ns.length ≤ 63 ∧ ∀ H', Q (.bl true) H'
/-! the text -/
abbrev s_is_whole : Stmt := topS 6
theorem sc_is_whole : FnScope ["thing", "least", "most"] ["thing", "least", "most"] (defScope s_is_whole) := ⟨rfl, rfl, rfl, by decide +kernel, rfl, by decide +kernel, by decide +kernel⟩
abbrev s_bits : Stmt := topS 7
theorem sc_bits : FnScope ["number"] ["number"] (defScope s_bits) := ⟨rfl, rfl, rfl, by decide +kernel, rfl, by decide +kernel, by decide +kernel⟩
abbrev s_need_gallop : Stmt := topS 11
theorem sc_need_gallop : FnScope ["gallop"] ["gallop"] (defScope s_need_gallop) := ⟨rfl, rfl, rfl, by decide +kernel, rfl, by decide +kernel, by decide +kernel⟩
abbrev s_is_kept : Stmt := topS 12
theorem sc_is_kept : FnScope ["thing", "first", "second"] ["thing", "first", "second"] (defScope s_is_kept) := ⟨rfl, rfl, rfl, by decide +kernel, rfl, by decide +kernel, by decide +kernel⟩
abbrev s_are_picks : Stmt := topS 13
theorem sc_are_picks : FnScope ["thing", "first", "second", "many"] ["thing", "first", "second"] (defScope s_are_picks) := ⟨rfl, rfl, rfl, by decide +kernel, rfl, by decide +kernel, by decide +kernel⟩
abbrev s_is_merge : Stmt := topS 14
theorem sc_is_merge : FnScope ["thing", "most", "start", "middle", "end", "kept", "picks"] ["thing", "most"] (defScope s_is_merge) := ⟨rfl, rfl, rfl, by decide +kernel, rfl, by decide +kernel, by decide +kernel⟩
abbrev s_need_merge : Stmt := topS 15
theorem sc_need_merge : FnScope ["thing", "most"] ["thing", "most"] (defScope s_need_merge) := ⟨rfl, rfl, rfl, by decide +kernel, rfl, by decide +kernel, by decide +kernel⟩
abbrev s_pick_bound : Stmt := topS 16
theorem sc_pick_bound : FnScope ["many", "gallop"] ["many", "gallop"] (defScope s_pick_bound) := ⟨rfl, rfl, rfl, by decide +kernel, rfl, by decide +kernel, by decide +kernel⟩
abbrev s_merge_bound : Stmt := topS 17
theorem sc_merge_bound : FnScope ["merge", "gallop", "kept", "picks", "many"] ["merge", "gallop"] (defScope s_merge_bound) := ⟨rfl, rfl, rfl, by decide +kernel, rfl, by decide +kernel, by decide +kernel⟩
abbrev s_next_gallop : Stmt := topS 18
theorem sc_next_gallop : FnScope ["merge", "gallop", "longest"] ["merge", "gallop"] (defScope s_next_gallop) := ⟨rfl, rfl, rfl, by decide +kernel, rfl, by decide +kernel, by decide +kernel⟩
abbrev s_l_begun : Stmt := topS 20
theorem sc_l_begun : FnScope ["_law_script", "_law_turn", "_law_folded", "_law_cell", "_law_own"] ["_law_script", "_law_turn"] (defScope s_l_begun) := ⟨rfl, rfl, rfl, by decide +kernel, rfl, by decide +kernel, by decide +kernel⟩
abbrev s_l_draw : Stmt := topS 21
theorem sc_l_draw : FnScope ["_law_state", "_law_many", "_law_found", "_law_at", "_law_prime", "_law_mixed"] ["_law_state", "_law_many"] (defScope s_l_draw) := ⟨rfl, rfl, rfl, by decide +kernel, rfl, by decide +kernel, by decide +kernel⟩
abbrev s_l_lengths : Stmt := topS 22
theorem sc_l_lengths : FnScope ["_law_state", "_law_picks", "_law_kept", "_law_k", "_law_high"] ["_law_state"] (defScope s_l_lengths) := ⟨rfl, rfl, rfl, by decide +kernel, rfl, by decide +kernel, by decide +kernel⟩
abbrev s_l_bits : Stmt := topS 23
theorem sc_l_bits : FnScope ["_law_number", "_law_found"] ["_law_number"] (defScope s_l_bits) := ⟨rfl, rfl, rfl, by decide +kernel, rfl, by decide +kernel, by decide +kernel⟩
abbrev s_l_bound : Stmt := topS 24
theorem sc_l_bound : FnScope ["_law_paper", "_law_speed", "_law_found", "_law_many"] ["_law_paper", "_law_speed"] (defScope s_l_bound) := ⟨rfl, rfl, rfl, by decide +kernel, rfl, by decide +kernel, by decide +kernel⟩
abbrev s_l_next : Stmt := topS 25
theorem sc_l_next : FnScope ["_law_paper", "_law_speed", "_law_many"] ["_law_paper", "_law_speed"] (defScope s_l_next) := ⟨rfl, rfl, rfl, by decide +kernel, rfl, by decide +kernel, by decide +kernel⟩
abbrev s_l_merge : Stmt := topS 26
theorem sc_l_merge : FnScope ["_law_state", "_law_kept", "_law_picks", "_law_first", "_law_second", "_law_begin"] ["_law_state"] (defScope s_l_merge) := ⟨rfl, rfl, rfl, by decide +kernel, rfl, by decide +kernel, by decide +kernel⟩
abbrev s_l_told_right : Stmt := topS 27
theorem sc_l_told_right : FnScope ["_law_paper", "_law_speed", "_law_due"] ["_law_paper", "_law_speed"] (defScope s_l_told_right) := ⟨rfl, rfl, rfl, by decide +kernel, rfl, by decide +kernel, by decide +kernel⟩
abbrev s_l_by_hand_right : Stmt := topS 28
theorem sc_l_by_hand_right : FnScope ["_law_rows", "_law_paper", "_law_speed", "_law_bound_here", "_law_left"] [] (defScope s_l_by_hand_right) := ⟨rfl, rfl, rfl, by decide +kernel, rfl, by decide +kernel, by decide +kernel⟩
abbrev s_law : Stmt := topS 29
theorem sc_law : FnScope ["_law_script", "_law_turn", "_law_state", "_law_again", "_law_paper", "_law_some", "_law_near", "_law_speed"] ["_law_script"] (defScope s_law) := ⟨rfl, rfl, rfl, by decide +kernel, rfl, by decide +kernel, by decide +kernel⟩
structure Ad where
  (f_is_whole f_bits f_need_gallop f_is_kept f_are_picks f_is_merge f_need_merge f_pick_bound f_merge_bound f_next_gallop f__law_begun f__law_draw f__law_lengths f__law_bits f__law_bound f__law_next f__law_merge f__law_told_right f__law_by_hand_right f_law : Addr)
  (d_is_whole d_bits d_need_gallop d_is_kept d_are_picks d_is_merge d_need_merge d_pick_bound d_merge_bound d_next_gallop d__law_begun d__law_draw d__law_lengths d__law_bits d__law_bound d__law_next d__law_merge d__law_told_right d__law_by_hand_right d_law : FuncData)
structure Txt (K : PySem.W.Frag) (mg : Str → Option Value) (w : World) (A : Ad) : Prop where
  c_is_whole : CalD K mg "is_whole" s_is_whole [("least", .int 0), ("most", .int 4096)] A.f_is_whole A.d_is_whole
  c_bits : Cal K mg "bits" s_bits ["number"] A.f_bits A.d_bits
  c_need_gallop : Cal K mg "need_gallop" s_need_gallop ["gallop"] A.f_need_gallop A.d_need_gallop
  c_is_kept : Cal K mg "is_kept" s_is_kept ["thing", "first", "second"] A.f_is_kept A.d_is_kept
  c_are_picks : Cal K mg "are_picks" s_are_picks ["thing", "first", "second"] A.f_are_picks A.d_are_picks
  c_is_merge : CalD K mg "is_merge" s_is_merge [("most", .int 4096)] A.f_is_merge A.d_is_merge
  c_need_merge : CalD K mg "need_merge" s_need_merge [("most", .int 4096)] A.f_need_merge A.d_need_merge
  c_pick_bound : Cal K mg "pick_bound" s_pick_bound ["many", "gallop"] A.f_pick_bound A.d_pick_bound
  c_merge_bound : CalD K mg "merge_bound" s_merge_bound [("gallop", .int 3)] A.f_merge_bound A.d_merge_bound
  c_next_gallop : CalD K mg "next_gallop" s_next_gallop [("gallop", .int 3)] A.f_next_gallop A.d_next_gallop
  c__law_begun : Cal K mg "_law_begun" s_l_begun ["_law_script", "_law_turn"] A.f__law_begun A.d__law_begun
  c__law_draw : Cal K mg "_law_draw" s_l_draw ["_law_state", "_law_many"] A.f__law_draw A.d__law_draw
  c__law_lengths : Cal K mg "_law_lengths" s_l_lengths ["_law_state"] A.f__law_lengths A.d__law_lengths
  c__law_bits : Cal K mg "_law_bits" s_l_bits ["_law_number"] A.f__law_bits A.d__law_bits
  c__law_bound : Cal K mg "_law_bound" s_l_bound ["_law_paper", "_law_speed"] A.f__law_bound A.d__law_bound
  c__law_next : Cal K mg "_law_next" s_l_next ["_law_paper", "_law_speed"] A.f__law_next A.d__law_next
  c__law_merge : Cal K mg "_law_merge" s_l_merge ["_law_state"] A.f__law_merge A.d__law_merge
  c__law_told_right : Cal K mg "_law_told_right" s_l_told_right ["_law_paper", "_law_speed"] A.f__law_told_right A.d__law_told_right
  c__law_by_hand_right : Cal K mg "_law_by_hand_right" s_l_by_hand_right [] A.f__law_by_hand_right A.d__law_by_hand_right
  c_law : Cal K mg "law" s_law ["_law_script"] A.f_law A.d_law
  g_MOST_THINGS : ∃ u, mg "MOST_THINGS" = some u ∧ RelV (.int 4096) u
  g_GALLOP : ∃ u, mg "GALLOP" = some u ∧ RelV (.int 3) u
  g_MOST_GALLOP : ∃ u, mg "MOST_GALLOP" = some u ∧ RelV (.int 64) u
  n_len : mg "len" = none
  n_min : mg "min" = none
  n_max : mg "max" = none
  n_range : mg "range" = none
  n_repr : mg "repr" = none
  n_isinstance : mg "isinstance" = none
  n_int : mg "int" = none
  n_bool : mg "bool" = none
  n_tuple : mg "tuple" = none
  n_list : mg "list" = none
  n_sum : mg "sum" = none
  n_all : mg "all" = none
set_option maxHeartbeats 0 in
theorem all_mk {K : PySem.W.Frag} {mg : Str → Option Value} {w : World} {h : Heap} {f_is_whole : Addr} {D_is_whole : Addr} {oc_is_whole doc_is_whole pm_is_whole cd_is_whole ct_is_whole : Value} {od_is_whole an_is_whole : Option Addr} {osl_is_whole : Array (Option Value)} {f_bits : Addr} {oc_bits doc_bits pm_bits cd_bits ct_bits kV_bits : Value} {od_bits an_bits : Option Addr} {osl_bits : Array (Option Value)} {f_need_gallop : Addr} {oc_need_gallop doc_need_gallop pm_need_gallop cd_need_gallop ct_need_gallop kV_need_gallop : Value} {od_need_gallop an_need_gallop : Option Addr} {osl_need_gallop : Array (Option Value)} {f_is_kept : Addr} {oc_is_kept doc_is_kept pm_is_kept cd_is_kept ct_is_kept kV_is_kept : Value} {od_is_kept an_is_kept : Option Addr} {osl_is_kept : Array (Option Value)} {f_are_picks : Addr} {oc_are_picks doc_are_picks pm_are_picks cd_are_picks ct_are_picks kV_are_picks : Value} {od_are_picks an_are_picks : Option Addr} {osl_are_picks : Array (Option Value)} {f_is_merge : Addr} {D_is_merge : Addr} {oc_is_merge doc_is_merge pm_is_merge cd_is_merge ct_is_merge : Value} {od_is_merge an_is_merge : Option Addr} {osl_is_merge : Array (Option Value)} {f_need_merge : Addr} {D_need_merge : Addr} {oc_need_merge doc_need_merge pm_need_merge cd_need_merge ct_need_merge : Value} {od_need_merge an_need_merge : Option Addr} {osl_need_merge : Array (Option Value)} {f_pick_bound : Addr} {oc_pick_bound doc_pick_bound pm_pick_bound cd_pick_bound ct_pick_bound kV_pick_bound : Value} {od_pick_bound an_pick_bound : Option Addr} {osl_pick_bound : Array (Option Value)} {f_merge_bound : Addr} {D_merge_bound : Addr} {oc_merge_bound doc_merge_bound pm_merge_bound cd_merge_bound ct_merge_bound : Value} {od_merge_bound an_merge_bound : Option Addr} {osl_merge_bound : Array (Option Value)} {f_next_gallop : Addr} {D_next_gallop : Addr} {oc_next_gallop doc_next_gallop pm_next_gallop cd_next_gallop ct_next_gallop : Value} {od_next_gallop an_next_gallop : Option Addr} {osl_next_gallop : Array (Option Value)} {f__law_begun : Addr} {oc__law_begun doc__law_begun pm__law_begun cd__law_begun ct__law_begun kV__law_begun : Value} {od__law_begun an__law_begun : Option Addr} {osl__law_begun : Array (Option Value)} {f__law_draw : Addr} {oc__law_draw doc__law_draw pm__law_draw cd__law_draw ct__law_draw kV__law_draw : Value} {od__law_draw an__law_draw : Option Addr} {osl__law_draw : Array (Option Value)} {f__law_lengths : Addr} {oc__law_lengths doc__law_lengths pm__law_lengths cd__law_lengths ct__law_lengths kV__law_lengths : Value} {od__law_lengths an__law_lengths : Option Addr} {osl__law_lengths : Array (Option Value)} {f__law_bits : Addr} {oc__law_bits doc__law_bits pm__law_bits cd__law_bits ct__law_bits kV__law_bits : Value} {od__law_bits an__law_bits : Option Addr} {osl__law_bits : Array (Option Value)} {f__law_bound : Addr} {oc__law_bound doc__law_bound pm__law_bound cd__law_bound ct__law_bound kV__law_bound : Value} {od__law_bound an__law_bound : Option Addr} {osl__law_bound : Array (Option Value)} {f__law_next : Addr} {oc__law_next doc__law_next pm__law_next cd__law_next ct__law_next kV__law_next : Value} {od__law_next an__law_next : Option Addr} {osl__law_next : Array (Option Value)} {f__law_merge : Addr} {oc__law_merge doc__law_merge pm__law_merge cd__law_merge ct__law_merge kV__law_merge : Value} {od__law_merge an__law_merge : Option Addr} {osl__law_merge : Array (Option Value)} {f__law_told_right : Addr} {oc__law_told_right doc__law_told_right pm__law_told_right cd__law_told_right ct__law_told_right kV__law_told_right : Value} {od__law_told_right an__law_told_right : Option Addr} {osl__law_told_right : Array (Option Value)} {f__law_by_hand_right : Addr} {oc__law_by_hand_right doc__law_by_hand_right pm__law_by_hand_right cd__law_by_hand_right ct__law_by_hand_right kV__law_by_hand_right : Value} {od__law_by_hand_right an__law_by_hand_right : Option Addr} {osl__law_by_hand_right : Array (Option Value)} {f_law : Addr} {oc_law doc_law pm_law cd_law ct_law kV_law : Value} {od_law an_law : Option Addr} {osl_law : Array (Option Value)} {u_MOST_THINGS : Value} {u_GALLOP : Value} {u_MOST_GALLOP : Value} (X : K.In h) (G : h.Ns mainGlobals mg)
    (a_is_whole : PySem.W.nsIn K mainGlobals "is_whole" = some (some (.ref f_is_whole)))
    (l_is_whole : K.lookup f_is_whole = some ⟨oc_is_whole, od_is_whole, .func (PySem.W.fnOf "is_whole" "is_whole" (defArgs s_is_whole) (defBody s_is_whole) (defScope s_is_whole) .none (.ref D_is_whole) doc_is_whole pm_is_whole an_is_whole cd_is_whole ct_is_whole), osl_is_whole⟩)
    (e_is_whole : PySem.W.codeIn K cd_is_whole "is_whole" = true)
    (k_is_whole : PySem.W.keepIn K (.ref f_is_whole) = true)
    (dd_is_whole : ∀ q ∈ ([("least", .int 0), ("most", .int 4096)] : List (Str × V)), ∃ u, PySem.W.nsIn K D_is_whole q.1 = some (some u) ∧ RelV q.2 u)
    (a_bits : PySem.W.nsIn K mainGlobals "bits" = some (some (.ref f_bits)))
    (l_bits : K.lookup f_bits = some ⟨oc_bits, od_bits, .func (PySem.W.fnOf "bits" "bits" (defArgs s_bits) (defBody s_bits) (defScope s_bits) .none kV_bits doc_bits pm_bits an_bits cd_bits ct_bits), osl_bits⟩)
    (e_bits : PySem.W.codeIn K cd_bits "bits" = true)
    (k_bits : PySem.W.keepIn K (.ref f_bits) = true)
    (a_need_gallop : PySem.W.nsIn K mainGlobals "need_gallop" = some (some (.ref f_need_gallop)))
    (l_need_gallop : K.lookup f_need_gallop = some ⟨oc_need_gallop, od_need_gallop, .func (PySem.W.fnOf "need_gallop" "need_gallop" (defArgs s_need_gallop) (defBody s_need_gallop) (defScope s_need_gallop) .none kV_need_gallop doc_need_gallop pm_need_gallop an_need_gallop cd_need_gallop ct_need_gallop), osl_need_gallop⟩)
    (e_need_gallop : PySem.W.codeIn K cd_need_gallop "need_gallop" = true)
    (k_need_gallop : PySem.W.keepIn K (.ref f_need_gallop) = true)
    (a_is_kept : PySem.W.nsIn K mainGlobals "is_kept" = some (some (.ref f_is_kept)))
    (l_is_kept : K.lookup f_is_kept = some ⟨oc_is_kept, od_is_kept, .func (PySem.W.fnOf "is_kept" "is_kept" (defArgs s_is_kept) (defBody s_is_kept) (defScope s_is_kept) .none kV_is_kept doc_is_kept pm_is_kept an_is_kept cd_is_kept ct_is_kept), osl_is_kept⟩)
    (e_is_kept : PySem.W.codeIn K cd_is_kept "is_kept" = true)
    (k_is_kept : PySem.W.keepIn K (.ref f_is_kept) = true)
    (a_are_picks : PySem.W.nsIn K mainGlobals "are_picks" = some (some (.ref f_are_picks)))
    (l_are_picks : K.lookup f_are_picks = some ⟨oc_are_picks, od_are_picks, .func (PySem.W.fnOf "are_picks" "are_picks" (defArgs s_are_picks) (defBody s_are_picks) (defScope s_are_picks) .none kV_are_picks doc_are_picks pm_are_picks an_are_picks cd_are_picks ct_are_picks), osl_are_picks⟩)
    (e_are_picks : PySem.W.codeIn K cd_are_picks "are_picks" = true)
    (k_are_picks : PySem.W.keepIn K (.ref f_are_picks) = true)
    (a_is_merge : PySem.W.nsIn K mainGlobals "is_merge" = some (some (.ref f_is_merge)))
    (l_is_merge : K.lookup f_is_merge = some ⟨oc_is_merge, od_is_merge, .func (PySem.W.fnOf "is_merge" "is_merge" (defArgs s_is_merge) (defBody s_is_merge) (defScope s_is_merge) .none (.ref D_is_merge) doc_is_merge pm_is_merge an_is_merge cd_is_merge ct_is_merge), osl_is_merge⟩)
    (e_is_merge : PySem.W.codeIn K cd_is_merge "is_merge" = true)
    (k_is_merge : PySem.W.keepIn K (.ref f_is_merge) = true)
    (dd_is_merge : ∀ q ∈ ([("most", .int 4096)] : List (Str × V)), ∃ u, PySem.W.nsIn K D_is_merge q.1 = some (some u) ∧ RelV q.2 u)
    (a_need_merge : PySem.W.nsIn K mainGlobals "need_merge" = some (some (.ref f_need_merge)))
    (l_need_merge : K.lookup f_need_merge = some ⟨oc_need_merge, od_need_merge, .func (PySem.W.fnOf "need_merge" "need_merge" (defArgs s_need_merge) (defBody s_need_merge) (defScope s_need_merge) .none (.ref D_need_merge) doc_need_merge pm_need_merge an_need_merge cd_need_merge ct_need_merge), osl_need_merge⟩)
    (e_need_merge : PySem.W.codeIn K cd_need_merge "need_merge" = true)
    (k_need_merge : PySem.W.keepIn K (.ref f_need_merge) = true)
    (dd_need_merge : ∀ q ∈ ([("most", .int 4096)] : List (Str × V)), ∃ u, PySem.W.nsIn K D_need_merge q.1 = some (some u) ∧ RelV q.2 u)
    (a_pick_bound : PySem.W.nsIn K mainGlobals "pick_bound" = some (some (.ref f_pick_bound)))
    (l_pick_bound : K.lookup f_pick_bound = some ⟨oc_pick_bound, od_pick_bound, .func (PySem.W.fnOf "pick_bound" "pick_bound" (defArgs s_pick_bound) (defBody s_pick_bound) (defScope s_pick_bound) .none kV_pick_bound doc_pick_bound pm_pick_bound an_pick_bound cd_pick_bound ct_pick_bound), osl_pick_bound⟩)
    (e_pick_bound : PySem.W.codeIn K cd_pick_bound "pick_bound" = true)
    (k_pick_bound : PySem.W.keepIn K (.ref f_pick_bound) = true)
    (a_merge_bound : PySem.W.nsIn K mainGlobals "merge_bound" = some (some (.ref f_merge_bound)))
    (l_merge_bound : K.lookup f_merge_bound = some ⟨oc_merge_bound, od_merge_bound, .func (PySem.W.fnOf "merge_bound" "merge_bound" (defArgs s_merge_bound) (defBody s_merge_bound) (defScope s_merge_bound) .none (.ref D_merge_bound) doc_merge_bound pm_merge_bound an_merge_bound cd_merge_bound ct_merge_bound), osl_merge_bound⟩)
    (e_merge_bound : PySem.W.codeIn K cd_merge_bound "merge_bound" = true)
    (k_merge_bound : PySem.W.keepIn K (.ref f_merge_bound) = true)
    (dd_merge_bound : ∀ q ∈ ([("gallop", .int 3)] : List (Str × V)), ∃ u, PySem.W.nsIn K D_merge_bound q.1 = some (some u) ∧ RelV q.2 u)
    (a_next_gallop : PySem.W.nsIn K mainGlobals "next_gallop" = some (some (.ref f_next_gallop)))
    (l_next_gallop : K.lookup f_next_gallop = some ⟨oc_next_gallop, od_next_gallop, .func (PySem.W.fnOf "next_gallop" "next_gallop" (defArgs s_next_gallop) (defBody s_next_gallop) (defScope s_next_gallop) .none (.ref D_next_gallop) doc_next_gallop pm_next_gallop an_next_gallop cd_next_gallop ct_next_gallop), osl_next_gallop⟩)
    (e_next_gallop : PySem.W.codeIn K cd_next_gallop "next_gallop" = true)
    (k_next_gallop : PySem.W.keepIn K (.ref f_next_gallop) = true)
    (dd_next_gallop : ∀ q ∈ ([("gallop", .int 3)] : List (Str × V)), ∃ u, PySem.W.nsIn K D_next_gallop q.1 = some (some u) ∧ RelV q.2 u)
    (a__law_begun : PySem.W.nsIn K mainGlobals "_law_begun" = some (some (.ref f__law_begun)))
    (l__law_begun : K.lookup f__law_begun = some ⟨oc__law_begun, od__law_begun, .func (PySem.W.fnOf "_law_begun" "_law_begun" (defArgs s_l_begun) (defBody s_l_begun) (defScope s_l_begun) .none kV__law_begun doc__law_begun pm__law_begun an__law_begun cd__law_begun ct__law_begun), osl__law_begun⟩)
    (e__law_begun : PySem.W.codeIn K cd__law_begun "_law_begun" = true)
    (k__law_begun : PySem.W.keepIn K (.ref f__law_begun) = true)
    (a__law_draw : PySem.W.nsIn K mainGlobals "_law_draw" = some (some (.ref f__law_draw)))
    (l__law_draw : K.lookup f__law_draw = some ⟨oc__law_draw, od__law_draw, .func (PySem.W.fnOf "_law_draw" "_law_draw" (defArgs s_l_draw) (defBody s_l_draw) (defScope s_l_draw) .none kV__law_draw doc__law_draw pm__law_draw an__law_draw cd__law_draw ct__law_draw), osl__law_draw⟩)
    (e__law_draw : PySem.W.codeIn K cd__law_draw "_law_draw" = true)
    (k__law_draw : PySem.W.keepIn K (.ref f__law_draw) = true)
    (a__law_lengths : PySem.W.nsIn K mainGlobals "_law_lengths" = some (some (.ref f__law_lengths)))
    (l__law_lengths : K.lookup f__law_lengths = some ⟨oc__law_lengths, od__law_lengths, .func (PySem.W.fnOf "_law_lengths" "_law_lengths" (defArgs s_l_lengths) (defBody s_l_lengths) (defScope s_l_lengths) .none kV__law_lengths doc__law_lengths pm__law_lengths an__law_lengths cd__law_lengths ct__law_lengths), osl__law_lengths⟩)
    (e__law_lengths : PySem.W.codeIn K cd__law_lengths "_law_lengths" = true)
    (k__law_lengths : PySem.W.keepIn K (.ref f__law_lengths) = true)
    (a__law_bits : PySem.W.nsIn K mainGlobals "_law_bits" = some (some (.ref f__law_bits)))
    (l__law_bits : K.lookup f__law_bits = some ⟨oc__law_bits, od__law_bits, .func (PySem.W.fnOf "_law_bits" "_law_bits" (defArgs s_l_bits) (defBody s_l_bits) (defScope s_l_bits) .none kV__law_bits doc__law_bits pm__law_bits an__law_bits cd__law_bits ct__law_bits), osl__law_bits⟩)
    (e__law_bits : PySem.W.codeIn K cd__law_bits "_law_bits" = true)
    (k__law_bits : PySem.W.keepIn K (.ref f__law_bits) = true)
    (a__law_bound : PySem.W.nsIn K mainGlobals "_law_bound" = some (some (.ref f__law_bound)))
    (l__law_bound : K.lookup f__law_bound = some ⟨oc__law_bound, od__law_bound, .func (PySem.W.fnOf "_law_bound" "_law_bound" (defArgs s_l_bound) (defBody s_l_bound) (defScope s_l_bound) .none kV__law_bound doc__law_bound pm__law_bound an__law_bound cd__law_bound ct__law_bound), osl__law_bound⟩)
    (e__law_bound : PySem.W.codeIn K cd__law_bound "_law_bound" = true)
    (k__law_bound : PySem.W.keepIn K (.ref f__law_bound) = true)
    (a__law_next : PySem.W.nsIn K mainGlobals "_law_next" = some (some (.ref f__law_next)))
    (l__law_next : K.lookup f__law_next = some ⟨oc__law_next, od__law_next, .func (PySem.W.fnOf "_law_next" "_law_next" (defArgs s_l_next) (defBody s_l_next) (defScope s_l_next) .none kV__law_next doc__law_next pm__law_next an__law_next cd__law_next ct__law_next), osl__law_next⟩)
    (e__law_next : PySem.W.codeIn K cd__law_next "_law_next" = true)
    (k__law_next : PySem.W.keepIn K (.ref f__law_next) = true)
    (a__law_merge : PySem.W.nsIn K mainGlobals "_law_merge" = some (some (.ref f__law_merge)))
    (l__law_merge : K.lookup f__law_merge = some ⟨oc__law_merge, od__law_merge, .func (PySem.W.fnOf "_law_merge" "_law_merge" (defArgs s_l_merge) (defBody s_l_merge) (defScope s_l_merge) .none kV__law_merge doc__law_merge pm__law_merge an__law_merge cd__law_merge ct__law_merge), osl__law_merge⟩)
    (e__law_merge : PySem.W.codeIn K cd__law_merge "_law_merge" = true)
    (k__law_merge : PySem.W.keepIn K (.ref f__law_merge) = true)
    (a__law_told_right : PySem.W.nsIn K mainGlobals "_law_told_right" = some (some (.ref f__law_told_right)))
    (l__law_told_right : K.lookup f__law_told_right = some ⟨oc__law_told_right, od__law_told_right, .func (PySem.W.fnOf "_law_told_right" "_law_told_right" (defArgs s_l_told_right) (defBody s_l_told_right) (defScope s_l_told_right) .none kV__law_told_right doc__law_told_right pm__law_told_right an__law_told_right cd__law_told_right ct__law_told_right), osl__law_told_right⟩)
    (e__law_told_right : PySem.W.codeIn K cd__law_told_right "_law_told_right" = true)
    (k__law_told_right : PySem.W.keepIn K (.ref f__law_told_right) = true)
    (a__law_by_hand_right : PySem.W.nsIn K mainGlobals "_law_by_hand_right" = some (some (.ref f__law_by_hand_right)))
    (l__law_by_hand_right : K.lookup f__law_by_hand_right = some ⟨oc__law_by_hand_right, od__law_by_hand_right, .func (PySem.W.fnOf "_law_by_hand_right" "_law_by_hand_right" (defArgs s_l_by_hand_right) (defBody s_l_by_hand_right) (defScope s_l_by_hand_right) .none kV__law_by_hand_right doc__law_by_hand_right pm__law_by_hand_right an__law_by_hand_right cd__law_by_hand_right ct__law_by_hand_right), osl__law_by_hand_right⟩)
    (e__law_by_hand_right : PySem.W.codeIn K cd__law_by_hand_right "_law_by_hand_right" = true)
    (k__law_by_hand_right : PySem.W.keepIn K (.ref f__law_by_hand_right) = true)
    (a_law : PySem.W.nsIn K mainGlobals "law" = some (some (.ref f_law)))
    (l_law : K.lookup f_law = some ⟨oc_law, od_law, .func (PySem.W.fnOf "law" "law" (defArgs s_law) (defBody s_law) (defScope s_law) .none kV_law doc_law pm_law an_law cd_law ct_law), osl_law⟩)
    (e_law : PySem.W.codeIn K cd_law "law" = true)
    (k_law : PySem.W.keepIn K (.ref f_law) = true)
    (g_MOST_THINGS : PySem.W.nsIn K mainGlobals "MOST_THINGS" = some (some u_MOST_THINGS))
    (r_MOST_THINGS : RelV (.int 4096) u_MOST_THINGS)
    (g_GALLOP : PySem.W.nsIn K mainGlobals "GALLOP" = some (some u_GALLOP))
    (r_GALLOP : RelV (.int 3) u_GALLOP)
    (g_MOST_GALLOP : PySem.W.nsIn K mainGlobals "MOST_GALLOP" = some (some u_MOST_GALLOP))
    (r_MOST_GALLOP : RelV (.int 64) u_MOST_GALLOP)
    (z_len : PySem.W.nsIn K mainGlobals "len" = some none)
    (z_min : PySem.W.nsIn K mainGlobals "min" = some none)
    (z_max : PySem.W.nsIn K mainGlobals "max" = some none)
    (z_range : PySem.W.nsIn K mainGlobals "range" = some none)
    (z_repr : PySem.W.nsIn K mainGlobals "repr" = some none)
    (z_isinstance : PySem.W.nsIn K mainGlobals "isinstance" = some none)
    (z_int : PySem.W.nsIn K mainGlobals "int" = some none)
    (z_bool : PySem.W.nsIn K mainGlobals "bool" = some none)
    (z_tuple : PySem.W.nsIn K mainGlobals "tuple" = some none)
    (z_list : PySem.W.nsIn K mainGlobals "list" = some none)
    (z_sum : PySem.W.nsIn K mainGlobals "sum" = some none)
    (z_all : PySem.W.nsIn K mainGlobals "all" = some none)
    : ∃ A, Txt K mg w A :=
  ⟨⟨f_is_whole, f_bits, f_need_gallop, f_is_kept, f_are_picks, f_is_merge, f_need_merge, f_pick_bound, f_merge_bound, f_next_gallop, f__law_begun, f__law_draw, f__law_lengths, f__law_bits, f__law_bound, f__law_next, f__law_merge, f__law_told_right, f__law_by_hand_right, f_law, (PySem.W.fnOf "is_whole" "is_whole" (defArgs s_is_whole) (defBody s_is_whole) (defScope s_is_whole) .none (.ref D_is_whole) doc_is_whole pm_is_whole an_is_whole cd_is_whole ct_is_whole), (PySem.W.fnOf "bits" "bits" (defArgs s_bits) (defBody s_bits) (defScope s_bits) .none kV_bits doc_bits pm_bits an_bits cd_bits ct_bits), (PySem.W.fnOf "need_gallop" "need_gallop" (defArgs s_need_gallop) (defBody s_need_gallop) (defScope s_need_gallop) .none kV_need_gallop doc_need_gallop pm_need_gallop an_need_gallop cd_need_gallop ct_need_gallop), (PySem.W.fnOf "is_kept" "is_kept" (defArgs s_is_kept) (defBody s_is_kept) (defScope s_is_kept) .none kV_is_kept doc_is_kept pm_is_kept an_is_kept cd_is_kept ct_is_kept), (PySem.W.fnOf "are_picks" "are_picks" (defArgs s_are_picks) (defBody s_are_picks) (defScope s_are_picks) .none kV_are_picks doc_are_picks pm_are_picks an_are_picks cd_are_picks ct_are_picks), (PySem.W.fnOf "is_merge" "is_merge" (defArgs s_is_merge) (defBody s_is_merge) (defScope s_is_merge) .none (.ref D_is_merge) doc_is_merge pm_is_merge an_is_merge cd_is_merge ct_is_merge), (PySem.W.fnOf "need_merge" "need_merge" (defArgs s_need_merge) (defBody s_need_merge) (defScope s_need_merge) .none (.ref D_need_merge) doc_need_merge pm_need_merge an_need_merge cd_need_merge ct_need_merge), (PySem.W.fnOf "pick_bound" "pick_bound" (defArgs s_pick_bound) (defBody s_pick_bound) (defScope s_pick_bound) .none kV_pick_bound doc_pick_bound pm_pick_bound an_pick_bound cd_pick_bound ct_pick_bound), (PySem.W.fnOf "merge_bound" "merge_bound" (defArgs s_merge_bound) (defBody s_merge_bound) (defScope s_merge_bound) .none (.ref D_merge_bound) doc_merge_bound pm_merge_bound an_merge_bound cd_merge_bound ct_merge_bound), (PySem.W.fnOf "next_gallop" "next_gallop" (defArgs s_next_gallop) (defBody s_next_gallop) (defScope s_next_gallop) .none (.ref D_next_gallop) doc_next_gallop pm_next_gallop an_next_gallop cd_next_gallop ct_next_gallop), (PySem.W.fnOf "_law_begun" "_law_begun" (defArgs s_l_begun) (defBody s_l_begun) (defScope s_l_begun) .none kV__law_begun doc__law_begun pm__law_begun an__law_begun cd__law_begun ct__law_begun), (PySem.W.fnOf "_law_draw" "_law_draw" (defArgs s_l_draw) (defBody s_l_draw) (defScope s_l_draw) .none kV__law_draw doc__law_draw pm__law_draw an__law_draw cd__law_draw ct__law_draw), (PySem.W.fnOf "_law_lengths" "_law_lengths" (defArgs s_l_lengths) (defBody s_l_lengths) (defScope s_l_lengths) .none kV__law_lengths doc__law_lengths pm__law_lengths an__law_lengths cd__law_lengths ct__law_lengths), (PySem.W.fnOf "_law_bits" "_law_bits" (defArgs s_l_bits) (defBody s_l_bits) (defScope s_l_bits) .none kV__law_bits doc__law_bits pm__law_bits an__law_bits cd__law_bits ct__law_bits), (PySem.W.fnOf "_law_bound" "_law_bound" (defArgs s_l_bound) (defBody s_l_bound) (defScope s_l_bound) .none kV__law_bound doc__law_bound pm__law_bound an__law_bound cd__law_bound ct__law_bound), (PySem.W.fnOf "_law_next" "_law_next" (defArgs s_l_next) (defBody s_l_next) (defScope s_l_next) .none kV__law_next doc__law_next pm__law_next an__law_next cd__law_next ct__law_next), (PySem.W.fnOf "_law_merge" "_law_merge" (defArgs s_l_merge) (defBody s_l_merge) (defScope s_l_merge) .none kV__law_merge doc__law_merge pm__law_merge an__law_merge cd__law_merge ct__law_merge), (PySem.W.fnOf "_law_told_right" "_law_told_right" (defArgs s_l_told_right) (defBody s_l_told_right) (defScope s_l_told_right) .none kV__law_told_right doc__law_told_right pm__law_told_right an__law_told_right cd__law_told_right ct__law_told_right), (PySem.W.fnOf "_law_by_hand_right" "_law_by_hand_right" (defArgs s_l_by_hand_right) (defBody s_l_by_hand_right) (defScope s_l_by_hand_right) .none kV__law_by_hand_right doc__law_by_hand_right pm__law_by_hand_right an__law_by_hand_right cd__law_by_hand_right ct__law_by_hand_right), (PySem.W.fnOf "law" "law" (defArgs s_law) (defBody s_law) (defScope s_law) .none kV_law doc_law pm_law an_law cd_law ct_law)⟩,
    { c_is_whole := ⟨⟨⟨_, _, .none, .ref D_is_whole, _, _, _, _, _, _, rfl, l_is_whole, e_is_whole, Or.inl ⟨rfl, rfl⟩, Or.inr ⟨D_is_whole, rfl, dd_is_whole⟩⟩, k_is_whole⟩, PySem.W.mg_of X G a_is_whole⟩
      c_bits := ⟨fun_mk l_bits e_bits k_bits, (fun_mk (st := s_bits) l_bits e_bits k_bits).binds (ps := ["number"]) (fun _ _ _ _ _ _ us hl => match us, hl with | [_], _ => rfl), PySem.W.mg_of X G a_bits⟩
      c_need_gallop := ⟨fun_mk l_need_gallop e_need_gallop k_need_gallop, (fun_mk (st := s_need_gallop) l_need_gallop e_need_gallop k_need_gallop).binds (ps := ["gallop"]) (fun _ _ _ _ _ _ us hl => match us, hl with | [_], _ => rfl), PySem.W.mg_of X G a_need_gallop⟩
      c_is_kept := ⟨fun_mk l_is_kept e_is_kept k_is_kept, (fun_mk (st := s_is_kept) l_is_kept e_is_kept k_is_kept).binds (ps := ["thing", "first", "second"]) (fun _ _ _ _ _ _ us hl => match us, hl with | [_, _, _], _ => rfl), PySem.W.mg_of X G a_is_kept⟩
      c_are_picks := ⟨fun_mk l_are_picks e_are_picks k_are_picks, (fun_mk (st := s_are_picks) l_are_picks e_are_picks k_are_picks).binds (ps := ["thing", "first", "second"]) (fun _ _ _ _ _ _ us hl => match us, hl with | [_, _, _], _ => rfl), PySem.W.mg_of X G a_are_picks⟩
      c_is_merge := ⟨⟨⟨_, _, .none, .ref D_is_merge, _, _, _, _, _, _, rfl, l_is_merge, e_is_merge, Or.inl ⟨rfl, rfl⟩, Or.inr ⟨D_is_merge, rfl, dd_is_merge⟩⟩, k_is_merge⟩, PySem.W.mg_of X G a_is_merge⟩
      c_need_merge := ⟨⟨⟨_, _, .none, .ref D_need_merge, _, _, _, _, _, _, rfl, l_need_merge, e_need_merge, Or.inl ⟨rfl, rfl⟩, Or.inr ⟨D_need_merge, rfl, dd_need_merge⟩⟩, k_need_merge⟩, PySem.W.mg_of X G a_need_merge⟩
      c_pick_bound := ⟨fun_mk l_pick_bound e_pick_bound k_pick_bound, (fun_mk (st := s_pick_bound) l_pick_bound e_pick_bound k_pick_bound).binds (ps := ["many", "gallop"]) (fun _ _ _ _ _ _ us hl => match us, hl with | [_, _], _ => rfl), PySem.W.mg_of X G a_pick_bound⟩
      c_merge_bound := ⟨⟨⟨_, _, .none, .ref D_merge_bound, _, _, _, _, _, _, rfl, l_merge_bound, e_merge_bound, Or.inl ⟨rfl, rfl⟩, Or.inr ⟨D_merge_bound, rfl, dd_merge_bound⟩⟩, k_merge_bound⟩, PySem.W.mg_of X G a_merge_bound⟩
      c_next_gallop := ⟨⟨⟨_, _, .none, .ref D_next_gallop, _, _, _, _, _, _, rfl, l_next_gallop, e_next_gallop, Or.inl ⟨rfl, rfl⟩, Or.inr ⟨D_next_gallop, rfl, dd_next_gallop⟩⟩, k_next_gallop⟩, PySem.W.mg_of X G a_next_gallop⟩
      c__law_begun := ⟨fun_mk l__law_begun e__law_begun k__law_begun, (fun_mk (st := s_l_begun) l__law_begun e__law_begun k__law_begun).binds (ps := ["_law_script", "_law_turn"]) (fun _ _ _ _ _ _ us hl => match us, hl with | [_, _], _ => rfl), PySem.W.mg_of X G a__law_begun⟩
      c__law_draw := ⟨fun_mk l__law_draw e__law_draw k__law_draw, (fun_mk (st := s_l_draw) l__law_draw e__law_draw k__law_draw).binds (ps := ["_law_state", "_law_many"]) (fun _ _ _ _ _ _ us hl => match us, hl with | [_, _], _ => rfl), PySem.W.mg_of X G a__law_draw⟩
      c__law_lengths := ⟨fun_mk l__law_lengths e__law_lengths k__law_lengths, (fun_mk (st := s_l_lengths) l__law_lengths e__law_lengths k__law_lengths).binds (ps := ["_law_state"]) (fun _ _ _ _ _ _ us hl => match us, hl with | [_], _ => rfl), PySem.W.mg_of X G a__law_lengths⟩
      c__law_bits := ⟨fun_mk l__law_bits e__law_bits k__law_bits, (fun_mk (st := s_l_bits) l__law_bits e__law_bits k__law_bits).binds (ps := ["_law_number"]) (fun _ _ _ _ _ _ us hl => match us, hl with | [_], _ => rfl), PySem.W.mg_of X G a__law_bits⟩
      c__law_bound := ⟨fun_mk l__law_bound e__law_bound k__law_bound, (fun_mk (st := s_l_bound) l__law_bound e__law_bound k__law_bound).binds (ps := ["_law_paper", "_law_speed"]) (fun _ _ _ _ _ _ us hl => match us, hl with | [_, _], _ => rfl), PySem.W.mg_of X G a__law_bound⟩
      c__law_next := ⟨fun_mk l__law_next e__law_next k__law_next, (fun_mk (st := s_l_next) l__law_next e__law_next k__law_next).binds (ps := ["_law_paper", "_law_speed"]) (fun _ _ _ _ _ _ us hl => match us, hl with | [_, _], _ => rfl), PySem.W.mg_of X G a__law_next⟩
      c__law_merge := ⟨fun_mk l__law_merge e__law_merge k__law_merge, (fun_mk (st := s_l_merge) l__law_merge e__law_merge k__law_merge).binds (ps := ["_law_state"]) (fun _ _ _ _ _ _ us hl => match us, hl with | [_], _ => rfl), PySem.W.mg_of X G a__law_merge⟩
      c__law_told_right := ⟨fun_mk l__law_told_right e__law_told_right k__law_told_right, (fun_mk (st := s_l_told_right) l__law_told_right e__law_told_right k__law_told_right).binds (ps := ["_law_paper", "_law_speed"]) (fun _ _ _ _ _ _ us hl => match us, hl with | [_, _], _ => rfl), PySem.W.mg_of X G a__law_told_right⟩
      c__law_by_hand_right := ⟨fun_mk l__law_by_hand_right e__law_by_hand_right k__law_by_hand_right, (fun_mk (st := s_l_by_hand_right) l__law_by_hand_right e__law_by_hand_right k__law_by_hand_right).binds (ps := []) (fun _ _ _ _ _ _ us hl => match us, hl with | [], _ => rfl), PySem.W.mg_of X G a__law_by_hand_right⟩
      c_law := ⟨fun_mk l_law e_law k_law, (fun_mk (st := s_law) l_law e_law k_law).binds (ps := ["_law_script"]) (fun _ _ _ _ _ _ us hl => match us, hl with | [_], _ => rfl), PySem.W.mg_of X G a_law⟩
      g_MOST_THINGS := ⟨_, PySem.W.mg_of X G g_MOST_THINGS, r_MOST_THINGS⟩
      g_GALLOP := ⟨_, PySem.W.mg_of X G g_GALLOP, r_GALLOP⟩
      g_MOST_GALLOP := ⟨_, PySem.W.mg_of X G g_MOST_GALLOP, r_MOST_GALLOP⟩
      n_len := PySem.W.mg_none_of X G z_len
      n_min := PySem.W.mg_none_of X G z_min
      n_max := PySem.W.mg_none_of X G z_max
      n_range := PySem.W.mg_none_of X G z_range
      n_repr := PySem.W.mg_none_of X G z_repr
      n_isinstance := PySem.W.mg_none_of X G z_isinstance
      n_int := PySem.W.mg_none_of X G z_int
      n_bool := PySem.W.mg_none_of X G z_bool
      n_tuple := PySem.W.mg_none_of X G z_tuple
      n_list := PySem.W.mg_none_of X G z_list
      n_sum := PySem.W.mg_none_of X G z_sum
      n_all := PySem.W.mg_none_of X G z_all }⟩

section
variable {P : Program} {w : World} {K : PySem.W.Frag} {mg : Str → Option Value} {base : Heap} {A : Ad}
theorem ok_is_whole (T : Txt K mg w A) : FnOk P w K mg base CX0 1 A.f_is_whole A.d_is_whole ["thing", "least", "most"] sp_whole := by
  refine T.c_is_whole.F.ok sc_is_whole (fun vs H Q E h => ?_) (fun cdv Ar outer s H vs Q E hr h => ?_)
  · obtain ⟨t, l, m, rfl, _⟩ := h; rfl
  · obtain ⟨t, l, m, rfl, k⟩ := h
    refine ⟨_, (pss_one (ps_ret (pe_and (pe_callB call_isi (by rfl) T.n_isinstance PyProof.Rows.boot_isinstance (pa_cons (pv 0) (pa_cons (pe_bltn (v := .ty "int") rfl T.n_int PyProof.Rows.boot_int rfl) pa_nil))) (pe_and (pe_not (pe_callB call_isi (by rfl) T.n_isinstance PyProof.Rows.boot_isinstance (pa_cons (pv 0) (pa_cons (pe_bltn (v := .ty "bool") rfl T.n_bool PyProof.Rows.boot_bool rfl) pa_nil)))) (pe_one (pe_chain op_le op_le (pv 1) (pv 0) (pv 2))))))), ?_⟩
    walk_at "st"
    have ki := Kin.int (K := K) (H := H) t
    walk_at "rd"
    refine rd_isi ki (kit_int _) ?_
    walk_at "rd"
    walk_at "if1"
    refine rd_isi ki (kit_bool _) ?_
    walk_at "rd"
    walk_at "if1"
    refine rd_dec ?_ ?_ <;> intro h1
    · walk_at "rd"
      rw [decide_eq_true h1, Bool.true_and] at k
      exact k
    · rw [decide_eq_false h1, Bool.false_and] at k
      exact k
theorem ok_bits (T : Txt K mg w A) : FnOk P w K mg base CX0 1 A.f_bits A.d_bits ["number"] sp_bits := by
  refine T.c_bits.F.ok sc_bits (fun vs H Q E h => ?_) (fun cdv Ar outer s H vs Q E hr h => ?_)
  · obtain ⟨n, rfl, _⟩ := h; rfl
  · obtain ⟨n, rfl, hn, k⟩ := h
    refine ⟨_, (pss_cons (ps_if (PW.pt (pw_or (pt_not (pt_val (pe_callB call_isi (by rfl) T.n_isinstance PyProof.Rows.boot_isinstance (pa_cons (pv 0) (pa_cons (pe_bltn (v := .ty "int") rfl T.n_int PyProof.Rows.boot_int rfl) pa_nil))))) (pw_or (pt_val (pe_callB call_isi (by rfl) T.n_isinstance PyProof.Rows.boot_isinstance (pa_cons (pv 0) (pa_cons (pe_bltn (v := .ty "bool") rfl T.n_bool PyProof.Rows.boot_bool rfl) pa_nil)))) (pw_or1 (pt_cmpR op_lt (pv 0) pe_int (nomark _))))))
        (pss_one ps_never)
        pss_nil)
      (pss_one (ps_ret (pe_bits (pv 0))))), ?_⟩
    walk_at "st"
    have ki := Kin.int (K := K) (H := H) n
    walk_at "rd"
    refine rd_isi ki (kit_int _) ?_
    walk_at "rd"
    walk_at "if0"
    refine rd_isi ki (kit_bool _) ?_
    walk_at "rd"
    walk_at "if0"
    refine rd_decF (by omega) ?_
    walk_at "rd"
    exact k
theorem kb_lm (T : Txt K mg w A) : ∃ mv : List Value, KBn K A.d_is_whole ["thing", "least", "most"] 1 ["least", "most"] (fun us ws => us ++ ws ++ mv) (fun vs zs => vs ++ zs ++ []) := by
  refine T.c_is_whole.F.kbinds0 1 ["least", "most"] [] (fun us mv ws => us ++ ws ++ mv) (by simp) (by simp) (fun r1 r2 r3 => (r1.append r3).append r2) ?_
  intro D doc pm an cdv ct us mv ws h1 h2 h3
  match us, h1, mv, h2, ws, h3 with
  | [u], _, [], _, [y, z], _ => rfl
theorem kb_l (T : Txt K mg w A) : ∃ mv : List Value, KBn K A.d_is_whole ["thing", "least", "most"] 1 ["least"] (fun us ws => us ++ ws ++ mv) (fun vs zs => vs ++ zs ++ [.int 4096]) := by
  refine T.c_is_whole.F.kbinds0 1 ["least"] [("most", .int 4096)] (fun us mv ws => us ++ ws ++ mv) (by simp) (by simp) (fun r1 r2 r3 => (r1.append r3).append r2) ?_
  intro D doc pm an cdv ct us mv ws h1 h2 h3
  match us, h1, mv, h2, ws, h3 with
  | [u], _, [m], _, [y], _ => exact ⟨_, _, _, _, _, _, rfl, rfl, rfl⟩
theorem kb_m (T : Txt K mg w A) : ∃ mv : List Value, KBn K A.d_is_whole ["thing", "least", "most"] 1 ["most"] (fun us ws => us ++ mv ++ ws) (fun vs zs => vs ++ [.int 0] ++ zs) := by
  refine T.c_is_whole.F.kbinds0 1 ["most"] [("least", .int 0)] (fun us mv ws => us ++ mv ++ ws) (by simp) (by simp) (fun r1 r2 r3 => (r1.append r2).append r3) ?_
  intro D doc pm an cdv ct us mv ws h1 h2 h3
  match us, h1, mv, h2, ws, h3 with
  | [u], _, [m], _, [y], _ => exact ⟨_, _, _, _, _, _, rfl, rfl, rfl⟩
theorem ok_gallop (T : Txt K mg w A) : FnOk P w K mg base CX0 2 A.f_need_gallop A.d_need_gallop ["gallop"] sp_gallop := by
  have G_is_whole : FnOk P w K mg base CX0 1 A.f_is_whole A.d_is_whole ["thing", "least", "most"] sp_whole := ok_is_whole T
  obtain ⟨mv, kb_is_whole_least_most⟩ := kb_lm T
  refine T.c_need_gallop.F.ok sc_need_gallop (fun vs H Q E h => ?_) (fun cdv Ar outer s H vs Q E hr h => ?_)
  · obtain ⟨g, rfl, _⟩ := h; rfl
  · obtain ⟨g, rfl, h1, h2, k⟩ := h
    refine ⟨_, (pss_one (ps_if (pt_not (pt_val (pe_callN G_is_whole (hr.mono (by decide)) rfl T.c_is_whole.m T.c_is_whole.F.kp kb_is_whole_least_most pass0 (pa_cons (pv 0) pa_nil) (pk_cons pe_int (pk_cons (pe_gl rfl T.g_MOST_GALLOP) pk_nil)))))
        (pss_one ps_never)
        pss_nil)), ?_⟩
    walk_at "st"
    walk_at "rd"
    refine ⟨rfl, rfl, g, 1, 64, rfl, ?_⟩
    rw [decide_eq_true h1, decide_eq_true h2]
    walk_at "rd"
    walk_at "if0"
    exact k
theorem ok_kept (T : Txt K mg w A) : FnOk P w K mg base CX0 2 A.f_is_kept A.d_is_kept ["thing", "first", "second"] sp_kept := by
  have G_is_whole : FnOk P w K mg base CX0 1 A.f_is_whole A.d_is_whole ["thing", "least", "most"] sp_whole := ok_is_whole T
  obtain ⟨mv, kb_is_whole_most⟩ := kb_m T
  refine T.c_is_kept.F.ok sc_is_kept (fun vs H Q E h => ?_) (fun cdv Ar outer s H vs Q E hr h => ?_)
  · obtain ⟨p, a, b, f, g, rfl, _⟩ := h; rfl
  · obtain ⟨p, a, b, f, g, rfl, hp, h1, h2, h3, h4, k⟩ := h
    refine ⟨_, (pss_cons (ps_if (PW.pt (pw_or (pt_not (pt_val (pe_callB call_isi (by rfl) T.n_isinstance PyProof.Rows.boot_isinstance (pa_cons (pv 0) (pa_cons (pe_bltn (v := .ty "tuple") rfl T.n_tuple PyProof.Rows.boot_tuple rfl) pa_nil))))) (pw_or1 (pt_cmpR op_ne (pe_callB call_len_seq (by rfl) T.n_len PySem.boot_len (pa_cons (pv 0) pa_nil)) pe_int (nomark _)))))
        (pss_one (ps_ret pe_bl))
        pss_nil)
      (pss_one (ps_ret (pe_and (pe_callN G_is_whole (hr.mono (by decide)) rfl T.c_is_whole.m T.c_is_whole.F.kp kb_is_whole_most pass0 (pa_cons (pe_ix ix_tup (pv 0) pe_int (fun _ _ => rfl)) pa_nil) (pk_cons (pv 1) pk_nil)) (pe_one (pe_callN G_is_whole (hr.mono (by decide)) rfl T.c_is_whole.m T.c_is_whole.F.kp kb_is_whole_most pass0 (pa_cons (pe_ix ix_tup (pv 0) pe_int (fun _ _ => rfl)) pa_nil) (pk_cons (pv 2) pk_nil))))))), ?_⟩
    have ki := Kin.tup (K := K) hp
    have S := Hs.start1 hp [] (.inl rfl)
    walk_at "st"
    walk_at "rd"
    refine rd_isi ki (kit_tuple _) ?_
    walk_at "rd"
    walk_at "if0"
    refine rd_decF (by simp) ?_
    walk_at "rd"
    refine ⟨rfl, rfl, a, 0, f, rfl, ?_⟩
    rw [decide_eq_true h1, decide_eq_true h2]
    walk_at "rd"
    walk_at "if1"
    refine ⟨rfl, rfl, b, 0, g, rfl, ?_⟩
    rw [decide_eq_true h3, decide_eq_true h4]
    exact k
theorem ok_picks (T : Txt K mg w A) : FnOk P w K mg base CX0 2 A.f_are_picks A.d_are_picks ["thing", "first", "second"] sp_picks := by
  have G_is_whole : FnOk P w K mg base CX0 1 A.f_is_whole A.d_is_whole ["thing", "least", "most"] sp_whole := ok_is_whole T
  obtain ⟨mv, kb_is_whole_least⟩ := kb_l T
  refine T.c_are_picks.F.ok sc_are_picks (fun vs H Q E h => ?_) (fun cdv Ar outer s H vs Q E hr h => ?_)
  · obtain ⟨q, pk, f, g, rfl, _⟩ := h; rfl
  · obtain ⟨q, pk, f, g, rfl, hq, h1, h2, h3, h4, h5, k⟩ := h
    refine ⟨_, (pss_cons (ps_if (PW.pt (pw_or (pt_not (pt_val (pe_callB call_isi (by rfl) T.n_isinstance PyProof.Rows.boot_isinstance (pa_cons (pv 0) (pa_cons (pe_bltn (v := .ty "tuple") rfl T.n_tuple PyProof.Rows.boot_tuple rfl) pa_nil))))) (pw_or1 (pt_cmpR op_ne (pe_op op_mod (pe_callB call_len_seq (by rfl) T.n_len PySem.boot_len (pa_cons (pv 0) pa_nil)) pe_int) pe_int (nomark _)))))
        (pss_one (ps_ret pe_bl))
        pss_nil)
      (pss_cons (ps_if (pt_not (pt_val (pe_callB (cr_all rfl) (by rfl) T.n_all PyProof.Rows.boot_all (pa_cons (pe_lc (own := [("many", 3)]) (g := gName 3) (tt := tYes) rfl sc_are_picks.nd (pi_tup (pv 0)) (blkOk_by (N := ["thing", "first", "second", "many"]) (sc := defScope s_are_picks) (by decide +kernel)) (fun _ _ _ _ _ => (pg_name (i := 3) sc_are_picks.nd rfl (Or.inl rfl))) (fun _ _ _ _ _ => pts_nil) (fun _ _ _ _ _ => (pe_callN G_is_whole (hr.mono (by decide)) rfl T.c_is_whole.m T.c_is_whole.F.kp kb_is_whole_least pass0 (pa_cons (pv 3) pa_nil) (pk_cons pe_int pk_nil)))) pa_nil))))
        (pss_one (ps_ret pe_bl))
        pss_nil)
      (pss_one (ps_ret (pe_and (pe_cmpR op_eq (pe_callB (cr_sumT rfl) (by rfl) T.n_sum PyProof.Rows.boot_sum (pa_cons (pe_slT3 (pv 0) po_none po_none (po_some pe_int)) pa_nil)) (pv 2) (nomark _)) (pe_one (pe_cmpR op_eq (pe_callB (cr_sumT rfl) (by rfl) T.n_sum PyProof.Rows.boot_sum (pa_cons (pe_slT3 (pv 0) (po_some pe_int) po_none (po_some pe_int)) pa_nil)) (pv 1) (nomark _)))))))), ?_⟩
    have ki := Kin.tup (K := K) hq
    have S := Hs.start1 hq [] (.inl rfl)
    walk_at "st"
    walk_at "rd"
    refine rd_isi ki (kit_tuple _) ?_
    walk_at "rd"
    walk_at "if0"
    refine rd_decF (by rename_i r e _ _; rw [List.length_map] at e; omega) ?_
    walk_at "rd"
    refine lcw_tup (xs := pk.map V.int) S (fun i acc => acc = (List.replicate i true).map V.bl) rfl (fun H' acc D S => S.tup (by walk_at "mem")) ?_ ?_
    · rintro D i x acc H1 hi rfl hD S
      obtain ⟨z, hz, rfl⟩ := List.mem_map.mp (List.mem_of_getElem? hi)
      have hz2 := h2 z hz
      have hil : i < 1000 := by
        have := (List.getElem?_eq_some_iff.mp hi).1
        rw [List.length_map] at this
        omega
      walk_at "lc"
      refine ⟨rfl, rfl, z, 1, 4096, rfl, ?_⟩
      rw [decide_eq_true hz2.1, decide_eq_true hz2.2]
      refine rd_lcPut S (by walk_at "chg") hD (by walk_at "size1") (by walk_at "sub") ?_
      rw [List.replicate_succ']
      simp
    · rintro D acc H1 rfl hD S
      rw [List.length_map] at S
      walk_at "rd"
      refine rd_all S (by walk_at "mem") rfl ?_
      rw [show (List.replicate pk.length true).all id = true by simp]
      walk_at "rd"
      walk_at "if0"
      refine rd_slR3 S (by walk_at "mem") rfl (by decide) (by decide) (Rs.sz (by have := pick_le pk none (Or.inl rfl); omega)) fun p H2 hp S2 => ?_
      walk_at "rd"
      refine rd_decT h4 ?_
      walk_at "rd"
      refine rd_slR3 S2 (by walk_at "mem") rfl (by decide) (by decide) (Rs.sz (by have := pick_le pk (some 1) (Or.inr rfl); omega)) fun p H2 hp S2 => ?_
      walk_at "rd"
      rw [decide_eq_true h5]
      apply k
      all_goals walk_at "end"
end
end K28

namespace K28
open PySem L2 Rs
section
variable {P : Program} {w : World} {K : PySem.W.Frag} {mg : Str → Option Value} {base : Heap} {A : Ad} {H H0 : Hp} {M : List Addr} {L L' : Led} {Q : VK} {E : XK}
theorem take_more {ns : List Int} {i : Nat} {x : V} (h : (ns.map V.int)[i]? = some x) : ∃ z, x = .int z ∧ ns.take (i + 1) = ns.take i ++ [z] ∧ z ∈ ns ∧ i < ns.length := by
  obtain ⟨hl, e⟩ := List.getElem?_eq_some_iff.mp h
  rw [List.length_map] at hl
  rw [List.getElem_map] at e
  refine ⟨ns[i], e.symm, ?_, List.getElem_mem hl, hl⟩
  rw [List.take_succ, List.getElem?_eq_getElem hl]
  rfl
theorem ok_ismerge (T : Txt K mg w A) : FnOk P w K mg base CX0 3 A.f_is_merge A.d_is_merge ["thing", "most"] sp_ismerge := by
  have G_is_whole : FnOk P w K mg base CX0 1 A.f_is_whole A.d_is_whole ["thing", "least", "most"] sp_whole := ok_is_whole T
  have G_is_kept : FnOk P w K mg base CX0 2 A.f_is_kept A.d_is_kept ["thing", "first", "second"] sp_kept := ok_kept T
  have G_are_picks : FnOk P w K mg base CX0 2 A.f_are_picks A.d_are_picks ["thing", "first", "second"] sp_picks := ok_picks T
  obtain ⟨mv, kb_is_whole_least_most⟩ := kb_lm T
  obtain ⟨mv2, kb_is_whole_most⟩ := kb_m T
  refine T.c_is_merge.F.ok sc_is_merge (fun vs H Q E h => ?_) (fun cdv Ar outer s H vs Q E hr h => ?_)
  · obtain ⟨p, kq, pq, s, m, e, a, b, pk, rfl, _⟩ := h; rfl
  · obtain ⟨p, kq, pq, s, m, e, a, b, pk, rfl, R, W, k⟩ := h
    obtain ⟨w1, w2, w3, w4, w5, w6, w7, w8, w9, w10, w11, w12, w13⟩ := W
    refine ⟨_, (pss_cons (ps_if (PW.pt (pw_or (pt_not (pt_val (pe_callB call_isi (by rfl) T.n_isinstance PyProof.Rows.boot_isinstance (pa_cons (pv 0) (pa_cons (pe_bltn (v := .ty "tuple") rfl T.n_tuple PyProof.Rows.boot_tuple rfl) pa_nil))))) (pw_or1 (pt_cmpR op_ne (pe_callB call_len_seq (by rfl) T.n_len PySem.boot_len (pa_cons (pv 0) pa_nil)) pe_int (nomark _)))))
        (pss_one (ps_ret pe_bl))
        pss_nil)
      (pss_cons (ps_asg (pv 0) (pg_tup rfl (pgs_cons (pg_name (i := 2) sc_is_merge.nd rfl (Or.inl rfl)) (pgs_cons (pg_name (i := 3) sc_is_merge.nd rfl (Or.inl rfl)) (pgs_cons (pg_name (i := 4) sc_is_merge.nd rfl (Or.inl rfl)) (pgs_cons (pg_name (i := 5) sc_is_merge.nd rfl (Or.inl rfl)) (pgs_cons (pg_name (i := 6) sc_is_merge.nd rfl (Or.inl rfl)) pgs_nil)))))))
      (pss_cons (ps_if (PW.pt (pw_or (pt_not (pt_val (pe_callN G_is_whole (hr.mono (by decide)) rfl T.c_is_whole.m T.c_is_whole.F.kp kb_is_whole_least_most pass0 (pa_cons (pv 4) pa_nil) (pk_cons pe_int (pk_cons (pv 1) pk_nil))))) (pw_or1 (pt_not (pt_val (pe_callN G_is_whole (hr.mono (by decide)) rfl T.c_is_whole.m T.c_is_whole.F.kp kb_is_whole_least_most pass0 (pa_cons (pv 3) pa_nil) (pk_cons pe_int (pk_cons (pe_op op_sub (pv 4) pe_int) pk_nil))))))))
        (pss_one (ps_ret pe_bl))
        pss_nil)
      (pss_cons (ps_if (PW.pt (pw_or (pt_not (pt_val (pe_callN G_is_whole (hr.mono (by decide)) rfl T.c_is_whole.m T.c_is_whole.F.kp kb_is_whole_most pass0 (pa_cons (pv 2) pa_nil) (pk_cons (pe_op op_sub (pv 3) pe_int) pk_nil)))) (pw_or1 (pt_not (pt_val (pe_call G_is_kept (hr.mono (by decide)) rfl T.c_is_kept.m T.c_is_kept.F.kp T.c_is_kept.b .nil pass0 (pa_cons (pv 5) (pa_cons (pe_op op_sub (pv 3) (pv 2)) (pa_cons (pe_op op_sub (pv 4) (pv 3)) pa_nil)))))))))
        (pss_one (ps_ret pe_bl))
        pss_nil)
      (pss_one (ps_ret (pe_call G_are_picks (hr.mono (by decide)) rfl T.c_are_picks.m T.c_are_picks.F.kp T.c_are_picks.b .nil pass0 (pa_cons (pv 6) (pa_cons (pe_op op_sub (pe_op op_sub (pv 3) (pv 2)) (pe_ix ix_tup (pv 5) pe_int (fun _ _ => rfl))) (pa_cons (pe_op op_sub (pe_op op_sub (pv 4) (pv 3)) (pe_ix ix_tup (pv 5) pe_int (fun _ _ => rfl))) pa_nil)))))))))), ?_⟩
    have ki := Kin.tup (K := K) R.hp
    have S := R.led
    walk_at "st"
    walk_at "rd"
    refine rd_isi ki (kit_tuple _) ?_
    walk_at "rd"
    walk_at "if0"
    refine rd_decF (by simp) ?_
    walk_at "rd"
    refine ⟨rfl, rfl, e, 2, 4096, rfl, ?_⟩
    rw [decide_eq_true (show 2 ≤ e by omega), decide_eq_true w4]
    walk_at "rd"
    walk_at "if0"
    refine ⟨rfl, rfl, m, 1, e - 1, rfl, ?_⟩
    rw [decide_eq_true (show 1 ≤ m by omega), decide_eq_true (show m ≤ e - 1 by omega)]
    walk_at "rd"
    walk_at "if0"
    refine ⟨rfl, rfl, s, 0, m - 1, rfl, ?_⟩
    rw [decide_eq_true w1, decide_eq_true (show s ≤ m - 1 by omega)]
    walk_at "rd"
    walk_at "if0"
    refine ⟨kq, a, b, m - s, e - m, rfl, R.hk, w5, w7, w6, w8, ?_⟩
    walk_at "rd"
    walk_at "if0"
    refine ⟨pq, pk, _, _, rfl, R.hq, w9, w10, w11, w12, w13, fun H' sm => ?_⟩
    exact k H' sm
theorem kb_mm (T : Txt K mg w A) : ∃ mv : List Value, KBn K A.d_is_merge ["thing", "most"] 1 ["most"] (fun us ws => us ++ ws ++ mv) (fun vs zs => vs ++ zs ++ []) := by
  refine T.c_is_merge.F.kbinds0 1 ["most"] [] (fun us mv ws => us ++ ws ++ mv) (by simp) (by simp) (fun r1 r2 r3 => (r1.append r3).append r2) ?_
  intro D doc pm an cdv ct us mv ws h1 h2 h3
  match us, h1, mv, h2, ws, h3 with
  | [u], _, [], _, [y], _ => rfl
theorem ok_needmerge (T : Txt K mg w A) : FnOk P w K mg base CX0 4 A.f_need_merge A.d_need_merge ["thing", "most"] sp_needmerge := by
  have G_is_merge : FnOk P w K mg base CX0 3 A.f_is_merge A.d_is_merge ["thing", "most"] sp_ismerge := ok_ismerge T
  obtain ⟨mv, kb_is_merge_most⟩ := kb_mm T
  refine T.c_need_merge.F.ok sc_need_merge (fun vs H Q E h => ?_) (fun cdv Ar outer s H vs Q E hr h => ?_)
  · obtain ⟨p, kq, pq, s, m, e, a, b, pk, rfl, _⟩ := h; rfl
  · obtain ⟨p, kq, pq, s, m, e, a, b, pk, rfl, R, W, k⟩ := h
    refine ⟨_, (pss_one (ps_if (pt_not (pt_val (pe_callN G_is_merge (hr.mono (by decide)) rfl T.c_is_merge.m T.c_is_merge.F.kp kb_is_merge_most pass0 (pa_cons (pv 0) pa_nil) (pk_cons (pv 1) pk_nil))))
        (pss_one ps_never)
        pss_nil)), ?_⟩
    walk_at "st"
    walk_at "rd"
    refine ⟨rfl, rfl, p, kq, pq, s, m, e, a, b, pk, rfl, R, W, fun H' sm => ?_⟩
    walk_at "rd"
    walk_at "if0"
    exact k H' sm
theorem ok_pb (T : Txt K mg w A) : FnOk P w K mg base CX0 2 A.f_pick_bound A.d_pick_bound ["many", "gallop"] sp_pb := by
  have G_bits : FnOk P w K mg base CX0 1 A.f_bits A.d_bits ["number"] sp_bits := ok_bits T
  refine T.c_pick_bound.F.ok sc_pick_bound (fun vs H Q E h => ?_) (fun cdv Ar outer s H vs Q E hr h => ?_)
  · obtain ⟨n, g, rfl, _⟩ := h; rfl
  · obtain ⟨n, g, rfl, k⟩ := h
    refine ⟨_, (pss_one (ps_ret (pe_ifExp (pt_cmpR op_lt (pv 0) (pv 1) (nomark _)) (pv 0) (pe_op op_add (pv 1) (pe_op op_mul pe_int (pe_call G_bits (hr.mono (by decide)) rfl T.c_bits.m T.c_bits.F.kp T.c_bits.b .nil pass0 (pa_cons (pe_callB (call_max2 rfl) (by rfl) T.n_max PyProof.Rows.boot_max (pa_cons pe_int (pa_cons (pe_op op_sub (pv 0) (pv 1)) pa_nil))) pa_nil))))))), ?_⟩
    unfold pbI at k
    walk_at "st"
    walk_at "rd"
    refine rd_dec ?_ ?_ <;> intro hc
    · rw [if_pos hc] at k
      walk_at "rd"
      exact k
    · rw [if_neg hc] at k
      walk_at "rd"
      refine ⟨mx1 (n - g), rfl, by unfold mx1; split <;> omega, ?_⟩
      walk_at "rd"
      exact k
theorem b_nm (T : Txt K mg w A) : ∃ ds : List Value, Vals [V.int 4096] ds ∧ Binds K A.d_need_merge ["thing", "most"] ds := by
  refine T.c_need_merge.F.binds0 1 (by simp) (by simp) ?_
  intro D doc pm an cdv ct us ks h1 h2
  match us, h1, ks, h2 with
  | [u], _, [m], _ => exact ⟨_, _, _, _, _, _, rfl, rfl, rfl⟩
theorem ok_mb (T : Txt K mg w A) : FnOk P w K mg base CX0 5 A.f_merge_bound A.d_merge_bound ["merge", "gallop"] sp_mb := by
  have G_need_merge : FnOk P w K mg base CX0 4 A.f_need_merge A.d_need_merge ["thing", "most"] sp_needmerge := ok_needmerge T
  have G_need_gallop : FnOk P w K mg base CX0 2 A.f_need_gallop A.d_need_gallop ["gallop"] sp_gallop := ok_gallop T
  have G_bits : FnOk P w K mg base CX0 1 A.f_bits A.d_bits ["number"] sp_bits := ok_bits T
  have G_pick_bound : FnOk P w K mg base CX0 2 A.f_pick_bound A.d_pick_bound ["many", "gallop"] sp_pb := ok_pb T
  obtain ⟨ds, d_need_merge, b_need_merge⟩ := b_nm T
  refine T.c_merge_bound.F.ok sc_merge_bound (fun vs H Q E h => ?_) (fun cdv Ar outer s H vs Q E hr h => ?_)
  · obtain ⟨p, kq, pq, s, m, e, a, b, g, pk, rfl, _⟩ := h; rfl
  · obtain ⟨p, kq, pq, s, m, e, a, b, g, pk, rfl, R, W, g1, g2, k⟩ := h
    refine ⟨_, (pss_cons (ps_expr (pe_call G_need_merge (hr.mono (by decide)) rfl T.c_need_merge.m T.c_need_merge.F.kp b_need_merge d_need_merge pass0 (pa_cons (pv 0) pa_nil)))
      (pss_cons (ps_expr (pe_call G_need_gallop (hr.mono (by decide)) rfl T.c_need_gallop.m T.c_need_gallop.F.kp T.c_need_gallop.b .nil pass0 (pa_cons (pv 1) pa_nil)))
      (pss_cons (ps_asg (pe_slice sl_tup (pv 0) (po_some pe_int) po_none) (pg_tup rfl (pgs_cons (pg_name (i := 2) sc_merge_bound.nd rfl (Or.inl rfl)) (pgs_cons (pg_name (i := 3) sc_merge_bound.nd rfl (Or.inl rfl)) pgs_nil))))
      (pss_one (ps_ret (pe_callBK (cr_sumK rfl) (by rfl) T.n_sum PyProof.Rows.boot_sum (pa_cons (pe_lc (own := [("many", 4)]) (g := gName 4) (tt := tYes) rfl sc_merge_bound.nd (pi_tup (pv 2)) (blkOk_by (N := ["merge", "gallop", "kept", "picks", "many"]) (sc := defScope s_merge_bound) (by decide +kernel)) (fun _ _ _ _ _ => (pg_name (i := 4) sc_merge_bound.nd rfl (Or.inl rfl))) (fun _ _ _ _ _ => pts_nil) (fun _ _ _ _ _ => (pe_op op_mul pe_int (pe_call G_bits (hr.mono (by decide)) rfl T.c_bits.m T.c_bits.F.kp T.c_bits.b .nil pass0 (pa_cons (pe_callB (call_max2 rfl) (by rfl) T.n_max PyProof.Rows.boot_max (pa_cons pe_int (pa_cons (pv 4) pa_nil))) pa_nil))))) pa_nil) (pk_cons (pe_callB (cr_sum rfl) (by rfl) T.n_sum PyProof.Rows.boot_sum (pa_cons (pe_lc (own := [("many", 4)]) (g := gName 4) (tt := tYes) rfl sc_merge_bound.nd (pi_tup (pv 3)) (blkOk_by (N := ["merge", "gallop", "kept", "picks", "many"]) (sc := defScope s_merge_bound) (by decide +kernel)) (fun _ _ _ _ _ => (pg_name (i := 4) sc_merge_bound.nd rfl (Or.inl rfl))) (fun _ _ _ _ _ => pts_nil) (fun _ _ _ _ _ => (pe_call G_pick_bound (hr.mono (by decide)) rfl T.c_pick_bound.m T.c_pick_bound.F.kp T.c_pick_bound.b .nil pass0 (pa_cons (pv 4) (pa_cons (pv 1) pa_nil))))) pa_nil)) pk_nil))))))), ?_⟩
    have S := R.led
    walk_at "st"
    walk_at "rd"
    refine ⟨p, kq, pq, s, m, e, a, b, pk, rfl, R, W, fun H1 sm => ?_⟩
    have S1 := S.more sm
    clear S
    walk_at "rd"
    refine ⟨g, rfl, g1, g2, ?_⟩
    walk_at "rd"
    refine rd_slTp (ys := [.ref kq, .ref pq]) S1 (by walk_at "mem") (by simp [HT.sIx]) rfl fun q H2 hq S2 => ?_
    clear S1
    walk_at "rd"
    refine lcw_tup (xs := [V.int a, V.int b]) S2 (fun i acc => acc = (([a, b].take i).map fun z => 2 * bitI (mx1 z)).map V.int) rfl (fun H' acc D S => S.tup (by walk_at "mem")) ?_ ?_
    · rintro D i x acc H3 hi rfl hD S
      obtain ⟨z, rfl, tk, hz, hil⟩ := take_more (ns := [a, b]) hi
      have hz0 : i < 1000 := by simp at hil; omega
      walk_at "lc"
      refine ⟨mx1 z, rfl, by unfold mx1; split <;> omega, ?_⟩
      walk_at "rd"
      refine rd_lcPut S (by walk_at "chg") hD (Rs.sz' (by simp; omega)) (by walk_at "sub") ?_
      rw [tk]
      simp [bitI]
    · rintro D acc H3 hr1 hD S
      have hr2 : acc = [2 * bitI (mx1 a), 2 * bitI (mx1 b)].map V.int := hr1
      subst hr2
      clear hr1
      simp only [List.map_cons, List.map_nil] at S
      walk_at "rd"
      refine lcw_tup (xs := pk.map V.int) S (fun i acc => acc = ((pk.take i).map (pbI g)).map V.int) rfl (fun H' acc D S => S.tup (by walk_at "mem")) ?_ ?_
      · rintro D2 i x acc H4 hi rfl hD2 S4
        obtain ⟨z, rfl, tk, hz, hil⟩ := take_more hi
        have hz0 := W.len
        walk_at "lc"
        refine ⟨z, g, rfl, ?_⟩
        refine rd_lcPut S4 (by walk_at "chg") hD2 (Rs.sz' (by simp; omega)) (by walk_at "sub") ?_
        rw [tk]
        simp
      · rintro D2 acc H4 rfl hD2 S4
        rw [List.length_map, List.take_length] at S4
        walk_at "rd"
        refine rd_sumK (xs := [V.int (2 * bitI (mx1 a)), V.int (2 * bitI (mx1 b))]) (ns := [2 * bitI (mx1 a), 2 * bitI (mx1 b)]) S4 (by walk_at "mem") rfl ?_
        have e1 : ((pk.map (pbI g)).sum + [2 * bitI (mx1 a), 2 * bitI (mx1 b)].sum) = mbI a b pk g := by simp [mbI]
        rw [e1]
        apply k
        all_goals walk_at "end"
theorem ok_ng (T : Txt K mg w A) : FnOk P w K mg base CX0 5 A.f_next_gallop A.d_next_gallop ["merge", "gallop"] sp_ng := by
  have G_need_merge : FnOk P w K mg base CX0 4 A.f_need_merge A.d_need_merge ["thing", "most"] sp_needmerge := ok_needmerge T
  have G_need_gallop : FnOk P w K mg base CX0 2 A.f_need_gallop A.d_need_gallop ["gallop"] sp_gallop := ok_gallop T
  obtain ⟨ds, d_need_merge, b_need_merge⟩ := b_nm T
  refine T.c_next_gallop.F.ok sc_next_gallop (fun vs H Q E h => ?_) (fun cdv Ar outer s H vs Q E hr h => ?_)
  · obtain ⟨p, kq, pq, s, m, e, a, b, g, pk, rfl, _⟩ := h; rfl
  · obtain ⟨p, kq, pq, s, m, e, a, b, g, pk, rfl, R, W, g1, g2, k⟩ := h
    refine ⟨_, (pss_cons (ps_expr (pe_call G_need_merge (hr.mono (by decide)) rfl T.c_need_merge.m T.c_need_merge.F.kp b_need_merge d_need_merge pass0 (pa_cons (pv 0) pa_nil)))
      (pss_cons (ps_expr (pe_call G_need_gallop (hr.mono (by decide)) rfl T.c_need_gallop.m T.c_need_gallop.F.kp T.c_need_gallop.b .nil pass0 (pa_cons (pv 1) pa_nil)))
      (pss_cons (ps_set (i := 2) sc_next_gallop.nd rfl (Or.inl rfl) (pe_callBK (cr_maxDT rfl) (by rfl) T.n_max PyProof.Rows.boot_max (pa_cons (pe_ix ix_tup (pv 0) pe_int (fun _ _ => rfl)) pa_nil) (pk_cons pe_int pk_nil)))
      (pss_cons (ps_if (pt_cmpR op_ge (pv 2) (pe_op op_add (pv 1) (pe_gl rfl T.g_GALLOP)) (nomark _))
        (pss_one (ps_ret (pe_callB (call_max2 rfl) (by rfl) T.n_max PyProof.Rows.boot_max (pa_cons pe_int (pa_cons (pe_op op_sub (pv 1) pe_int) pa_nil)))))
        pss_nil)
      (pss_one (ps_ret (pe_ifExp (pt_cmpR op_gt (pv 2) (pv 1) (nomark _)) (pe_callB (call_min2 rfl) (by rfl) T.n_min PyProof.Rows.boot_min (pa_cons (pe_gl rfl T.g_MOST_GALLOP) (pa_cons (pe_op op_add (pv 1) pe_int) pa_nil))) (pv 1)))))))), ?_⟩
    have S := R.led
    unfold ngI at k
    walk_at "st"
    walk_at "rd"
    refine ⟨p, kq, pq, s, m, e, a, b, pk, rfl, R, W, fun H1 sm => ?_⟩
    have S1 := S.more sm
    clear S
    walk_at "rd"
    refine ⟨g, rfl, g1, g2, ?_⟩
    have e4 : atI [V.int s, V.int m, V.int e, V.ref kq, V.ref pq] 4 = some (V.ref pq) := atI_nat (j := 4) rfl
    walk_at "rd"
    refine rd_dec ?_ ?_ <;> intro hc
    · rw [if_pos hc] at k
      walk_at "rd"
      exact k _ sm
    · rw [if_neg hc] at k
      walk_at "rd"
      refine rd_dec ?_ ?_ <;> intro hd
      · rw [if_pos hd] at k
        walk_at "rd"
        exact k _ sm
      · rw [if_neg hd] at k
        walk_at "rd"
        exact k _ sm
/-! the law's own -/
theorem bits_half {n : Int} (h : 0 < n) : bitI n = 1 + bitI (n / 2) := by
  obtain ⟨k, rfl⟩ := Int.eq_ofNat_of_zero_le (Int.le_of_lt h)
  have hk : 0 < k := by omega
  unfold bitI Builtin.Int.intBits
  have e : ((k : Int) / 2) = ((k / 2 : Nat) : Int) := by omega
  rw [e]
  by_cases h1 : k = 1
  · subst h1; decide
  · have h2 : 2 ≤ k := by omega
    have e1 : ¬ (k : Int) = 0 := by omega
    have e2 : ¬ ((k / 2 : Nat) : Int) = 0 := by omega
    simp only [Int.natAbs_natCast]
    rw [Nat.log2_def k, if_pos h2]
    simp [beq_iff_eq, e1, e2]
    rw [if_neg (by omega), if_neg (by omega)]
    omega
theorem ok_lbits (T : Txt K mg w A) : FnOk P w K mg base CX0 1 A.f__law_bits A.d__law_bits ["_law_number"] sp_lbits := by
  refine T.c__law_bits.F.ok sc_l_bits (fun vs H Q E h => ?_) (fun cdv Ar outer s H vs Q E hr h => ?_)
  · obtain ⟨n, rfl, _⟩ := h; rfl
  · obtain ⟨n, rfl, hn, k⟩ := h
    refine ⟨_, (pss_cons (ps_set (i := 1) sc_l_bits.nd rfl (Or.inl rfl) pe_int)
      (pss_cons (ps_while PassesOwn.never (pt_cmpR op_gt (pv 0) pe_int (nomark _))
        (pss_cons (ps_set (i := 1) sc_l_bits.nd rfl (Or.inl rfl) (pe_op op_add (pv 1) pe_int))
        (pss_one (ps_set (i := 0) sc_l_bits.nd rfl (Or.inl rfl) (pe_op op_fdivW (pv 0) pe_int)))))
      (pss_one (ps_ret (pv 1))))), ?_⟩
    walk_at "st"
    walk_at "rd"
    refine rd_while (fun m σ H' => H' = H ∧ ∃ z f : Int, σ = [some (.int z), some (.int f)] ∧ 0 ≤ z ∧ f + bitI z = bitI n ∧ m = z.toNat) _ ⟨rfl, n, 0, rfl, hn, by omega, rfl⟩ ?_
    rintro m σ H' ⟨rfl, z, f, rfl, hz, hf, rfl⟩
    walk_at "rd"
    refine rd_dec ?_ ?_ <;> intro hc
    · walk_at "rd"
      have := bits_half hc
      exact ⟨_, by omega, rfl, _, _, rfl, by omega, by omega, rfl⟩
    · walk_at "rd"
      obtain rfl : z = 0 := by omega
      have : f = bitI n := by rw [← hf]; simp [bitI, Builtin.Int.intBits]
      rw [this]
      exact k
end
end K28

namespace K28
open PySem L2 Rs
local macro_rules | `(tactic| walk_at "val") => `(tactic| first | exact drw_left _ _ _ | exact drw_cell _ _ _ | exact drw_at _ _ _)
local macro_rules | `(tactic| walk_at "put") => `(tactic| first | exact put_left _ _ _ _ | exact put_at _ _ _ _ | exact merge_drw _ _ _)
section
variable {P : Program} {w : World} {K : PySem.W.Frag} {mg : Str → Option Value} {base : Heap} {A : Ad} {H H0 : Hp} {M : List Addr} {L L' : Led} {Q : VK} {E : XK}
theorem ok_draw (T : Txt K mg w A) : FnOk P w K mg base CX0 1 A.f__law_draw A.d__law_draw ["_law_state", "_law_many"] sp_draw := by
  refine T.c__law_draw.F.ok sc_l_draw (fun vs H Q E h => ?_) (fun cdv Ar outer s H vs Q E hr h => ?_)
  · obtain ⟨d, l, c, a, n, rfl, _⟩ := h; rfl
  · obtain ⟨d, l, c, a, n, rfl, hd, hn1, hn2, ha1, ha2, k⟩ := h
    have hu := hu_of hr
    refine ⟨_, (pss_cons (ps_if (pt_cmpR op_gt (pe_dget hu (pv 0) pe_str (fun _ _ => rfl)) pe_int (nomark _))
        (pss_cons (ps_set (i := 2) sc_l_draw.nd rfl (Or.inl rfl) (pe_op op_mod (pe_dget hu (pv 0) pe_str (fun _ _ => rfl)) (pv 1)))
        (pss_cons (ps_dput hu (pv 0) pe_str (pe_op op_fdivW (pe_dget hu (pv 0) pe_str (fun _ _ => rfl)) (pv 1)) rfl)
        (pss_one (ps_ret (pv 2)))))
        pss_nil)
      (pss_cons (ps_set (i := 3) sc_l_draw.nd rfl (Or.inl rfl) (pe_op op_add (pe_dget hu (pv 0) pe_str (fun _ _ => rfl)) pe_int))
      (pss_cons (ps_dput hu (pv 0) pe_str (pv 3) rfl)
      (pss_cons (ps_set (i := 4) sc_l_draw.nd rfl (Or.inl rfl) (pe_ix ix_list (pe_lst (pa_cons pe_int (pa_cons pe_int (pa_cons pe_int (pa_cons pe_int (pa_cons pe_int pa_nil)))))) (pe_op op_mod (pv 3) pe_int) (fun _ _ => rfl)))
      (pss_cons (ps_set (i := 5) sc_l_draw.nd rfl (Or.inl rfl) (pe_op op_mod (pe_op op_mul (pe_op op_add (pe_op op_add (pe_op op_add (pe_op op_mod (pe_dget hu (pv 0) pe_str (fun _ _ => rfl)) (pv 4)) (pe_op op_mul (pe_op op_mul pe_int (pv 3)) (pv 3))) (pe_op op_mul pe_int (pv 3))) pe_int) pe_int) (pv 4)))
      (pss_one (ps_ret (pe_op op_mod (pe_op op_fdivW (pe_op op_mod (pe_op op_mul (pv 5) (pe_op op_add (pe_op op_mod (pv 5) pe_int) pe_int)) pe_int) pe_int) (pv 1))))))))), ?_⟩
    have S := Hs.start1 hd [d] (.inr rfl)
    walk_at "st"
    walk_at "rd"
    refine rd_dec ?_ ?_ <;> intro hb
    · walk_at "rd"
      apply k
      all_goals walk_at "end"
    · walk_at "rd"
      refine rd_ixAny (by assumption) (by walk_at "mem") (by assumption) (by simpa using (by assumption)) fun v hv _ => ?_
      obtain ⟨q, rfl, hq1, hq2⟩ : ∃ q, v = V.int q ∧ 0 < q ∧ q < 2 ^ 31 := by
        simp only [List.mem_cons, List.not_mem_nil, or_false] at hv
        rcases hv with rfl | rfl | rfl | rfl | rfl <;> exact ⟨_, rfl, by decide, by decide⟩
      walk_at "rd"
      apply k
      all_goals walk_at "end"
theorem use_draw {d : Addr} {l c a n : Int} {F : HO → Led} (S : Hs H0 M H L) (ch : ∀ o', Chg d (.dK (drw l c a)) o' L (F o')) (own : H0 d = none ∨ d ∈ M) (h1 : 1 ≤ n) (h2 : n < 2 ^ 60) (h3 : 0 ≤ a) (h4 : a < 2 ^ 40)
    (h : ∀ (r l' a' : Int) (H' : Hp), Hs H0 M H' (F (.dK (drw l' c a'))) → 0 ≤ r → r < n → a ≤ a' → a' ≤ a + 1 → Q (.int r) H') : sp_draw [.ref d, .int n] H Q E :=
  ⟨d, l, c, a, n, rfl, S.is _ (ch (.dK [])).mem, h1, h2, h3, h4, fun r l' a' H' e k b1 b2 b3 b4 => h r l' a' H' (S.one (ch _) own k e) b1 b2 b3 b4⟩
theorem ok_begun (T : Txt K mg w A) : FnOk P w K mg base CX0 1 A.f__law_begun A.d__law_begun ["_law_script", "_law_turn"] (sp_begun K) := by
  refine T.c__law_begun.F.ok sc_l_begun (fun vs H Q E h => ?_) (fun cdv Ar outer s H vs Q E hr h => ?_)
  · obtain ⟨x, ns, kk, rfl, _⟩ := h; rfl
  · obtain ⟨x, ns, kk, rfl, hs, hk1, hk2, k⟩ := h
    refine ⟨_, (pss_cons (ps_set (i := 2) sc_l_begun.nd rfl (Or.inl rfl) (pe_op op_add (pv 1) pe_int))
      (pss_cons (ps_for PassesOwn.never rfl (pi_list (pv 0)) (pg_name (i := 3) sc_l_begun.nd rfl (Or.inl rfl))
        (pss_one (ps_set (i := 2) sc_l_begun.nd rfl (Or.inl rfl) (pe_op op_add (pe_op op_mul (pv 2) pe_int) (pv 3)))))
      (pss_cons (ps_set (i := 4) sc_l_begun.nd rfl (Or.inl rfl) (pe_ifExp (pt_cmpR op_lt (pv 1) (pe_callB call_len_seq (by rfl) T.n_len PySem.boot_len (pa_cons (pv 0) pa_nil)) (nomark _)) (pe_ix ix_list (pv 0) (pv 1) (fun _ _ => rfl)) pe_int))
      (pss_one (ps_ret (pe_disp (pps_cons pe_str (pe_ifExp (pt_cmpR op_ge (pv 4) (pe_op op_pow pe_int pe_int) (nomark _)) (pv 4) pe_int) (pps_cons pe_str (pv 2) (pps_cons pe_str pe_int pps_nil))) (by rfl) (by rfl) (fun z => by cases z) (by decide))))))), ?_⟩
    have S := Hs.start0 H
    walk_at "st"
    walk_at "rd"
    refine ⟨x, rfl, ⟨_, S.sq hs (by simp)⟩, ?_⟩
    refine fw_list (xs := ns.map V.int) (fun i σ H' => ∃ (f : Int) (o : Option V), σ = [some (.ref x), some (.int kk), some (.int f), o, none] ∧ Hs H [] H' []) ⟨_, _, rfl, S⟩ (fun i σ H' _ h => by
      obtain ⟨f, o, _, S⟩ := h
      exact S.sq hs (by simp)) ?_ ?_
    · rintro i y σ H' hi ⟨f, o, rfl, S⟩
      obtain ⟨z, _, rfl⟩ := List.mem_map.mp (List.mem_of_getElem? hi)
      walk_at "rd"
      exact ⟨_, _, rfl, S⟩
    · rintro σ H' ⟨f, o, rfl, S⟩
      walk_at "rd"
      refine ⟨x, _, rfl, Or.inl (S.sq hs (by simp)), ?_⟩
      rw [List.length_map]
      walk_at "rd"
      have fin : ∀ own : Int, True := fun _ => trivial
      refine rd_dec ?_ ?_ <;> intro hc
      · obtain ⟨j, rfl⟩ := Int.eq_ofNat_of_zero_le hk1
        have hj : j < ns.length := by omega
        walk_at "rd"
        refine ⟨x, _, _, .int (ns.getD j 0), rfl, rfl, S.sq hs (by simp), ?_, ?_⟩
        · refine atI_nat (j := j) ?_
          rw [List.getElem?_map, List.getD_eq_getElem?_getD, List.getElem?_eq_getElem hj]
          rfl
        walk_at "rd"
        refine rd_dec ?_ ?_ <;> intro hd <;> walk_at "rd"
        · apply k
          all_goals walk_at "end"
        · apply k
          all_goals walk_at "end"
      · walk_at "rd"
        refine rd_dec ?_ ?_ <;> intro hd <;> walk_at "rd"
        · apply k
          all_goals walk_at "end"
        · apply k
          all_goals walk_at "end"
theorem mx_comm (n : Int) : (if 1 > n then 1 else n) = mx1 n := by unfold mx1; split <;> split <;> omega
theorem mx_pos (n : Int) : 0 ≤ mx1 n := by unfold mx1; split <;> omega
theorem ok_lbound (T : Txt K mg w A) : FnOk P w K mg base CX0 2 A.f__law_bound A.d__law_bound ["_law_paper", "_law_speed"] sp_lbound := by
  have G__law_bits : FnOk P w K mg base CX0 1 A.f__law_bits A.d__law_bits ["_law_number"] sp_lbits := ok_lbits T
  refine T.c__law_bound.F.ok sc_l_bound (fun vs H Q E h => ?_) (fun cdv Ar outer s H vs Q E hr h => ?_)
  · obtain ⟨p, kq, pq, s, m, e, a, b, g, pk, rfl, _⟩ := h; rfl
  · obtain ⟨p, kq, pq, s, m, e, a, b, g, pk, rfl, R, k⟩ := h
    refine ⟨_, (pss_cons (ps_set (i := 2) sc_l_bound.nd rfl (Or.inl rfl) pe_int)
      (pss_cons (ps_for PassesOwn.never rfl (pi_tup (pe_ix ix_tup (pv 0) pe_int (fun _ _ => rfl))) (pg_name (i := 3) sc_l_bound.nd rfl (Or.inl rfl))
        (pss_one (ps_set (i := 2) sc_l_bound.nd rfl (Or.inl rfl) (pe_op op_add (pv 2) (pe_op op_mul pe_int (pe_call G__law_bits (hr.mono (by decide)) rfl T.c__law_bits.m T.c__law_bits.F.kp T.c__law_bits.b .nil pass0 (pa_cons (pe_callB (call_max2 rfl) (by rfl) T.n_max PyProof.Rows.boot_max (pa_cons (pv 3) (pa_cons pe_int pa_nil))) pa_nil)))))))
      (pss_cons (ps_for PassesOwn.never rfl (pi_tup (pe_ix ix_tup (pv 0) pe_int (fun _ _ => rfl))) (pg_name (i := 3) sc_l_bound.nd rfl (Or.inl rfl))
        (pss_one (ps_set (i := 2) sc_l_bound.nd rfl (Or.inl rfl) (pe_op op_add (pv 2) (pe_ifExp (pt_cmpR op_lt (pv 3) (pv 1) (nomark _)) (pv 3) (pe_op op_add (pv 1) (pe_op op_mul pe_int (pe_call G__law_bits (hr.mono (by decide)) rfl T.c__law_bits.m T.c__law_bits.F.kp T.c__law_bits.b .nil pass0 (pa_cons (pe_callB (call_max2 rfl) (by rfl) T.n_max PyProof.Rows.boot_max (pa_cons (pe_op op_sub (pv 3) (pv 1)) (pa_cons pe_int pa_nil))) pa_nil)))))))))
      (pss_one (ps_ret (pv 2)))))), ?_⟩
    have S := R.led
    have e3 : atI [V.int s, V.int m, V.int e, V.ref kq, V.ref pq] 3 = some (V.ref kq) := atI_nat (j := 3) rfl
    have e4 : atI [V.int s, V.int m, V.int e, V.ref kq, V.ref pq] 4 = some (V.ref pq) := atI_nat (j := 4) rfl
    walk_at "st"
    walk_at "rd"
    refine fw_tup (xs := [V.int a, V.int b]) (fun i σ H' => ∃ o, H = H' ∧ σ = [some (.ref p), some (.int g), some (.int (([a, b].take i).map fun z => 2 * bitI (mx1 z)).sum), o]) ⟨_, rfl, rfl⟩ (fun i σ H' _ h => by
      obtain ⟨o, rfl, _⟩ := h
      exact S.tup (by walk_at "mem")) ?_ ?_
    · rintro i x σ H1 hi ⟨o, rfl, rfl⟩
      obtain ⟨z, rfl, tk, hz, hil⟩ := take_more (ns := [a, b]) hi
      walk_at "rd"
      rw [mx_comm]
      refine ⟨_, rfl, mx_pos _, ?_⟩
      walk_at "rd"
      refine ⟨some (.int z), rfl, ?_⟩
      rw [tk]
      simp
    · rintro σ H1 ⟨o, rfl, rfl⟩
      walk_at "rd"
      refine fw_tup (xs := pk.map V.int) (fun i σ H' => ∃ o, H = H' ∧ σ = [some (.ref p), some (.int g), some (.int ((2 * bitI (mx1 a) + (2 * bitI (mx1 b) + 0)) + ((pk.take i).map (pbI g)).sum)), o]) ⟨o, rfl, by simp⟩ (fun i σ H' _ h => by
        obtain ⟨o, rfl, _⟩ := h
        exact S.tup (by walk_at "mem")) ?_ ?_
      · rintro i x σ H1 hi ⟨o, rfl, rfl⟩
        obtain ⟨z, rfl, tk, hz, hil⟩ := take_more hi
        walk_at "rd"
        refine rd_dec ?_ ?_ <;> intro hc
        · walk_at "rd"
          refine ⟨some (.int z), rfl, ?_⟩
          have : pbI g z = z := by unfold pbI; rw [if_pos hc]
          rw [tk]
          simp [this]
          omega
        · walk_at "rd"
          rw [mx_comm]
          refine ⟨_, rfl, mx_pos _, ?_⟩
          walk_at "rd"
          refine ⟨some (.int z), rfl, ?_⟩
          have : pbI g z = g + 2 * bitI (mx1 (z - g)) := by unfold pbI; rw [if_neg hc]
          rw [tk]
          simp [this]
          omega
      · rintro σ H1 ⟨o, rfl, rfl⟩
        walk_at "rd"
        rw [List.length_map, List.take_length]
        have e1 : 2 * bitI (mx1 a) + (2 * bitI (mx1 b) + 0) + (pk.map (pbI g)).sum = mbI a b pk g := by unfold mbI; omega
        rw [e1]
        exact k _ fun _ _ z => z
theorem max_ge {t : Int} (ht : 0 < t) (pk : List Int) : t ≤ maxD 0 pk ↔ ∃ z ∈ pk, t ≤ z := by
  cases pk with
  | nil => simp [maxD]; omega
  | cons x xs =>
    obtain ⟨a, b, c⟩ := fold_max xs x
    show t ≤ xs.foldl max x ↔ _
    refine ⟨fun h => ?_, fun ⟨z, hz, h⟩ => ?_⟩
    · rcases a with a | a
      · exact ⟨x, List.mem_cons_self, by omega⟩
      · exact ⟨_, List.mem_cons_of_mem _ a, h⟩
    · rcases List.mem_cons.mp hz with rfl | hz
      · omega
      · have := c z hz; omega
theorem no_more {p : Int → Prop} {l : List Int} {z : Int} (h : ¬ p z) : (∀ y ∈ l, ¬ p y) ↔ ∀ y ∈ l ++ [z], ¬ p y :=
  ⟨fun q y hy => by
    rcases List.mem_append.mp hy with r | r
    · exact q y r
    · obtain rfl : y = z := by simpa using r
      exact h, fun q y hy => q y (List.mem_append_left _ hy)⟩
theorem ok_lnext (T : Txt K mg w A) : FnOk P w K mg base CX0 1 A.f__law_next A.d__law_next ["_law_paper", "_law_speed"] sp_lnext := by
  refine T.c__law_next.F.ok sc_l_next (fun vs H Q E h => ?_) (fun cdv Ar outer s H vs Q E hr h => ?_)
  · obtain ⟨p, kq, pq, s, m, e, a, b, g, pk, rfl, _⟩ := h; rfl
  · obtain ⟨p, kq, pq, s, m, e, a, b, g, pk, rfl, R, g1, g2, hl, k⟩ := h
    refine ⟨_, (pss_cons (ps_if (pt_cmpR (op_neD hr.units) (pe_lc (own := [("_law_many", 2)]) (g := gName 2) (tt := _) rfl sc_l_next.nd (pi_tup (pe_ix ix_tup (pv 0) pe_int (fun _ _ => rfl))) (blkOk_by (N := ["_law_paper", "_law_speed", "_law_many"]) (sc := defScope s_l_next) (by decide +kernel)) (fun _ _ _ _ _ => (pg_name (i := 2) sc_l_next.nd rfl (Or.inl rfl))) (fun _ _ _ _ _ => (pts_one (pt_cmpR op_ge (pv 2) (pe_op op_add (pv 1) pe_int) (nomark _)))) (fun _ _ _ _ _ => (pv 2))) (pe_lst pa_nil) (nomark _))
        (pss_one (ps_ret (pe_callB (call_max2 rfl) (by rfl) T.n_max PyProof.Rows.boot_max (pa_cons pe_int (pa_cons (pe_op op_sub (pv 1) pe_int) pa_nil)))))
        pss_nil)
      (pss_one (ps_ret (pe_callB (call_min2 rfl) (by rfl) T.n_min PyProof.Rows.boot_min (pa_cons pe_int (pa_cons (pe_op op_add (pv 1) (pe_callTy call_int1 (by rfl) T.n_int (by decide +kernel) (pa_cons (pe_cmpR (op_neD hr.units) (pe_lc (own := [("_law_many", 2)]) (g := gName 2) (tt := _) rfl sc_l_next.nd (pi_tup (pe_ix ix_tup (pv 0) pe_int (fun _ _ => rfl))) (blkOk_by (N := ["_law_paper", "_law_speed", "_law_many"]) (sc := defScope s_l_next) (by decide +kernel)) (fun _ _ _ _ _ => (pg_name (i := 2) sc_l_next.nd rfl (Or.inl rfl))) (fun _ _ _ _ _ => (pts_one (pt_cmpR op_gt (pv 2) (pv 1) (nomark _)))) (fun _ _ _ _ _ => (pv 2))) (pe_lst pa_nil) (nomark _)) pa_nil))) pa_nil)))))), ?_⟩
    have S := R.led
    have e4 : atI [V.int s, V.int m, V.int e, V.ref kq, V.ref pq] 4 = some (V.ref pq) := atI_nat (j := 4) rfl
    unfold ngI at k
    walk_at "st"
    walk_at "rd"
    refine lcw_tup (xs := pk.map V.int) S (fun i acc => ∃ ks : List Int, acc = ks.map V.int ∧ ks.length ≤ i ∧ (ks = [] ↔ ∀ z ∈ pk.take i, ¬ g + 3 ≤ z)) ⟨[], rfl, by simp, by simp⟩ (fun H' acc D S => S.tup (by walk_at "mem")) ?_ ?_
    · rintro D i x acc H1 hi ⟨ks, rfl, kl, kz⟩ hD S
      obtain ⟨z, rfl, tk, hz, hil⟩ := take_more hi
      walk_at "lc"
      refine rd_dec ?_ ?_ <;> intro hc
      · walk_at "rd"
        refine rd_lcPut S (by walk_at "chg") hD (Rs.sz' (by simp; omega)) (by walk_at "sub") ⟨ks ++ [z], by simp, by simp; omega, ?_⟩
        rw [tk]
        simp [hc]
      · refine rd_lcSkip S hD (by walk_at "sub") ⟨ks, rfl, by omega, ?_⟩
        rw [tk, kz]
        exact no_more hc
    · rintro D acc H1 ⟨ks, rfl, kl, kz⟩ hD S
      rw [List.length_map, List.take_length] at kz
      rw [List.length_map] at kl
      walk_at "rd"
      refine rd_neIs (ns := ks) (ms := []) (by assumption) (by walk_at "mem") (by walk_at "mem") (by rfl) (by rfl) ?_
      walk_at "rd"
      have key := max_ge (t := g + 3) (by omega) pk
      refine rd_dec ?_ ?_ <;> intro hc
      · have h3 : g + 3 ≤ maxD 0 pk := by
          refine key.mpr ?_
          refine Classical.byContradiction fun z => hc (kz.mpr fun y hy hq => z ⟨y, hy, hq⟩)
        rw [if_pos h3] at k
        walk_at "rd"
        rename_i S5
        exact k _ S5.same
      · have h3 : ¬ g + 3 ≤ maxD 0 pk := fun z => by
          obtain ⟨y, hy, hq⟩ := key.mp z
          exact kz.mp (Classical.byContradiction hc) y hy hq
        rw [if_neg h3] at k
        walk_at "rd"
        rename_i p6 H6 hp6 S6
        have S7 : Hs H [] H6 [(p, .tup [.int s, .int m, .int e, .ref kq, .ref pq]), (kq, .tup [.int a, .int b]), (pq, .tup (pk.map V.int))] := S6.sub (by walk_at "sub")
        clear S6 S
        walk_at "rd"
        refine lcw_tup (xs := pk.map V.int) S7 (fun i acc => ∃ ks : List Int, acc = ks.map V.int ∧ ks.length ≤ i ∧ (ks = [] ↔ ∀ z ∈ pk.take i, ¬ g < z)) ⟨[], rfl, by simp, by simp⟩ (fun H' acc D S => S.tup (by walk_at "mem")) ?_ ?_
        · rintro D i x acc H1 hi ⟨ks, rfl, kl, kz⟩ hD S
          obtain ⟨z, rfl, tk, hz, hil⟩ := take_more hi
          walk_at "lc"
          refine rd_dec ?_ ?_ <;> intro hc
          · walk_at "rd"
            refine rd_lcPut S (by walk_at "chg") hD (Rs.sz' (by simp; omega)) (by walk_at "sub") ⟨ks ++ [z], by simp, by simp; omega, ?_⟩
            rw [tk]
            simp [hc]
          · refine rd_lcSkip S hD (by walk_at "sub") ⟨ks, rfl, by omega, ?_⟩
            rw [tk, kz]
            exact no_more hc
        · rintro D acc H1 ⟨ks, rfl, kl, kz⟩ hD S
          rw [List.length_map, List.take_length] at kz
          rw [List.length_map] at kl
          walk_at "rd"
          refine rd_neIs (ns := ks) (ms := []) (by assumption) (by walk_at "mem") (by walk_at "mem") (by rfl) (by rfl) ?_
          walk_at "rd"
          refine rd_int1b ?_
          walk_at "rd"
          rename_i S9
          have key := max_ge (t := g + 1) (by omega) pk
          have sm := S9.same
          by_cases hg : g < maxD 0 pk
          · rw [if_pos hg] at k
            have hk : ¬ ks = [] := fun z => by
              obtain ⟨y, hy, hq⟩ := key.mp (by omega)
              exact kz.mp z y hy (by omega)
            rw [decide_eq_true hk]
            exact k _ sm
          · rw [if_neg hg] at k
            have hk : ks = [] := kz.mpr fun y hy hq => hg (by have := key.mpr ⟨y, hy, by omega⟩; omega)
            rw [decide_eq_false (by simpa using hk)]
            have e1 : (if g + (if false = true then 1 else 0) < 64 then g + (if false = true then 1 else 0) else 64) = g := by simp; omega
            rw [e1]
            exact k _ sm
end
end K28

namespace K28
open PySem L2 Rs
local macro_rules | `(tactic| walk_at "val") => `(tactic| first | exact drw_left _ _ _ | exact drw_cell _ _ _ | exact drw_at _ _ _)
local macro_rules | `(tactic| walk_at "put") => `(tactic| first | exact put_left _ _ _ _ | exact put_at _ _ _ _ | exact merge_drw _ _ _)
structure PK (a b : Int) (pk : List Int) : Prop where
  a0 : 0 ≤ a
  a1 : a ≤ 70
  b0 : 0 ≤ b
  b1 : b ≤ 70
  ev : pk.length % 2 = 0
  len : pk.length ≤ 12
  pos : ∀ x ∈ pk, 1 ≤ x ∧ x ≤ 80
  em : pk = [] → 1 ≤ a ∧ 1 ≤ b
def sp_lengths : Sp := fun vs H Q _ => ∃ (d : Addr) (l c a0 : Int), vs = [.ref d] ∧ H d = some (.dK (drw l c a0)) ∧ 0 ≤ a0 ∧ a0 < 2 ^ 39 ∧
  ∀ (q kq pq : Addr) (a b : Int) (pk : List Int) (l' a' : Int) (H' : Hp), NewL H H' [(q, .tup [.ref kq, .ref pq]), (pq, .tup (pk.map V.int)), (kq, .tup [.int a, .int b])] → H' d = some (.dK (drw l' c a')) → (∀ x o, H x = some o → x ≠ d → H' x = some o) → a0 ≤ a' → a' ≤ a0 + 40 → PK a b pk → Q (.ref q) H'
def sp_lmerge : Sp := fun vs H Q _ => ∃ (d : Addr) (l c a0 : Int), vs = [.ref d] ∧ H d = some (.dK (drw l c a0)) ∧ 0 ≤ a0 ∧ a0 < 2 ^ 39 ∧
  ∀ (p kq pq : Addr) (s m e a b : Int) (pk : List Int) (l' a' : Int) (H' : Hp), NewL H H' [(p, .tup [.int s, .int m, .int e, .ref kq, .ref pq]), (pq, .tup (pk.map V.int)), (kq, .tup [.int a, .int b])] → H' d = some (.dK (drw l' c a')) → (∀ x o, H x = some o → x ≠ d → H' x = some o) → a0 ≤ a' → a' ≤ a0 + 50 → VM s m e a b pk → (∀ x ∈ pk, x ≤ 80) → pk.length ≤ 12 → Q (.ref p) H'
theorem sum_le80 : ∀ {l : List Int}, (∀ x ∈ l, 1 ≤ x ∧ x ≤ 80) → 0 ≤ l.sum ∧ l.sum ≤ 80 * l.length ∧ (l ≠ [] → 1 ≤ l.sum)
  | [], _ => by simp
  | x :: l, h => by
    obtain ⟨a, b, _⟩ := sum_le80 (l := l) fun z hz => h z (List.mem_cons_of_mem _ hz)
    have := h x List.mem_cons_self
    simp
    omega
theorem pick_ne {pk : List Int} (h : 2 ≤ pk.length) : pickI pk none none 2 ≠ [] ∧ pickI pk (some 1) none 2 ≠ [] := by
  constructor
  · refine List.ne_nil_of_mem (a := pk[0]) (List.mem_filterMap.mpr ⟨0, ?_, by simp⟩)
    unfold ixT
    refine List.mem_map.mpr ⟨0, ?_, by simp [Builtin.Slice.sliceAdjust]⟩
    simp [Builtin.Slice.sliceAdjust, Builtin.Slice.slicePlaces]
    split <;> omega
  · refine List.ne_nil_of_mem (a := pk[1]) (List.mem_filterMap.mpr ⟨1, ?_, by simp⟩)
    unfold ixT
    have e1 : min (1 : Int) pk.length = 1 := by omega
    refine List.mem_map.mpr ⟨0, ?_, by simp [Builtin.Slice.sliceAdjust, e1]⟩
    simp [Builtin.Slice.sliceAdjust, Builtin.Slice.slicePlaces, e1]
    split <;> omega
section
variable {P : Program} {w : World} {K : PySem.W.Frag} {mg : Str → Option Value} {base : Heap} {A : Ad} {H H0 : Hp} {M : List Addr} {L L' : Led} {Q : VK} {E : XK}
local macro_rules | `(tactic| walk_at "rd1") => `(tactic| ((with_reducible refine' K28.use_draw (by assumption) ?c ?o ?b1 ?b2 ?b3 ?b4 ?_); (case c => walk_at "chgF"); (case o => walk_at "own"); (case b1 => omega); (case b2 => omega); (case b3 => omega); (case b4 => omega); intro r l a H S h0 h1 h2 h3))
theorem ok_lengths (T : Txt K mg w A) : FnOk P w K mg base CX0 2 A.f__law_lengths A.d__law_lengths ["_law_state"] sp_lengths := by
  have G__law_draw : FnOk P w K mg base CX0 1 A.f__law_draw A.d__law_draw ["_law_state", "_law_many"] sp_draw := ok_draw T
  refine T.c__law_lengths.F.ok sc_l_lengths (fun vs H Q E h => ?_) (fun cdv Ar outer s H vs Q E hr h => ?_)
  · obtain ⟨d, l, c, a0, rfl, _⟩ := h; rfl
  · obtain ⟨d, l, c, a0, rfl, hd, h0, h1, k⟩ := h
    refine ⟨_, (pss_cons (ps_par (i := 1) (j := 2) rfl sc_l_lengths.nd rfl rfl (by decide) rfl rfl (pa_cons (pe_lst pa_nil) (pa_cons (pe_lst pa_nil) pa_nil)) (by rfl))
      (pss_cons (ps_for PassesOwn.never rfl (pi_range1 rfl T.n_range (pa_cons (pe_op op_mul pe_int (pe_call G__law_draw (hr.mono (by decide)) rfl T.c__law_draw.m T.c__law_draw.F.kp T.c__law_draw.b .nil pass0 (pa_cons (pv 0) (pa_cons pe_int pa_nil)))) pa_nil)) (pg_name (i := 3) sc_l_lengths.nd rfl (Or.inl rfl))
        (pss_cons (ps_set (i := 4) sc_l_lengths.nd rfl (Or.inl rfl) (pe_ix ix_list (pe_lst (pa_cons pe_int (pa_cons pe_int (pa_cons pe_int (pa_cons pe_int (pa_cons pe_int pa_nil)))))) (pe_call G__law_draw (hr.mono (by decide)) rfl T.c__law_draw.m T.c__law_draw.F.kp T.c__law_draw.b .nil pass0 (pa_cons (pv 0) (pa_cons pe_int pa_nil))) (fun _ _ => rfl)))
        (pss_one (ps_expr (pe_bm PySem.F.plainAttrs_list PySem.F.slot_list_append PySem.F.type_list_append mt_append (pv 1) (pa_cons (pe_op op_add pe_int (pe_call G__law_draw (hr.mono (by decide)) rfl T.c__law_draw.m T.c__law_draw.F.kp T.c__law_draw.b .nil pass0 (pa_cons (pv 0) (pa_cons (pv 4) pa_nil)))) pa_nil))))))
      (pss_cons (ps_for PassesOwn.never rfl (pi_range1 rfl T.n_range (pa_cons pe_int pa_nil)) (pg_name (i := 3) sc_l_lengths.nd rfl (Or.inl rfl))
        (pss_cons (ps_set (i := 4) sc_l_lengths.nd rfl (Or.inl rfl) (pe_ix ix_list (pe_lst (pa_cons pe_int (pa_cons pe_int (pa_cons pe_int (pa_cons pe_int (pa_cons pe_int pa_nil)))))) (pe_call G__law_draw (hr.mono (by decide)) rfl T.c__law_draw.m T.c__law_draw.F.kp T.c__law_draw.b .nil pass0 (pa_cons (pv 0) (pa_cons pe_int pa_nil))) (fun _ _ => rfl)))
        (pss_one (ps_expr (pe_bm PySem.F.plainAttrs_list PySem.F.slot_list_append PySem.F.type_list_append mt_append (pv 2) (pa_cons (pe_op op_add (pe_call G__law_draw (hr.mono (by decide)) rfl T.c__law_draw.m T.c__law_draw.F.kp T.c__law_draw.b .nil pass0 (pa_cons (pv 0) (pa_cons (pv 4) pa_nil))) (pe_callTy call_int1 (by rfl) T.n_int (by decide +kernel) (pa_cons (pe_cmpR (op_eqD hr.units) (pv 1) (pe_lst pa_nil) (nomark _)) pa_nil))) pa_nil))))))
      (pss_one (ps_ret (pe_tup (pa_cons (pe_callTy call_tuple_of (by rfl) T.n_tuple (by decide +kernel) (pa_cons (pv 2) pa_nil)) (pa_cons (pe_callTy call_tuple_of (by rfl) T.n_tuple (by decide +kernel) (pa_cons (pv 1) pa_nil)) pa_nil)))))))), ?_⟩
    have S := Hs.start1 hd [d] (.inr rfl)
    walk_at "st"
    walk_at "rd"
    rename_i p1 H1 hp1 S1 k1 H2 hk1 S2 r l1 a1 H3 S3 g0 g1 g2 g3
    obtain ⟨r', rfl⟩ := Int.eq_ofNat_of_zero_le g0
    clear S1 S2
    have hz12 : 2 * (r' : Int) ≤ 12 := by omega
    refine fw_range (fun i σ H' => ∃ o3 o4 l' a' pk, σ = [some (.ref d), some (.ref p1), some (.ref k1), o3, o4] ∧ Hs H [d] H' [(k1, .lst []), (p1, .lst (pk.map V.int)), (d, .dK (drw l' c a'))] ∧ pk.length = i ∧ (∀ x ∈ pk, 1 ≤ x ∧ x ≤ 80) ∧ a0 ≤ a' ∧ a' ≤ a0 + 1 + 2 * i) ⟨_, _, _, _, [], rfl, S3, rfl, by simp, by omega, by omega⟩ ?_ ?_
    · rintro i σ H4 hi ⟨o3, o4, l2, a2, pk, rfl, S, hl, hp, b1, b2⟩
      have hi2 : (i : Int) < 12 := by omega
      walk_at "rd"
      refine rd_ixAny (by assumption) (by walk_at "mem") (by assumption) (by simpa using (by assumption)) fun v hv _ => ?_
      obtain ⟨q, rfl, hq1, hq2⟩ : ∃ q, v = V.int q ∧ 1 ≤ q ∧ q ≤ 80 := by
        simp only [List.mem_cons, List.not_mem_nil, or_false] at hv
        rcases hv with rfl | rfl | rfl | rfl | rfl <;> exact ⟨_, rfl, by decide, by decide⟩
      walk_at "rd"
      rename_i r5 l5 a5 H5 S5 c0 c1 c2 c3 H6 S6
      have e : pk.map V.int ++ [V.int (1 + r5)] = (pk ++ [1 + r5]).map V.int := by simp
      rw [e] at S6
      refine ⟨_, _, _, _, pk ++ [1 + r5], rfl, S6.sub (by walk_at "sub"), by simp [hl], ?_, by omega, by omega⟩
      intro x hx
      rcases List.mem_append.mp hx with z | z
      · exact hp x z
      · obtain rfl : x = 1 + r5 := by simpa using z
        omega
    · rintro σ H4 ⟨o3, o4, l2, a2, pk, rfl, S, hl, hp, b1, b2⟩
      have hl2 : pk.length = 2 * r' := by omega
      clear S3
      walk_at "rd"
      refine fw_range (fun i σ H' => ∃ o3 o4 l' a' ks, σ = [some (.ref d), some (.ref p1), some (.ref k1), o3, o4] ∧ Hs H [d] H' [(k1, .lst (ks.map V.int)), (p1, .lst (pk.map V.int)), (d, .dK (drw l' c a'))] ∧ ks.length = i ∧ (∀ x ∈ ks, 0 ≤ x ∧ x ≤ 70 ∧ (pk = [] → 1 ≤ x)) ∧ a0 ≤ a' ∧ a' ≤ a0 + 26 + 2 * i) ⟨_, _, _, _, [], rfl, S, rfl, by simp, by omega, by omega⟩ ?_ ?_
      · rintro i σ H4 hi ⟨o3, o4, l2, a2, ks, rfl, S, hlk, hp, b1, b2⟩
        have hi2 : i < 2 := hi
        walk_at "rd"
        refine rd_ixAny (by assumption) (by walk_at "mem") (by assumption) (by simpa using (by assumption)) fun v hv _ => ?_
        obtain ⟨q, rfl, hq1, hq2⟩ : ∃ q, v = V.int q ∧ 1 ≤ q ∧ q ≤ 70 := by
          simp only [List.mem_cons, List.not_mem_nil, or_false] at hv
          rcases hv with rfl | rfl | rfl | rfl | rfl <;> exact ⟨_, rfl, by decide, by decide⟩
        walk_at "rd"
        refine rd_eqIs (ns := pk) (ms := []) (by assumption) (by walk_at "mem") (by walk_at "mem") (by rfl) (by rfl) ?_
        walk_at "rd"
        refine rd_int1b ?_
        walk_at "rd"
        rename_i r6 l6 a6 H6 S6 f0 f1 f2 f3 p7 H7 hp7 S7 H8 S8
        have e : ks.map V.int ++ [V.int (r6 + if decide (pk = []) = true then 1 else 0)] = (ks ++ [r6 + if decide (pk = []) = true then 1 else 0]).map V.int := by simp
        rw [e] at S8
        refine ⟨_, _, _, _, _, rfl, S8.sub (by walk_at "sub"), by simp [hlk], ?_, by omega, by omega⟩
        intro x hx
        rcases List.mem_append.mp hx with z | z
        · exact hp x z
        · have ex : x = r6 + if decide (pk = []) = true then 1 else 0 := by simpa using z
          by_cases hpk : pk = []
          · rw [decide_eq_true hpk, if_pos rfl] at ex
            exact ⟨by omega, by omega, fun _ => by omega⟩
          · rw [decide_eq_false hpk, if_neg (by simp)] at ex
            exact ⟨by omega, by omega, fun z => absurd z hpk⟩
      · rintro σ H4 ⟨o3, o4, l2, a2, ks, rfl, S, hlk, hpk, b1, b2⟩
        obtain ⟨x, y, rfl⟩ : ∃ x y, ks = [x, y] := by
          match ks, hlk with
          | [x, y], _ => exact ⟨x, y, rfl⟩
        obtain ⟨x0, x1, x2⟩ := hpk x (by simp)
        obtain ⟨y0, y1, y2⟩ := hpk y (by simp)
        have h26 : a2 ≤ a0 + 40 := by simp at b2; omega
        walk_at "rd"
        refine ⟨k1, _, rfl, Or.inl ⟨S.lst (by walk_at "mem"), fun kt hkt => ?_⟩⟩
        obtain ⟨hk0, S5⟩ := S.new hkt (.tup ([x, y].map V.int))
        walk_at "rd"
        refine ⟨p1, _, rfl, Or.inl ⟨S5.lst (by walk_at "mem"), fun pt hpt => ?_⟩⟩
        obtain ⟨hp0, S6⟩ := S5.new hpt (.tup (pk.map V.int))
        clear S5 S
        walk_at "rd"
        rename_i q H7 hq S7
        simp only [List.map_cons, List.map_nil] at S7
        refine k q kt pt x y pk l2 a2 H7 (S7.news (by walk_at "sub") ?_) (S7.get (by walk_at "mem")) (fun b o e hb => S7.old1 e hb) (by omega) (by omega) ⟨x0, x1, y0, y1, by omega, by omega, hp, fun z => ⟨x2 z, y2 z⟩⟩
        intro z hz
        simp only [List.mem_cons, List.not_mem_nil, or_false] at hz
        rcases hz with rfl | rfl | rfl <;> assumption
theorem ok_lmerge (T : Txt K mg w A) : FnOk P w K mg base CX0 3 A.f__law_merge A.d__law_merge ["_law_state"] sp_lmerge := by
  have G__law_lengths : FnOk P w K mg base CX0 2 A.f__law_lengths A.d__law_lengths ["_law_state"] sp_lengths := ok_lengths T
  have G__law_draw : FnOk P w K mg base CX0 1 A.f__law_draw A.d__law_draw ["_law_state", "_law_many"] sp_draw := ok_draw T
  refine T.c__law_merge.F.ok sc_l_merge (fun vs H Q E h => ?_) (fun cdv Ar outer s H vs Q E hr h => ?_)
  · obtain ⟨d, l, c, a0, rfl, _⟩ := h; rfl
  · obtain ⟨d, l, c, a0, rfl, hd, h0, h1, k⟩ := h
    refine ⟨_, (pss_cons (ps_asg (pe_call G__law_lengths (hr.mono (by decide)) rfl T.c__law_lengths.m T.c__law_lengths.F.kp T.c__law_lengths.b .nil pass0 (pa_cons (pv 0) pa_nil)) (pg_tup rfl (pgs_cons (pg_name (i := 1) sc_l_merge.nd rfl (Or.inl rfl)) (pgs_cons (pg_name (i := 2) sc_l_merge.nd rfl (Or.inl rfl)) pgs_nil))))
      (pss_cons (ps_par (i := 3) (j := 4) rfl sc_l_merge.nd rfl rfl (by decide) rfl rfl (pa_cons (pe_op op_add (pe_ix ix_tup (pv 1) pe_int (fun _ _ => rfl)) (pe_callB (cr_sumT rfl) (by rfl) T.n_sum PyProof.Rows.boot_sum (pa_cons (pe_slT3 (pv 2) (po_some pe_int) po_none (po_some pe_int)) pa_nil))) (pa_cons (pe_op op_add (pe_ix ix_tup (pv 1) pe_int (fun _ _ => rfl)) (pe_callB (cr_sumT rfl) (by rfl) T.n_sum PyProof.Rows.boot_sum (pa_cons (pe_slT3 (pv 2) po_none po_none (po_some pe_int)) pa_nil))) pa_nil)) (by rfl))
      (pss_cons (ps_set (i := 5) sc_l_merge.nd rfl (Or.inl rfl) (pe_call G__law_draw (hr.mono (by decide)) rfl T.c__law_draw.m T.c__law_draw.F.kp T.c__law_draw.b .nil pass0 (pa_cons (pv 0) (pa_cons (pe_op op_add (pe_op op_sub (pe_op op_sub pe_int (pv 3)) (pv 4)) pe_int) pa_nil))))
      (pss_one (ps_ret (pe_tup (pa_cons (pv 5) (pa_cons (pe_op op_add (pv 5) (pv 3)) (pa_cons (pe_op op_add (pe_op op_add (pv 5) (pv 3)) (pv 4)) (pa_cons (pv 1) (pa_cons (pv 2) pa_nil))))))))))), ?_⟩
    have S := Hs.start1 hd [d] (.inr rfl)
    walk_at "st"
    walk_at "rd"
    refine ⟨d, l, c, a0, rfl, hd, h0, h1, fun q kq pq a b pk l1 a1 H1 n hd1 old b1 b2 W => ?_⟩
    obtain ⟨n0, S1⟩ := S.oneN .here (Or.inr (by simp)) old hd1 n
    simp only [List.cons_append, List.nil_append] at S1
    obtain ⟨w1, w2, w3, w4, w5, w6, w7, w8⟩ := W
    have nk : H kq = none := n.nw (kq, .tup [.int a, .int b]) (by simp)
    have np : H pq = none := n.nw (pq, .tup (pk.map V.int)) (by simp)
    have ne : kq ≠ pq := fun z => by
      have := n.nd
      simp [z] at this
    clear S
    have e0 : atI [V.int a, V.int b] 0 = some (V.int a) := atI_nat (j := 0) rfl
    have e1 : atI [V.int a, V.int b] 1 = some (V.int b) := atI_nat (j := 1) rfl
    have q1 := sum_le80 (l := pickI pk (some 1) none 2) fun x hx => w7 x (pick_mem hx)
    have q0 := sum_le80 (l := pickI pk none none 2) fun x hx => w7 x (pick_mem hx)
    have l1' := pick_le pk (some 1) (Or.inr rfl)
    have l0' := pick_le pk none (Or.inl rfl)
    have f1 : 1 ≤ a + (pickI pk (some 1) none 2).sum ∧ 1 ≤ b + (pickI pk none none 2).sum := by
      by_cases z : pk = []
      · have := w8 z; omega
      · have : 2 ≤ pk.length := by
          have : pk.length ≠ 0 := fun y => z (List.eq_nil_of_length_eq_zero y)
          omega
        obtain ⟨y0, y1⟩ := pick_ne this
        have := q1.2.2 y1
        have := q0.2.2 y0
        omega
    walk_at "rd"
    refine rd_slR3 (ns := pk) S1 (by walk_at "mem") rfl (by decide) (by decide) (Rs.sz (by omega)) fun p2 H2 hp2 S2 => ?_
    clear S1
    walk_at "rd"
    refine rd_slR3 (ns := pk) S2 (by walk_at "mem") rfl (by decide) (by decide) (Rs.sz (by omega)) fun p3 H3 hp3 S3 => ?_
    clear S2
    walk_at "rd"
    rename_i r4 l4 a4 H4 S4 g0 g1 g2 g3 p5 H5 hp5 S5
    refine k p5 kq pq r4 (r4 + (a + (pickI pk (some 1) none 2).sum)) (r4 + (a + (pickI pk (some 1) none 2).sum) + (b + (pickI pk none none 2).sum)) a b pk l4 a4 H5 (S5.news (by walk_at "sub") ?_) (S5.get (by walk_at "mem")) (fun b o e hb => S5.old1 e hb) (by omega) (by omega) ⟨by omega, by omega, by omega, by omega, by omega, by omega, by omega, by omega, by omega, fun x hx => by have := w7 x hx; omega, by omega, by omega, by omega⟩ (fun x hx => (w7 x hx).2) w6
    intro z hz
    simp only [List.mem_cons, List.not_mem_nil, or_false] at hz
    rcases hz with rfl | rfl | rfl <;> assumption
end
end K28

namespace K28
open PySem L2 Rs
def sp_told : Sp := fun vs H Q _ => ∃ (p kq pq : Addr) (s m e a b g : Int) (pk : List Int), vs = [.ref p, .int g] ∧ MA H p kq pq s m e a b pk ∧ VM s m e a b pk ∧ 1 ≤ g ∧ g ≤ 64 ∧ ∀ H', Same H H' → Q (.bl true) H'
def sp_hand : Sp := fun vs H Q _ => vs = [] ∧ ∀ H', Same H H' → Q (.bl true) H'
theorem bit_le : ∀ (k : Nat) (n : Int), n.toNat = k → 0 ≤ n → 0 ≤ bitI n ∧ bitI n ≤ n := by
  intro k
  induction k using Nat.strongRecOn with
  | ind k ih =>
    intro n hk hn
    by_cases h0 : n = 0
    · subst h0; decide
    · have e := bits_half (n := n) (by omega)
      obtain ⟨a, b⟩ := ih (n / 2).toNat (by omega) (n / 2) rfl (by omega)
      omega
theorem bit_mx (n : Int) : 0 ≤ bitI (mx1 n) ∧ bitI (mx1 n) ≤ mx1 n := bit_le _ _ rfl (mx_pos n)
theorem pb_le {g z : Int} (h1 : 1 ≤ g) (h2 : g ≤ 64) (h3 : 1 ≤ z) (h4 : z ≤ 4096) : 0 ≤ pbI g z ∧ pbI g z ≤ 10000 := by
  obtain ⟨a, b⟩ := bit_mx (z - g)
  unfold pbI
  have : mx1 (z - g) ≤ 4096 := by unfold mx1; split <;> omega
  split <;> omega
theorem sum_10000 : ∀ {l : List Int}, (∀ x ∈ l, 0 ≤ x ∧ x ≤ 10000) → 0 ≤ l.sum ∧ l.sum ≤ 10000 * l.length
  | [], _ => by simp
  | x :: l, h => by
    obtain ⟨a, b⟩ := sum_10000 (l := l) fun z hz => h z (List.mem_cons_of_mem _ hz)
    have := h x List.mem_cons_self
    simp
    omega
theorem mb_small {s m e a b g : Int} {pk : List Int} (W : VM s m e a b pk) (h1 : 1 ≤ g) (h2 : g ≤ 64) : (mbI a b pk g).natAbs < 10 ^ 12 ∧ (ngI pk g).natAbs < 10 ^ 12 := by
  obtain ⟨w1, w2, w3, w4, w5, w6, w7, w8, w9, w10, w11, w12, w13⟩ := W
  have q := sum_10000 (l := pk.map (pbI g)) fun x hx => by
    obtain ⟨z, hz, rfl⟩ := List.mem_map.mp hx
    have := w10 z hz
    exact pb_le h1 h2 this.1 this.2
  rw [List.length_map] at q
  have ba := bit_mx a
  have bb := bit_mx b
  have ma : mx1 a ≤ 4096 := by unfold mx1; split <;> omega
  have mb : mx1 b ≤ 4096 := by unfold mx1; split <;> omega
  constructor
  · unfold mbI
    omega
  · have : 0 ≤ mx1 (g - 1) ∧ mx1 (g - 1) ≤ 64 := ⟨mx_pos _, by unfold mx1; split <;> omega⟩
    unfold ngI
    split
    · omega
    · split
      · split <;> omega
      · omega
section
variable {P : Program} {w : World} {K : PySem.W.Frag} {mg : Str → Option Value} {base : Heap} {A : Ad} {H H0 : Hp} {M : List Addr} {L L' : Led} {Q : VK} {E : XK} {p kq pq : Addr} {s m e a b g : Int} {pk : List Int}
theorem kb1 (T : Txt K mg w A) : ∃ mv : List Value, KBn K A.d_merge_bound ["merge", "gallop"] 1 ["gallop"] (fun us ws => us ++ ws ++ mv) (fun vs zs => vs ++ zs ++ []) := by
  refine T.c_merge_bound.F.kbinds0 1 ["gallop"] [] (fun us mv ws => us ++ ws ++ mv) (by simp) (by simp) (fun r1 r2 r3 => (r1.append r3).append r2) ?_
  intro D doc pm an cdv ct us mv ws h1 h2 h3
  match us, h1, mv, h2, ws, h3 with
  | [u], _, [], _, [y], _ => rfl
theorem kb2 (T : Txt K mg w A) : ∃ mv : List Value, KBn K A.d_next_gallop ["merge", "gallop"] 1 ["gallop"] (fun us ws => us ++ ws ++ mv) (fun vs zs => vs ++ zs ++ []) := by
  refine T.c_next_gallop.F.kbinds0 1 ["gallop"] [] (fun us mv ws => us ++ ws ++ mv) (by simp) (by simp) (fun r1 r2 r3 => (r1.append r3).append r2) ?_
  intro D doc pm an cdv ct us mv ws h1 h2 h3
  match us, h1, mv, h2, ws, h3 with
  | [u], _, [], _, [y], _ => rfl
theorem kb3 (T : Txt K mg w A) : ∃ mv : List Value, KBn K A.d_merge_bound ["merge", "gallop"] 0 ["gallop", "merge"] (fun us ws => us ++ ws.drop 1 ++ ws.take 1 ++ mv) (fun vs zs => vs ++ zs.drop 1 ++ zs.take 1 ++ []) := by
  refine T.c_merge_bound.F.kbinds0 0 ["gallop", "merge"] [] (fun us mv ws => us ++ ws.drop 1 ++ ws.take 1 ++ mv) (by simp) (by simp) (fun r1 r2 r3 => ((r1.append (r3.drop 1)).append (r3.take 1)).append r2) ?_
  intro D doc pm an cdv ct us mv ws h1 h2 h3
  match us, h1, mv, h2, ws, h3 with
  | [], _, [], _, [y, z], _ => rfl
theorem kb4 (T : Txt K mg w A) : ∃ mv : List Value, KBn K A.d_next_gallop ["merge", "gallop"] 0 ["gallop", "merge"] (fun us ws => us ++ ws.drop 1 ++ ws.take 1 ++ mv) (fun vs zs => vs ++ zs.drop 1 ++ zs.take 1 ++ []) := by
  refine T.c_next_gallop.F.kbinds0 0 ["gallop", "merge"] [] (fun us mv ws => us ++ ws.drop 1 ++ ws.take 1 ++ mv) (by simp) (by simp) (fun r1 r2 r3 => ((r1.append (r3.drop 1)).append (r3.take 1)).append r2) ?_
  intro D doc pm an cdv ct us mv ws h1 h2 h3
  match us, h1, mv, h2, ws, h3 with
  | [], _, [], _, [y, z], _ => rfl
theorem b_mb (T : Txt K mg w A) : ∃ ds : List Value, Vals [V.int 3] ds ∧ Binds K A.d_merge_bound ["merge", "gallop"] ds := by
  refine T.c_merge_bound.F.binds0 1 (by simp) (by simp) ?_
  intro D doc pm an cdv ct us ks h1 h2
  match us, h1, ks, h2 with
  | [u], _, [m], _ => exact ⟨_, _, _, _, _, _, rfl, rfl, rfl⟩
theorem b_ng (T : Txt K mg w A) : ∃ ds : List Value, Vals [V.int 3] ds ∧ Binds K A.d_next_gallop ["merge", "gallop"] ds := by
  refine T.c_next_gallop.F.binds0 1 (by simp) (by simp) ?_
  intro D doc pm an cdv ct us ks h1 h2
  match us, h1, ks, h2 with
  | [u], _, [m], _ => exact ⟨_, _, _, _, _, _, rfl, rfl, rfl⟩
theorem use_mb (S : Hs H0 M H L) (mp : (p, HO.tup [.int s, .int m, .int e, .ref kq, .ref pq]) ∈ L) (mk : (kq, HO.tup [.int a, .int b]) ∈ L) (mq : (pq, HO.tup (pk.map V.int)) ∈ L) (ne : kq ≠ pq) (W : VM s m e a b pk) (h1 : 1 ≤ g) (h2 : g ≤ 64) (h : ∀ H', Hs H0 M H' L → Q (.int (mbI a b pk g)) H') : sp_mb [.ref p, .int g] H Q E :=
  ⟨p, kq, pq, s, m, e, a, b, g, pk, rfl, ⟨S.is _ mp, S.is _ mk, S.is _ mq, ne⟩, W, h1, h2, fun H' sm => h H' (S.more sm)⟩
theorem use_ng (S : Hs H0 M H L) (mp : (p, HO.tup [.int s, .int m, .int e, .ref kq, .ref pq]) ∈ L) (mk : (kq, HO.tup [.int a, .int b]) ∈ L) (mq : (pq, HO.tup (pk.map V.int)) ∈ L) (ne : kq ≠ pq) (W : VM s m e a b pk) (h1 : 1 ≤ g) (h2 : g ≤ 64) (h : ∀ H', Hs H0 M H' L → Q (.int (ngI pk g)) H') : sp_ng [.ref p, .int g] H Q E :=
  ⟨p, kq, pq, s, m, e, a, b, g, pk, rfl, ⟨S.is _ mp, S.is _ mk, S.is _ mq, ne⟩, W, h1, h2, fun H' sm => h H' (S.more sm)⟩
theorem use_lb (S : Hs H0 M H L) (mp : (p, HO.tup [.int s, .int m, .int e, .ref kq, .ref pq]) ∈ L) (mk : (kq, HO.tup [.int a, .int b]) ∈ L) (mq : (pq, HO.tup (pk.map V.int)) ∈ L) (ne : kq ≠ pq) (h : ∀ H', Hs H0 M H' L → Q (.int (mbI a b pk g)) H') : sp_lbound [.ref p, .int g] H Q E :=
  ⟨p, kq, pq, s, m, e, a, b, g, pk, rfl, ⟨S.is _ mp, S.is _ mk, S.is _ mq, ne⟩, fun H' sm => h H' (S.more sm)⟩
theorem use_ln (S : Hs H0 M H L) (mp : (p, HO.tup [.int s, .int m, .int e, .ref kq, .ref pq]) ∈ L) (mk : (kq, HO.tup [.int a, .int b]) ∈ L) (mq : (pq, HO.tup (pk.map V.int)) ∈ L) (ne : kq ≠ pq) (h1 : 1 ≤ g) (h2 : g ≤ 64) (h3 : pk.length ≤ 1000) (h : ∀ H', Hs H0 M H' L → Q (.int (ngI pk g)) H') : sp_lnext [.ref p, .int g] H Q E :=
  ⟨p, kq, pq, s, m, e, a, b, g, pk, rfl, ⟨S.is _ mp, S.is _ mk, S.is _ mq, ne⟩, h1, h2, h3, fun H' sm => h H' (S.more sm)⟩
local macro_rules | `(tactic| walk_at "mbng") => `(tactic| first
  | (refine K28.use_mb (by assumption) (by walk_at "mem"; done) (by walk_at "mem"; done) (by walk_at "mem"; done) (by assumption) (by assumption) (by omega) (by omega) fun H S => ?_)
  | (refine K28.use_ng (by assumption) (by walk_at "mem"; done) (by walk_at "mem"; done) (by walk_at "mem"; done) (by assumption) (by assumption) (by omega) (by omega) fun H S => ?_)
  | (refine K28.use_lb (by assumption) (by walk_at "mem"; done) (by walk_at "mem"; done) (by walk_at "mem"; done) (by assumption) fun H S => ?_)
  | (refine K28.use_ln (by assumption) (by walk_at "mem"; done) (by walk_at "mem"; done) (by walk_at "mem"; done) (by assumption) (by omega) (by omega) (by assumption) fun H S => ?_))
theorem ok_told (T : Txt K mg w A) : FnG P w K mg base 6 A.f__law_told_right A.d__law_told_right ["_law_paper", "_law_speed"] sp_told := by
  have G_merge_bound : FnOk P w K mg base CX0 5 A.f_merge_bound A.d_merge_bound ["merge", "gallop"] sp_mb := ok_mb T
  have G_next_gallop : FnOk P w K mg base CX0 5 A.f_next_gallop A.d_next_gallop ["merge", "gallop"] sp_ng := ok_ng T
  have G__law_bound : FnOk P w K mg base CX0 2 A.f__law_bound A.d__law_bound ["_law_paper", "_law_speed"] sp_lbound := ok_lbound T
  have G__law_next : FnOk P w K mg base CX0 1 A.f__law_next A.d__law_next ["_law_paper", "_law_speed"] sp_lnext := ok_lnext T
  obtain ⟨_, kb_merge_bound_gallop⟩ := kb1 T
  obtain ⟨_, kb_next_gallop_gallop⟩ := kb2 T
  obtain ⟨_, kb_merge_bound_gallop_merge⟩ := kb3 T
  obtain ⟨_, kb_next_gallop_gallop_merge⟩ := kb4 T
  obtain ⟨_, d_merge_bound, b_merge_bound⟩ := b_mb T
  obtain ⟨_, d_next_gallop, b_next_gallop⟩ := b_ng T
  refine defG T.c__law_told_right.F sc_l_told_right (fun vs H Q E h => ?_) (fun cdv Ar outer s H vs Q E cl hr h => ?_)
  · obtain ⟨p, kq, pq, s, m, e, a, b, g, pk, rfl, _⟩ := h; rfl
  · obtain ⟨p, kq, pq, s, m, e, a, b, g, pk, rfl, R, W, g1, g2, k⟩ := h
    have hu := hu_of hr
    refine ⟨_, (pss_cons (ps_set (i := 2) sc_l_told_right.nd rfl (Or.inl rfl) (pe_lst (pa_cons (pe_call G__law_bound (hr.mono (by decide)) rfl T.c__law_bound.m T.c__law_bound.F.kp T.c__law_bound.b .nil pass0 (pa_cons (pv 0) (pa_cons (pv 1) pa_nil))) (pa_cons (pe_call G__law_next (hr.mono (by decide)) rfl T.c__law_next.m T.c__law_next.F.kp T.c__law_next.b .nil pass0 (pa_cons (pv 0) (pa_cons (pv 1) pa_nil))) pa_nil))))
      (pss_cons (ps_if (pt_cmpR op_ne (pe_callB (call_repr cl hr) (by rfl) T.n_repr PyProof.Rows.boot_repr (pa_cons (pe_lst (pa_cons (pe_callN G_merge_bound (hr.mono (by decide)) rfl T.c_merge_bound.m T.c_merge_bound.F.kp kb_merge_bound_gallop pass0 (pa_cons (pv 0) pa_nil) (pk_cons (pv 1) pk_nil)) (pa_cons (pe_callN G_next_gallop (hr.mono (by decide)) rfl T.c_next_gallop.m T.c_next_gallop.F.kp kb_next_gallop_gallop pass0 (pa_cons (pv 0) pa_nil) (pk_cons (pv 1) pk_nil)) pa_nil))) pa_nil)) (pe_callB (call_repr cl hr) (by rfl) T.n_repr PyProof.Rows.boot_repr (pa_cons (pv 2) pa_nil)) (nomark _))
        (pss_one (ps_ret pe_bl))
        pss_nil)
      (pss_cons (ps_if (pt_cmpR op_ne (pe_callB (call_repr cl hr) (by rfl) T.n_repr PyProof.Rows.boot_repr (pa_cons (pe_lst (pa_cons (pe_callK0 G_merge_bound (hr.mono (by decide)) rfl T.c_merge_bound.m T.c_merge_bound.F.kp kb_merge_bound_gallop_merge pass0 (pk_cons (pv 1) (pk_cons (pv 0) pk_nil))) (pa_cons (pe_callK0 G_next_gallop (hr.mono (by decide)) rfl T.c_next_gallop.m T.c_next_gallop.F.kp kb_next_gallop_gallop_merge pass0 (pk_cons (pv 1) (pk_cons (pv 0) pk_nil))) pa_nil))) pa_nil)) (pe_callB (call_repr cl hr) (by rfl) T.n_repr PyProof.Rows.boot_repr (pa_cons (pv 2) pa_nil)) (nomark _))
        (pss_one (ps_ret pe_bl))
        pss_nil)
      (pss_cons (ps_set (i := 2) sc_l_told_right.nd rfl (Or.inl rfl) (pe_lst (pa_cons (pe_call G__law_bound (hr.mono (by decide)) rfl T.c__law_bound.m T.c__law_bound.F.kp T.c__law_bound.b .nil pass0 (pa_cons (pv 0) (pa_cons pe_int pa_nil))) (pa_cons (pe_call G__law_next (hr.mono (by decide)) rfl T.c__law_next.m T.c__law_next.F.kp T.c__law_next.b .nil pass0 (pa_cons (pv 0) (pa_cons pe_int pa_nil))) pa_nil))))
      (pss_one (ps_ret (pe_cmpR op_eq (pe_callB (call_repr cl hr) (by rfl) T.n_repr PyProof.Rows.boot_repr (pa_cons (pe_lst (pa_cons (pe_call G_merge_bound (hr.mono (by decide)) rfl T.c_merge_bound.m T.c_merge_bound.F.kp b_merge_bound d_merge_bound pass0 (pa_cons (pv 0) pa_nil)) (pa_cons (pe_call G_next_gallop (hr.mono (by decide)) rfl T.c_next_gallop.m T.c_next_gallop.F.kp b_next_gallop d_next_gallop pass0 (pa_cons (pv 0) pa_nil)) pa_nil))) pa_nil)) (pe_callB (call_repr cl hr) (by rfl) T.n_repr PyProof.Rows.boot_repr (pa_cons (pv 2) pa_nil)) (nomark _)))))))), ?_⟩
    have S := R.led
    have ne := R.ne
    have hl := W.len
    obtain ⟨m1, m2⟩ := mb_small W g1 g2
    obtain ⟨m3, m4⟩ := mb_small (g := 3) W (by decide) (by decide)
    have hb : ∀ n ∈ [mbI a b pk g, ngI pk g], n.natAbs < 10 ^ 12 := by intro n hn; simp at hn; rcases hn with rfl | rfl <;> assumption
    have hb3 : ∀ n ∈ [mbI a b pk 3, ngI pk 3], n.natAbs < 10 ^ 12 := by intro n hn; simp at hn; rcases hn with rfl | rfl <;> assumption
    walk_at "st"
    walk_at "rd"
    walk_at "mbng"
    walk_at "rd"
    walk_at "mbng"
    walk_at "rd"
    refine ⟨rfl, rfl, ?_⟩
    walk_at "mbng"
    walk_at "rd"
    refine ⟨rfl, rfl, ?_⟩
    walk_at "mbng"
    walk_at "rd"
    refine rd_reprI (ns := [mbI a b pk g, ngI pk g]) (by assumption) (by walk_at "mem") (by rfl) hb (by simp) ?_
    walk_at "rd"
    refine rd_reprI (ns := [mbI a b pk g, ngI pk g]) (by assumption) (by walk_at "mem") (by rfl) hb (by simp) ?_
    walk_at "rd"
    refine rd_decF (by simp) ?_
    walk_at "rd"
    refine ⟨rfl, rfl, ?_⟩
    walk_at "mbng"
    walk_at "rd"
    refine ⟨rfl, rfl, ?_⟩
    walk_at "mbng"
    walk_at "rd"
    refine rd_reprI (ns := [mbI a b pk g, ngI pk g]) (by assumption) (by walk_at "mem") (by rfl) hb (by simp) ?_
    walk_at "rd"
    refine rd_reprI (ns := [mbI a b pk g, ngI pk g]) (by assumption) (by walk_at "mem") (by rfl) hb (by simp) ?_
    walk_at "rd"
    refine rd_decF (by simp) ?_
    walk_at "rd"
    walk_at "mbng"
    walk_at "rd"
    walk_at "mbng"
    walk_at "rd"
    walk_at "mbng"
    walk_at "rd"
    walk_at "mbng"
    walk_at "rd"
    refine rd_reprI (ns := [mbI a b pk 3, ngI pk 3]) (by assumption) (by walk_at "mem") (by rfl) hb3 (by simp) ?_
    walk_at "rd"
    refine rd_reprI (ns := [mbI a b pk 3, ngI pk 3]) (by assumption) (by walk_at "mem") (by rfl) hb3 (by simp) ?_
    walk_at "rd"
    rw [decide_eq_true rfl]
    rename_i S9
    exact k _ S9.same
end
end K28

namespace K28
open PySem L2 Rs
def vmB (s m e a b : Int) (pk : List Int) : Bool := decide (0 ≤ s) && decide (s < m) && decide (m < e) && decide (e ≤ 4096) && decide (0 ≤ a) && decide (0 ≤ b) && decide (a ≤ m - s) && decide (b ≤ e - m) && decide (pk.length % 2 = 0) &&
  (pk.all fun x => decide (1 ≤ x) && decide (x ≤ 4096)) && decide (pk.length ≤ 1000) && decide ((pickI pk none none 2).sum = e - m - b) && decide ((pickI pk (some 1) none 2).sum = m - s - a)
theorem vm_of {s m e a b : Int} {pk : List Int} (h : vmB s m e a b pk = true) : VM s m e a b pk := by
  simp only [vmB, Bool.and_eq_true, decide_eq_true_eq, List.all_eq_true] at h
  obtain ⟨⟨⟨⟨⟨⟨⟨⟨⟨⟨⟨⟨h1, h2⟩, h3⟩, h4⟩, h5⟩, h6⟩, h7⟩, h8⟩, h9⟩, h10⟩, h11⟩, h12⟩, h13⟩ := h
  exact ⟨h1, h2, h3, h4, h5, h6, h7, h8, h9, fun x hx => by simpa using h10 x hx, h11, h12, h13⟩
/-- a row of the law's own -/
def rowOk (L : Led) (x : V) : Prop := ∃ (r p kq pq : Addr) (s m e a b g bd nx : Int) (pk : List Int), x = .ref r ∧ (r, HO.tup [.ref p, .int g, .int bd, .int nx]) ∈ L ∧ (p, HO.tup [.int s, .int m, .int e, .ref kq, .ref pq]) ∈ L ∧ (kq, HO.tup [.int a, .int b]) ∈ L ∧ (pq, HO.tup (pk.map V.int)) ∈ L ∧
  vmB s m e a b pk = true ∧ pk ≠ [a, b] ∧ 1 ≤ g ∧ g ≤ 64 ∧ mbI a b pk g = bd ∧ ngI pk g = nx
theorem row_ne {H0 H : Hp} {M : List Addr} {L : Led} {kq pq : Addr} {a b : Int} {pk : List Int} (S : Hs H0 M H L) (mk : (kq, HO.tup [.int a, .int b]) ∈ L) (mq : (pq, HO.tup (pk.map V.int)) ∈ L) (h : pk ≠ [a, b]) : kq ≠ pq := by
  have e1 := S.is _ mk
  have e2 := S.is _ mq
  intro z
  simp only at e1 e2
  rw [z, e2] at e1
  injection e1 with e
  injection e with e
  refine h ?_
  cases pk with
  | nil => simp at e
  | cons x t =>
    cases t with
    | nil => simp at e
    | cons y t =>
      simp at e
      obtain ⟨rfl, rfl, rfl⟩ := e
      rfl
theorem e398 (x y : Int) : ((List.replicate 398 (1 : Int)) ++ [x, y]).map V.int = (List.replicate (Int.toNat 398) [V.int 1]).flatten ++ [V.int x, V.int y] := by
  rw [List.map_append, List.map_replicate]
  simp
theorem hand_loop {K : PySem.W.Frag} {σ : L2.St} {H0 H : Hp} {M : List Addr} {L : Led} {a : Addr} {xs : List V} {g : TG} {tw : TS} {nx : L2.St → Hp → Prop} {rt : VK} {bk ct : L2.St → Hp → Prop} (I : L2.St → Prop) (S : Hs H0 M H L) (mr : (a, HO.lst xs) ∈ L) (i0 : I σ) (rows : ∀ x ∈ xs, rowOk L x)
    (hs : ∀ x σ H', rowOk L x → I σ → Hs H0 M H' L → g x σ H' fun σ2 H2 => tw ⟨fun σ H => I σ ∧ Hs H0 M H L, rt, nx, fun σ H => I σ ∧ Hs H0 M H L⟩ σ2 H2) (hd : ∀ σ H', I σ → Hs H0 M H' L → nx σ H') : forW (Itl K a) g tw ⟨nx, rt, bk, ct⟩ σ H :=
  fw_list (fun _ σ H' => I σ ∧ Hs H0 M H' L) ⟨i0, S⟩ (fun i σ H' _ h => h.2.lst mr) (fun i x σ H' hi h => hs x σ H' (rows x (List.mem_of_getElem? hi)) h.1 h.2) (fun σ H' h => hd σ H' h.1 h.2)
section
variable {P : Program} {w : World} {K : PySem.W.Frag} {mg : Str → Option Value} {base : Heap} {A : Ad} {H H0 : Hp} {M : List Addr} {L L' : Led} {Q : VK} {E : XK} {p kq pq : Addr} {s m e a b g : Int} {pk : List Int}
local macro_rules | `(tactic| walk_at "mbng") => `(tactic| first
  | (refine K28.use_mb (by assumption) (by walk_at "mem"; done) (by walk_at "mem"; done) (by walk_at "mem"; done) (by assumption) (by assumption) (by omega) (by omega) fun H S => ?_)
  | (refine K28.use_ng (by assumption) (by walk_at "mem"; done) (by walk_at "mem"; done) (by walk_at "mem"; done) (by assumption) (by assumption) (by omega) (by omega) fun H S => ?_))
theorem ok_hand (T : Txt K mg w A) : FnG P w K mg base 6 A.f__law_by_hand_right A.d__law_by_hand_right [] sp_hand := by
  have G_merge_bound : FnOk P w K mg base CX0 5 A.f_merge_bound A.d_merge_bound ["merge", "gallop"] sp_mb := ok_mb T
  have G_next_gallop : FnOk P w K mg base CX0 5 A.f_next_gallop A.d_next_gallop ["merge", "gallop"] sp_ng := ok_ng T
  obtain ⟨_, kb_merge_bound_gallop⟩ := kb1 T
  obtain ⟨_, kb_next_gallop_gallop⟩ := kb2 T
  refine defG T.c__law_by_hand_right.F sc_l_by_hand_right (fun vs H Q E h => ?_) (fun cdv Ar outer s H vs Q E cl hr h => ?_)
  · obtain ⟨rfl, _⟩ := h; rfl
  · obtain ⟨rfl, k⟩ := h
    have hu := hu_of hr
    refine ⟨_, (pss_cons (ps_set (i := 0) sc_l_by_hand_right.nd rfl (Or.inl rfl) (pe_lst (pa_cons (pe_tup (pa_cons (pe_tup (pa_cons pe_int (pa_cons pe_int (pa_cons pe_int (pa_cons (pe_tup (pa_cons pe_int (pa_cons pe_int pa_nil))) (pa_cons (pe_tup pa_nil) pa_nil)))))) (pa_cons pe_int (pa_cons pe_int (pa_cons pe_int pa_nil))))) (pa_cons (pe_tup (pa_cons (pe_tup (pa_cons pe_int (pa_cons pe_int (pa_cons pe_int (pa_cons (pe_tup (pa_cons pe_int (pa_cons pe_int pa_nil))) (pa_cons (pe_tup (pa_cons pe_int (pa_cons pe_int pa_nil))) pa_nil)))))) (pa_cons pe_int (pa_cons pe_int (pa_cons pe_int pa_nil))))) pa_nil))))
      (pss_cons (ps_expr (pe_bm PySem.F.plainAttrs_list PySem.F.slot_list_append PySem.F.type_list_append mt_append (pv 0) (pa_cons (pe_tup (pa_cons (pe_tup (pa_cons pe_int (pa_cons pe_int (pa_cons pe_int (pa_cons (pe_tup (pa_cons pe_int (pa_cons pe_int pa_nil))) (pa_cons (pe_tup pa_nil) pa_nil)))))) (pa_cons pe_int (pa_cons pe_int (pa_cons pe_int pa_nil))))) pa_nil)))
      (pss_cons (ps_expr (pe_bm PySem.F.plainAttrs_list PySem.F.slot_list_append PySem.F.type_list_append mt_append (pv 0) (pa_cons (pe_tup (pa_cons (pe_tup (pa_cons pe_int (pa_cons pe_int (pa_cons pe_int (pa_cons (pe_tup (pa_cons pe_int (pa_cons pe_int pa_nil))) (pa_cons (pe_tup (pa_cons pe_int (pa_cons pe_int pa_nil))) pa_nil)))))) (pa_cons pe_int (pa_cons pe_int (pa_cons pe_int pa_nil))))) pa_nil)))
      (pss_cons (ps_expr (pe_bm PySem.F.plainAttrs_list PySem.F.slot_list_append PySem.F.type_list_append mt_append (pv 0) (pa_cons (pe_tup (pa_cons (pe_tup (pa_cons pe_int (pa_cons pe_int (pa_cons pe_int (pa_cons (pe_tup (pa_cons pe_int (pa_cons pe_int pa_nil))) (pa_cons (pe_tup (pa_cons pe_int (pa_cons pe_int pa_nil))) pa_nil)))))) (pa_cons pe_int (pa_cons pe_int (pa_cons pe_int pa_nil))))) pa_nil)))
      (pss_cons (ps_expr (pe_bm PySem.F.plainAttrs_list PySem.F.slot_list_append PySem.F.type_list_append mt_append (pv 0) (pa_cons (pe_tup (pa_cons (pe_tup (pa_cons pe_int (pa_cons pe_int (pa_cons pe_int (pa_cons (pe_tup (pa_cons pe_int (pa_cons pe_int pa_nil))) (pa_cons (pe_tup (pa_cons pe_int (pa_cons pe_int pa_nil))) pa_nil)))))) (pa_cons pe_int (pa_cons pe_int (pa_cons pe_int pa_nil))))) pa_nil)))
      (pss_cons (ps_expr (pe_bm PySem.F.plainAttrs_list PySem.F.slot_list_append PySem.F.type_list_append mt_append (pv 0) (pa_cons (pe_tup (pa_cons (pe_tup (pa_cons pe_int (pa_cons pe_int (pa_cons pe_int (pa_cons (pe_tup (pa_cons pe_int (pa_cons pe_int pa_nil))) (pa_cons (pe_tup (pa_cons pe_int (pa_cons pe_int pa_nil))) pa_nil)))))) (pa_cons pe_int (pa_cons pe_int (pa_cons pe_int pa_nil))))) pa_nil)))
      (pss_cons (ps_expr (pe_bm PySem.F.plainAttrs_list PySem.F.slot_list_append PySem.F.type_list_append mt_append (pv 0) (pa_cons (pe_tup (pa_cons (pe_tup (pa_cons pe_int (pa_cons pe_int (pa_cons pe_int (pa_cons (pe_tup (pa_cons pe_int (pa_cons pe_int pa_nil))) (pa_cons (pe_tup (pa_cons pe_int (pa_cons pe_int pa_nil))) pa_nil)))))) (pa_cons pe_int (pa_cons pe_int (pa_cons pe_int pa_nil))))) pa_nil)))
      (pss_cons (ps_expr (pe_bm PySem.F.plainAttrs_list PySem.F.slot_list_append PySem.F.type_list_append mt_append (pv 0) (pa_cons (pe_tup (pa_cons (pe_tup (pa_cons pe_int (pa_cons pe_int (pa_cons pe_int (pa_cons (pe_tup (pa_cons pe_int (pa_cons pe_int pa_nil))) (pa_cons (pe_tup (pa_cons pe_int (pa_cons pe_int pa_nil))) pa_nil)))))) (pa_cons pe_int (pa_cons pe_int (pa_cons pe_int pa_nil))))) pa_nil)))
      (pss_cons (ps_expr (pe_bm PySem.F.plainAttrs_list PySem.F.slot_list_append PySem.F.type_list_append mt_append (pv 0) (pa_cons (pe_tup (pa_cons (pe_tup (pa_cons pe_int (pa_cons pe_int (pa_cons pe_int (pa_cons (pe_tup (pa_cons pe_int (pa_cons pe_int pa_nil))) (pa_cons (pe_tup (pa_cons pe_int (pa_cons pe_int pa_nil))) pa_nil)))))) (pa_cons pe_int (pa_cons pe_int (pa_cons pe_int pa_nil))))) pa_nil)))
      (pss_cons (ps_expr (pe_bm PySem.F.plainAttrs_list PySem.F.slot_list_append PySem.F.type_list_append mt_append (pv 0) (pa_cons (pe_tup (pa_cons (pe_tup (pa_cons pe_int (pa_cons pe_int (pa_cons pe_int (pa_cons (pe_tup (pa_cons pe_int (pa_cons pe_int pa_nil))) (pa_cons (pe_tup (pa_cons pe_int (pa_cons pe_int pa_nil))) pa_nil)))))) (pa_cons pe_int (pa_cons pe_int (pa_cons pe_int pa_nil))))) pa_nil)))
      (pss_cons (ps_expr (pe_bm PySem.F.plainAttrs_list PySem.F.slot_list_append PySem.F.type_list_append mt_append (pv 0) (pa_cons (pe_tup (pa_cons (pe_tup (pa_cons pe_int (pa_cons pe_int (pa_cons pe_int (pa_cons (pe_tup (pa_cons pe_int (pa_cons pe_int pa_nil))) (pa_cons (pe_op op_catT (pe_op op_repT (pe_tup (pa_cons pe_int pa_nil)) pe_int) (pe_tup (pa_cons pe_int (pa_cons pe_int pa_nil)))) pa_nil)))))) (pa_cons pe_int (pa_cons pe_int (pa_cons pe_int pa_nil))))) pa_nil)))
      (pss_cons (ps_expr (pe_bm PySem.F.plainAttrs_list PySem.F.slot_list_append PySem.F.type_list_append mt_append (pv 0) (pa_cons (pe_tup (pa_cons (pe_tup (pa_cons pe_int (pa_cons pe_int (pa_cons pe_int (pa_cons (pe_tup (pa_cons pe_int (pa_cons pe_int pa_nil))) (pa_cons (pe_op op_catT (pe_op op_repT (pe_tup (pa_cons pe_int pa_nil)) pe_int) (pe_tup (pa_cons pe_int (pa_cons pe_int pa_nil)))) pa_nil)))))) (pa_cons pe_int (pa_cons pe_int (pa_cons pe_int pa_nil))))) pa_nil)))
      (pss_cons (ps_for PassesOwn.never rfl (pi_list (pv 0)) (pg_tup rfl (pgs_cons (pg_name (i := 1) sc_l_by_hand_right.nd rfl (Or.inl rfl)) (pgs_cons (pg_name (i := 2) sc_l_by_hand_right.nd rfl (Or.inl rfl)) (pgs_cons (pg_name (i := 3) sc_l_by_hand_right.nd rfl (Or.inl rfl)) (pgs_cons (pg_name (i := 4) sc_l_by_hand_right.nd rfl (Or.inl rfl)) pgs_nil)))))
        (pss_one (ps_if (pt_cmpR (op_neD hr.units) (pe_lst (pa_cons (pe_callN G_merge_bound (hr.mono (by decide)) rfl T.c_merge_bound.m T.c_merge_bound.F.kp kb_merge_bound_gallop pass0 (pa_cons (pv 1) pa_nil) (pk_cons (pv 2) pk_nil)) (pa_cons (pe_callN G_next_gallop (hr.mono (by decide)) rfl T.c_next_gallop.m T.c_next_gallop.F.kp kb_next_gallop_gallop pass0 (pa_cons (pv 1) pa_nil) (pk_cons (pv 2) pk_nil)) pa_nil))) (pe_lst (pa_cons (pv 3) (pa_cons (pv 4) pa_nil))) (nomark _))
          (pss_one (ps_ret pe_bl))
          pss_nil)))
      (pss_one (ps_ret (pe_cmpR op_eq (pe_gl rfl T.g_GALLOP) pe_int (nomark _))))))))))))))))), ?_⟩
    have S := Hs.start0 H
    walk_at "st"
    walk_at "rd"
    refine rd_repT (by assumption) (by walk_at "mem") (by simp) (by decide) (by decide) (by simp) fun p H hp S => ?_
    walk_at "rd"
    refine rd_catT (by assumption) (by walk_at "mem") (by walk_at "mem") (by simp) (by simp) (Rs.sz (by simp)) fun p H hp S => ?_
    walk_at "rd"
    refine rd_repT (by assumption) (by walk_at "mem") (by simp) (by decide) (by decide) (by simp) fun p H hp S => ?_
    walk_at "rd"
    refine rd_catT (by assumption) (by walk_at "mem") (by walk_at "mem") (by simp) (by simp) (Rs.sz (by simp)) fun p H hp S => ?_
    walk_at "rd"
    rename_i S9
    refine hand_loop (fun σ => ∃ x1 x2 x3 x4 x5, σ = [x1, x2, x3, x4, x5]) S9 (by walk_at "mem") ⟨_, _, _, _, _, rfl⟩ ?_ ?_ ?_
    · intro x hx
      simp only [List.cons_append, List.nil_append, List.mem_cons, List.not_mem_nil, or_false] at hx
      clear k
      rcases hx with rfl | rfl | rfl | rfl | rfl | rfl | rfl | rfl | rfl | rfl | rfl | rfl | rfl
      · exact ⟨_, _, _, _, 0, 1, 2, 1, 1, 3, 4, 3, [], rfl, by walk_at "mem", by walk_at "mem", by walk_at "mem", by simp only [List.map_cons, List.map_nil]; walk_at "mem", by decide +kernel, by decide, by decide, by decide, by decide +kernel, by decide +kernel⟩
      · exact ⟨_, _, _, _, 0, 1, 2, 0, 0, 3, 6, 3, [1, 1], rfl, by walk_at "mem", by walk_at "mem", by walk_at "mem", by simp only [List.map_cons, List.map_nil]; walk_at "mem", by decide +kernel, by decide, by decide, by decide, by decide +kernel, by decide +kernel⟩
      · exact ⟨_, _, _, _, 4094, 4095, 4096, 1, 1, 1, 4, 1, [], rfl, by walk_at "mem", by walk_at "mem", by walk_at "mem", by simp only [List.map_cons, List.map_nil]; walk_at "mem", by decide +kernel, by decide, by decide, by decide, by decide +kernel, by decide +kernel⟩
      · exact ⟨_, _, _, _, 0, 2048, 4096, 0, 0, 3, 54, 2, [2048, 2048], rfl, by walk_at "mem", by walk_at "mem", by walk_at "mem", by simp only [List.map_cons, List.map_nil]; walk_at "mem", by decide +kernel, by decide, by decide, by decide, by decide +kernel, by decide +kernel⟩
      · exact ⟨_, _, _, _, 0, 2048, 4096, 0, 0, 1, 50, 1, [2048, 2048], rfl, by walk_at "mem", by walk_at "mem", by walk_at "mem", by simp only [List.map_cons, List.map_nil]; walk_at "mem", by decide +kernel, by decide, by decide, by decide, by decide +kernel, by decide +kernel⟩
      · exact ⟨_, _, _, _, 0, 2048, 4096, 0, 0, 64, 176, 63, [2048, 2048], rfl, by walk_at "mem", by walk_at "mem", by walk_at "mem", by simp only [List.map_cons, List.map_nil]; walk_at "mem", by decide +kernel, by decide, by decide, by decide, by decide +kernel, by decide +kernel⟩
      · exact ⟨_, _, _, _, 0, 1, 4096, 0, 4094, 1, 32, 1, [1, 1], rfl, by walk_at "mem", by walk_at "mem", by walk_at "mem", by simp only [List.map_cons, List.map_nil]; walk_at "mem", by decide +kernel, by decide, by decide, by decide, by decide +kernel, by decide +kernel⟩
      · exact ⟨_, _, _, _, 0, 65, 66, 0, 0, 64, 71, 64, [1, 65], rfl, by walk_at "mem", by walk_at "mem", by walk_at "mem", by simp only [List.map_cons, List.map_nil]; walk_at "mem", by decide +kernel, by decide, by decide, by decide, by decide +kernel, by decide +kernel⟩
      · exact ⟨_, _, _, _, 0, 4, 5, 0, 0, 3, 10, 4, [1, 4], rfl, by walk_at "mem", by walk_at "mem", by walk_at "mem", by simp only [List.map_cons, List.map_nil]; walk_at "mem", by decide +kernel, by decide, by decide, by decide, by decide +kernel, by decide +kernel⟩
      · exact ⟨_, _, _, _, 0, 6, 7, 0, 0, 3, 12, 2, [1, 6], rfl, by walk_at "mem", by walk_at "mem", by walk_at "mem", by simp only [List.map_cons, List.map_nil]; walk_at "mem", by decide +kernel, by decide, by decide, by decide, by decide +kernel, by decide +kernel⟩
      · exact ⟨_, _, _, _, 0, 5, 6, 0, 0, 3, 12, 4, [1, 5], rfl, by walk_at "mem", by walk_at "mem", by walk_at "mem", by simp only [List.map_cons, List.map_nil]; walk_at "mem", by decide +kernel, by decide, by decide, by decide, by decide +kernel, by decide +kernel⟩
      · exact ⟨_, _, _, _, 0, 200, 469, 0, 0, 3, 420, 2, (List.replicate 398 1 ++ [70, 1]), rfl, by walk_at "mem", by walk_at "mem", by walk_at "mem", by rw [e398]; walk_at "mem", by decide +kernel, by decide, by decide, by decide, by decide +kernel, by decide +kernel⟩
      · exact ⟨_, _, _, _, 0, 200, 403, 0, 0, 3, 408, 4, (List.replicate 398 1 ++ [4, 1]), rfl, by walk_at "mem", by walk_at "mem", by walk_at "mem", by rw [e398]; walk_at "mem", by decide +kernel, by decide, by decide, by decide, by decide +kernel, by decide +kernel⟩
    · rintro x σ H' ⟨r, p, kq, pq, s, m, e, a, b, g, bd, nx, pk, rfl, mr, mp, mk, mq, vm, hne, g1, g2, rfl, rfl⟩ ⟨x1, x2, x3, x4, x5, rfl⟩ S
      have W := vm_of vm
      have ne := row_ne S mk mq hne
      clear S9
      refine ⟨r, _, rfl, S.tup mr, rfl, ?_⟩
      walk_at "rd"
      refine ⟨rfl, rfl, use_mb S mp mk mq ne W g1 g2 fun H2 S2 => ?_⟩
      walk_at "rd"
      refine ⟨rfl, rfl, use_ng S2 mp mk mq ne W g1 g2 fun H3 S3 => ?_⟩
      walk_at "rd"
      refine rd_neIs (ns := [mbI a b pk g, ngI pk g]) (ms := [mbI a b pk g, ngI pk g]) (by assumption) (by walk_at "mem") (by walk_at "mem") (by rfl) (by rfl) ?_
      walk_at "rd"
      refine rd_decF (by simp) ?_
      walk_at "rd"
      rename_i S8
      exact ⟨⟨_, _, _, _, _, rfl⟩, S8.sub (by walk_at "sub")⟩
    · rintro σ H' ⟨x1, x2, x3, x4, x5, rfl⟩ S
      have sm := S.same
      clear S9
      walk_at "rd"
      rw [decide_eq_true rfl]
      exact k _ sm
end
end K28

namespace K28
open PySem L2 Rs
local macro_rules | `(tactic| walk_at "val") => `(tactic| first | exact drw_left _ _ _ | exact drw_cell _ _ _ | exact drw_at _ _ _)
local macro_rules | `(tactic| walk_at "put") => `(tactic| first | exact put_left _ _ _ _ | exact put_at _ _ _ _ | exact merge_drw _ _ _)
section
variable {P : Program} {w : World} {K : PySem.W.Frag} {mg : Str → Option Value} {base : Heap} {A : Ad} {H H0 : Hp} {M : List Addr} {L L' : Led} {Q : VK} {E : XK} {p kq pq : Addr} {s m e a b g : Int} {pk : List Int}
local macro_rules | `(tactic| walk_at "rd1") => `(tactic| ((with_reducible refine' K28.use_draw (by assumption) ?c ?o ?b1 ?b2 ?b3 ?b4 ?_); (case c => walk_at "chgF"); (case o => walk_at "own"); (case b1 => omega); (case b2 => omega); (case b3 => omega); (case b4 => omega); intro r l a H S h0 h1 h2 h3))
theorem use_told (S : Hs H0 M H L) (mp : (p, HO.tup [.int s, .int m, .int e, .ref kq, .ref pq]) ∈ L) (mk : (kq, HO.tup [.int a, .int b]) ∈ L) (mq : (pq, HO.tup (pk.map V.int)) ∈ L) (ne : kq ≠ pq) (W : VM s m e a b pk) (h1 : 1 ≤ g) (h2 : g ≤ 64) (h : ∀ H', Hs H0 M H' L → Q (.bl true) H') : sp_told [.ref p, .int g] H Q E :=
  ⟨p, kq, pq, s, m, e, a, b, g, pk, rfl, ⟨S.is _ mp, S.is _ mk, S.is _ mq, ne⟩, W, h1, h2, fun H' sm => h H' (S.more sm)⟩
theorem use_lmerge {d : Addr} {l c a0 : Int} {F : HO → Led} (S : Hs H0 M H L) (ch : ∀ o', Chg d (.dK (drw l c a0)) o' L (F o')) (own : H0 d = none ∨ d ∈ M) (h0 : 0 ≤ a0) (h1 : a0 < 2 ^ 39)
    (h : ∀ (p kq pq : Addr) (s m e a b : Int) (pk : List Int) (l' a' : Int) (H' : Hp), kq ≠ pq → Hs H0 M H' ((p, .tup [.int s, .int m, .int e, .ref kq, .ref pq]) :: (pq, .tup (pk.map V.int)) :: (kq, .tup [.int a, .int b]) :: F (.dK (drw l' c a'))) → a0 ≤ a' → a' ≤ a0 + 50 → VM s m e a b pk → (∀ x ∈ pk, x ≤ 80) → pk.length ≤ 12 → Q (.ref p) H') : sp_lmerge [.ref d] H Q E := by
  refine ⟨d, l, c, a0, rfl, S.is _ (ch (.dK [])).mem, h0, h1, fun p kq pq s m e a b pk l' a' H' n hd old b1 b2 W z1 z2 => ?_⟩
  have ne : kq ≠ pq := fun z => by
    have := n.nd
    simp [z] at this
  exact h p kq pq s m e a b pk l' a' H' ne (S.oneN (ch _) own old hd n).2 b1 b2 W z1 z2
theorem ok_law (T : Txt K mg w A) : FnG P w K mg base 7 A.f_law A.d_law ["_law_script"] (sp_law K) := by
  have G__law_begun : FnOk P w K mg base CX0 1 A.f__law_begun A.d__law_begun ["_law_script", "_law_turn"] (sp_begun K) := ok_begun T
  have G__law_merge : FnOk P w K mg base CX0 3 A.f__law_merge A.d__law_merge ["_law_state"] sp_lmerge := ok_lmerge T
  have G__law_draw : FnOk P w K mg base CX0 1 A.f__law_draw A.d__law_draw ["_law_state", "_law_many"] sp_draw := ok_draw T
  have G__law_told_right : FnG P w K mg base 6 A.f__law_told_right A.d__law_told_right ["_law_paper", "_law_speed"] sp_told := ok_told T
  have G__law_by_hand_right : FnG P w K mg base 6 A.f__law_by_hand_right A.d__law_by_hand_right [] sp_hand := ok_hand T
  refine defG T.c_law.F sc_law (fun vs H Q E h => ?_) (fun cdv Ar outer s H vs Q E cl hr h => ?_)
  · obtain ⟨a, ns, rfl, _⟩ := h; rfl
  · obtain ⟨a, ns, rfl, hs, hn, k⟩ := h
    have hu := hu_of hr
    refine ⟨_, (pss_cons (ps_for PassesOwn.never rfl (pi_range1 rfl T.n_range (pa_cons (pe_callB (call_max2 rfl) (by rfl) T.n_max PyProof.Rows.boot_max (pa_cons pe_int (pa_cons (pe_callB (call_min2 rfl) (by rfl) T.n_min PyProof.Rows.boot_min (pa_cons (pe_callB call_len_seq (by rfl) T.n_len PySem.boot_len (pa_cons (pv 0) pa_nil)) (pa_cons pe_int pa_nil))) pa_nil))) pa_nil)) (pg_name (i := 1) sc_law.nd rfl (Or.inl rfl))
        (pss_cons (ps_set (i := 2) sc_law.nd rfl (Or.inl rfl) (pe_call G__law_begun (hr.mono (by decide)) rfl T.c__law_begun.m T.c__law_begun.F.kp T.c__law_begun.b .nil pass0 (pa_cons (pv 0) (pa_cons (pv 1) pa_nil))))
        (pss_one (ps_for PassesOwn.never rfl (pi_range1 rfl T.n_range (pa_cons pe_int pa_nil)) (pg_name (i := 3) sc_law.nd rfl (Or.inl rfl))
          (pss_cons (ps_set (i := 4) sc_law.nd rfl (Or.inl rfl) (pe_call G__law_merge (hr.mono (by decide)) rfl T.c__law_merge.m T.c__law_merge.F.kp T.c__law_merge.b .nil pass0 (pa_cons (pv 2) pa_nil)))
          (pss_cons (ps_set (i := 5) sc_law.nd rfl (Or.inl rfl) (pe_op op_cat (pe_callTy call_list_of (by rfl) T.n_list (by decide +kernel) (pa_cons (pe_ix ix_tup (pv 4) pe_int (fun _ _ => rfl)) pa_nil)) (pe_lst (pa_cons (pe_op op_add pe_int (pe_call G__law_draw (hr.mono (by decide)) rfl T.c__law_draw.m T.c__law_draw.F.kp T.c__law_draw.b .nil pass0 (pa_cons (pv 2) (pa_cons pe_int pa_nil)))) pa_nil))))
          (pss_cons (ps_set (i := 6) sc_law.nd rfl (Or.inl rfl) (pe_op op_add (pe_ix ix_list (pv 5) (pe_call G__law_draw (hr.mono (by decide)) rfl T.c__law_draw.m T.c__law_draw.F.kp T.c__law_draw.b .nil pass0 (pa_cons (pv 2) (pa_cons (pe_callB call_len_seq (by rfl) T.n_len PySem.boot_len (pa_cons (pv 5) pa_nil)) pa_nil))) (fun _ _ => rfl)) (pe_ix ix_list (pe_lst (pa_cons (pe_un un_neg pe_int) (pa_cons (pe_un un_neg pe_int) (pa_cons (pe_un un_neg pe_int) (pa_cons (pe_un un_neg pe_int) (pa_cons pe_int (pa_cons pe_int pa_nil))))))) (pe_call G__law_draw (hr.mono (by decide)) rfl T.c__law_draw.m T.c__law_draw.F.kp T.c__law_draw.b .nil pass0 (pa_cons (pv 2) (pa_cons pe_int pa_nil))) (fun _ _ => rfl))))
          (pss_one (ps_for PassesOwn.never rfl (pi_tup (pe_tup (pa_cons (pe_callB (call_min2 rfl) (by rfl) T.n_min PyProof.Rows.boot_min (pa_cons pe_int (pa_cons (pe_callB (call_max2 rfl) (by rfl) T.n_max PyProof.Rows.boot_max (pa_cons pe_int (pa_cons (pv 6) pa_nil))) pa_nil))) (pa_cons (pe_ix ix_list (pe_lst (pa_cons pe_int (pa_cons pe_int (pa_cons pe_int (pa_cons pe_int pa_nil))))) (pe_call G__law_draw (hr.mono (by decide)) rfl T.c__law_draw.m T.c__law_draw.F.kp T.c__law_draw.b .nil pass0 (pa_cons (pv 2) (pa_cons pe_int pa_nil))) (fun _ _ => rfl)) pa_nil)))) (pg_name (i := 7) sc_law.nd rfl (Or.inl rfl))
            (pss_one (ps_if (pt_not (pt_val (pe_callG G__law_told_right cl (hr.mono (by decide)) rfl T.c__law_told_right.m T.c__law_told_right.F.kp T.c__law_told_right.b .nil (pa_cons (pv 4) (pa_cons (pv 7) pa_nil)))))
              (pss_one (ps_ret pe_bl))
              pss_nil)))))))))))
      (pss_one (ps_ret (pe_callG0 G__law_by_hand_right cl (hr.mono (by decide)) rfl T.c__law_by_hand_right.m T.c__law_by_hand_right.F.kp T.c__law_by_hand_right.b .nil)))), ?_⟩
    have S := Hs.start0 H
    walk_at "st"
    walk_at "rd"
    refine ⟨a, _, rfl, Or.inl (S.sq hs (by simp)), ?_⟩
    rw [List.length_map]
    walk_at "rd"
    refine fw_range (fun _ σ H' => ∃ x1 x2 x3 x4 x5 x6 x7, σ = [some (.ref a), x1, x2, x3, x4, x5, x6, x7] ∧ Hs H [] H' []) ⟨_, _, _, _, _, _, _, rfl, S⟩ ?_ ?_
    · rintro i σ H1 hi ⟨x1, x2, x3, x4, x5, x6, x7, rfl, S⟩
      have hk : (i : Int) ≤ 10 := by split at hi <;> (try split at hi) <;> (try split at hi) <;> omega
      walk_at "rd"
      refine ⟨a, ns, _, rfl, S.sq hs (by simp), by omega, by omega, fun d l c H2 hd hd' hsm => ?_⟩
      obtain ⟨hd0, S2⟩ := S.more1 hsm hd hd'
      clear S
      walk_at "rd"
      refine fw_range (fun j σ H' => ∃ x3 x4 x5 x6 x7 l a', σ = [some (.ref a), some (.int (0 + i)), some (.ref d), x3, x4, x5, x6, x7] ∧ Hs H [] H' [(d, .dK (drw l c a'))] ∧ 0 ≤ a' ∧ a' ≤ 100 * j) ⟨_, _, _, _, _, _, _, rfl, S2, by omega, by omega⟩ ?_ ?_
      · rintro j σ H1 hj ⟨x3, x4, x5, x6, x7, l, a', rfl, S, c0, c1⟩
        have hj5 : j < 5 := hj
        walk_at "rd"
        refine use_lmerge S (by walk_at "chgF") (Or.inl hd0) (by omega) (by omega) fun p kq pq s m e a2 b2 pk l2 a3 H3 ne S3 b3 b4 W q80 q12 => ?_
        clear S
        have e4 : atI [V.int s, V.int m, V.int e, V.ref kq, V.ref pq] 4 = some (V.ref pq) := atI_nat (j := 4) rfl
        walk_at "rd"
        intro t ht
        obtain ⟨ht0, S4⟩ := S3.new ht (.lst (pk.map V.int))
        clear S3
        walk_at "rd"
        rename_i r5 l5 a5 H5 S5 f0 f1 f2 f3 p6 H6 hp6 S6 p7 H7 hp7 S7
        have hlen : (pk.map V.int ++ [V.int (1 + r5)]).length = pk.length + 1 := by simp
        rw [hlen]
        clear S4 S5 S6
        walk_at "rd"
        refine rd_ixAny (by assumption) (by walk_at "mem") (by assumption) (by rw [hlen]; assumption) fun v hv _ => ?_
        obtain ⟨z, rfl, hz1, hz2⟩ : ∃ z, v = V.int z ∧ -100 ≤ z ∧ z ≤ 100 := by
          rcases List.mem_append.mp hv with q | q
          · obtain ⟨z, hz, rfl⟩ := List.mem_map.mp q
            have := q80 z hz
            have := (W.pos z hz).1
            exact ⟨z, rfl, by omega, by omega⟩
          · obtain rfl : v = V.int (1 + r5) := by simpa using q
            exact ⟨_, rfl, by omega, by omega⟩
        walk_at "rd"
        refine rd_ixAny (by assumption) (by walk_at "mem") (by assumption) (by simpa using (by assumption)) fun v2 hv2 _ => ?_
        obtain ⟨z2, rfl⟩ : ∃ z, v2 = V.int z := by
          simp only [List.mem_cons, List.not_mem_nil, or_false] at hv2
          rcases hv2 with rfl | rfl | rfl | rfl | rfl | rfl <;> exact ⟨_, rfl⟩
        clear hv2
        walk_at "rd"
        refine rd_ixAny (by assumption) (by walk_at "mem") (by assumption) (by simpa using (by assumption)) fun v3 hv3 _ => ?_
        obtain ⟨z3, rfl, h31, h32⟩ : ∃ z, v3 = V.int z ∧ 1 ≤ z ∧ z ≤ 64 := by
          simp only [List.mem_cons, List.not_mem_nil, or_false] at hv3
          rcases hv3 with rfl | rfl | rfl | rfl <;> exact ⟨_, rfl, by decide, by decide⟩
        clear hv3
        walk_at "rd"
        rename_i r8 l8 a8 H8 S8 y0 y1 y2 y3 y4 p9 H9 hp9 S9
        obtain ⟨s1, es1, hs1, hs2⟩ : ∃ s1 : Int, (if (if z + z2 > 1 then z + z2 else 1) < 64 then (if z + z2 > 1 then z + z2 else 1) else 64) = s1 ∧ 1 ≤ s1 ∧ s1 ≤ 64 := ⟨_, rfl, by split <;> (try split) <;> omega, by split <;> (try split) <;> omega⟩
        rw [es1] at S9
        have S10 : Hs H [] H9 [(p9, .tup [.int s1, .int z3]), (p, .tup [.int s, .int m, .int e, .ref kq, .ref pq]), (pq, .tup (pk.map V.int)), (kq, .tup [.int a2, .int b2]), (d, .dK (drw l8 c a8))] := S9.sub (by walk_at "sub")
        clear S9 S8
        refine fw_tup (xs := [V.int s1, V.int z3]) (fun _ σ H' => ∃ x5 x6 x7, σ = [some (.ref a), some (.int (0 + i)), some (.ref d), some (.int (0 + j)), some (.ref p), x5, x6, x7] ∧ Hs H [] H' [(p9, .tup [.int s1, .int z3]), (p, .tup [.int s, .int m, .int e, .ref kq, .ref pq]), (pq, .tup (pk.map V.int)), (kq, .tup [.int a2, .int b2]), (d, .dK (drw l8 c a8))]) ⟨_, _, _, rfl, S10⟩ (fun _ σ H' _ h => by
          obtain ⟨x5, x6, x7, _, S⟩ := h
          exact S.tup (by walk_at "mem")) ?_ ?_
        · rintro i2 x σ H11 hi2 ⟨x5, x6, x7, rfl, S11⟩
          obtain ⟨g, rfl, hg1, hg2⟩ : ∃ g, x = V.int g ∧ 1 ≤ g ∧ g ≤ 64 := by
            have hm := List.mem_of_getElem? hi2
            simp only [List.mem_cons, List.not_mem_nil, or_false] at hm
            rcases hm with rfl | rfl
            · exact ⟨_, rfl, hs1, hs2⟩
            · exact ⟨_, rfl, h31, h32⟩
          clear S10
          walk_at "rd"
          refine use_told S11 (by walk_at "mem") (by walk_at "mem") (by walk_at "mem") ne W hg1 hg2 fun H12 S12 => ?_
          walk_at "rd"
          exact ⟨_, _, _, rfl, S12⟩
        · rintro σ H11 ⟨x5, x6, x7, rfl, S11⟩
          exact ⟨_, _, _, _, _, _, _, rfl, S11.sub (by walk_at "sub"), by omega, by omega⟩
      · rintro σ H1 ⟨x3, x4, x5, x6, x7, l, a', rfl, S, c0, c1⟩
        exact ⟨_, _, _, _, _, _, _, rfl, S.sub (by simp)⟩
    · rintro σ H1 ⟨x1, x2, x3, x4, x5, x6, x7, rfl, S⟩
      walk_at "rd"
      refine ⟨rfl, fun H2 sm => ?_⟩
      exact k _
theorem end_law (K : PySem.W.Frag) (H : Hp) (a : Addr) (ns : List Int) (hn : ns.length ≤ 63) (_ : ∀ z ∈ ns, Builtin.Int.intBits z ≤ 1048576) (h : SqL K H a (ns.map V.int)) : sp_law K [.ref a] H (fun v _ => v = .bl true) E0 :=
  ⟨a, ns, rfl, h, hn, fun _ => rfl⟩
end
end K28

namespace K28
end K28
open PySem PySem.W PyProof.Rows
set_option maxRecDepth 100000 in
set_option maxHeartbeats 0 in
theorem PySem.Challenge.cw_runsort_k28_bounds_and_gallops_holds : PySem.Challenge.rw_runsort_k28_bounds_and_gallops.Holds := by
  w_on; o_law; k_head; (case hw => w_witness2)
  k_fill
  refine Rs.walkE (n := 63) (k := 7) (st := K28.s_law) (x := "_law_script") (sp := K28.sp_law) rfl (by decide) rfl ⟨rfl, by decide, by decide⟩ (fun w h Y => PySem.W.kIn_of Y) rfl (fun _ _ _ _ _ _ _ => rfl) ?F K28.end_law
  case F =>
    intro w mg h KX G
    obtain ⟨A, T⟩ : ∃ A, K28.Txt _ mg w A := by
      refine' K28.all_mk (w := w) KX G ?a_is_whole ?l_is_whole ?e_is_whole ?k_is_whole ?dd_is_whole ?a_bits ?l_bits ?e_bits ?k_bits ?a_need_gallop ?l_need_gallop ?e_need_gallop ?k_need_gallop ?a_is_kept ?l_is_kept ?e_is_kept ?k_is_kept ?a_are_picks ?l_are_picks ?e_are_picks ?k_are_picks ?a_is_merge ?l_is_merge ?e_is_merge ?k_is_merge ?dd_is_merge ?a_need_merge ?l_need_merge ?e_need_merge ?k_need_merge ?dd_need_merge ?a_pick_bound ?l_pick_bound ?e_pick_bound ?k_pick_bound ?a_merge_bound ?l_merge_bound ?e_merge_bound ?k_merge_bound ?dd_merge_bound ?a_next_gallop ?l_next_gallop ?e_next_gallop ?k_next_gallop ?dd_next_gallop ?a__law_begun ?l__law_begun ?e__law_begun ?k__law_begun ?a__law_draw ?l__law_draw ?e__law_draw ?k__law_draw ?a__law_lengths ?l__law_lengths ?e__law_lengths ?k__law_lengths ?a__law_bits ?l__law_bits ?e__law_bits ?k__law_bits ?a__law_bound ?l__law_bound ?e__law_bound ?k__law_bound ?a__law_next ?l__law_next ?e__law_next ?k__law_next ?a__law_merge ?l__law_merge ?e__law_merge ?k__law_merge ?a__law_told_right ?l__law_told_right ?e__law_told_right ?k__law_told_right ?a__law_by_hand_right ?l__law_by_hand_right ?e__law_by_hand_right ?k__law_by_hand_right ?a_law ?l_law ?e_law ?k_law ?g_MOST_THINGS ?r_MOST_THINGS ?g_GALLOP ?r_GALLOP ?g_MOST_GALLOP ?r_MOST_GALLOP ?z_len ?z_min ?z_max ?z_range ?z_repr ?z_isinstance ?z_int ?z_bool ?z_tuple ?z_list ?z_sum ?z_all
      (case a_is_whole => k_is)
      (case l_is_whole => k_is)
      (case e_is_whole => k_is)
      (case k_is_whole => k_is)
      (case dd_is_whole => (intro q hq; simp only [List.mem_cons, List.not_mem_nil, or_false] at hq; rcases hq with rfl | rfl <;> (dsimp only; refine' Rs.ex_u ?_ ?_; rotate_left; k_is; first | exact ⟨_, rfl⟩ | exact rfl)))
      (case a_bits => k_is)
      (case l_bits => k_is)
      (case e_bits => k_is)
      (case k_bits => k_is)
      (case a_need_gallop => k_is)
      (case l_need_gallop => k_is)
      (case e_need_gallop => k_is)
      (case k_need_gallop => k_is)
      (case a_is_kept => k_is)
      (case l_is_kept => k_is)
      (case e_is_kept => k_is)
      (case k_is_kept => k_is)
      (case a_are_picks => k_is)
      (case l_are_picks => k_is)
      (case e_are_picks => k_is)
      (case k_are_picks => k_is)
      (case a_is_merge => k_is)
      (case l_is_merge => k_is)
      (case e_is_merge => k_is)
      (case k_is_merge => k_is)
      (case dd_is_merge => (intro q hq; simp only [List.mem_cons, List.not_mem_nil, or_false] at hq; rcases hq with rfl <;> (dsimp only; refine' Rs.ex_u ?_ ?_; rotate_left; k_is; first | exact ⟨_, rfl⟩ | exact rfl)))
      (case a_need_merge => k_is)
      (case l_need_merge => k_is)
      (case e_need_merge => k_is)
      (case k_need_merge => k_is)
      (case dd_need_merge => (intro q hq; simp only [List.mem_cons, List.not_mem_nil, or_false] at hq; rcases hq with rfl <;> (dsimp only; refine' Rs.ex_u ?_ ?_; rotate_left; k_is; first | exact ⟨_, rfl⟩ | exact rfl)))
      (case a_pick_bound => k_is)
      (case l_pick_bound => k_is)
      (case e_pick_bound => k_is)
      (case k_pick_bound => k_is)
      (case a_merge_bound => k_is)
      (case l_merge_bound => k_is)
      (case e_merge_bound => k_is)
      (case k_merge_bound => k_is)
      (case dd_merge_bound => (intro q hq; simp only [List.mem_cons, List.not_mem_nil, or_false] at hq; rcases hq with rfl <;> (dsimp only; refine' Rs.ex_u ?_ ?_; rotate_left; k_is; first | exact ⟨_, rfl⟩ | exact rfl)))
      (case a_next_gallop => k_is)
      (case l_next_gallop => k_is)
      (case e_next_gallop => k_is)
      (case k_next_gallop => k_is)
      (case dd_next_gallop => (intro q hq; simp only [List.mem_cons, List.not_mem_nil, or_false] at hq; rcases hq with rfl <;> (dsimp only; refine' Rs.ex_u ?_ ?_; rotate_left; k_is; first | exact ⟨_, rfl⟩ | exact rfl)))
      (case a__law_begun => k_is)
      (case l__law_begun => k_is)
      (case e__law_begun => k_is)
      (case k__law_begun => k_is)
      (case a__law_draw => k_is)
      (case l__law_draw => k_is)
      (case e__law_draw => k_is)
      (case k__law_draw => k_is)
      (case a__law_lengths => k_is)
      (case l__law_lengths => k_is)
      (case e__law_lengths => k_is)
      (case k__law_lengths => k_is)
      (case a__law_bits => k_is)
      (case l__law_bits => k_is)
      (case e__law_bits => k_is)
      (case k__law_bits => k_is)
      (case a__law_bound => k_is)
      (case l__law_bound => k_is)
      (case e__law_bound => k_is)
      (case k__law_bound => k_is)
      (case a__law_next => k_is)
      (case l__law_next => k_is)
      (case e__law_next => k_is)
      (case k__law_next => k_is)
      (case a__law_merge => k_is)
      (case l__law_merge => k_is)
      (case e__law_merge => k_is)
      (case k__law_merge => k_is)
      (case a__law_told_right => k_is)
      (case l__law_told_right => k_is)
      (case e__law_told_right => k_is)
      (case k__law_told_right => k_is)
      (case a__law_by_hand_right => k_is)
      (case l__law_by_hand_right => k_is)
      (case e__law_by_hand_right => k_is)
      (case k__law_by_hand_right => k_is)
      (case a_law => k_is)
      (case l_law => k_is)
      (case e_law => k_is)
      (case k_law => k_is)
      (case g_MOST_THINGS => k_is)
      (case r_MOST_THINGS => first | exact ⟨_, rfl⟩ | exact rfl)
      (case g_GALLOP => k_is)
      (case r_GALLOP => first | exact ⟨_, rfl⟩ | exact rfl)
      (case g_MOST_GALLOP => k_is)
      (case r_MOST_GALLOP => first | exact ⟨_, rfl⟩ | exact rfl)
      (case z_len => k_is)
      (case z_min => k_is)
      (case z_max => k_is)
      (case z_range => k_is)
      (case z_repr => k_is)
      (case z_isinstance => k_is)
      (case z_int => k_is)
      (case z_bool => k_is)
      (case z_tuple => k_is)
      (case z_list => k_is)
      (case z_sum => k_is)
      (case z_all => k_is)
    exact ⟨_, _, T.c_law, fun base => K28.ok_law T⟩
