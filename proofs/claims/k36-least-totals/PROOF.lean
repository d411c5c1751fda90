import PyProof.Rows.All
import Wide.All
import OpenK.AllK
import Wide.FinOn
import HandS.ForMost
import HandS.EndBits
import HandS.Defaults
import HandS.WideBits
import HandS.Style
import HandS.IsInst
import HandS.NoneIn
import HandS.More
import HandS.MakeKwOnly
import HandS.CallLocal
import PySem.Challenge.RW_runsort_k36_least_totals
set_option Elab.async false
set_option maxRecDepth 100000
set_option maxHeartbeats 4000000
namespace Rs
open PySem PySem.Spec PyProof.Rows L2

/-! ### a promise that is kept while no text of a container is under way -/
def Clr (A : Around) : Prop := A.guards = some []
theorem Clr.deep {A : Around} (c : Clr A) (e : Env) : Clr (A.deeper e) := c

structure FnG (P : Program) (w : World) (K : PySem.W.Frag) (mg : Str → Option Value) (base : Heap) (k : Nat) (f : Addr) (fd : FuncData) (ps : List Str) (sp : Sp) : Prop where
  many : ∀ vs H Q E, sp vs H Q E → vs.length = ps.length
  go : ∀ (A : Around) (o : List Env) (s : Shared) (H : Hp) (us : List Value) (a : Args) (vs : List V) (Q : VK) (E : XK), Clr A → Room k A → Env0 P w K mg base A o s H →
    BindsTo s fd a (ps.zip us) → Vals vs us → sp vs H Q E → codeAny (model P w) A (.call (.ref f) a) (CR CX0 o P w H s Q E) s
theorem FnG.up {P : Program} {w : World} {K : PySem.W.Frag} {mg : Str → Option Value} {base : Heap} {j k : Nat} {f : Addr} {fd : FuncData} {ps : List Str} {sp : Sp}
    (F : FnG P w K mg base j f fd ps sp) (h : j ≤ k) : FnG P w K mg base k f fd ps sp :=
  ⟨F.many, fun A o s H us a vs Q E c r => F.go A o s H us a vs Q E c (r.mono h)⟩
theorem FnG.of {P : Program} {w : World} {K : PySem.W.Frag} {mg : Str → Option Value} {base : Heap} {k : Nat} {f : Addr} {fd : FuncData} {ps : List Str} {sp : Sp}
    (F : FnOk P w K mg base CX0 k f fd ps sp) : FnG P w K mg base k f fd ps sp :=
  ⟨F.len, fun A o s H us a vs Q E _ r e b v h => F.run A o s H a us vs Q E r e b v h⟩

section
variable {P : Program} {w : World} {K : PySem.W.Frag} {mg : Str → Option Value} {base : Heap}
/-- a def by its body, as FnG -/
theorem defG {x qual : Str} {st : Stmt} {f : Addr} {fd : FuncData} {N ps : List Str} {k : Nat} {sp : Sp} (F : Fun K x qual st f fd) (S : FnScope N ps (defScope st))
    (many : ∀ vs H Q E, sp vs H Q E → vs.length = ps.length)
    (body : ∀ (cdv : Value) (A : Around) (o : List Env) (s : Shared) (H : Hp) (vs : List V) (Q : VK) (E : XK), Clr A →
      Room k (A.deeper (envOfC qual (defScope st) s.heap.objs.size f cdv)) → sp vs H Q E →
      ∃ t, PSs (cxOf CX0 P w K mg base N qual (defScope st) f cdv A o s H E).nox (defBody st) t ∧ t { nx := fun _ H' => Q .non H', rt := Q } (start N vs) H) :
    FnG P w K mg base (k + 1) f fd ps sp := by
  obtain ⟨oc, od, kV, doc, pm, an, cdv, ct, osl, rfl, lk, hcd⟩ := F.ex
  refine ⟨many, ?_⟩
  intro A o s H us a vs Q E c r e0 hb rv hsp
  obtain ⟨t, ht, hq⟩ := body cdv A o s H vs Q E c (r.deeper _) hsp
  have inK : ∀ b ob, K.lookup b = some ob → s.heap.get? b = some ob := fun b ob e => (e0.bs b ob (e0.mod.kin b ob e)).1
  have noL : s.heap.NoLimit := e0.mod.nolimit.keeps fun b ob e => (e0.bs b ob e).1
  refine codeAny_call_function r.depth (inK _ _ lk) rfl S.co S.gen rfl (PySem.W.codeRec_of inK hcd) (hb _ _ _ _ ?_)
  refine wpAny_newFunctionEnv_cells S.kind ?_ ?_
  · rintro ⟨n, v⟩ hy
    rcases S.par n (List.of_mem_zip hy).1 with q | q
    · exact Or.inl q
    · exact Or.inr ⟨q, PySem.W.cellsFrom_some _ _ _ (Or.inl q)⟩
  · intro env he s1 x1
    subst he
    refine ⟨noL.keeps x1.toInCall.keep, codeAny_func ?_⟩
    have J := inv_start (CX := CX0) (mg := mg) (E := E) (qual := qual) S r.hd e0 (many _ _ _ _ hsp) rv x1
    refine wpAny_mono (ht.nox.run [] s1 _ H _ J hq) ?_ ?_
    · intro fl s2 h2
      cases fl with
      | next => obtain ⟨_, H2, J2, q2⟩ := h2; exact ⟨V.non, H2, J2.os, J2.bare, J2.base, J2.hok, rfl, q2⟩
      | ret u => obtain ⟨v, _, H2, J2, r2, q2⟩ := h2; exact ⟨v, H2, J2.os, J2.bare, J2.base, J2.hok, r2, q2⟩
      | brk => obtain ⟨_, _, _, q2⟩ := h2; exact q2.elim
      | cont => obtain ⟨_, _, _, q2⟩ := h2; exact q2.elim
    · intro e s2 h2; exact h2
end

section
variable {X : Cx} {k : Nat} {f : Addr} {fd : FuncData} {ps : List Str} {sp : Sp} {dvs : List V} {ds : List Value} {x : Str} {p pos : Pos} {e : Expr} {es : List Expr} {t : TA}
theorem goG {pins : List (Addr × Obj)} {σ : L2.St} {H : Hp} {s : Shared} {Q : VK} {us : List Value} {vs : List V} (F : FnG X.prog X.w X.K X.mg X.base k f fd ps sp) (c : Clr X.A) (hr : Room k X.A)
    (hb : Binds X.K fd ps ds) (hd : Vals dvs ds) (I : Inv X pins σ H s) (r : Vals vs us) (h : sp (vs ++ dvs) H Q E0) : wpAny (model X.prog X.w) X.A (call (.ref f) us) (EP X pins σ Q) X.xe s := by
  have r2 := r.append hd
  have hl : (us ++ ds).length = ps.length := r2.length.symm.trans (F.many _ _ _ _ h)
  apply wpAny_call
  refine codeAny_mono (F.go X.A X.stack s H (us ++ ds) ⟨us, []⟩ (vs ++ dvs) Q E0 c hr I.env0 (hb s us I.kIn hl) r2 h) ?_
  intro q s2 h2
  match q, h2 with
  | .error _, h2 => exact h2.elim
  | .ok (.ret _), h2 => exact I.after h2
  | .ok .next, h2 => exact h2.elim
  | .ok .brk, h2 => exact h2.elim
  | .ok .cont, h2 => exact h2.elim
/-- f(e, ..) of such a def -/
theorem pe_callG (F : FnG X.prog X.w X.K X.mg X.base k f fd ps sp) (c : Clr X.A) (hr : Room k X.A) (hg : Gl X x) (hm : X.mg x = some (.ref f)) (hk : PySem.W.keepIn X.K (.ref f) = true)
    (hb : Binds X.K fd ps ds) (hd : Vals dvs ds) (ha : PA X (e :: es) t) (hdb : (x == ("__debug__" : Str)) = false := by decide)
    (he : starEach (e :: es) X.env = (false, eval e X.env) :: starEach es X.env := by rfl) (hpl : (backTo pos (starEach es X.env)).any (·.1) = false := by rfl) :
    PE X (.Call (.Name x p) (e :: es) [] pos) (tCall sp dvs E0 t) := by
  constructor
  intro pins s σ H Q I h
  apply wpAny_Call_Name_kw
  refine ld_glob I hg hm ?_ hdb
  refine PySem.W.callWith_K (h₀ := X.base) I.ok.mod.kin hk ?_ he hpl
  refine thn (ha.run pos pins s σ H _ I h) ?_
  rintro us s1 ⟨vs, H1, I1, r, q⟩
  exact ⟨I1.kIn, goG F c hr hb hd I1 r q⟩
theorem pe_callG0 (F : FnG X.prog X.w X.K X.mg X.base k f fd ps sp) (c : Clr X.A) (hr : Room k X.A) (hg : Gl X x) (hm : X.mg x = some (.ref f)) (hk : PySem.W.keepIn X.K (.ref f) = true)
    (hb : Binds X.K fd ps ds) (hd : Vals dvs ds) (hdb : (x == ("__debug__" : Str)) = false := by decide) : PE X (.Call (.Name x p) [] [] pos) (tCall sp dvs E0 tNil) := by
  constructor
  intro pins s σ H Q I h
  apply wpAny_Call_Name_kw
  refine ld_glob I hg hm ?_ hdb
  exact PySem.W.callWith_K0 I.kIn hk (goG (us := []) F c hr hb hd I .nil h)
end

/-! ### repr of data -/
/-- data that can be shown -/
structure Shw (d : PyData) : Prop where
  ok : d.showable = true
  sz : d.shown.length ≤ sizeLine
def rRepr (K : PySem.W.Frag) : List V → Hp → VK → Prop := fun xs H Q => ∃ x d, xs = [x] ∧ Dp K H x d ∧ Shw d ∧ d.depth ≤ 50 ∧ Q (.str d.shown) H
mutual
theorem dp_noDict {K : PySem.W.Frag} {H : Hp} : ∀ (d : PyData) (v : V), Dp K H v d → d.hasDict = false
  | .none, _, _ => by simp only [PyData.hasDict]
  | .bool _, _, _ => by simp only [PyData.hasDict]
  | .int _, _, _ => by simp only [PyData.hasDict]
  | .str _, _, _ => by simp only [PyData.hasDict]
  | .list ds, _, h => by
    cases h with
    | lst _ ha => simp only [PyData.hasDict]; exact dps_noDict ds _ ha
  | .tuple ds, _, h => by
    cases h with
    | tup _ ha => simp only [PyData.hasDict]; exact dps_noDict ds _ ha
  | .dict _, _, h => by cases h
theorem dps_noDict {K : PySem.W.Frag} {H : Hp} : ∀ (ds : List PyData) (vs : List V), DpAll K H vs ds → PyData.hasDictAll ds = false
  | [], _, _ => by simp only [PyData.hasDictAll]
  | d :: ds, _, h => by
    cases h with
    | cons h1 h2 => simp only [PyData.hasDictAll, dp_noDict d _ h1, dps_noDict ds _ h2, Bool.or_self]
end
section
variable {X : Cx}
theorem call_repr {k : Nat} (c : Clr X.A) (hr : Room k X.A) : CallR X (.builtin "repr") (rRepr X.K) := by
  intro pins s σ H xs us Q I r h
  obtain ⟨x, d, rfl, hd, hs, hdp, q⟩ := h
  cases r with
  | cons r1 r2 =>
    cases r2
    rename_i u
    have nd := dp_noDict d x hd
    obtain ⟨as, rd⟩ := Dp.reads I d x u hd r1
    have fin : ∀ h' t tk, (∀ b o, s.heap.get? b = some o → h'.get? b = some o) → EP X pins σ Q (.str d.shown t) { s with heap := h', toks := tk } :=
      fun h' t tk kp => ⟨.str d.shown, H, I.kept kp, ⟨t, rfl⟩, q⟩
    have un := hr.units
    have room : X.A.units + (d.depth + 1) < cLine := by omega
    cases x with
    | ref a =>
      cases (show u = Value.ref a from r1)
      exact repr_of_reads' (s := s) rd hs.ok (PyData.noDict_hsm nd) c room (fun _ _ e => e) fin hs.sz
    | non =>
      cases (show u = Value.none from r1)
      cases hd
      have e : PyData.shown .none = ("None" : Str) := by simp only [PyData.shown]
      rw [e] at q
      exact PySem.P.repr_of_none ⟨.str _, H, I.tok _, ⟨_, rfl⟩, q⟩
    | bl b =>
      cases (show u = Value.bool b from r1)
      cases hd
      have e : PyData.shown (.bool b) = ((if b then "True" else "False" : String) : Str) := by cases b <;> simp only [PyData.shown] <;> rfl
      rw [e] at q
      cases b <;> exact PySem.P.repr_of_bool ⟨.str _, H, I.tok _, ⟨_, rfl⟩, q⟩
    | int i =>
      obtain ⟨t, rfl⟩ := (show ∃ t, u = Value.int i t from r1)
      cases hd
      have e : PyData.shown (.int i) = ((toString i : String) : Str) := by simp only [PyData.shown]
      have z : i.natAbs.log2 < 1920 := by simpa [PyData.showable] using hs.ok
      rw [e] at q
      exact PySem.P.repr_of_int z ⟨.str _, H, I.tok _, ⟨_, rfl⟩, q⟩
    | str x =>
      obtain ⟨t, rfl⟩ := (show ∃ t, u = Value.str x t from r1)
      cases hd
      have e : PyData.shown (.str x) = reprText x := by simp only [PyData.shown]
      have z := hs.sz
      rw [e] at q z
      exact PySem.P.repr_of_str ⟨.str _, H, I.tok _, ⟨_, rfl⟩, q⟩ z
    | byt _ => cases hd
    | flt _ => cases hd
    | ty _ => cases hd
end

/-! ### slices with a step -/
/-- the places that a slice takes -/
def slIx (n : Nat) (lo hi st : Option Int) : List Nat := sliceRange (sliceBounds lo hi st n).1 (sliceBounds lo hi st n).2.1 (sliceBounds lo hi st n).2.2
def pickV (xs : List V) (lo hi st : Option Int) : List V := (slIx xs.length lo hi st).filterMap (xs[·]?)
theorem vals_pick {xs : List V} {us : List Value} (r : Vals xs us) : ∀ ix : List Nat, Vals (ix.filterMap (xs[·]?)) (ix.filterMap (us[·]?))
  | [] => .nil
  | i :: ix => by
    have ih := vals_pick r ix
    cases e : xs[i]? with
    | none =>
      have e' := r.none_of e
      rw [List.filterMap_cons_none e, List.filterMap_cons_none e']
      exact ih
    | some x =>
      obtain ⟨u, e', ru⟩ := r.get e
      rw [List.filterMap_cons_some e, List.filterMap_cons_some e']
      exact .cons ru ih
def tSl3 (K : PySem.W.Frag) (te : TE) (tl th ts : TO) : TE := fun σ H Q => te σ H fun x H1 => tl σ H1 fun l H2 => th σ H2 fun u H3 => ts σ H3 fun st H4 => ∃ a xs, x = .ref a ∧ SqL K H4 a xs ∧ st ≠ some 0 ∧
  ∀ p, H4 p = none → Q (.ref p) (upd H4 p (.lst (pickV xs l u st)))
section
variable {X : Cx}
theorem pe_slice3 {e : Expr} {te : TE} {lo hi st : Option Expr} {tl th ts : TO} {p2 pos : Pos} (he : PE X e te) (hl : PO X lo tl) (hh : PO X hi th) (hs : PO X st ts)
    (hsub : ∀ ov iv, subscripted (.Slice lo hi st p2) false ov iv = operate [ov, iv] (getItem ov iv) := by intro _ _; with_unfolding_all rfl) : PE X (.Subscript e (.Slice lo hi st p2) pos) (tSl3 X.K te tl th ts) := by
  constructor
  intro pins s σ H Q I h
  refine PyProof.Rows.Subscript_ (thn (he.run pins s σ H _ I h) ?_)
  rintro v s1 ⟨x, H1, I1, r1, q1⟩
  refine wpAny_Slice (thn (hl.run pins s1 σ H1 _ I1 q1) ?_)
  rintro vl s2 ⟨l, H2, I2, pl, q2⟩
  refine thn (hh.run pins s2 σ H2 _ I2 q2) ?_
  rintro vu s3 ⟨u, H3, I3, pu, q3⟩
  refine thn (hs.run pins s3 σ H3 _ I3 q3) ?_
  rintro vs s4 ⟨c, H4, I4, ps, a, xs, ex, hx, h0, q4⟩
  subst ex
  cases r1
  have I5 : Inv X pins σ H4 { s4 with heap := s4.heap.push { cls := .type "slice", data := .fields #[vl, vu, vs] } } := I4.kept (t' := s4.toks) fun b ob q => Heap.get?_push_of_some _ q
  obtain ⟨its, rv, ht, hz⟩ := I5.list hx
  have hlen : its.length = xs.length := rv.length.symm
  show wpAny (model X.prog X.w) X.A (subscriptTail e (.Slice lo hi st p2) (.ref a) (.ref s4.heap.objs.size)) (EP X pins σ Q) X.xe _
  refine tail_any (ops := [.ref a, .ref s4.heap.objs.size]) ht.isList.typeIs PySem.slot_list_getitem.lookup ?_ (hsub _ _)
  refine wpAny_getItem_list_slice ht.isList (Heap.IsSliceOf.new _ vl vu vs) pl pu ps h0 ?_ (by rw [List.size_toArray, hlen]; exact hz)
  have hp : PySem.slicePick its.toArray l u c = ((slIx xs.length l u c).filterMap (its[·]?)).toArray := by
    unfold PySem.slicePick slIx
    rw [List.size_toArray, hlen]
    simp only [List.getElem?_toArray]
  have hn := PySem.slicePick_size_le its.toArray l u c
  rw [hp, List.size_toArray, List.size_toArray, hlen] at hn
  rw [hp]
  refine ⟨.ref _, _, I5.laid (t' := s4.toks) (o := .lst (pickV xs l u c)) (fun b ob q => Heap.get?_push_of_some _ q) (Nat.le_refl _) ?_, rfl, q4 _ (I5.hok.fresh (Nat.le_refl _))⟩
  refine ⟨?_, _, 0, vals_pick rv _, Heap.get?_push_size _ rfl⟩
  have e := (vals_pick rv (slIx xs.length l u c)).length
  show (List.filterMap (fun i => xs[i]?) (slIx xs.length l u c)).length ≤ sizeLine
  rw [e]
  exact Nat.le_trans hn hz
end

/-! ### a call by keywords alone -/
section
variable {X : Cx} {CX : CXT} {k : Nat} {f : Addr} {fd : FuncData} {ps ks : List Str} {sp : Sp} {E : XK} {x : Str} {p pos : Pos} {kws : List Keyword} {tk : TA} {g : List Value → List Value → List Value} {gV : List V → List V → List V}
theorem pe_callK0 (F : FnOk X.prog X.w X.K X.mg X.base CX k f fd ps sp) (hr : Room k X.A) (hg : Gl X x) (hm : X.mg x = some (.ref f)) (hk : PySem.W.keepIn X.K (.ref f) = true) (hb : KBn X.K fd ps 0 ks g gV) (hx : Passes CX X E)
    (hkw : PK X kws tk) (hall : (backToKw pos (keywordEach kws X.env)).all (·.1.isSome) = true := by rfl) (hks : (backToKw pos (keywordEach kws X.env)).filterMap (·.1) = ks := by rfl)
    (hdb : (x == ("__debug__" : Str)) = false := by decide) : PE X (.Call (.Name x p) [] kws pos) (tCallN 0 ks.length sp gV E tNil tk) := by
  constructor
  intro pins s σ H Q I h
  apply wpAny_Call_Name_kw
  refine ld_glob I hg hm ?_ hdb
  have np : ((backTo pos (starEach [] X.env)).any (·.1) || (backToKw pos (keywordEach kws X.env)).any (·.1.isNone)) = false := by
    have z : ∀ l : List (Option Str × Sem Value), l.all (·.1.isSome) = true → l.any (·.1.isNone) = false := by
      intro l hl
      induction l with
      | nil => rfl
      | cons q l ih =>
        simp only [List.all_cons, Bool.and_eq_true] at hl
        simp only [List.any_cons, ih hl.2, Bool.or_false]
        cases e : q.1 with
        | none => rw [e] at hl; exact absurd hl.1 (by decide)
        | some _ => rfl
    rw [z _ hall]; rfl
  refine PySem.W.callWith_KW0 (h₀ := X.base) I.ok.mod.kin hk hall ?_ np
  refine thn (hkw.run pos pins s σ H _ I h) ?_
  rintro ws s1 ⟨zs, H1, I1, rz, _, l2, q⟩
  refine ⟨I1.kIn, ?_⟩
  rw [hks]
  exact run_fnN (us := []) F hr hb hx I1 .nil rz rfl l2 q
end

/-! ### the law's own call -/
/-- the heap that knows of nothing but the script (at a, where it stands apart) -/
def scriptH (own : Bool) (a : Addr) (o : Obj) (ns : List Int) : Hp := fun b => if own = true ∧ b = a then some (.frz o (.lst (ns.map V.int))) else none
theorem scriptH_only (own : Bool) (a : Addr) (o : Obj) (ns : List Int) : Only (scriptH own a o ns) := fun b => by
  unfold scriptH
  split
  · exact Or.inr ⟨_, _, rfl⟩
  · exact Or.inl rfl
theorem scriptH_some {own : Bool} {a b : Addr} {o : Obj} {ns : List Int} {u : HO} (h : scriptH own a o ns b = some u) : own = true ∧ b = a ∧ u = .frz o (.lst (ns.map V.int)) := by
  unfold scriptH at h
  split at h
  · rename_i z; exact ⟨z.1, z.2, (Option.some.inj h).symm⟩
  · cases h
theorem lawG {P : Program} {w : World} {K : PySem.W.Frag} {mg mb : Str → Option Value} {k : Nat} {fa a : Addr} {fd : FuncData} {x : Str} {sp : Sp} {s : Shared} {vs : List Value} {ns : List Int}
    (KX : K.In s.heap) (hm : s.heap.Ns mainGlobals mg) (hb : s.heap.Ns builtinsNs mb) (hbb : ∀ x : Str, x ≠ "__name__" → mb x = bootBuiltins x) (hlim : s.heap.NoLimit) (hg : s.gens = #[])
    (ha : s.heap.get? a = some { cls := .type "list", data := .seq vs.toArray }) (hi : IntsAre vs ns) (hl : ns.length ≤ sizeLine) (hr : Room k callerA)
    (F : ∀ base : Heap, K.In base → base.Ns mainGlobals mg → FnG P w K mg base k fa fd [x] sp) (hbind : ∀ (s : Shared) (u : Value), BindsTo s fd ⟨[u], []⟩ [(x, u)])
    (hsp : ∀ H : Hp, Only H → SqL K H a (ns.map V.int) → sp [.ref a] H (fun v _ => v = .bl true) E0) :
    codeAny (model P w) callerA (.call (.ref fa) ⟨[.ref a], []⟩) (fun r s' => r = .ok (.ret (.bool true)) ∧ OldK s.heap s'.heap ∧ s'.os = s.os ∧ AllBare s'.gens) s := by
  have rv := vals_ints hi
  have lv := hi.length
  -- own: the script is no object of the written part
  have key : ∀ own : Bool, (own = true → K.lookup a = none) → (own = false → ∃ o, K.lookup a = some o) →
      codeAny (model P w) callerA (.call (.ref fa) ⟨[.ref a], []⟩) (fun r s' => r = .ok (.ret (.bool true)) ∧ OldK s.heap s'.heap ∧ s'.os = s.os ∧ AllBare s'.gens) s := by
    intro own h1 h2
    have hO := scriptH_only own a { cls := .type "list", data := .seq vs.toArray } ns
    have hS := fun {b : Addr} {u : HO} => scriptH_some (own := own) (a := a) (b := b) (o := { cls := .type "list", data := .seq vs.toArray }) (ns := ns) (u := u)
    generalize eH : scriptH own a { cls := .type "list", data := .seq vs.toArray } ns = H at hO hS
    have frs0 : ∀ {b : Addr} {o : Obj} {es : Array DictEntry} {n : Nat}, s.heap.get? b = some o → o.data = .dict es n → H b = none := by
      intro b o es n e d
      cases q : H b with
      | none => rfl
      | some u =>
        obtain ⟨_, rfl, _⟩ := hS q
        rw [ha] at e
        cases e
        have d' : Data.seq vs.toArray _ = Data.dict es n := d
        cases d'
    have ns0 : ∀ {b : Addr} {m : Str → Option Value}, s.heap.Ns b m → (hidT s.heap H).Ns b m := by
      rintro b m ⟨o, es, n, e, d, r⟩
      exact ⟨o, es, n, hidT_get e (frs0 e d), d, r⟩
    have K0 : K.In (hidT s.heap H) := by
      intro b o e
      refine hidT_get (KX b o e) ?_
      cases q : H b with
      | none => rfl
      | some u =>
        obtain ⟨z, rfl, _⟩ := hS q
        rw [h1 z] at e
        cases e
    have hok : HOk P w H s.heap := by
      intro b u q
      obtain ⟨_, rfl, rfl⟩ := hS q
      exact ⟨ha, by rw [List.length_map]; exact hl, vs, _, rv, ha⟩
    have M0 : Mod K mg (hidT s.heap H) := by
      refine ⟨K0, ns0 hm, ⟨mb, ns0 hb, hbb⟩, ?_⟩
      obtain ⟨mc, q1, q2⟩ := hlim
      exact ⟨mc, ns0 q1, q2⟩
    have env : Env0 P w K mg (hidT s.heap H) callerA [] s H := by
      refine ⟨rfl, M0, fun b o e => of_hidT e, Nat.le_of_eq (hidT_size _ _), trivial, ?_, hok, .of_eq hg⟩
      intro b hb'
      cases hb'
    have sq : SqL K H a (ns.map V.int) := by
      cases own with
      | true => exact Or.inl (Or.inr ⟨_, by rw [← eH]; exact if_pos ⟨rfl, rfl⟩⟩)
      | false =>
        obtain ⟨o, e⟩ := h2 rfl
        have e' := KX a o e
        rw [ha] at e'
        cases e'
        exact Or.inr ⟨_, vs.toArray, _, e, rfl, rfl, rfl, by rw [List.size_toArray, lv]; exact hl, by simpa using rv⟩
    refine codeAny_mono ((F _ K0 (ns0 hm)).go callerA [] s H [.ref a] ⟨[.ref a], []⟩ [.ref a] _ E0 rfl hr env (hbind s (.ref a)) (.cons rfl .nil) (hsp H hO sq)) ?_
    intro r s' h
    match r, h with
    | .error _, h => exact h.elim
    | .ok .next, h => exact h.elim
    | .ok .brk, h => exact h.elim
    | .ok .cont, h => exact h.elim
    | .ok (.ret u), h =>
      obtain ⟨v, H', os, bare, un, hok', r', q⟩ := h
      cases (show v = .bl true from q)
      cases (show u = Value.bool true from r')
      refine ⟨rfl, OldK.of_keep ?_, os, bare⟩
      intro b o e
      cases q : H b with
      | none => exact un.keep b o e q (fun z => nomatch z) (fun z => nomatch z)
      | some u =>
        obtain ⟨_, rfl, rfl⟩ := hS q
        rw [ha] at e
        cases e
        obtain ⟨e2, _⟩ := hok' b _ (un.frzs b _ _ q)
        exact e2
  cases hk : K.lookup a with
  | some o => exact key false (fun z => Bool.noConfusion z) (fun _ => ⟨o, hk⟩)
  | none => exact key true (fun _ => hk) (fun z => Bool.noConfusion z)
theorem walkG {l : PySem.W.OpenLaw} {n k : Nat} {q : Program} {loose : List Str} {XP : (Str → Option Value) → Heap → Prop} {YP : World → Heap → Prop} {d : DefRec} {K : Params → PySem.W.Frag} {sp : PySem.W.Frag → Sp} {x : Str}
    (hn : l.most = some n) (hn2 : n ≤ sizeLine) (hdf : d.params.defaults = []) (hr : Room k callerA) (hY : ∀ (w : World) (h : Heap), YP w h → (K w.params).In h)
    (F : ∀ (w : World) (mg : Str → Option Value) (fa : Addr) (h : Heap), (K w.params).In h → h.Ns mainGlobals mg → mg d.name = some (.ref fa) →
      ∃ fd : FuncData, (∀ (s : Shared) (u : Value), BindsTo s fd ⟨[u], []⟩ [(x, u)]) ∧
        ∀ base : Heap, (K w.params).In base → base.Ns mainGlobals mg → FnG l.prog w (K w.params) mg base k fa fd [x] (sp (K w.params)))
    (hsp : ∀ (K : PySem.W.Frag) (H : Hp) (a : Addr) (ns : List Int), ns.length ≤ n → (∀ z ∈ ns, Builtin.Int.intBits z ≤ 1048576) → SqL K H a (ns.map V.int) → sp K [.ref a] H (fun v _ => v = .bl true) E0) :
    PySem.W.WalkO q loose XP YP l.row.toRowW d [] (fun f vs => PySem.call f vs) := by
  apply Att.attach_callB hn hdf
  intro w s0 s1 mg mb fa o pm cd doc a vs ns G Y ho hd hcd hmg hobj hints hlen hbits hg
  have KX := hY w _ Y
  obtain ⟨fd, hb, hF⟩ := F w mg fa _ KX G.T.g hmg
  exact lawG KX G.T.g G.T.b G.T.builtins G.T.nolimit hg hobj hints (Nat.le_trans hlen hn2) hr hF hb fun H _ hS => hsp _ H a ns hlen hbits hS
end Rs

namespace Rs
open PySem PySem.Spec PyProof.Rows L2

/-! ### what is known of the heap -/
abbrev Led := List (Addr × HO)
/-- H0: the heap at the entry; M: the objects of it that may have changed; L: what stands now -/
structure Hs (H0 : Hp) (M : List Addr) (H : Hp) (L : Led) : Prop where
  nd : (L.map (·.1)).Nodup
  is : ∀ q ∈ L, H q.1 = some q.2
  old : ∀ b o, H0 b = some o → b ∉ M → H b = some o
  mu : ∀ b ∈ M, H b ≠ none
/-- one entry exchanged -/
inductive Chg (a : Addr) (o o' : HO) : Led → Led → Prop where
  | here {L : Led} : Chg a o o' ((a, o) :: L) ((a, o') :: L)
  | there {q : Addr × HO} {L L' : Led} : Chg a o o' L L' → Chg a o o' (q :: L) (q :: L')
theorem Chg.keys {a : Addr} {o o' : HO} {L L' : Led} (c : Chg a o o' L L') : L'.map (·.1) = L.map (·.1) := by
  induction c with
  | here => rfl
  | there _ ih => simp only [List.map_cons, ih]
theorem Chg.mem {a : Addr} {o o' : HO} {L L' : Led} (c : Chg a o o' L L') : (a, o) ∈ L := by
  induction c with
  | here => exact List.mem_cons_self
  | there _ ih => exact List.mem_cons_of_mem _ ih
theorem Chg.of {a : Addr} {o o' : HO} {L L' : Led} (c : Chg a o o' L L') (nd : (L.map (·.1)).Nodup) : ∀ q ∈ L', q = (a, o') ∨ (q ∈ L ∧ q.1 ≠ a) := by
  induction c with
  | @here L =>
    intro q hq
    rcases List.mem_cons.mp hq with e | hq
    · exact Or.inl e
    · refine Or.inr ⟨List.mem_cons_of_mem _ hq, ?_⟩
      intro e
      simp only [List.map_cons, List.nodup_cons] at nd
      exact nd.1 (e ▸ List.mem_map_of_mem hq)
  | @there p L L' c ih =>
    intro q hq
    simp only [List.map_cons, List.nodup_cons] at nd
    rcases List.mem_cons.mp hq with e | hq
    · subst e
      refine Or.inr ⟨List.mem_cons_self, ?_⟩
      intro e
      exact nd.1 (e ▸ List.mem_map_of_mem (f := (·.1)) c.mem)
    · rcases ih nd.2 q hq with e | ⟨h1, h2⟩
      · exact Or.inl e
      · exact Or.inr ⟨List.mem_cons_of_mem _ h1, h2⟩
section
variable {H0 H H' : Hp} {M : List Addr} {L L' : Led} {a : Addr} {o o' : HO}
theorem Hs.new (S : Hs H0 M H L) (hp : H a = none) (o : HO) : H0 a = none ∧ Hs H0 M (upd H a o) ((a, o) :: L) := by
  have n0 : H0 a = none := by
    cases e : H0 a with
    | none => rfl
    | some u =>
      by_cases hm : a ∈ M
      · exact absurd hp (S.mu a hm)
      · have := S.old a u e hm
        rw [hp] at this
        cases this
  have ne : ∀ q ∈ L, q.1 ≠ a := fun q hq e => by
    have := S.is q hq
    rw [e, hp] at this
    cases this
  refine ⟨n0, ?_, ?_, ?_, ?_⟩
  · simp only [List.map_cons, List.nodup_cons]
    refine ⟨fun hm => ?_, S.nd⟩
    obtain ⟨q, hq, e⟩ := List.mem_map.mp hm
    exact ne q hq e
  · intro q hq
    rcases List.mem_cons.mp hq with e | hq
    · subst e; exact upd_same
    · rw [upd_ne (ne q hq)]; exact S.is q hq
  · intro b u e hm
    have hb : b ≠ a := fun z => by rw [z, n0] at e; cases e
    rw [upd_ne hb]
    exact S.old b u e hm
  · intro b hb
    unfold upd
    split
    · simp
    · exact S.mu b hb
theorem Hs.put (S : Hs H0 M H L) (c : Chg a o o' L L') (hm : H0 a = none ∨ a ∈ M) : Hs H0 M (upd H a o') L' := by
  refine ⟨by rw [c.keys]; exact S.nd, ?_, ?_, ?_⟩
  · intro q hq
    rcases c.of S.nd q hq with e | ⟨h1, h2⟩
    · subst e; exact upd_same
    · rw [upd_ne h2]; exact S.is q h1
  · intro b u e hb
    have ne : b ≠ a := fun z => by
      subst z
      rcases hm with z | z
      · rw [z] at e; cases e
      · exact hb z
    rw [upd_ne ne]
    exact S.old b u e hb
  · intro b hb
    unfold upd
    split
    · simp
    · exact S.mu b hb
/-- behind a call that changed at most the objects of C (each fresh or in M), and left L' -/
theorem Hs.call (S : Hs H0 M H L) {C : List Addr} (k : ∀ b u, H b = some u → b ∉ C → H' b = some u) (hC : ∀ b ∈ C, (H0 b = none ∨ b ∈ M) ∧ H' b ≠ none) (nd : (L'.map (·.1)).Nodup)
    (is : ∀ q ∈ L', H' q.1 = some q.2) : Hs H0 M H' L' := by
  refine ⟨nd, is, ?_, ?_⟩
  · intro b u e hb
    refine k b u (S.old b u e hb) fun hc => ?_
    rcases (hC b hc).1 with z | z
    · rw [z] at e; cases e
    · exact hb z
  · intro b hb
    by_cases hc : b ∈ C
    · exact (hC b hc).2
    · intro z
      cases e : H b with
      | none => exact S.mu b hb e
      | some u =>
        rw [k b u e hc] at z
        cases z
/-- nothing was changed -/
theorem Hs.more (S : Hs H0 M H L) (k : Same H H') : Hs H0 M H' L :=
  S.call (C := []) (fun b u e _ => k b u e) (fun b hb => nomatch hb) S.nd fun q hq => k _ _ (S.is q hq)
/-- nothing was changed, one object is new -/
theorem Hs.more1 (S : Hs H0 M H L) (k : Same H H') (hp : H a = none) (h' : H' a = some o) : H0 a = none ∧ Hs H0 M H' ((a, o) :: L) := by
  obtain ⟨n0, S'⟩ := S.new hp o
  refine ⟨n0, (S.more k).call (C := []) (fun b u e _ => e) (fun b hb => nomatch hb) S'.nd ?_⟩
  intro q hq
  rcases List.mem_cons.mp hq with e | hq
  · subst e; exact h'
  · exact k _ _ (S.is q hq)
/-- one object was changed, to o' -/
theorem Hs.one (S : Hs H0 M H L) (c : Chg a o o' L L') (hm : H0 a = none ∨ a ∈ M) (k : ∀ b u, H b = some u → b ≠ a → H' b = some u) (h' : H' a = some o') : Hs H0 M H' L' := by
  have S' := S.put c hm
  refine S.call (C := [a]) (fun b u e hb => k b u e fun z => hb (by simp [z])) ?_ S'.nd ?_
  · intro b hb
    have e : b = a := by simpa using hb
    subst e
    exact ⟨hm, by rw [h']; simp⟩
  · intro q hq
    rcases c.of S.nd q hq with e | ⟨h1, h2⟩
    · subst e; exact h'
    · exact k _ _ (S.is q h1) h2
/-- one object was changed, one is new -/
theorem Hs.one1 {p : Addr} {u : HO} (S : Hs H0 M H L) (c : Chg a o o' L L') (hm : H0 a = none ∨ a ∈ M) (k : ∀ b u, H b = some u → b ≠ a → H' b = some u) (h' : H' a = some o') (hp : H p = none) (hp' : H' p = some u) : H0 p = none ∧ Hs H0 M H' ((p, u) :: L') := by
  have S' := S.one c hm k h'
  have S2 := S.new hp u
  refine ⟨S2.1, ?_, ?_, S'.old, S'.mu⟩
  · simp only [List.map_cons, List.nodup_cons]
    refine ⟨fun hq => ?_, S'.nd⟩
    rw [c.keys] at hq
    obtain ⟨q, hq, e⟩ := List.mem_map.mp hq
    have := S.is q hq
    rw [e, hp] at this
    cases this
  · intro q hq
    rcases List.mem_cons.mp hq with e | hq
    · subst e; exact hp'
    · exact S'.is q hq
theorem Hs.sub (S : Hs H0 M H L) (h : L'.Sublist L) : Hs H0 M H L' := ⟨S.nd.sublist (h.map _), fun q hq => S.is q (h.subset hq), S.old, S.mu⟩
theorem Hs.start (H : Hp) (M : List Addr) (L : Led) (nd : (L.map (·.1)).Nodup) (is : ∀ q ∈ L, H q.1 = some q.2) (hM : ∀ b ∈ M, H b ≠ none) : Hs H M H L := ⟨nd, is, fun b u e _ => e, hM⟩
theorem Hs.start0 (H : Hp) : Hs H [] H [] := ⟨List.nodup_nil, fun q hq => (nomatch hq), fun b u e _ => e, fun b hb => nomatch hb⟩
theorem Hs.start1 {H : Hp} {a : Addr} {o : HO} (h : H a = some o) (M : List Addr) (hM : M = [] ∨ M = [a]) : Hs H M H [(a, o)] := by
  refine ⟨by simp, fun q hq => ?_, fun b u e _ => e, fun b hb => ?_⟩
  · have e : q = (a, o) := by simpa using hq
    subst e; exact h
  · rcases hM with rfl | rfl
    · cases hb
    · have e : b = a := by simpa using hb
      subst e; rw [h]; simp
theorem Hs.get (S : Hs H0 M H L) (m : (a, o) ∈ L) : H a = some o := S.is _ m
theorem Hs.old1 {d b : Addr} {u : HO} (S : Hs H0 [d] H L) (e : H0 b = some u) (hb : b ≠ d) : H b = some u := S.old b u e (by simpa using hb)
theorem Hs.same (S : Hs H0 [] H L) : Same H0 H := fun b o e => S.old b o e (fun z => nomatch z)
theorem Hs.lst {K : PySem.W.Frag} {xs : List V} (S : Hs H0 M H L) (m : (a, HO.lst xs) ∈ L) : SqL K H a xs := SqL.of (S.is _ m)
theorem Hs.tup {K : PySem.W.Frag} {xs : List V} (S : Hs H0 M H L) (m : (a, HO.tup xs) ∈ L) : SqT K H a xs := SqT.of (S.is _ m)
/-- the script, or what else stands in the written part, at a list -/
theorem Hs.sq {K : PySem.W.Frag} {xs : List V} (S : Hs H0 M H L) (h : SqL K H0 a xs) (hm : a ∉ M) : SqL K H a xs := by
  rcases h with (h | ⟨u, h⟩) | h
  · exact Or.inl (Or.inl (S.old _ _ h hm))
  · exact Or.inl (Or.inr ⟨u, S.old _ _ h hm⟩)
  · exact Or.inr h
end

/-! ### readings, step by step -/
/-- the slots at the entry -/
def stV : List Str → List V → L2.St
  | [], _ => []
  | _ :: N, vs => vs.head? :: stV N vs.tail
theorem start_eq : ∀ (N : List Str) (vs : List V), vs.length ≤ N.length → L2.start N vs = stV N vs
  | [], [], _ => by simp [L2.start, stV]
  | [], v :: vs, h => by simp at h
  | n :: N, [], _ => by
    have ih := start_eq N [] (Nat.zero_le _)
    simp only [stV, List.tail_nil, ← ih]
    simp [L2.start, List.replicate_succ]
  | n :: N, v :: vs, h => by
    have ih := start_eq N vs (by simpa using h)
    simp only [stV, List.tail_cons, ← ih]
    simp [L2.start]
section
variable {σ : L2.St} {H H0 : Hp} {M : List Addr} {L L' : Led} {Q : VK} {v x y : V} {nx : L2.St → Hp → Prop} {rt : VK} {bk ct : L2.St → Hp → Prop} {t u : TS} {te ta tb tc : TE} {g : TG} {tt tu : TT} {r r' : R2} {A B : Prop}
theorem rd_start {t : TS} {D : Ends} {N : List Str} {vs : List V} (h : t D (stV N vs) H) (hl : vs.length ≤ N.length := by exact Nat.le_of_ble_eq_true rfl) : t D (L2.start N vs) H := by rw [start_eq N vs hl]; exact h
theorem rd_seq (h : t ⟨fun σ H => u ⟨nx, rt, bk, ct⟩ σ H, rt, bk, ct⟩ σ H) : tSeq t u ⟨nx, rt, bk, ct⟩ σ H := h
theorem rd_asg (h : te σ H fun x H1 => g x σ H1 nx) : tAsg te g ⟨nx, rt, bk, ct⟩ σ H := h
theorem rd_name {i : Nat} {σ' : L2.St} {N : L2.St → Hp → Prop} (e : σ.set i (some v) = σ') (h : N σ' H) : gName i v σ H N := by subst e; exact h
theorem rd_ret (h : te σ H rt) : tRet te ⟨nx, rt, bk, ct⟩ σ H := h
theorem rd_retN (h : rt .non H) : tRetN ⟨nx, rt, bk, ct⟩ σ H := h
theorem rd_drop (h : te σ H fun _ H1 => nx σ H1) : tDrop te ⟨nx, rt, bk, ct⟩ σ H := h
theorem rd_next (h : nx σ H) : tNext ⟨nx, rt, bk, ct⟩ σ H := h
theorem rd_ifS (h : tt σ H fun b H1 => if b = true then t ⟨nx, rt, bk, ct⟩ σ H1 else u ⟨nx, rt, bk, ct⟩ σ H1) : tIfS tt t u ⟨nx, rt, bk, ct⟩ σ H := h
theorem rd_par {i j : Nat} {ta : TA} (h : ta σ H fun vs H1 => ∃ v w, vs = [v, w] ∧ nx ((σ.set i (some v)).set j (some w)) H1) : tPar i j ta ⟨nx, rt, bk, ct⟩ σ H := h
theorem rd_par3 {i j l : Nat} {ta : TA} (h : ta σ H fun vs H1 => ∃ u v w, vs = [u, v, w] ∧ nx (((σ.set i (some u)).set j (some v)).set l (some w)) H1) : tPar3 i j l ta ⟨nx, rt, bk, ct⟩ σ H := h
theorem rd_two {R : V → V → Prop} (h : R x y) : ∃ v w, [x, y] = [v, w] ∧ R v w := ⟨_, _, rfl, h⟩
theorem rd_three {z : V} {R : V → V → V → Prop} (h : R x y z) : ∃ u v w, [x, y, z] = [u, v, w] ∧ R u v w := ⟨_, _, _, rfl, h⟩
theorem rd_var {i : Nat} (e : σ[i]? = some (some v)) (h : Q v H) : tVar i σ H Q := ⟨v, e, h⟩
theorem rd_c (h : Q v H) : tC v σ H Q := h
theorem rd_op (h : ta σ H fun x H1 => tb σ H1 fun y H2 => r x y H2 Q) : tOp r ta tb σ H Q := h
theorem rd_un {r : V → Hp → VK → Prop} (h : ta σ H fun x H1 => r x H1 Q) : tUn r ta σ H Q := h
theorem rd_I0 {f : Int → Int → V} {i j : Int} (h : Q (f i j) H) : rI0 f (.int i) (.int j) H Q := ⟨i, j, rfl, rfl, h⟩
theorem rd_I {C : Int → Int → Prop} {f : Int → Int → V} {i j : Int} (hc : C i j) (h : Q (f i j) H) : rI C f (.int i) (.int j) H Q := ⟨i, j, rfl, rfl, hc, h⟩
theorem rd_U {f : Int → V} {i : Int} (h : Q (f i) H) : rU f (.int i) H Q := ⟨i, rfl, h⟩
theorem rd_eqI {i j : Int} (h : Q (.bl (decide (i = j))) H) : rEq (.int i) (.int j) H Q := by
  refine ⟨rfl, ?_⟩
  have e : decide (V.int i = V.int j) = decide (i = j) := by simp
  rw [e]; exact h
theorem rd_neI {i j : Int} (h : Q (.bl (decide (¬ i = j))) H) : rNe (.int i) (.int j) H Q := by
  refine ⟨rfl, ?_⟩
  have e : (!decide (V.int i = V.int j)) = decide (¬ i = j) := by simp
  rw [e]; exact h
theorem rd_eqS {i j : Str} (h : Q (.bl (decide (i = j))) H) : rEq (.str i) (.str j) H Q := by
  refine ⟨rfl, ?_⟩
  have e : decide (V.str i = V.str j) = decide (i = j) := by simp
  rw [e]; exact h
theorem rd_neS {i j : Str} (h : Q (.bl (decide (¬ i = j))) H) : rNe (.str i) (.str j) H Q := by
  refine ⟨rfl, ?_⟩
  have e : (!decide (V.str i = V.str j)) = decide (¬ i = j) := by simp
  rw [e]; exact h
theorem rd_eqB {i j : Bool} (h : Q (.bl (decide (i = j))) H) : rEq (.bl i) (.bl j) H Q := by
  refine ⟨rfl, ?_⟩
  have e : decide (V.bl i = V.bl j) = decide (i = j) := by simp
  rw [e]; exact h
theorem rd_test {Q : Bool → Hp → Prop} (h : te σ H fun x H' => ∃ k, x = .bl k ∧ Q k H') : tTest te σ H Q := h
theorem rd_tB {Q : Bool → Hp → Prop} (h : te σ H fun x H' => ∃ k, x = .bl k ∧ Q k H') : tB te σ H Q := h
theorem rd_bl {b : Bool} {R : Bool → Prop} (h : R b) : ∃ k, V.bl b = .bl k ∧ R k := ⟨b, rfl, h⟩
theorem rd_and {Q : Bool → Hp → Prop} (h : tt σ H fun c H1 => if c = true then tu σ H1 Q else Q false H1) : tAnd tt tu σ H Q := h
theorem rd_or {Q : Bool → Hp → Prop} (h : tt σ H fun c H1 => if c = true then Q true H1 else tu σ H1 Q) : tOr tt tu σ H Q := h
theorem rd_not {Q : Bool → Hp → Prop} (h : tt σ H fun c H1 => Q (!c) H1) : tNot tt σ H Q := h
theorem rd_andV (h : ta σ H fun x H1 => ∃ c, x = .bl c ∧ if c = true then tb σ H1 Q else Q (.bl false) H1) : tAndV ta tb σ H Q := h
theorem rd_orV (h : ta σ H fun x H1 => ∃ c, x = .bl c ∧ if c = true then Q (.bl true) H1 else tb σ H1 Q) : tOrV ta tb σ H Q := h
theorem rd_notV (h : ta σ H fun x H1 => ∃ c, x = .bl c ∧ Q (.bl (!c)) H1) : tNotV ta σ H Q := h
theorem rd_if (h : tt σ H fun c H1 => if c = true then ta σ H1 Q else tb σ H1 Q) : tIf tt ta tb σ H Q := h
theorem rd_cons {tr : TA} {Q : List V → Hp → Prop} (h : te σ H fun x H1 => tr σ H1 fun xs H2 => Q (x :: xs) H2) : tCons te tr σ H Q := h
theorem rd_nil {Q : List V → Hp → Prop} (h : Q [] H) : tNil σ H Q := h
/-- what is wanted of a new object -/
def nw (Q : VK) (H : Hp) (o : HO) : Prop := ∀ p, H p = none → Q (.ref p) (upd H p o)
def nwL (Q : VK) (H : Hp) (xs : List V) : Prop := xs.length ≤ sizeLine ∧ nw Q H (.lst xs)
def nwT (Q : VK) (H : Hp) (xs : List V) : Prop := xs.length ≤ sizeLine ∧ nw Q H (.tup xs)
theorem rd_tup {ta : TA} (h : ta σ H fun xs H1 => nwT Q H1 xs) : tTup ta σ H Q := h
theorem rd_lst {ta : TA} (h : ta σ H fun xs H1 => nwL Q H1 xs) : tLst ta σ H Q := h
theorem rd_cb {r : List V → Hp → VK → Prop} {ta : TA} (h : ta σ H fun vs H1 => r vs H1 Q) : tCB r ta σ H Q := h
theorem rd_call {sp : Sp} {dvs : List V} {E : XK} {ta : TA} (h : ta σ H fun vs H1 => sp (vs ++ dvs) H1 Q E) : tCall sp dvs E ta σ H Q := h
theorem rd_call0 {sp : Sp} {E : XK} {ta : TA} (h : ta σ H fun vs H1 => sp vs H1 Q E) : tCall sp [] E ta σ H Q := by
  have e : (fun (vs : List V) H1 => sp (vs ++ []) H1 Q E) = fun vs H1 => sp vs H1 Q E := by funext vs H1; rw [List.append_nil]
  show ta σ H (fun vs H1 => sp (vs ++ []) H1 Q E)
  rw [e]; exact h
theorem rd_callN {n m : Nat} {sp : Sp} {gV : List V → List V → List V} {E : XK} {ta tk : TA} (h : ta σ H fun vs H1 => tk σ H1 fun zs H2 => vs.length = n ∧ zs.length = m ∧ sp (gV vs zs) H2 Q E) : tCallN n m sp gV E ta tk σ H Q := h
theorem rd_chain (h : ta σ H fun x H1 => tb σ H1 fun y H2 => r x y H2 fun z H3 => ∃ k, z = .bl k ∧ (if k = true then tc σ H3 fun w H4 => r' y w H4 Q else Q (.bl false) H3)) : tChain r r' ta tb tc σ H Q := h
theorem rd_bits (h : te σ H fun x H1 => ∃ i, x = .int i ∧ Q (.int (Builtin.Int.intBits i : Nat)) H1) : tBits te σ H Q := h
theorem rd_int1 {i : Int} {R : Int → Prop} (h : R i) : ∃ j, V.int i = .int j ∧ R j := ⟨i, rfl, h⟩
theorem rd_int2 {i j : Int} {R : Int → Int → Prop} (h : R i j) : ∃ i' j', [V.int i, V.int j] = [.int i', .int j'] ∧ R i' j' := ⟨i, j, rfl, h⟩
theorem rd_dget {td ty : TE} (h : td σ H fun x H1 => ty σ H1 fun y H2 => ∃ a v, x = .ref a ∧ DGet H2 a y (some v) ∧ Q v H2) : tDGet td ty σ H Q := h
theorem rd_dput {td ty tv : TE} (h : tv σ H fun v H1 => td σ H1 fun x H2 => ty σ H2 fun y H3 => ∃ a H4, x = .ref a ∧ DPut H3 a y v H4 ∧ nx σ H4) : sDPut td ty tv ⟨nx, rt, bk, ct⟩ σ H := h
theorem rd_slice3 {K : PySem.W.Frag} {tl th ts : TO} (h : te σ H fun x H1 => tl σ H1 fun l H2 => th σ H2 fun u H3 => ts σ H3 fun st H4 => ∃ a xs, x = .ref a ∧ SqL K H4 a xs ∧ st ≠ some 0 ∧ nw Q H4 (.lst (pickV xs l u st))) : tSl3 K te tl th ts σ H Q := h
theorem rd_sl {r : V → Option Int → Option Int → Hp → VK → Prop} {tl th : TO} (h : te σ H fun x H1 => tl σ H1 fun l H2 => th σ H2 fun u H3 => r x l u H3 Q) : tSl r te tl th σ H Q := h
theorem rd_noPart {Q : Option Int → Hp → Prop} (h : Q none H) : tNoPart σ H Q := h
theorem rd_part {Q : Option Int → Hp → Prop} (h : te σ H fun x H1 => ∃ i, x = .int i ∧ Q (some i) H1) : tPart te σ H Q := h
theorem sz {n : Nat} (h : n ≤ 1000000) : n ≤ sizeLine := Nat.le_trans h (by decide)
theorem sz' {n : Nat} (h : n ≤ 1000000) : n < sizeLine := Nat.lt_of_le_of_lt h (by decide)
theorem rd_mod {i j : Int} (hj : 0 < j) (h : ∀ r, r = i % j → 0 ≤ r → r < j → Q (.int r) H) : rI (fun _ j => 0 < j) (fun i j => .int (i % j)) (.int i) (.int j) H Q :=
  ⟨i, j, rfl, rfl, hj, h _ rfl (Int.emod_nonneg _ (by omega)) (Int.emod_lt_of_pos _ hj)⟩
theorem rd_div {i j : Int} (hj : 0 < j) (hb : j < 2 ^ 64) (h : Q (.int (i / j)) H) : rI CDivW (fun i j => .int (i / j)) (.int i) (.int j) H Q :=
  ⟨i, j, rfl, rfl, wide_div (b := 64) hj (by omega) (by decide) (by decide), h⟩
theorem rd_mulL {i j : Int} (h0 : -(2 ^ 64) < i) (h1 : i < 2 ^ 64) (h : Q (.int (i * j)) H) : rI CMul (fun i j => .int (i * j)) (.int i) (.int j) H Q := ⟨i, j, rfl, rfl, .inl ⟨h0, h1⟩, h⟩
theorem rd_mulR {i j : Int} (h0 : -(2 ^ 64) < j) (h1 : j < 2 ^ 64) (h : Q (.int (i * j)) H) : rI CMul (fun i j => .int (i * j)) (.int i) (.int j) H Q := ⟨i, j, rfl, rfl, .inr ⟨h0, h1⟩, h⟩
theorem rd_pow {f : Int → Int → V} {i j : Int} (h0 : 0 ≤ j) (h1 : j ≤ 1000000) (h2 : i.natAbs < 2 ^ 64) (h : Q (f i j) H) : rI CPow f (.int i) (.int j) H Q := ⟨i, j, rfl, rfl, ⟨h0, h1, h2⟩, h⟩
/-! tests -/
theorem rd_dec {p : Prop} [Decidable p] (h1 : p → A) (h2 : ¬ p → B) : if decide p = true then A else B := by
  by_cases h : p
  · rw [if_pos (decide_eq_true h)]; exact h1 h
  · rw [if_neg (by simp [h])]; exact h2 h
theorem rd_decT {p : Prop} [Decidable p] (h : p) (h1 : A) : if decide p = true then A else B := by rw [if_pos (decide_eq_true h)]; exact h1
theorem rd_decF {p : Prop} [Decidable p] (h : ¬ p) (h1 : B) : if decide p = true then A else B := by rw [if_neg (by simp [h])]; exact h1
theorem rd_ite {b : Bool} (h1 : b = true → A) (h2 : b = false → B) : if b = true then A else B := by
  cases b with
  | true => rw [if_pos rfl]; exact h1 rfl
  | false => rw [if_neg Bool.false_ne_true]; exact h2 rfl
theorem rd_iteT (h : A) : if true = true then A else B := by rw [if_pos rfl]; exact h
theorem rd_iteF (h : B) : if false = true then A else B := by rw [if_neg Bool.false_ne_true]; exact h
theorem rd_ndec {p : Prop} [Decidable p] (h1 : ¬ p → A) (h2 : p → B) : if (!decide p) = true then A else B := by
  by_cases h : p
  · rw [if_neg (by simp [h])]; exact h2 h
  · rw [if_pos (by simp [h])]; exact h1 h
theorem rd_ndecT {p : Prop} [Decidable p] (h : p) (h2 : B) : if (!decide p) = true then A else B := by rw [if_neg (by simp [h])]; exact h2
theorem rd_ndecF {p : Prop} [Decidable p] (h : ¬ p) (h1 : A) : if (!decide p) = true then A else B := by rw [if_pos (by simp [h])]; exact h1
theorem rd_nT (h : B) : if (!true) = true then A else B := by rw [if_neg (by decide)]; exact h
theorem rd_nF (h : A) : if (!false) = true then A else B := by rw [if_pos (by decide)]; exact h
/-! with the ledger -/
theorem rd_newL {xs : List V} (S : Hs H0 M H L) (hz : xs.length ≤ sizeLine) (h : ∀ p H', H0 p = none → Hs H0 M H' ((p, .lst xs) :: L) → Q (.ref p) H') : nwL Q H xs :=
  ⟨hz, fun p hp => h p _ (S.new hp (.lst xs)).1 (S.new hp (.lst xs)).2⟩
theorem rd_newT {xs : List V} (S : Hs H0 M H L) (hz : xs.length ≤ sizeLine) (h : ∀ p H', H0 p = none → Hs H0 M H' ((p, .tup xs) :: L) → Q (.ref p) H') : nwT Q H xs :=
  ⟨hz, fun p hp => h p _ (S.new hp (.tup xs)).1 (S.new hp (.tup xs)).2⟩
theorem rd_newO {o : HO} (S : Hs H0 M H L) (h : ∀ p H', H0 p = none → Hs H0 M H' ((p, o) :: L) → Q (.ref p) H') : nw Q H o :=
  fun p hp => h p _ (S.new hp o).1 (S.new hp o).2
theorem rd_ixL {K : PySem.W.Frag} {a : Addr} {xs : List V} {i : Int} (S : Hs H0 M H L) (m : (a, HO.lst xs) ∈ L) (e : atI xs i = some v) (h : Q v H) : rIxL K (.ref a) (.int i) H Q := ⟨a, xs, i, v, rfl, rfl, S.lst m, e, h⟩
theorem atI_any {α : Type} {xs : List α} {i : Int} (h0 : 0 ≤ i) (h1 : i < xs.length) : ∃ v, v ∈ xs ∧ xs[i.toNat]? = some v ∧ atI xs i = some v := by
  have hl : i.toNat < xs.length := by omega
  have e : xs[i.toNat]? = some xs[i.toNat] := by simp [hl]
  refine ⟨xs[i.toNat], List.getElem_mem hl, e, ?_⟩
  have z : ((i.toNat : Nat) : Int) = i := by omega
  have q := atI_nat e
  rw [z] at q
  exact q
theorem rd_ixAny {K : PySem.W.Frag} {a : Addr} {xs : List V} {i : Int} (S : Hs H0 M H L) (m : (a, HO.lst xs) ∈ L) (h0 : 0 ≤ i) (h1 : i < xs.length) (h : ∀ v, v ∈ xs → xs[i.toNat]? = some v → Q v H) : rIxL K (.ref a) (.int i) H Q := by
  obtain ⟨v, hv, e, he⟩ := atI_any h0 h1
  exact ⟨a, xs, i, v, rfl, rfl, S.lst m, he, h v hv e⟩
theorem rd_ixT {K : PySem.W.Frag} {a : Addr} {xs : List V} {i : Int} (S : Hs H0 M H L) (m : (a, HO.tup xs) ∈ L) (e : atI xs i = some v) (h : Q v H) : rIxT K (.ref a) (.int i) H Q := ⟨a, xs, i, v, rfl, rfl, S.tup m, e, h⟩
theorem rd_len {K : PySem.W.Frag} {a : Addr} {xs : List V} (S : Hs H0 M H L) {R : List V → Prop} (m : (a, HO.lst xs) ∈ L) (h : R xs) : ∃ p ys, [V.ref a] = [.ref p] ∧ (SqL K H p ys ∨ SqT K H p ys) ∧ R ys := ⟨a, xs, rfl, Or.inl (S.lst m), h⟩
theorem rd_lenT {K : PySem.W.Frag} {a : Addr} {xs : List V} (S : Hs H0 M H L) {R : List V → Prop} (m : (a, HO.tup xs) ∈ L) (h : R xs) : ∃ p ys, [V.ref a] = [.ref p] ∧ (SqL K H p ys ∨ SqT K H p ys) ∧ R ys := ⟨a, xs, rfl, Or.inr (S.tup m), h⟩
theorem rd_getS {a : Addr} {kvs : List (Key × V)} {k : Str} (S : Hs H0 M H L) (m : (a, HO.dK kvs) ∈ L) (e : valV kvs (.inr k) = some v) {R : V → Prop} (h : R v) : ∃ a' v', V.ref a = .ref a' ∧ DGet H a' (.str k) (some v') ∧ R v' :=
  ⟨a, v, rfl, by rw [← e]; exact DGet.k (k := Sum.inr k) (S.is _ m), h⟩
theorem rd_putS {a : Addr} {kvs kvs' : List (Key × V)} {k : Str} {R : Hp → Prop} (S : Hs H0 M H L) (c : Chg a (.dK kvs) (.dK kvs') L L') (hm : H0 a = none ∨ a ∈ M) (hl : kvs.length < sizeLine) (e : putK kvs (.inr k) v = kvs')
    (h : ∀ H', Hs H0 M H' L' → R H') : ∃ a' H4, V.ref a = .ref a' ∧ DPut H a' (.str k) v H4 ∧ R H4 := by
  subst e
  exact ⟨a, _, rfl, DPut.k (k := Sum.inr k) (S.is _ c.mem) hl, h _ (S.put c hm)⟩
theorem gt_ref {K : PySem.W.Frag} {a : Addr} {xs : List V} {n : Nat} {ts : TGs} {N : L2.St → Hp → Prop} (S : Hs H0 M H L) (m : (a, HO.tup xs) ∈ L) (hn : xs.length = n) (h : ts xs σ H N) : gTup K n ts (.ref a) σ H N := ⟨a, xs, rfl, S.tup m, hn, h⟩
theorem gt_cons {ts : TGs} {w : V} {vs : List V} {N : L2.St → Hp → Prop} (h : g w σ H fun σ' H' => ts vs σ' H' N) : gCons g ts (w :: vs) σ H N := ⟨w, vs, rfl, h⟩
theorem gt_nil {N : L2.St → Hp → Prop} (h : N σ H) : gNil [] σ H N := ⟨rfl, h⟩
end
/-! ### a def as it is called by its name -/
structure Cal (K : PySem.W.Frag) (mg : Str → Option Value) (x : Str) (st : Stmt) (ps : List Str) (f : Addr) (fd : FuncData) : Prop where
  F : Fun K x x st f fd
  b : Binds K fd ps []
  m : mg x = some (.ref f)
end Rs

namespace Rs
open PySem PySem.Spec PyProof.Rows L2

/-! ### kinds of values -/
inductive Kn where
  | int | bool | str | none | list | tup | dict
  deriving DecidableEq
def Kn.nm : Kn → String
  | .int => "int" | .bool => "bool" | .str => "str" | .none => "NoneType" | .list => "list" | .tup => "tuple" | .dict => "dict"
inductive Kin (K : PySem.W.Frag) (H : Hp) : V → Kn → Prop where
  | int (i : Int) : Kin K H (.int i) .int
  | bl (b : Bool) : Kin K H (.bl b) .bool
  | str (x : Str) : Kin K H (.str x) .str
  | non : Kin K H .non .none
  | ref {a : Addr} {k : Kn} (h : TyX K H (.ref a) (.type k.nm)) (n : k = .list ∨ k = .tup ∨ k = .dict) : Kin K H (.ref a) k
section
variable {K : PySem.W.Frag} {H H0 : Hp} {M : List Addr} {L : Led} {x : V} {k : Kn} {Q : VK} {a : Addr}
theorem Kin.ty (h : Kin K H x k) : TyX K H x (.type k.nm) := by
  cases h with
  | int i => exact .base (.int i)
  | bl b => exact .base (.bl b)
  | str x => exact .base (.str x)
  | non => exact .base .non
  | ref h n => exact h
theorem Kin.lst {xs : List V} (h : H a = some (.lst xs)) : Kin K H (.ref a) .list := .ref (.base (.lst h)) (.inl rfl)
theorem Kin.tup {xs : List V} (h : H a = some (.tup xs)) : Kin K H (.ref a) .tup := .ref (.base (.tup h)) (.inr (.inl rfl))
theorem Kin.dK {kvs : List (Key × V)} (h : H a = some (.dK kvs)) : Kin K H (.ref a) .dict := .ref (.base (.dK h)) (.inr (.inr rfl))
theorem kit_int (k : Kn) : kitB k.nm "int" = some (k == .int || k == .bool) := by cases k <;> decide +kernel
theorem kit_bool (k : Kn) : kitB k.nm "bool" = some (k == .bool) := by cases k <;> decide +kernel
theorem kit_list (k : Kn) : kitB k.nm "list" = some (k == .list) := by cases k <;> decide +kernel
theorem kit_tuple (k : Kn) : kitB k.nm "tuple" = some (k == .tup) := by cases k <;> decide +kernel
theorem kit_str (k : Kn) : kitB k.nm "str" = some (k == .str) := by cases k <;> decide +kernel
theorem rd_isi {T : String} {b : Bool} (h : Kin K H x k) (e : kitB k.nm T = some b) (q : Q (.bl b) H) : rIsi K [x, .ty T] H Q := ⟨x, .ty T, .type k.nm, .type T, b, rfl, .ty T, h.ty, kit_ty e, q⟩
end
/-- a def with keyword-only defaults, as it is called by its name -/
structure CalK (K : PySem.W.Frag) (mg : Str → Option Value) (x : Str) (st : Stmt) (f : Addr) (fd : FuncData) : Prop where
  F : Fun K x x st f fd
  m : mg x = some (.ref f)
/-- whether a thing is a whole number from l to m -/
def isWh (x : V) (l m : Int) : Bool := match x with
  | .int t => decide (l ≤ t) && decide (t ≤ m)
  | _ => false
theorem isWh_int (t l m : Int) : isWh (.int t) l m = (decide (l ≤ t) && decide (t ≤ m)) := rfl

/-! ### more readings -/
section
variable {X : Cx}
/-- a module's constant -/
theorem pe_gl {x : Str} {v : V} {pos : Pos} (hg : Gl X x) (h : ∃ u, X.mg x = some u ∧ RelV v u) (hd : (x == ("__debug__" : Str)) = false := by decide) : PE X (.Name x pos) (tC v) := by
  obtain ⟨u, h1, h2⟩ := h
  exact pe_glob hg h1 h2 hd
end
/-- the keys of written pairs -/
def toK : List (V × V) → List (Key × V)
  | [] => []
  | (.int i, v) :: r => (.inl i, v) :: toK r
  | (.str x, v) :: r => (.inr x, v) :: toK r
  | _ :: r => toK r
def dspEnd (Q : VK) (p : Addr) (ps : List (V × V)) (H : Hp) : Prop := H p = some (.dK []) ∧ ∃ kvs : List (Key × V), ps = kvs.map (fun kv => (kV kv.1, kv.2)) ∧ kvs.length ≤ 15 ∧ Q (.ref p) (upd H p (.dK (mergeK [] kvs)))
def forW (J : It) (g : TG) (tb : TS) (D : Ends) (σ : L2.St) (H : Hp) : Prop := ∃ W : Nat → Nat → L2.St → Hp → Prop, (∃ m, W 0 m σ H) ∧ ∀ i m σ H, W i m σ H →
  (J.stop i H ∧ D.nx σ H) ∨ (J.go i H ∧ ∃ N : L2.St → Hp → Prop, (∀ σ' H', N σ' H' → ∃ m', m' < m ∧ W (i + 1) m' σ' H') ∧ ∀ x H', J.yld i H x H' → g x σ H' fun σ2 H2 => tb { D with nx := N, ct := N, bk := D.nx } σ2 H2)
def wl (W : Nat → L2.St → Hp → Prop) (m : Nat) (tw : TS) (nx : L2.St → Hp → Prop) (rt : VK) (σ : L2.St) (H : Hp) : Prop := ∃ N : L2.St → Hp → Prop, (∀ σ' H', N σ' H' → ∃ m', m' < m ∧ W m' σ' H') ∧ tw ⟨N, rt, nx, N⟩ σ H
def rng1 (R : It → Hp → Prop) (vs : List V) (H : Hp) : Prop := ∃ j : Int, vs = [.int j] ∧ -(2 ^ 62) ≤ j ∧ j < 2 ^ 62 ∧ R (Itr 0 j.toNat) H
def rng2 (R : It → Hp → Prop) (vs : List V) (H : Hp) : Prop := ∃ i j : Int, vs = [.int i, .int j] ∧ (-(2 ^ 62) ≤ i ∧ i < 2 ^ 62 ∧ -(2 ^ 62) ≤ j ∧ j < 2 ^ 62) ∧ R (Itr i (j - i).toNat) H
def lstI (K : PySem.W.Frag) (R : It → Hp → Prop) (x : V) (H : Hp) : Prop := ∃ a, x = .ref a ∧ (∃ xs, SqL K H a xs) ∧ R (Itl K a) H
def tupI (K : PySem.W.Frag) (R : It → Hp → Prop) (x : V) (H : Hp) : Prop := ∃ a, x = .ref a ∧ (∃ xs, SqT K H a xs) ∧ R (Itt K a) H
section
variable {σ : L2.St} {H H0 : Hp} {M : List Addr} {L L' : Led} {Q : VK} {v x y : V} {nx : L2.St → Hp → Prop} {rt : VK} {bk ct : L2.St → Hp → Prop} {t u : TS} {te ta tb tc : TE} {g : TG} {tt tu : TT} {tw : TS} {wi : TI}
theorem rd_disp {trs : List (TE × TE)} (S : Hs H0 M H L) (h : ∀ p H', H0 p = none → Hs H0 M H' ((p, .dK []) :: L) → tPairs trs σ H' fun ps H2 => dspEnd Q p ps H2) : tDisp trs σ H Q :=
  fun p hp => h p _ (S.new hp (.dK [])).1 (S.new hp (.dK [])).2
theorem rd_dspEnd {p : Addr} {ps : List (V × V)} {kvs : List (Key × V)} (S : Hs H0 M H L) (c : Chg p (.dK []) (.dK kvs) L L') (hm : H0 p = none ∨ p ∈ M) (e : ps = (toK ps).map fun kv => (kV kv.1, kv.2)) (hl : (toK ps).length ≤ 15)
    (ek : mergeK [] (toK ps) = kvs) (h : ∀ H', Hs H0 M H' L' → Q (.ref p) H') : dspEnd Q p ps H := by
  subst ek
  exact ⟨S.is _ c.mem, toK ps, e, hl, h _ (S.put c hm)⟩
theorem rd_prs {r : List (TE × TE)} {R : List (V × V) → Hp → Prop} (h : ta σ H fun k H1 => tb σ H1 fun v H2 => tPairs r σ H2 fun ps H3 => R ((k, v) :: ps) H3) : tPairs ((ta, tb) :: r) σ H R := h
theorem rd_prs0 {R : List (V × V) → Hp → Prop} (h : R [] H) : tPairs [] σ H R := h
theorem rd_for (h : wi σ H fun J H1 => forW J g tw ⟨nx, rt, bk, ct⟩ σ H1) : tFor wi g tw ⟨nx, rt, bk, ct⟩ σ H := h
theorem rd_rng1 {ta : TA} {R : It → Hp → Prop} (h : ta σ H fun vs H1 => rng1 R vs H1) : iRng1 ta σ H R := h
theorem rd_rng2 {ta : TA} {R : It → Hp → Prop} (h : ta σ H fun vs H1 => rng2 R vs H1) : iRng2 ta σ H R := h
theorem rd_rng1v {R : It → Hp → Prop} {j : Int} (h1 : -(2 ^ 62) ≤ j) (h2 : j < 2 ^ 62) (h : R (Itr 0 j.toNat) H) : rng1 R [.int j] H := ⟨j, rfl, h1, h2, h⟩
theorem rd_rng2v {R : It → Hp → Prop} {i j : Int} (h1 : -(2 ^ 62) ≤ i) (h2 : i < 2 ^ 62) (h3 : -(2 ^ 62) ≤ j) (h4 : j < 2 ^ 62) (h : R (Itr i (j - i).toNat) H) : rng2 R [.int i, .int j] H := ⟨i, j, rfl, ⟨h1, h2, h3, h4⟩, h⟩
theorem rd_iList {K : PySem.W.Frag} {R : It → Hp → Prop} (h : te σ H fun x H1 => lstI K R x H1) : iList K te σ H R := h
theorem rd_iTup {K : PySem.W.Frag} {R : It → Hp → Prop} (h : te σ H fun x H1 => tupI K R x H1) : iTup K te σ H R := h
theorem rd_lstI {K : PySem.W.Frag} {R : It → Hp → Prop} {a : Addr} {xs : List V} (S : Hs H0 M H L) (m : (a, HO.lst xs) ∈ L) (h : R (Itl K a) H) : lstI K R (.ref a) H := ⟨a, rfl, ⟨xs, S.lst m⟩, h⟩
theorem rd_tupI {K : PySem.W.Frag} {R : It → Hp → Prop} {a : Addr} {xs : List V} (S : Hs H0 M H L) (m : (a, HO.tup xs) ∈ L) (h : R (Itt K a) H) : tupI K R (.ref a) H := ⟨a, rfl, ⟨xs, S.tup m⟩, h⟩
/-- over lo, lo + 1, .. -/
theorem fw_range {lo : Int} {n : Nat} (Pv : Nat → L2.St → Hp → Prop) (h0 : Pv 0 σ H) (hs : ∀ i σ H, i < n → Pv i σ H → g (.int (lo + i)) σ H fun σ2 H2 => tw ⟨Pv (i + 1), rt, nx, Pv (i + 1)⟩ σ2 H2) (hd : ∀ σ H, Pv n σ H → nx σ H) :
    forW (Itr lo n) g tw ⟨nx, rt, bk, ct⟩ σ H := for_range Pv h0 hs hd
/-- over a list that stays as it is -/
theorem fw_list {K : PySem.W.Frag} {a : Addr} {xs : List V} (Pv : Nat → L2.St → Hp → Prop) (h0 : Pv 0 σ H) (hl : ∀ i σ H, i ≤ xs.length → Pv i σ H → SqL K H a xs)
    (hs : ∀ i x σ H, xs[i]? = some x → Pv i σ H → g x σ H fun σ2 H2 => tw ⟨Pv (i + 1), rt, nx, Pv (i + 1)⟩ σ2 H2) (hd : ∀ σ H, Pv xs.length σ H → nx σ H) : forW (Itl K a) g tw ⟨nx, rt, bk, ct⟩ σ H := for_list Pv h0 hl hs hd
theorem fw_tup {K : PySem.W.Frag} {a : Addr} {xs : List V} (Pv : Nat → L2.St → Hp → Prop) (h0 : Pv 0 σ H) (hl : ∀ i σ H, i ≤ xs.length → Pv i σ H → SqT K H a xs)
    (hs : ∀ i x σ H, xs[i]? = some x → Pv i σ H → g x σ H fun σ2 H2 => tw ⟨Pv (i + 1), rt, nx, Pv (i + 1)⟩ σ2 H2) (hd : ∀ σ H, Pv xs.length σ H → nx σ H) : forW (Itt K a) g tw ⟨nx, rt, bk, ct⟩ σ H := for_tup Pv h0 hl hs hd
/-- while: W a word with a number that falls -/
theorem rd_while (W : Nat → L2.St → Hp → Prop) (m0 : Nat) (h0 : W m0 σ H) (hs : ∀ m σ H, W m σ H → tt σ H fun b H1 => if b = true then wl W m tw nx rt σ H1 else nx σ H1) : tWhile tt tw ⟨nx, rt, bk, ct⟩ σ H := ⟨W, ⟨m0, h0⟩, hs⟩
theorem rd_wl {W : Nat → L2.St → Hp → Prop} {m : Nat} (h : tw ⟨fun σ' H' => ∃ m', m' < m ∧ W m' σ' H', rt, nx, fun σ' H' => ∃ m', m' < m ∧ W m' σ' H'⟩ σ H) : wl W m tw nx rt σ H := ⟨_, fun _ _ h => h, h⟩
end
end Rs

namespace Rs
open PySem PySem.Spec PyProof.Rows L2

/-! ### plain data: how far it reaches -/
mutual
/-- whole numbers below 10 ^ 12, short texts of small signs, no dicts -/
def tame : PyData → Bool
  | .none | .bool _ => true
  | .int i => decide (i.natAbs < 10 ^ 12)
  | .str x => PyData.strOk x && decide (x.cps.size ≤ 40) && x.cps.toList.all fun c => decide (c < 16 ^ 8)
  | .list xs | .tuple xs => tames xs
  | .dict _ => false
def tames : List PyData → Bool
  | [] => true
  | x :: xs => tame x && tames xs
end
mutual
/-- how many there are in all -/
def cnt : PyData → Nat
  | .list xs | .tuple xs => 1 + cnts xs
  | _ => 1
def cnts : List PyData → Nat
  | [] => 0
  | x :: xs => cnt x + cnts xs
end
mutual
theorem tame_show : ∀ d : PyData, tame d = true → d.showable = true ∧ d.canLay0 = true ∧ d.intsShort 13 = true ∧ d.weight + 1 ≤ 46 * cnt d
  | .none, _ => by simp [PyData.showable, PyData.canLay0, PyData.intsShort, PyData.weight, cnt]
  | .bool _, _ => by simp [PyData.showable, PyData.canLay0, PyData.intsShort, PyData.weight, cnt]
  | .int i, h => by
    have h1 : i.natAbs < 10 ^ 12 := by simpa [tame] using h
    have h2 : i.natAbs.log2 < 40 := by
      by_cases z : i.natAbs = 0
      · rw [z]; decide
      · exact (Nat.log2_lt z).mpr (by omega)
    have h3 := PyData.shown_int_le h1
    refine ⟨by simp [PyData.showable]; omega, by simp [PyData.canLay0], by simp [PyData.intsShort]; omega, ?_⟩
    simp only [PyData.weight, cnt]
    split <;> omega
  | .str x, h => by
    simp only [tame, Bool.and_eq_true, decide_eq_true_eq] at h
    refine ⟨by simp [PyData.showable], by simpa [PyData.canLay0] using h.1.1, by simp [PyData.intsShort], ?_⟩
    simp only [PyData.weight, cnt]
    omega
  | .list xs, h => by
    obtain ⟨h1, h2, h3, h4⟩ := tames_show xs (by simpa [tame] using h)
    refine ⟨by simpa [PyData.showable] using h1, by simpa [PyData.canLay0] using h2, by simpa [PyData.intsShort] using h3, ?_⟩
    simp only [PyData.weight, cnt]
    omega
  | .tuple xs, h => by
    obtain ⟨h1, h2, h3, h4⟩ := tames_show xs (by simpa [tame] using h)
    refine ⟨by simpa [PyData.showable] using h1, by simpa [PyData.canLay0] using h2, by simpa [PyData.intsShort] using h3, ?_⟩
    simp only [PyData.weight, cnt]
    omega
  | .dict _, h => by simp [tame] at h
theorem tames_show : ∀ xs : List PyData, tames xs = true → PyData.showableAll xs = true ∧ PyData.canLayAll0 xs = true ∧ PyData.intsShortAll 13 xs = true ∧ PyData.weightAll xs ≤ 46 * cnts xs
  | [], _ => by simp [PyData.showableAll, PyData.canLayAll0, PyData.intsShortAll, PyData.weightAll, cnts]
  | x :: xs, h => by
    have h' : tame x = true ∧ tames xs = true := by simpa [tames] using h
    obtain ⟨a1, a2, a3, a4⟩ := tame_show x h'.1
    obtain ⟨b1, b2, b3, b4⟩ := tames_show xs h'.2
    simp only [PyData.showableAll, PyData.canLayAll0, PyData.intsShortAll, PyData.weightAll, cnts, a1, a2, a3, b1, b2, b3, Bool.and_self, true_and]
    omega
end
theorem shw_of {d : PyData} (h : tame d = true) (hc : cnt d ≤ 20000) : Shw d := by
  obtain ⟨h1, h2, h3, h4⟩ := tame_show d h
  exact ⟨h1, PyData.shown_fits (B := 13) (by decide) (by decide) (PyData.leavesShort_of_canLay0 13 d h2 h3) (by omega)⟩
theorem shaped_of {d : PyData} (h : tame d = true) (hd : d.depth ≤ 64) : SeqAt.shaped d = true := by
  obtain ⟨_, h2, _, _⟩ := tame_show d h
  unfold SeqAt.shaped
  rw [h2, Bool.true_and]
  exact decide_eq_true hd
/-! ### lists of whole numbers -/
def dI (ns : List Int) : PyData := .list (ns.map .int)
section
variable {K : PySem.W.Frag} {H H0 : Hp} {M : List Addr} {L L' : Led} {Q : VK} {a b : Addr}
theorem dps_ints : ∀ ns : List Int, DpAll K H (ns.map V.int) (ns.map .int)
  | [] => .nil
  | n :: ns => .cons (.int n) (dps_ints ns)
theorem dp_ints {ns : List Int} (h : SqL K H a (ns.map V.int)) : Dp K H (.ref a) (dI ns) := .lst h (dps_ints ns)
theorem depth_ints : ∀ ns : List Int, PyData.depthAll (ns.map .int) = 0
  | [] => by simp [PyData.depthAll]
  | n :: ns => by simp [PyData.depthAll, PyData.depth, depth_ints ns]
theorem depth_dI (ns : List Int) : (dI ns).depth = 1 := by simp [dI, PyData.depth, depth_ints]
theorem canLay_ints : ∀ ns : List Int, PyData.canLayAll0 (ns.map .int) = true
  | [] => by simp [PyData.canLayAll0]
  | n :: ns => by simp [PyData.canLayAll0, PyData.canLay0, canLay_ints ns]
theorem shaped_dI (ns : List Int) : SeqAt.shaped (dI ns) = true := by
  unfold SeqAt.shaped
  rw [depth_dI]
  simp [dI, PyData.canLay0, canLay_ints]
theorem eqv_ints : ∀ ns ms : List Int, PyData.eqvAll (ns.map .int) (ms.map .int) = decide (ns = ms)
  | [], [] => by simp [PyData.eqvAll]
  | [], m :: ms => by simp [PyData.eqvAll]
  | n :: ns, [] => by simp [PyData.eqvAll]
  | n :: ns, m :: ms => by
    simp only [List.map_cons, PyData.eqvAll, PyData.eqv, eqv_ints ns ms, List.cons.injEq, Bool.decide_and]
    rfl
theorem eqv_dI (ns ms : List Int) : PyData.eqv (dI ns) (dI ms) = decide (ns = ms) := by
  simp only [dI, PyData.eqv, eqv_ints]
theorem tames_ints : ∀ ns : List Int, (∀ n ∈ ns, n.natAbs < 10 ^ 12) → tames (ns.map .int) = true
  | [], _ => by simp [tames]
  | n :: ns, h => by
    simp only [List.map_cons, tames, tame, Bool.and_eq_true, decide_eq_true_eq]
    exact ⟨h n List.mem_cons_self, tames_ints ns fun m hm => h m (List.mem_cons_of_mem _ hm)⟩
theorem cnts_ints : ∀ ns : List Int, cnts (ns.map .int) = ns.length
  | [] => by simp [cnts]
  | n :: ns => by simp only [List.map_cons, cnts, cnt, cnts_ints ns, List.length_cons]; omega
theorem shw_dI {ns : List Int} (h : ∀ n ∈ ns, n.natAbs < 10 ^ 12) (hl : ns.length ≤ 10000) : Shw (dI ns) :=
  shw_of (by simp [dI, tame, tames_ints ns h]) (by simp only [dI, cnt, cnts_ints]; omega)
/-- == and != of two lists of whole numbers -/
theorem rd_eqIs {xs ys : List V} {ns ms : List Int} (S : Hs H0 M H L) (m1 : (a, HO.lst xs) ∈ L) (m2 : (b, HO.lst ys) ∈ L) (e1 : xs = ns.map V.int) (e2 : ys = ms.map V.int) (h : Q (.bl (decide (ns = ms))) H) : rEqD K (.ref a) (.ref b) H Q := by
  subst e1 e2
  exact ⟨_, _, dp_ints (S.lst m1), dp_ints (S.lst m2), shaped_dI ns, shaped_dI ms, by rw [eqv_dI]; exact h⟩
theorem rd_neIs {xs ys : List V} {ns ms : List Int} (S : Hs H0 M H L) (m1 : (a, HO.lst xs) ∈ L) (m2 : (b, HO.lst ys) ∈ L) (e1 : xs = ns.map V.int) (e2 : ys = ms.map V.int) (h : Q (.bl (decide (¬ ns = ms))) H) : rNeD K (.ref a) (.ref b) H Q := by
  subst e1 e2
  refine ⟨_, _, dp_ints (S.lst m1), dp_ints (S.lst m2), shaped_dI ns, shaped_dI ms, ?_⟩
  rw [eqv_dI]
  have e : (!decide (ns = ms)) = decide (¬ ns = ms) := by simp
  rw [e]; exact h
theorem rd_reprI {xs : List V} {ns : List Int} (S : Hs H0 M H L) (m : (a, HO.lst xs) ∈ L) (e : xs = ns.map V.int) (hb : ∀ n ∈ ns, n.natAbs < 10 ^ 12) (hl : ns.length ≤ 10000) (h : Q (.str (dI ns).shown) H) : rRepr K [.ref a] H Q := by
  subst e
  exact ⟨.ref a, dI ns, rfl, dp_ints (S.lst m), shw_dI hb hl, by rw [depth_dI]; decide, h⟩
theorem pick_ints (ns : List Int) (lo hi st : Option Int) : ∃ ks : List Int, pickV (ns.map V.int) lo hi st = ks.map V.int ∧ (∀ k ∈ ks, k ∈ ns) := by
  have e : ∀ ix : List Nat, ix.filterMap ((ns.map V.int)[·]?) = (ix.filterMap (ns[·]?)).map V.int := fun ix => by
    induction ix with
    | nil => rfl
    | cons i ix ih =>
      cases h : ns[i]? with
      | none => rw [List.filterMap_cons_none (by rw [List.getElem?_map, h]; rfl), List.filterMap_cons_none h, ih]
      | some z => rw [List.filterMap_cons_some (by rw [List.getElem?_map, h]; rfl), List.filterMap_cons_some h, ih]; rfl
  refine ⟨(slIx (ns.map V.int).length lo hi st).filterMap (ns[·]?), e _, fun k hk => ?_⟩
  obtain ⟨i, _, hi⟩ := List.mem_filterMap.mp hk
  exact List.mem_of_getElem? hi
end
/-- how keywords are put in the parameters' order -/
theorem kb_of {K : PySem.W.Frag} {x qual : Str} {st : Stmt} {f : Addr} {fd : FuncData} {ps ks : List Str} {n : Nat} (F : Fun K x qual st f fd) (ix : List Nat)
    (h : ∀ (kV doc pm : Value) (an : Option Addr) (cdv ct : Value) (us ws : List Value), us.length = n → ws.length = ks.length →
      bindArgs (PySem.W.fnOf x qual (defArgs st) (defBody st) (defScope st) .none kV doc pm an cdv ct) ⟨us, ks.zip ws⟩ = pure (ps.zip (us ++ ix.filterMap (ws[·]?)))) :
    KBn K fd ps n ks (fun us ws => us ++ ix.filterMap (ws[·]?)) (fun us ws => us ++ ix.filterMap (ws[·]?)) := by
  obtain ⟨oc, od, kV, doc, pm, an, cdv, ct, osl, rfl, lk, hcd⟩ := F.ex
  exact ⟨fun s us ws _ h1 h2 => .of_eq (h kV doc pm an cdv ct us ws h1 h2), fun r1 r2 => r1.append (vals_pick r2 ix)⟩
end Rs

namespace Rs
open PySem PySem.Spec PyProof.Rows L2
section
variable {K : PySem.W.Frag} {mg : Str → Option Value} {h : Heap}
theorem ex_calK {x : Str} {st : Stmt} {f : Addr} {oc : Value} {od an : Option Addr} {osl : Array (Option Value)} {kV doc pm cdv ct : Value} (X : K.In h) (G : h.Ns mainGlobals mg) (a : PySem.W.nsIn K mainGlobals x = some (some (.ref f)))
    (l : K.lookup f = some ⟨oc, od, .func (PySem.W.fnOf x x (defArgs st) (defBody st) (defScope st) .none kV doc pm an cdv ct), osl⟩) (c : PySem.W.codeIn K cdv x = true) (k : PySem.W.keepIn K (.ref f) = true) : ∃ f fd, CalK K mg x st f fd :=
  ⟨_, _, fun_mk l c k, PySem.W.mg_of X G a⟩
theorem ex_cal {x : Str} {st : Stmt} {ps : List Str} {f : Addr} {oc : Value} {od an : Option Addr} {osl : Array (Option Value)} {kV doc pm cdv ct : Value} (X : K.In h) (G : h.Ns mainGlobals mg) (a : PySem.W.nsIn K mainGlobals x = some (some (.ref f)))
    (l : K.lookup f = some ⟨oc, od, .func (PySem.W.fnOf x x (defArgs st) (defBody st) (defScope st) .none kV doc pm an cdv ct), osl⟩) (c : PySem.W.codeIn K cdv x = true) (k : PySem.W.keepIn K (.ref f) = true)
    (b : ∀ (kV doc pm : Value) (an : Option Addr) (cdv ct : Value) (us : List Value), us.length = ps.length → bindArgs (PySem.W.fnOf x x (defArgs st) (defBody st) (defScope st) .none kV doc pm an cdv ct) ⟨us, []⟩ = pure (ps.zip us)) : ∃ f fd, Cal K mg x st ps f fd :=
  ⟨_, _, fun_mk l c k, (fun_mk l c k).binds b, PySem.W.mg_of X G a⟩
theorem ex_gl {x : Str} {v : V} {u : Value} (X : K.In h) (G : h.Ns mainGlobals mg) (a : PySem.W.nsIn K mainGlobals x = some (some u)) (r : RelV v u) : ∃ u, mg x = some u ∧ RelV v u := ⟨u, PySem.W.mg_of X G a, r⟩
end
/-- the end, the law's def by its facts -/
theorem walkE {l : PySem.W.OpenLaw} {n k : Nat} {q : Program} {loose : List Str} {XP : (Str → Option Value) → Heap → Prop} {YP : World → Heap → Prop} {d : DefRec} {K : Params → PySem.W.Frag} {sp : PySem.W.Frag → Sp} {st : Stmt} {x : Str}
    (hn : l.most = some n) (hn2 : n ≤ sizeLine) (hdf : d.params.defaults = []) (hr : Room k callerA) (hY : ∀ (w : World) (h : Heap), YP w h → (K w.params).In h) (hx : d.name = "law")
    (hb : ∀ (kV doc pm : Value) (an : Option Addr) (cdv ct u : Value), bindArgs (PySem.W.fnOf "law" "law" (defArgs st) (defBody st) (defScope st) .none kV doc pm an cdv ct) ⟨[u], []⟩ = pure [(x, u)])
    (F : ∀ (w : World) (mg : Str → Option Value) (h : Heap), (K w.params).In h → h.Ns mainGlobals mg →
      ∃ (fa : Addr) (fd : FuncData), Cal (K w.params) mg "law" st [x] fa fd ∧ ∀ base : Heap, FnG l.prog w (K w.params) mg base k fa fd [x] (sp (K w.params)))
    (hsp : ∀ (K : PySem.W.Frag) (H : Hp) (a : Addr) (ns : List Int), ns.length ≤ n → (∀ z ∈ ns, Builtin.Int.intBits z ≤ 1048576) → SqL K H a (ns.map V.int) → sp K [.ref a] H (fun v _ => v = .bl true) E0) :
    PySem.W.WalkO q loose XP YP l.row.toRowW d [] (fun f vs => PySem.call f vs) := by
  refine walkG (x := x) hn hn2 hdf hr hY (fun w mg fa h KX G hmg => ?_) hsp
  obtain ⟨f, fd, C, ok⟩ := F w mg h KX G
  rw [hx] at hmg
  have e := C.m.symm.trans hmg
  cases e
  obtain ⟨oc, od, kV, doc, pm, an, cdv, ct, osl, rfl, lk, hcd⟩ := C.F.ex
  exact ⟨_, fun s u => .of_eq (hb kV doc pm an cdv ct u), fun base _ _ => ok base⟩
end Rs

namespace Rs
open PySem PySem.Spec PyProof.Rows L2

/-- xs[i:j] = another list -/
def gSlc (to : TE) (tl th : L2.St → Hp → (Option Int → Hp → Prop) → Prop) : TG := fun v σ H Q => to σ H fun o H1 => tl σ H1 fun l H2 => th σ H2 fun u H3 => ∃ (a b : Addr) (xs ys : List V) (i j : Int), o = .ref a ∧ v = .ref b ∧ l = some i ∧ u = some j ∧
  H3 a = some (.lst xs) ∧ H3 b = some (.lst ys) ∧ a ≠ b ∧ 0 ≤ i ∧ i ≤ j ∧ j ≤ xs.length ∧ xs.length + ys.length ≤ sizeLine ∧ Q σ (upd H3 a (.lst (xs.take i.toNat ++ ys ++ xs.drop j.toNat)))
theorem pg_slc {X : Cx} {o : Expr} {lo hi : Option Expr} {p2 pos : Pos} {to : TE} {tl th : L2.St → Hp → (Option Int → Hp → Prop) → Prop} (ho : PE X o to) (hl : PO X lo tl) (hh : PO X hi th)
    (ha : ∀ v, assign (.Subscript o (.Slice lo hi none p2) pos) X.env v = (do
      let ov ← holding [v] (eval o X.env)
      let iv ← holding [v, ov] (eval (.Slice lo hi none p2) X.env)
      standAt pos
      holding [v, ov, iv] (setItem ov iv v)
      release [iv, v, ov] []) := by intro _; rfl) : PG X (.Subscript o (.Slice lo hi none p2) pos) (gSlc to tl th) := by
  refine ⟨fun pins s σ H v u Q I r h => ?_⟩
  rw [ha]
  refine wpAny_bind (wpAny_holding (thn (ho.run pins s σ H _ I h) fun ov s1 ⟨x, H1, I1, r1, q1⟩ => ?_))
  refine wpAny_bind (wpAny_holding ?_)
  refine wpAny_Slice (thn (hl.run pins s1 σ H1 _ I1 q1) fun vl s2 ⟨l, H2, I2, pl, q2⟩ => thn (hh.run pins s2 σ H2 _ I2 q2) fun vu s3 ⟨w, H3, I3, pu, q3⟩ => ?_)
  rw [evalPart_none]
  refine wpAny_pure ?_
  have I4 : Inv X pins σ H3 { s3 with heap := s3.heap.push { cls := .type "slice", data := .fields #[vl, vu, .none] } } := I3.kept (t' := s3.toks) fun b ob q => Heap.get?_push_of_some _ q
  obtain ⟨a, b, xs, ys, i, j, rfl, rfl, rfl, rfl, hA, hB, hne, h0, h1, h2, h3, q⟩ := q3
  cases r1
  cases r
  cases pl
  cases pu
  refine wpAny_bind (wpAny_standAt (wpAny_bind (wpAny_holding ?_)))
  refine set_slice I4 hA hB hne (Heap.IsSliceOf.new ..) ⟨_, rfl⟩ ⟨_, rfl⟩ h0 h1 h2 h3 fun s5 I5 => ?_
  exact wpAny_release ⟨σ, _, I5, q⟩

/-! ### classes -/
/-- a method as it stands behind the top -/
structure CalM (K : PySem.W.Frag) (x qual : Str) (st : Stmt) (ps : List Str) (f : Addr) (fd : FuncData) : Prop where
  F : Fun K x qual st f fd
  b : Binds K fd ps []
section
variable {K : PySem.W.Frag} {mg : Str → Option Value} {h : Heap}
theorem ex_calM {C : Addr} {x qual : Str} {st : Stmt} {ps : List Str} {f : Addr} {oc : Value} {od an : Option Addr} {osl : Array (Option Value)} {kV doc pm cdv ct : Value} (a : PySem.W.findIn K (.ref C) x = some (some (.ref f))) (i : PySem.W.isFn K (.ref f) = true)
    (l : K.lookup f = some ⟨oc, od, .func (PySem.W.fnOf x qual (defArgs st) (defBody st) (defScope st) .none kV doc pm an cdv ct), osl⟩) (c : PySem.W.codeIn K cdv qual = true) (k : PySem.W.keepIn K (.ref f) = true)
    (b : ∀ (kV doc pm : Value) (an : Option Addr) (cdv ct : Value) (us : List Value), us.length = ps.length → bindArgs (PySem.W.fnOf x qual (defArgs st) (defBody st) (defScope st) .none kV doc pm an cdv ct) ⟨us, []⟩ = pure (ps.zip us)) :
    ∃ f fd, Meth K C x f ∧ CalM K x qual st ps f fd := ⟨_, _, ⟨a, i, k⟩, fun_mk l c k, (fun_mk l c k).binds b⟩
/-- an __init__ with keyword-only defaults -/
structure CalI (K : PySem.W.Frag) (C : Addr) (qual : Str) (st : Stmt) (kws : List (Str × V)) (f : Addr) (fd : FuncData) : Prop where
  M : Mk K C f
  F : FunD K "__init__" qual (defArgs st) (defBody st) (defScope st) [] kws f fd
theorem ex_calI {C D : Addr} {qual : Str} {st : Stmt} {kws : List (Str × V)} {f : Addr} {oc : Value} {od an : Option Addr} {osl : Array (Option Value)} {doc pm cdv ct : Value} (m : PySem.W.makesIn K C = true) (kc : PySem.W.keepIn K (.ref C) = true)
    (a : PySem.W.findIn K (.ref C) "__init__" = some (some (.ref f))) (i : PySem.W.isFn K (.ref f) = true)
    (l : K.lookup f = some ⟨oc, od, .func (PySem.W.fnOf "__init__" qual (defArgs st) (defBody st) (defScope st) .none (.ref D) doc pm an cdv ct), osl⟩) (c : PySem.W.codeIn K cdv qual = true) (k : PySem.W.keepIn K (.ref f) = true)
    (d : ∀ q ∈ kws, ∃ u, PySem.W.nsIn K D q.1 = some (some u) ∧ RelV q.2 u) : ∃ f fd, CalI K C qual st kws f fd :=
  ⟨_, _, ⟨m, a, i, kc⟩, ⟨⟨oc, od, .none, .ref D, doc, pm, an, cdv, ct, osl, rfl, l, c, Or.inl ⟨rfl, rfl⟩, Or.inr ⟨D, rfl, d⟩⟩, k⟩⟩
end
end Rs

namespace Rs
open PySem PySem.Spec PyProof.Rows L2

/-- the part of a list of whole numbers -/
def cutI (ns : List Int) (lo hi : Option Int) : List Int := (ns.drop (HT.sIx ns.length 0 lo)).take (HT.sIx ns.length ns.length hi - HT.sIx ns.length 0 lo)
theorem cutV_map (ns : List Int) (lo hi : Option Int) : cutV (ns.map V.int) lo hi = (cutI ns lo hi).map V.int := by
  unfold cutV cutI
  rw [List.map_take, List.map_drop, List.length_map]
theorem cutI_le (ns : List Int) (lo hi : Option Int) : (cutI ns lo hi).length ≤ ns.length := by
  unfold cutI
  rw [List.length_take, List.length_drop]
  omega
section
variable {σ : L2.St} {H H0 : Hp} {M : List Addr} {L L' : Led} {Q : VK} {v x y : V} {nx : L2.St → Hp → Prop} {rt : VK} {bk ct : L2.St → Hp → Prop} {t u : TS} {te ta tb tc : TE} {g : TG} {tt tu : TT} {tw : TS} {wi : TI} {K : PySem.W.Frag} {a p : Addr}
/-! attributes -/
theorem rd_fld {f : Str} (h : ta σ H fun x H1 => ∃ a C dx fs v, x = .ref a ∧ H1 a = some (.ins C dx fs) ∧ Cls K C ∧ NoAttr K C f ∧ fs.lookup f = some v ∧ Q v H1) : tFld K ta f σ H Q := h
theorem rd_fldV {f : Str} {C dx : Addr} {fs : List (Str × V)} {R : V → Prop} (S : Hs H0 M H L) (m : (a, HO.ins C dx fs) ∈ L) (c : Cls K C) (n : NoAttr K C f) (e : fs.lookup f = some v) (h : R v) :
    ∃ a' C dx fs v', V.ref a = .ref a' ∧ H a' = some (.ins C dx fs) ∧ Cls K C ∧ NoAttr K C f ∧ fs.lookup f = some v' ∧ R v' := ⟨a, C, dx, fs, v, rfl, S.is _ m, c, n, e, h⟩
theorem rd_sfld {f : Str} {tv : TE} (h : tv σ H fun y H1 => ta σ H1 fun x H2 => ∃ a C dx fs, x = .ref a ∧ H2 a = some (.ins C dx fs) ∧ Cls K C ∧ NoAttr K C f ∧ fs.length < 1000 ∧ nx σ (upd H2 a (.ins C dx (putF f y fs)))) : sFld K ta tv f ⟨nx, rt, bk, ct⟩ σ H := h
theorem rd_sfldV {f : Str} {C dx : Addr} {fs fs' : List (Str × V)} {R : Hp → Prop} (S : Hs H0 M H L) (ch : Chg a (.ins C dx fs) (.ins C dx fs') L L') (hm : H0 a = none ∨ a ∈ M) (c : Cls K C) (n : NoAttr K C f) (hl : fs.length < 1000) (e : putF f y fs = fs') (h : ∀ H', Hs H0 M H' L' → R H') :
    ∃ a' C dx fs, V.ref a = .ref a' ∧ H a' = some (.ins C dx fs) ∧ Cls K C ∧ NoAttr K C f ∧ fs.length < 1000 ∧ R (upd H a' (.ins C dx (putF f y fs))) := by
  subst e
  exact ⟨a, C, dx, fs, rfl, S.is _ ch.mem, c, n, hl, h _ (S.put ch hm)⟩
theorem rd_meth {C : Addr} {m : Str} {sp : Sp} {E : XK} {t : TA} (h : ta σ H fun x H1 => ∃ a dx fs, x = .ref a ∧ H1 a = some (.ins C dx fs) ∧ fs.lookup m = none ∧ t σ H1 fun vs H2 => sp (x :: vs) H2 Q E) : tMeth C m sp [] E ta t σ H Q := by
  have e : ∀ x, (fun (vs : List V) H2 => sp (x :: (vs ++ [])) H2 Q E) = fun vs H2 => sp (x :: vs) H2 Q E := fun x => by funext vs H2; rw [List.append_nil]
  show ta σ H fun x H1 => ∃ a dx fs, x = .ref a ∧ H1 a = some (.ins C dx fs) ∧ fs.lookup m = none ∧ t σ H1 fun vs H2 => sp (x :: (vs ++ [])) H2 Q E
  simp only [List.append_nil]
  exact h
theorem rd_methV {C dx : Addr} {m : Str} {fs : List (Str × V)} {R : Prop} (S : Hs H0 M H L) (hm : (a, HO.ins C dx fs) ∈ L) (e : fs.lookup m = none) (h : R) : ∃ a' dx fs, V.ref a = .ref a' ∧ H a' = some (.ins C dx fs) ∧ fs.lookup m = none ∧ R :=
  ⟨a, dx, fs, rfl, S.is _ hm, e, h⟩
theorem rd_mkK {C : Addr} {n m : Nat} {sp : Sp} {gV : List V → List V → List V} {E : XK} {t tk : TA} (h : t σ H fun vs H1 => tk σ H1 fun zs H2 => vs.length = n ∧ zs.length = m ∧ ∀ x dx, H2 x = none → H2 dx = none → dx ≠ x →
    sp (gV (.ref x :: vs) zs) (upd (upd H2 dx (.own x)) x (.ins C dx [])) (fun v H3 => v = .non ∧ Q (.ref x) H3) E) : tMakeK C n m sp gV E t tk σ H Q := h
theorem rd_mkV {C : Addr} {R : Addr → Hp → Prop} (S : Hs H0 M H L) (h : ∀ x dx H', H0 x = none → Hs H0 M H' ((x, .ins C dx []) :: L) → R x H') : ∀ x dx, H x = none → H dx = none → dx ≠ x → R x (upd (upd H dx (.own x)) x (.ins C dx [])) := by
  intro x dx hx hd ne
  obtain ⟨_, S1⟩ := S.new hd (.own x)
  have hx' : upd H dx (HO.own x) x = none := by rw [upd_ne (Ne.symm ne)]; exact hx
  obtain ⟨n0, S2⟩ := S1.new hx' (.ins C dx [])
  exact h x dx _ n0 (S2.sub (List.Sublist.cons_cons _ (List.Sublist.cons _ (List.Sublist.refl _))))
theorem rd_callL {i : Nat} {f : Addr} {sp : Sp} {E : XK} {t : TA} (e : σ[i]? = some (some (.ref f))) (h : t σ H fun vs H1 => sp vs H1 Q E) : tCallL i f sp [] E t σ H Q := by
  refine ⟨e, ?_⟩
  simp only [List.append_nil]
  exact h
/-! methods of lists -/
theorem rd_bm {T : String} {r : V → List V → Hp → VK → Prop} {t : TA} (h : ta σ H fun x H1 => tyV K T x H1 ∧ t σ H1 fun xs H2 => r x xs H2 Q) : tBM K T r ta t σ H Q := h
theorem rd_bm0 {T : String} {r : V → List V → Hp → VK → Prop} (h : ta σ H fun x H1 => tyV K T x H1 ∧ r x [] H1 Q) : tBM0 K T r ta σ H Q := h
theorem rd_tyL {xs : List V} {R : Prop} (S : Hs H0 M H L) (m : (a, HO.lst xs) ∈ L) (h : R) : tyV K "list" (.ref a) H ∧ R := ⟨Or.inl ⟨rfl, xs, S.lst m⟩, h⟩
theorem rd_app {xs : List V} (S : Hs H0 M H L) (c : Chg a (.lst xs) (.lst (xs ++ [y])) L L') (hm : H0 a = none ∨ a ∈ M) (hl : xs.length < sizeLine) (h : ∀ H', Hs H0 M H' L' → Q .non H') : rAppend (.ref a) [y] H Q :=
  ⟨a, xs, y, rfl, rfl, S.is _ c.mem, hl, h _ (S.put c hm)⟩
/-! calls over lists -/
theorem rd_sumI {xs : List V} {ns : List Int} (S : Hs H0 M H L) (m : (a, HO.lst xs) ∈ L) (e : xs = ns.map V.int) (h : Q (.int ns.sum) H) : rSum K [.ref a] H Q := ⟨a, ns, rfl, by subst e; exact S.lst m, h⟩
theorem rd_slL {xs : List V} {ns : List Int} {lo hi : Option Int} (S : Hs H0 M H L) (m : (a, HO.lst xs) ∈ L) (e : xs = ns.map V.int) (h : ∀ p H', H0 p = none → Hs H0 M H' ((p, .lst ((cutI ns lo hi).map V.int)) :: L) → Q (.ref p) H') : rSlL K (.ref a) lo hi H Q := by
  subst e
  refine ⟨a, _, rfl, S.lst m, ?_⟩
  rw [cutV_map]
  exact rd_newO S h
theorem rd_catL {xs ys : List V} {b : Addr} (S : Hs H0 M H L) (m : (a, HO.lst xs) ∈ L) (m2 : (b, HO.lst ys) ∈ L) (hz : xs.length + ys.length ≤ sizeLine) (h : ∀ p H', H0 p = none → Hs H0 M H' ((p, .lst (xs ++ ys)) :: L) → Q (.ref p) H') : rCat (.ref a) (.ref b) H Q :=
  ⟨a, b, xs, ys, rfl, rfl, S.is _ m, S.is _ m2, hz, rd_newO S h⟩
theorem rd_repL {xs : List V} {k : Int} (S : Hs H0 M H L) (m : (a, HO.lst xs) ∈ L) (h1 : 0 ≤ k) (h2 : k < 2 ^ 63) (hz : xs.length * k.toNat ≤ sizeLine) (h : ∀ p H', H0 p = none → Hs H0 M H' ((p, .lst (List.replicate k.toNat xs).flatten) :: L) → Q (.ref p) H') : rRep (.ref a) (.int k) H Q :=
  ⟨a, k, xs, rfl, rfl, S.is _ m, by omega, h2, hz, rd_newO S h⟩
def revR (K : PySem.W.Frag) (Q : VK) (x : V) (H1 : Hp) : Prop := ∃ a xs, x = .ref a ∧ SqL K H1 a xs ∧ ∀ p, H1 p = none → Q (.ref p) (upd H1 p (.lst xs.reverse))
theorem rd_revL (h : te σ H fun x H1 => revR K Q x H1) : tRevL K te σ H Q := h
theorem rd_revV {xs : List V} (S : Hs H0 M H L) (m : (a, HO.lst xs) ∈ L) (h : ∀ p H', H0 p = none → Hs H0 M H' ((p, .lst xs.reverse) :: L) → Q (.ref p) H') : revR K Q (.ref a) H := ⟨a, xs, rfl, S.lst m, rd_newO S h⟩
theorem rd_isN (h : Q (.bl (decide (x = .non))) H) : (fun x y H Q => y = V.non ∧ Q (.bl (decide (x = .non))) H : R2) x .non H Q := ⟨rfl, h⟩
theorem rd_notN (h : Q (.bl (!decide (x = .non))) H) : (fun x y H Q => y = V.non ∧ Q (.bl (!decide (x = .non))) H : R2) x .non H Q := ⟨rfl, h⟩
/-! targets -/
theorem gt_unl {xs : List V} {n : Nat} {ts : TGs} {N : L2.St → Hp → Prop} (S : Hs H0 M H L) (m : (a, HO.lst xs) ∈ L) (hn : xs.length = n) (h : ts xs σ H N) : gUnl K n ts (.ref a) σ H N := ⟨a, xs, rfl, S.lst m, hn, h⟩
theorem gt_sub {to ti : TE} {ts : TSet} {N : L2.St → Hp → Prop} (h : to σ H fun o H1 => ti σ H1 fun i H2 => ts o i v H2 fun H3 => N σ H3) : gSub to ti ts v σ H N := h
theorem gt_setL {xs : List V} {k : Int} {j : Nat} {N : Hp → Prop} (S : Hs H0 M H L) (c : Chg a (.lst xs) (.lst (xs.set j v)) L L') (hm : H0 a = none ∨ a ∈ M) (e : ixN xs.length k = some j) (h : ∀ H', Hs H0 M H' L' → N H') : rSetL (.ref a) (.int k) v H N :=
  ⟨a, xs, k, j, rfl, rfl, S.is _ c.mem, e, h _ (S.put c hm)⟩
theorem gt_slc {to : TE} {tl th : L2.St → Hp → (Option Int → Hp → Prop) → Prop} {N : L2.St → Hp → Prop} (h : to σ H fun o H1 => tl σ H1 fun l H2 => th σ H2 fun u H3 => ∃ (a b : Addr) (xs ys : List V) (i j : Int), o = .ref a ∧ v = .ref b ∧ l = some i ∧ u = some j ∧
    H3 a = some (.lst xs) ∧ H3 b = some (.lst ys) ∧ a ≠ b ∧ 0 ≤ i ∧ i ≤ j ∧ j ≤ xs.length ∧ xs.length + ys.length ≤ sizeLine ∧ N σ (upd H3 a (.lst (xs.take i.toNat ++ ys ++ xs.drop j.toNat)))) : gSlc to tl th v σ H N := h
theorem gt_slcV {b : Addr} {xs ys zs : List V} {i j : Int} {N : Hp → Prop} (S : Hs H0 M H L) (c : Chg a (.lst xs) (.lst zs) L L') (m : (b, HO.lst ys) ∈ L) (hne : a ≠ b) (hm : H0 a = none ∨ a ∈ M) (h0 : 0 ≤ i) (h1 : i ≤ j) (h2 : j ≤ xs.length) (hz : xs.length + ys.length ≤ sizeLine)
    (e : xs.take i.toNat ++ ys ++ xs.drop j.toNat = zs) (h : ∀ H', Hs H0 M H' L' → N H') : ∃ (a' b' : Addr) (xs ys : List V) (i' j' : Int), V.ref a = .ref a' ∧ V.ref b = .ref b' ∧ some i = some i' ∧ some j = some j' ∧
    H a' = some (.lst xs) ∧ H b' = some (.lst ys) ∧ a' ≠ b' ∧ 0 ≤ i' ∧ i' ≤ j' ∧ j' ≤ xs.length ∧ xs.length + ys.length ≤ sizeLine ∧ N (upd H a' (.lst (xs.take i'.toNat ++ ys ++ xs.drop j'.toNat))) := by
  subst e
  exact ⟨a, b, xs, ys, i, j, rfl, rfl, rfl, rfl, S.is _ c.mem, S.is _ m, hne, h0, h1, h2, hz, h _ (S.put c hm)⟩
/-! a comprehension over a range, all its steps without new objects left behind but the list itself -/
def lcW (J : It) (g : TG) (tt : TT) (te : TE) (vs : List Nat) (σ : L2.St) (H1 : Hp) (Q : VK) : Prop := ∀ D, H1 D = none → ∃ W : Nat → Nat → Hp → Prop, (∃ m, W 0 m (upd H1 D (.lst []))) ∧ ∀ i m H, W i m H →
  (J.stop i H ∧ Q (.ref D) H) ∨ (J.go i H ∧ ∃ Nx : Hp → Prop, (∀ H', Nx H' → ∃ m', m' < m ∧ W (i + 1) m' H') ∧ ∀ x H', J.yld i H x H' → g x (wipe σ vs) H' fun σ2 H2 => wipe σ2 vs = wipe σ vs ∧ tt σ2 H2 fun b H3 =>
    if b = true then te σ2 H3 fun y H4 => ∃ acc, H4 D = some (.lst acc) ∧ acc.length < sizeLine ∧ Nx (upd H4 D (.lst (acc ++ [y]))) else Nx H3)
theorem rd_lc {vs : List Nat} (h : wi σ H fun J H1 => lcW J g tt te vs σ H1 Q) : tLc wi g tt te vs σ H Q := h
def lcSkip (H0 : Hp) (M : List Addr) (L : Led) (R1 : List V → Prop) (D : Addr) (H : Hp) : Prop := H0 D = none ∧ ∃ acc, R1 acc ∧ Hs H0 M H ((D, .lst acc) :: L)
def lcPut (H0 : Hp) (M : List Addr) (L : Led) (R1 : List V → Prop) (D : Addr) (y : V) (H : Hp) : Prop := ∃ acc, H D = some (.lst acc) ∧ acc.length < sizeLine ∧ lcSkip H0 M L R1 D (upd H D (.lst (acc ++ [y])))
theorem rd_lcPut {D : Addr} {acc : List V} {L2 L3 : Led} {R1 : List V → Prop} (S : Hs H0 M H L2) (c : Chg D (.lst acc) (.lst (acc ++ [y])) L2 L3) (n : H0 D = none) (hl : acc.length < sizeLine) (sub : ((D, HO.lst (acc ++ [y])) :: L).Sublist L3) (r : R1 (acc ++ [y])) : lcPut H0 M L R1 D y H :=
  ⟨acc, S.is _ c.mem, hl, n, _, r, (S.put c (Or.inl n)).sub sub⟩
theorem rd_lcSkip {D : Addr} {acc : List V} {L2 : Led} {R1 : List V → Prop} (S : Hs H0 M H L2) (n : H0 D = none) (sub : ((D, HO.lst acc) :: L).Sublist L2) (r : R1 acc) : lcSkip H0 M L R1 D H := ⟨n, _, r, S.sub sub⟩
theorem lcw_range {lo : Int} {n : Nat} {vs : List Nat} (S : Hs H0 M H L) (R : Nat → List V → Prop) (r0 : R 0 [])
    (hs : ∀ D i acc H', i < n → R i acc → H0 D = none → Hs H0 M H' ((D, .lst acc) :: L) → g (.int (lo + i)) (wipe σ vs) H' fun σ2 H2 => wipe σ2 vs = wipe σ vs ∧ tt σ2 H2 fun b H3 => if b = true then te σ2 H3 fun y H4 => lcPut H0 M L (R (i + 1)) D y H4 else lcSkip H0 M L (R (i + 1)) D H3)
    (hd : ∀ D acc H', R n acc → H0 D = none → Hs H0 M H' ((D, .lst acc) :: L) → Q (.ref D) H') : lcW (Itr lo n) g tt te vs σ H Q := by
  intro D hD
  have S1 := S.new hD (.lst [])
  refine lc_range (fun i H' => lcSkip H0 M L (R i) D H') ⟨S1.1, [], r0, S1.2⟩ ?_ ?_
  · rintro i H' hi ⟨n0, acc, r, S'⟩
    exact hs D i acc H' hi r n0 S'
  · rintro H' ⟨n0, acc, r, S'⟩
    exact hd D acc H' r n0 S'
theorem lcw_list {a : Addr} {xs : List V} {vs : List Nat} (S : Hs H0 M H L) (R : Nat → List V → Prop) (r0 : R 0 []) (hl : ∀ H' acc D, Hs H0 M H' ((D, .lst acc) :: L) → SqL K H' a xs)
    (hs : ∀ D i x acc H', xs[i]? = some x → R i acc → H0 D = none → Hs H0 M H' ((D, .lst acc) :: L) → g x (wipe σ vs) H' fun σ2 H2 => wipe σ2 vs = wipe σ vs ∧ tt σ2 H2 fun b H3 => if b = true then te σ2 H3 fun y H4 => lcPut H0 M L (R (i + 1)) D y H4 else lcSkip H0 M L (R (i + 1)) D H3)
    (hd : ∀ D acc H', R xs.length acc → H0 D = none → Hs H0 M H' ((D, .lst acc) :: L) → Q (.ref D) H') : lcW (Itl K a) g tt te vs σ H Q := by
  intro D hD
  have S1 := S.new hD (.lst [])
  refine lc_list (xs := xs) (fun i H' => lcSkip H0 M L (R i) D H') ⟨S1.1, [], r0, S1.2⟩ (fun i H' _ ⟨_, acc, _, S'⟩ => hl H' acc D S') ?_ ?_
  · rintro i x H' hi ⟨n0, acc, r, S'⟩
    exact hs D i x acc H' hi r n0 S'
  · rintro H' ⟨n0, acc, r, S'⟩
    exact hd D acc H' r n0 S'
theorem lcw_tup {a : Addr} {xs : List V} {vs : List Nat} (S : Hs H0 M H L) (R : Nat → List V → Prop) (r0 : R 0 []) (hl : ∀ H' acc D, Hs H0 M H' ((D, .lst acc) :: L) → SqT K H' a xs)
    (hs : ∀ D i x acc H', xs[i]? = some x → R i acc → H0 D = none → Hs H0 M H' ((D, .lst acc) :: L) → g x (wipe σ vs) H' fun σ2 H2 => wipe σ2 vs = wipe σ vs ∧ tt σ2 H2 fun b H3 => if b = true then te σ2 H3 fun y H4 => lcPut H0 M L (R (i + 1)) D y H4 else lcSkip H0 M L (R (i + 1)) D H3)
    (hd : ∀ D acc H', R xs.length acc → H0 D = none → Hs H0 M H' ((D, .lst acc) :: L) → Q (.ref D) H') : lcW (Itt K a) g tt te vs σ H Q := by
  intro D hD
  have S1 := S.new hD (.lst [])
  refine lc_tup (xs := xs) (fun i H' => lcSkip H0 M L (R i) D H') ⟨S1.1, [], r0, S1.2⟩ (fun i H' _ ⟨_, acc, _, S'⟩ => hl H' acc D S') ?_ ?_
  · rintro i x H' hi ⟨n0, acc, r, S'⟩
    exact hs D i x acc H' hi r n0 S'
  · rintro H' ⟨n0, acc, r, S'⟩
    exact hd D acc H' r n0 S'
end
end Rs
namespace Rs
open PySem PySem.Spec PyProof.Rows L2
/-- an expression that the proof never comes to -/
def tNevE : TE := fun _ _ _ => False
theorem pe_nev {X : Cx} {e : Expr} : PE X e tNevE := ⟨fun _ _ _ _ _ _ h => h.elim⟩
end Rs
namespace Rs
open PySem PySem.Spec PyProof.Rows L2
theorem ex_u {K : PySem.W.Frag} {D : Addr} {x : Str} {v : V} {u : Value} (a : PySem.W.nsIn K D x = some (some u)) (r : RelV v u) : ∃ u, PySem.W.nsIn K D x = some (some u) ∧ RelV v u := ⟨u, a, r⟩
end Rs

namespace Rs
open PySem PySem.Spec PyProof.Rows L2
section
variable {H0 H H' : Hp} {M : List Addr} {L L' N : Led} {a p : Addr} {o o' : HO} {K : PySem.W.Frag}
theorem Hs.perm (S : Hs H0 M H L) (h : L'.Perm L) : Hs H0 M H L' := ⟨(h.map (·.1)).nodup_iff.mpr S.nd, fun q hq => S.is q (h.mem_iff.mp hq), S.old, S.mu⟩
/-- the objects of N are new, each another -/
structure NewL (H H' : Hp) (N : Led) : Prop where
  nd : (N.map (·.1)).Nodup
  nw : ∀ q ∈ N, H q.1 = none
  is : ∀ q ∈ N, H' q.1 = some q.2
/-- one object was changed, those of N are new -/
theorem Hs.oneN (S : Hs H0 M H L) (c : Chg a o o' L L') (hm : H0 a = none ∨ a ∈ M) (k : ∀ b u, H b = some u → b ≠ a → H' b = some u) (h' : H' a = some o') (n : NewL H H' N) : (∀ q ∈ N, H0 q.1 = none) ∧ Hs H0 M H' (N ++ L') := by
  have S' := S.one c hm k h'
  refine ⟨fun q hq => (S.new (n.nw q hq) q.2).1, ?_, ?_, S'.old, S'.mu⟩
  · rw [List.map_append, List.nodup_append]
    refine ⟨n.nd, S'.nd, ?_⟩
    intro x hx y hy e
    subst e
    obtain ⟨q, hq, rfl⟩ := List.mem_map.mp hx
    rw [c.keys] at hy
    obtain ⟨r, hr, e⟩ := List.mem_map.mp hy
    have := S.is r hr
    rw [e, n.nw q hq] at this
    cases this
  · intro q hq
    rcases List.mem_append.mp hq with h | h
    · exact n.is q h
    · exact S'.is q h
/-- nothing was changed, those of N are new -/
theorem Hs.moreN (S : Hs H0 M H L) (k : Same H H') (n : NewL H H' N) : (∀ q ∈ N, H0 q.1 = none) ∧ Hs H0 M H' (N ++ L) := by
  have S' := S.more k
  refine ⟨fun q hq => (S.new (n.nw q hq) q.2).1, ?_, ?_, S'.old, S'.mu⟩
  · rw [List.map_append, List.nodup_append]
    refine ⟨n.nd, S'.nd, ?_⟩
    intro x hx y hy e
    subst e
    obtain ⟨q, hq, rfl⟩ := List.mem_map.mp hx
    obtain ⟨r, hr, e⟩ := List.mem_map.mp hy
    have := S.is r hr
    rw [e, n.nw q hq] at this
    cases this
  · intro q hq
    rcases List.mem_append.mp hq with h | h
    · exact n.is q h
    · exact S'.is q h
/-- what a ledger tells of new ones -/
theorem Hs.news (S : Hs H0 M H L) (h : N.Sublist L) (n : ∀ q ∈ N, H0 q.1 = none) : NewL H0 H N := ⟨S.nd.sublist (h.map _), n, fun q hq => S.is q (h.subset hq)⟩
/-- plain data that a ledger holds: refs of tuples of whole numbers -/
def TupL (rs : List V) (T : Led) : Prop := (∀ r ∈ rs, ∃ q ∈ T, r = .ref q.1) ∧ ∀ q ∈ T, ∃ ns : List Int, q.2 = .tup (ns.map V.int)
theorem TupL.nil : TupL [] [] := ⟨fun r h => (nomatch h), fun q h => (nomatch h)⟩
theorem TupL.app {rs rs2 : List V} {T T2 : Led} (h : TupL rs T) (h2 : TupL rs2 T2) : TupL (rs ++ rs2) (T2 ++ T) := by
  refine ⟨fun r hr => ?_, fun q hq => ?_⟩
  · rcases List.mem_append.mp hr with z | z
    · obtain ⟨q, hq, e⟩ := h.1 r z; exact ⟨q, List.mem_append_right _ hq, e⟩
    · obtain ⟨q, hq, e⟩ := h2.1 r z; exact ⟨q, List.mem_append_left _ hq, e⟩
  · rcases List.mem_append.mp hq with z | z
    · exact h2.2 q z
    · exact h.2 q z
theorem TupL.snoc {rs : List V} {T : Led} (h : TupL rs T) (q : Addr) (ns : List Int) : TupL (rs ++ [.ref q]) ((q, .tup (ns.map V.int)) :: T) :=
  h.app (T2 := [(q, .tup (ns.map V.int))]) ⟨fun r hr => ⟨_, List.mem_cons_self, by simpa using hr⟩, fun z hz => ⟨ns, by simp at hz; rw [hz]⟩⟩
theorem dpT {rs : List V} {T : Led} (h : TupL rs T) (is : ∀ q ∈ T, H q.1 = some q.2) : ∃ nss : List (List Int), nss.length = rs.length ∧ DpAll K H rs (nss.map fun ns => .tuple (ns.map .int)) := by
  induction rs with
  | nil => exact ⟨[], rfl, .nil⟩
  | cons r rs ih =>
    obtain ⟨nss, e, d⟩ := ih ⟨fun x hx => h.1 x (List.mem_cons_of_mem _ hx), h.2⟩
    obtain ⟨q, hq, rfl⟩ := h.1 r List.mem_cons_self
    obtain ⟨ns, e2⟩ := h.2 q hq
    have hi := is q hq
    rw [e2] at hi
    exact ⟨ns :: nss, by simp [e], .cons (.tup (SqT.of hi) (dps_ints ns)) d⟩
theorem lay_T : ∀ nss : List (List Int), PyData.canLayAll0 (nss.map fun ns => .tuple (ns.map .int)) = true ∧ PyData.depthAll (nss.map fun ns => .tuple (ns.map .int)) ≤ 1
  | [] => by simp [PyData.canLayAll0, PyData.depthAll]
  | ns :: nss => by
    obtain ⟨a, b⟩ := lay_T nss
    simp only [List.map_cons, PyData.canLayAll0, PyData.canLay0, canLay_ints, a, Bool.and_self, PyData.depthAll, PyData.depth, depth_ints, true_and]
    omega
/-- a list of such tuples: data -/
theorem dpLT {rs : List V} {T : Led} (h : TupL rs T) (S : Hs H0 M H L) (m : (a, HO.lst rs) ∈ L) (sub : ∀ q ∈ T, q ∈ L) : ∃ nss : List (List Int), nss.length = rs.length ∧ Dp K H (.ref a) (.list (nss.map fun ns => .tuple (ns.map .int))) ∧ SeqAt.shaped (.list (nss.map fun ns => .tuple (ns.map .int))) = true := by
  obtain ⟨nss, e, d⟩ := dpT (K := K) (H := H) h fun q hq => S.is q (sub q hq)
  obtain ⟨y, z⟩ := lay_T nss
  refine ⟨nss, e, .lst (S.lst m) d, ?_⟩
  unfold SeqAt.shaped
  have e1 : PyData.canLay0 (.list (nss.map fun ns => .tuple (ns.map .int))) = true := by simp only [PyData.canLay0, y]
  rw [e1, Bool.true_and]
  refine decide_eq_true ?_
  simp only [PyData.depth]
  omega
theorem eqv_nil (xs : List PyData) : PyData.eqv (.list xs) (.list []) = decide (xs.length = 0) := by
  cases xs <;> simp [PyData.eqv, PyData.eqvAll]
/-- == [] and != [] of a list of such tuples -/
theorem rd_eqT0 {Q : VK} {rs : List V} {T : Led} {b : Addr} (h : TupL rs T) (S : Hs H0 M H L) (m : (a, HO.lst rs) ∈ L) (m2 : (b, HO.lst []) ∈ L) (sub : ∀ q ∈ T, q ∈ L) (k : Q (.bl (decide (rs.length = 0))) H) : rEqD K (.ref a) (.ref b) H Q := by
  obtain ⟨nss, e, d, sh⟩ := dpLT (K := K) h S m sub
  refine ⟨_, .list [], d, .lst (S.lst m2) .nil, sh, by decide, ?_⟩
  rw [eqv_nil, List.length_map, e]
  exact k
theorem rd_neT0 {Q : VK} {rs : List V} {T : Led} {b : Addr} (h : TupL rs T) (S : Hs H0 M H L) (m : (a, HO.lst rs) ∈ L) (m2 : (b, HO.lst []) ∈ L) (sub : ∀ q ∈ T, q ∈ L) (k : Q (.bl (!decide (rs.length = 0))) H) : rNeD K (.ref a) (.ref b) H Q := by
  obtain ⟨nss, e, d, sh⟩ := dpLT (K := K) h S m sub
  refine ⟨_, .list [], d, .lst (S.lst m2) .nil, sh, by decide, ?_⟩
  rw [eqv_nil, List.length_map, e]
  exact k
end
end Rs
namespace Rs
open PySem PySem.Spec PyProof.Rows L2
theorem rd_nn {R : Prop} (h : R) : V.non = V.non ∧ R := ⟨rfl, h⟩
end Rs
namespace Rs
open PySem PySem.Spec PyProof.Rows L2
section
variable {σ : L2.St} {H : Hp} {nx : L2.St → Hp → Prop} {rt : VK} {bk ct : L2.St → Hp → Prop} {te : TE}
theorem rd_aug {i : Nat} {v : V} {rd : V → V → Hp → VK → Prop} (e : σ[i]? = some (some v)) (h : te σ H fun y H1 => rd v y H1 fun z H2 => nx (σ.set i (some z)) H2) : tAug i te rd ⟨nx, rt, bk, ct⟩ σ H := ⟨v, e, h⟩
theorem rd_ipI {f : Int → Int → Int} {Q : VK} {i j : Int} (h : Q (.int (f i j)) H) : ipI f (.int i) (.int j) H Q := ⟨i, j, rfl, rfl, h⟩
end
end Rs
namespace Rs
open PySem PySem.Spec PyProof.Rows L2
theorem Hs.made {C x dx : Addr} {H0 H : Hp} {M : List Addr} {L : Led} (S : Hs H0 M H L) (hx : H x = none) (hd : H dx = none) (ne : dx ≠ x) : H0 x = none ∧ Hs H0 M (upd (upd H dx (.own x)) x (.ins C dx [])) ((x, .ins C dx []) :: L) := by
  obtain ⟨_, S1⟩ := S.new hd (.own x)
  have hx' : upd H dx (HO.own x) x = none := by rw [upd_ne (Ne.symm ne)]; exact hx
  obtain ⟨n0, S2⟩ := S1.new hx' (.ins C dx [])
  exact ⟨n0, S2.sub (List.Sublist.cons_cons _ (List.Sublist.cons _ (List.Sublist.refl _)))⟩
end Rs

/-! K36m: the mathematics of least totals. -/
namespace K36
open Rs
/-- the k-th from the end -/
def bk (ns : List Int) (k : Nat) : Int := ns.getD (ns.length - k) 0
/-- where a merge is due -/
def nextL (ns : List Int) : Option Int :=
  if (2 < ns.length ∧ bk ns 3 ≤ bk ns 2 + bk ns 1) ∨ (3 < ns.length ∧ bk ns 4 ≤ bk ns 3 + bk ns 2) then some (if bk ns 3 < bk ns 1 then (ns.length : Int) - 3 else (ns.length : Int) - 2)
  else if 1 < ns.length ∧ bk ns 2 ≤ bk ns 1 then some ((ns.length : Int) - 2) else none
/-- no merge at any of them -/
def quiet (ns : List Int) : Bool := (List.range ns.length).all fun i => (nextL (ns.take (i + 1))).isNone
/-- the least lengths, the last in front -/
def lst : Nat → List Int
  | 0 => []
  | n + 1 => (1 + (cutI (lst n) none (some 2)).sum) :: lst n
/-- the least lengths, the first in front -/
def fwd : Nat → List Int
  | 0 => []
  | n + 1 => fwd n ++ [1 + (cutI (fwd n) (some (-2)) none).sum]
def tot (n : Nat) : Int := (lst n).sum
theorem fwd_lst : ∀ d, d < 16 → fwd d = (lst d).reverse := by decide +kernel
theorem len_lst : ∀ d, (lst d).length = d
  | 0 => rfl
  | d + 1 => by simp [lst, len_lst d]
theorem len_fwd : ∀ d, (fwd d).length = d
  | 0 => rfl
  | d + 1 => by simp [fwd, len_fwd d]
/-- how deep -/
def dep (n : Int) : Nat := ((List.range 15).filter fun i => decide (tot (i + 1) ≤ n)).length
theorem tot_val : tot 1 = 1 ∧ tot 2 = 3 ∧ tot 3 = 7 ∧ tot 4 = 14 ∧ tot 5 = 26 ∧ tot 6 = 46 ∧ tot 7 = 79 ∧ tot 8 = 133 ∧ tot 9 = 221 ∧ tot 10 = 364 ∧ tot 11 = 596 ∧ tot 12 = 972 ∧ tot 13 = 1581 ∧ tot 14 = 2567 ∧ tot 15 = 4163 := by decide +kernel
theorem tot_mono : ∀ i, i < 16 → ∀ j, j ≤ i → tot j ≤ tot i := by decide +kernel
theorem filt_pre (n : Int) : ∀ k, k ≤ 15 → ((List.range k).filter fun i => decide (tot (i + 1) ≤ n)).length = if k = 0 then 0 else if tot k ≤ n then k else ((List.range (k - 1)).filter fun i => decide (tot (i + 1) ≤ n)).length
  | 0, _ => rfl
  | k + 1, h => by
    rw [List.range_succ, List.filter_append, List.length_append]
    simp only [Nat.succ_ne_zero, if_false, Nat.add_sub_cancel]
    by_cases e : tot (k + 1) ≤ n
    · rw [if_pos e]
      have ih : ((List.range k).filter fun i => decide (tot (i + 1) ≤ n)).length = k := by
        rw [List.filter_eq_self.mpr]
        · simp
        · intro i hi
          have := tot_mono (k + 1) (by omega) (i + 1) (by simp at hi; omega)
          simp; omega
      rw [ih]
      simp [e]
    · rw [if_neg e]
      simp [e]
/-- the depth by its neighbours -/
theorem dep_spec (n : Int) (h0 : 0 ≤ n) (h : n ≤ 4096) : dep n ≤ 14 ∧ tot (dep n) ≤ n ∧ n < tot (dep n + 1) := by
  have key : ∀ k, k ≤ 15 → n < tot k → 0 < k → ∃ j, j < k ∧ ((List.range k).filter fun i => decide (tot (i + 1) ≤ n)).length = j ∧ tot j ≤ n ∧ n < tot (j + 1) := by
    intro k
    induction k with
    | zero => intro _ _ z; omega
    | succ k ih =>
      intro hk hn _
      rw [filt_pre n (k + 1) hk, if_neg (by omega), if_neg (by omega), Nat.add_sub_cancel]
      by_cases z : k = 0
      · subst z
        exact ⟨0, by omega, rfl, h0, hn⟩
      · by_cases e : tot k ≤ n
        · refine ⟨k, by omega, ?_, e, hn⟩
          rw [filt_pre n k (by omega), if_neg z, if_pos e]
        · obtain ⟨j, a, b, c, d⟩ := ih (by omega) (by omega) (by omega)
          exact ⟨j, by omega, b, c, d⟩
  obtain ⟨j, a, b, c, d⟩ := key 15 (by omega) (by have := tot_val; omega) (by omega)
  unfold dep
  rw [b]
  exact ⟨by omega, c, d⟩
/-- the depth is where the totals pass n -/
theorem dep_of {n : Int} {d : Nat} (h0 : 0 ≤ n) (h : n ≤ 4096) (hd : d ≤ 15) (h1 : tot d ≤ n) (h2 : n < tot (d + 1)) : dep n = d := by
  obtain ⟨a, b, c⟩ := dep_spec n h0 h
  rcases Nat.lt_trichotomy (dep n) d with z | z | z
  · have := tot_mono d (by omega) (dep n + 1) (by omega); omega
  · exact z
  · have := tot_mono (dep n) (by omega) (d + 1) (by omega); omega
/-- what deepest tells -/
def deepL (n : Int) : List Int := if dep n = 0 then [] else (n - (lst (dep n - 1)).sum) :: lst (dep n - 1)
theorem len_deep (n : Int) : (deepL n).length = dep n := by
  unfold deepL
  split
  · rename_i h; simp [h]
  · simp [len_lst]; omega
theorem lst_pos : ∀ d, d < 16 → ∀ x ∈ lst d, 1 ≤ x ∧ x ≤ 4096 := by decide +kernel
theorem sum_deep (n : Int) (h0 : dep n ≠ 0) : (deepL n).sum = n := by
  unfold deepL
  rw [if_neg h0]
  simp
theorem head_deep {n : Int} (h0 : 0 ≤ n) (h : n ≤ 4096) (hd : dep n ≠ 0) : 1 + (cutI (lst (dep n - 1)) none (some 2)).sum ≤ n - (lst (dep n - 1)).sum := by
  obtain ⟨a, b, c⟩ := dep_spec n h0 h
  obtain ⟨k, e⟩ : ∃ k, dep n = k + 1 := ⟨dep n - 1, by omega⟩
  rw [e] at b ⊢
  simp only [Nat.add_sub_cancel]
  have : tot (k + 1) = 1 + (cutI (lst k) none (some 2)).sum + (lst k).sum := by simp [tot, lst]
  omega
theorem quiet_lst : ∀ d, d < 15 → quiet (lst d) = true := by decide +kernel
theorem quiet_cons : ∀ d, d < 15 → ∀ f : Int, 1 + (cutI (lst d) none (some 2)).sum ≤ f → quiet (f :: lst d) = true := by
  intro d hd f
  match d, hd with
  | 0, _ | 1, _ | 2, _ | 3, _ | 4, _ | 5, _ | 6, _ | 7, _ | 8, _ | 9, _ | 10, _ | 11, _ | 12, _ | 13, _ | 14, _ =>
    intro h
    simp [lst, cutI, quiet, nextL, bk, List.range_succ, HT.sIx] at h ⊢ <;> omega
  | d + 15, h => omega
theorem unquiet : ∀ d, d < 15 → ∀ i, i < d - 1 → quiet ((lst d).set i ((lst d).getD i 0 - 1)) = false ∧ ∀ x ∈ (lst d).set i ((lst d).getD i 0 - 1), 1 ≤ x := by decide +kernel
end K36

local macro_rules | `(tactic| walk_at "mem") => `(tactic| repeat (with_reducible first | exact List.mem_cons_self | apply List.mem_cons_of_mem))
local macro_rules | `(tactic| walk_at "chg") => `(tactic| repeat (with_reducible first | exact Rs.Chg.here | apply Rs.Chg.there))
local macro_rules | `(tactic| walk_at "chgF") => `(tactic| (intro o'; walk_at "chg"))
local macro_rules | `(tactic| walk_at "own") => `(tactic| first | (apply Or.inl; assumption) | (apply Or.inr; simp))
local macro_rules | `(tactic| walk_at "size") => `(tactic| first | exact Rs.sz (Nat.le_of_ble_eq_true rfl) | (refine Rs.sz ?_; omega) | (refine Rs.sz ?_; simp; done) | (refine Rs.sz ?_; simp; omega))
local macro_rules | `(tactic| walk_at "size1") => `(tactic| first | exact Rs.sz' (Nat.le_of_ble_eq_true rfl) | (refine Rs.sz' ?_; omega) | (refine Rs.sz' ?_; simp; done) | (refine Rs.sz' ?_; simp; omega))
local macro_rules | `(tactic| walk_at "val") => `(tactic| first | assumption | rfl)
local macro_rules | `(tactic| walk_at "put") => `(tactic| first | assumption | rfl)
local macro_rules | `(tactic| walk_at "rd1") => `(tactic| first
  | with_reducible refine Rs.rd_seq ?_
  | with_reducible refine Rs.rd_asg ?_
  | ((with_reducible refine' Rs.rd_var ?e ?_); (case e => rfl))
  | with_reducible refine Rs.rd_c ?_
  | with_reducible refine Rs.rd_op ?_
  | with_reducible refine Rs.rd_I0 ?_
  | with_reducible refine Rs.rd_cons ?_
  | with_reducible refine Rs.rd_nil ?_
  | ((with_reducible refine' Rs.rd_name ?e ?_); (case e => (dsimp only [List.set]; try rfl)))
  | with_reducible refine Rs.rd_ifS ?_
  | with_reducible refine Rs.rd_test ?_
  | with_reducible refine Rs.rd_bl ?_
  | with_reducible refine Rs.rd_ret ?_
  | with_reducible refine Rs.rd_retN ?_
  | with_reducible refine Rs.rd_drop ?_
  | with_reducible refine Rs.rd_next ?_
  | with_reducible refine Rs.rd_eqI ?_
  | with_reducible refine Rs.rd_neI ?_
  | with_reducible refine Rs.rd_eqS ?_
  | with_reducible refine Rs.rd_neS ?_
  | with_reducible refine Rs.rd_eqB ?_
  | with_reducible refine Rs.rd_par ?_
  | with_reducible refine Rs.rd_par3 ?_
  | ((with_reducible refine Rs.rd_two ?_); dsimp only [List.set])
  | ((with_reducible refine Rs.rd_three ?_); dsimp only [List.set])
  | with_reducible refine Rs.rd_un ?_
  | with_reducible refine Rs.rd_U ?_
  | with_reducible refine Rs.rd_tB ?_
  | with_reducible refine Rs.rd_and ?_
  | with_reducible refine Rs.rd_or ?_
  | with_reducible refine Rs.rd_not ?_
  | with_reducible refine Rs.rd_andV ?_
  | with_reducible refine Rs.rd_orV ?_
  | with_reducible refine Rs.rd_notV ?_
  | with_reducible refine Rs.rd_if ?_
  | with_reducible refine Rs.rd_tup ?_
  | with_reducible refine Rs.rd_lst ?_
  | with_reducible refine Rs.rd_cb ?_
  | with_reducible refine Rs.rd_call0 ?_
  | with_reducible refine Rs.rd_call ?_
  | with_reducible refine Rs.rd_callN ?_
  | with_reducible refine Rs.rd_chain ?_
  | with_reducible refine Rs.rd_bits ?_
  | with_reducible refine Rs.rd_int1 ?_
  | with_reducible refine Rs.rd_int2 ?_
  | with_reducible refine Rs.rd_dget ?_
  | with_reducible refine Rs.rd_dput ?_
  | with_reducible refine Rs.rd_slice3 ?_
  | with_reducible refine Rs.rd_sl ?_
  | with_reducible refine Rs.rd_noPart ?_
  | with_reducible refine Rs.rd_part ?_
  | ((with_reducible refine' Rs.rd_mod ?c ?_); (case c => omega); intro r e h0 h1)
  | ((with_reducible refine' Rs.rd_div ?c ?d ?_); (case c => omega); (case d => omega))
  | ((with_reducible refine' Rs.rd_mulL ?c ?d ?_); (case c => omega); (case d => omega))
  | ((with_reducible refine' Rs.rd_mulR ?c ?d ?_); (case c => omega); (case d => omega))
  | ((with_reducible refine' Rs.rd_pow ?c ?d ?f ?_); (case c => omega); (case d => omega); (case f => omega))
  | ((with_reducible refine' Rs.rd_newL (by assumption) ?z ?_); (case z => walk_at "size"); intro p H hp S)
  | ((with_reducible refine' Rs.rd_newT (by assumption) ?z ?_); (case z => walk_at "size"); intro p H hp S)
  | ((with_reducible refine' Rs.rd_newO (by assumption) ?_); intro p H hp S)
  | ((with_reducible refine' Rs.rd_ixL (by assumption) ?m ?e ?_); (case m => (walk_at "mem"; done)); (case e => first | rfl | assumption))
  | ((with_reducible refine' Rs.rd_ixT (by assumption) ?m ?e ?_); (case m => (walk_at "mem"; done)); (case e => first | rfl | assumption))
  | ((with_reducible refine' Rs.rd_len (by assumption) ?m ?_); (case m => (walk_at "mem"; done)))
  | ((with_reducible refine' Rs.rd_lenT (by assumption) ?m ?_); (case m => (walk_at "mem"; done)))
  | ((with_reducible refine' Rs.rd_getS (by assumption) ?m ?e ?_); (case m => (walk_at "mem"; done)); (case e => walk_at "val"))
  | ((with_reducible refine' Rs.rd_putS (by assumption) ?c ?m ?z ?e ?_); (case c => (walk_at "chg"; done)); (case m => walk_at "own"); (case z => walk_at "size1"); (case e => walk_at "put"); intro H S)
  | ((with_reducible refine' Rs.gt_ref (by assumption) ?m ?e ?_); (case m => (walk_at "mem"; done)); (case e => rfl))
  | with_reducible refine Rs.gt_cons ?_
  | with_reducible refine Rs.gt_nil ?_
  | with_reducible refine Rs.rd_for ?_
  | with_reducible refine Rs.rd_rng1 ?_
  | with_reducible refine Rs.rd_rng2 ?_
  | ((with_reducible refine' Rs.rd_rng1v ?c ?d ?_); (case c => omega); (case d => omega))
  | with_reducible refine Rs.rd_iList ?_
  | with_reducible refine Rs.rd_iTup ?_
  | ((with_reducible refine' Rs.rd_lstI (by assumption) ?m ?_); (case m => (walk_at "mem"; done)))
  | ((with_reducible refine' Rs.rd_tupI (by assumption) ?m ?_); (case m => (walk_at "mem"; done)))
  | with_reducible refine Rs.rd_wl ?_
  | ((with_reducible refine' Rs.rd_disp (by assumption) ?_); intro p H hp S)
  | with_reducible refine Rs.rd_prs ?_
  | with_reducible refine Rs.rd_prs0 ?_
  | ((with_reducible refine' Rs.rd_dspEnd (by assumption) ?c ?m ?e ?z ?f ?_); (case c => (walk_at "chg"; done)); (case m => walk_at "own"); (case e => rfl); (case z => exact Nat.le_of_ble_eq_true rfl); (case f => walk_at "put"); intro H S)
  | ((with_reducible refine' Rs.rd_isi (by assumption) ?e ?_); (case e => first | exact Rs.kit_int _ | exact Rs.kit_bool _ | exact Rs.kit_list _ | exact Rs.kit_tuple _ | exact Rs.kit_str _))
  | with_reducible refine Rs.rd_iteT ?_
  | with_reducible refine Rs.rd_nT ?_
  | with_reducible refine Rs.rd_nF ?_
  | with_reducible refine Rs.rd_iteF ?_)
local macro_rules | `(tactic| walk_at "end") => `(tactic| first
  | assumption
  | omega
  | exact Rs.Hs.get (by assumption) (by walk_at "mem"; done)
  | exact Rs.Hs.same (by assumption)
  | (intro b o e hb; exact Rs.Hs.old1 (by assumption) e hb)
  | rfl)
local macro_rules | `(tactic| walk_at "rd") => `(tactic| repeat (walk_at "rd1"))
local macro_rules | `(tactic| walk_at "st") => `(tactic| (refine Rs.rd_start ?_; dsimp only [Rs.stV, List.head?, List.tail]))
local macro_rules | `(tactic| walk_at "noat") => `(tactic| assumption)
local macro_rules | `(tactic| walk_at "cls") => `(tactic| assumption)
local macro_rules | `(tactic| walk_at "fv") => `(tactic| rfl)
local macro_rules | `(tactic| walk_at "sub") => `(tactic| repeat (with_reducible first | exact List.Sublist.refl _ | exact List.nil_sublist _ | apply List.Sublist.cons_cons | apply List.Sublist.cons))
local macro_rules | `(tactic| walk_at "rd1") => `(tactic| first
  | with_reducible refine Rs.rd_fld ?_
  | ((with_reducible refine' Rs.rd_fldV (by assumption) ?m ?c ?n ?e ?_); (case m => (walk_at "mem"; done)); (case c => walk_at "cls"); (case n => walk_at "noat"); (case e => walk_at "fv"))
  | with_reducible refine Rs.rd_sfld ?_
  | ((with_reducible refine' Rs.rd_sfldV (by assumption) ?ch ?o ?c ?n ?z ?e ?_); (case ch => (walk_at "chg"; done)); (case o => walk_at "own"); (case c => walk_at "cls"); (case n => walk_at "noat"); (case z => walk_at "fvz"); (case e => walk_at "fput"); intro H S)
  | with_reducible refine Rs.rd_meth ?_
  | ((with_reducible refine' Rs.rd_methV (by assumption) ?m ?e ?_); (case m => (walk_at "mem"; done)); (case e => walk_at "fv"))
  | with_reducible refine Rs.rd_bm ?_
  | with_reducible refine Rs.rd_bm0 ?_
  | ((with_reducible refine' Rs.rd_tyL (by assumption) ?m ?_); (case m => (walk_at "mem"; done)))
  | ((with_reducible refine' Rs.rd_app (by assumption) ?c ?o ?z ?_); (case c => (walk_at "chg"; done)); (case o => walk_at "own"); (case z => walk_at "size1"); intro H S)
  | ((with_reducible refine' Rs.rd_sumI (by assumption) ?m ?e ?_); (case m => (walk_at "mem"; done)); (case e => rfl))
  | ((with_reducible refine' Rs.rd_slL (by assumption) ?m ?e ?_); (case m => (walk_at "mem"; done)); (case e => rfl); intro p H hp S)
  | ((with_reducible refine' Rs.rd_catL (by assumption) ?m ?n ?z ?_); (case m => (walk_at "mem"; done)); (case n => (walk_at "mem"; done)); (case z => walk_at "size"); intro p H hp S)
  | with_reducible refine Rs.rd_revL ?_
  | ((with_reducible refine' Rs.rd_revV (by assumption) ?m ?_); (case m => (walk_at "mem"; done)); intro p H hp S)
  | with_reducible refine Rs.rd_isN ?_
  | with_reducible refine Rs.rd_notN ?_
  | ((with_reducible refine' Rs.gt_unl (by assumption) ?m ?e ?_); (case m => (walk_at "mem"; done)); (case e => rfl))
  | with_reducible refine Rs.gt_sub ?_
  | with_reducible refine Rs.gt_slc ?_
  | with_reducible refine Rs.rd_lc ?_)
local macro_rules | `(tactic| walk_at "cut") => `(tactic| repeat' (first | walk_at "rd1" | (refine Rs.rd_dec ?_ ?_ <;> intro hc)))
local macro_rules | `(tactic| walk_at "fvz") => `(tactic| exact Nat.le_of_ble_eq_true rfl)
local macro_rules | `(tactic| walk_at "fput") => `(tactic| rfl)
local macro_rules | `(tactic| walk_at "rd1") => `(tactic| with_reducible refine Rs.rd_nn ?_)
local macro_rules | `(tactic| walk_at "rd1") => `(tactic| first
  | ((with_reducible refine' Rs.rd_aug ?e ?_); (case e => rfl))
  | ((with_reducible refine Rs.rd_ipI ?_); dsimp only [List.set]))
local macro_rules | `(tactic| walk_at "lc") => `(tactic| (walk_at "rd"; dsimp only [L2.wipe, List.map, List.set]; refine ⟨rfl, ?_⟩; walk_at "rd"))
namespace K36
open PySem L2 Rs
def topS (i : Nat) : Stmt := PySem.Challenge.pw_runsort_k36_least_totals.main.body.getD i (.Pass ⟨0, 0, 0, 0⟩)
/-! the draws -/
def drw (l c a : Int) : List (Key × V) := [(.inr "left", .int l), (.inr "cell", .int c), (.inr "at", .int a)]
theorem k_lc : ¬ (("left" : Str) = "cell") := by decide +kernel
theorem k_la : ¬ (("left" : Str) = "at") := by decide +kernel
theorem k_ca : ¬ (("cell" : Str) = "at") := by decide +kernel
theorem k_ne {a b : Str} (h : ¬ a = b) : ¬ ((Sum.inr a : Key) = Sum.inr b) := fun e => h (Sum.inr.inj e)
theorem drw_left (l c a : Int) : valV (drw l c a) (.inr "left") = some (.int l) := valV_pos rfl
theorem drw_cell (l c a : Int) : valV (drw l c a) (.inr "cell") = some (.int c) := (valV_neg (k_ne k_lc)).trans (valV_pos rfl)
theorem drw_at (l c a : Int) : valV (drw l c a) (.inr "at") = some (.int a) := (valV_neg (k_ne k_la)).trans ((valV_neg (k_ne k_ca)).trans (valV_pos rfl))
theorem put_left (l c a x : Int) : putK (drw l c a) (.inr "left") (.int x) = drw x c a := by
  unfold putK drw
  simp [show ¬ (("cell" : Str) = "left") from fun e => k_lc e.symm, show ¬ (("at" : Str) = "left") from fun e => k_la e.symm]
theorem put_at (l c a x : Int) : putK (drw l c a) (.inr "at") (.int x) = drw l c x := by
  unfold putK drw
  simp [k_ca, k_la]
theorem merge_drw (l c a : Int) : mergeK [] (toK [(.str "left", .int l), (.str "cell", .int c), (.str "at", .int a)]) = drw l c a := by
  simp only [toK, mergeK, List.foldl_cons, List.foldl_nil]
  unfold putK drw
  simp [k_lc, k_la, k_ca, show ¬ (("cell" : Str) = "left") from fun e => k_lc e.symm, show ¬ (("at" : Str) = "left") from fun e => k_la e.symm, show ¬ (("at" : Str) = "cell") from fun e => k_ca e.symm]
local macro_rules | `(tactic| walk_at "val") => `(tactic| first | exact drw_left _ _ _ | exact drw_cell _ _ _ | exact drw_at _ _ _)
local macro_rules | `(tactic| walk_at "put") => `(tactic| first | exact put_left _ _ _ _ | exact put_at _ _ _ _ | exact merge_drw _ _ _)
/-! the promises -/
def sp_whole : Sp := fun vs H Q _ => ∃ (t l m : Int), vs = [.int t, .int l, .int m] ∧ Q (.bl (decide (l ≤ t) && decide (t ≤ m))) H
def sp_need : Sp := fun vs H Q _ => ∃ (t l m : Int), vs = [.int t, .int l, .int m] ∧ l ≤ t ∧ t ≤ m ∧ Q .non H
def sp_begun (K : PySem.W.Frag) : Sp := fun vs H Q _ => ∃ (s : Addr) (ns : List Int) (k : Int), vs = [.ref s, .int k] ∧ SqL K H s (ns.map V.int) ∧ 0 ≤ k ∧ k ≤ 100 ∧
  ∀ (d : Addr) (l c : Int) (H' : Hp), H d = none → H' d = some (.dK (drw l c (60 * k))) → Same H H' → Q (.ref d) H'
def sp_take : Sp := fun vs H Q _ => ∃ (d : Addr) (l c a n : Int), vs = [.ref d, .int n] ∧ H d = some (.dK (drw l c a)) ∧ 1 ≤ n ∧ n < 2 ^ 60 ∧ 0 ≤ a ∧ a < 2 ^ 40 ∧
  ∀ (r l' a' : Int) (H' : Hp), H' d = some (.dK (drw l' c a')) → (∀ b o, H b = some o → b ≠ d → H' b = some o) → 0 ≤ r → r < n → a ≤ a' → a' ≤ a + 1 → Q (.int r) H'
def optV : Option Int → V
  | none => .non
  | some i => .int i
def sp_next : Sp := fun vs H Q _ => ∃ (l : Addr) (ns : List Int), vs = [.ref l] ∧ H l = some (.lst (ns.map V.int)) ∧ Q (optV (nextL ns)) H
def sp_lengths : Sp := fun vs H Q _ => ∃ (d : Nat), vs = [.int d] ∧ d < 16 ∧ ∀ (p : Addr) (H' : Hp), H p = none → H' p = some (.lst ((fwd d).map V.int)) → Same H H' → Q (.ref p) H'
def sp_total : Sp := fun vs H Q _ => ∃ (d : Nat), vs = [.int d] ∧ d < 16 ∧ ∀ (H' : Hp), Same H H' → Q (.int (tot d)) H'
def sp_deepest : Sp := fun vs H Q _ => ∃ (n : Int), vs = [.int n] ∧ 0 ≤ n ∧ n ≤ 4096 ∧ ∀ (p : Addr) (H' : Hp), H p = none → H' p = some (.lst ((deepL n).map V.int)) → Same H H' → Q (.ref p) H'
def sp_least : Sp := fun vs H Q _ => ∃ (d : Nat), vs = [.int d] ∧ d < 16 ∧ ∀ (p : Addr) (H' : Hp), H p = none → H' p = some (.lst ((lst d).map V.int)) → Same H H' → Q (.ref p) H'
def sp_policy : Sp := fun vs H Q _ => vs = [.str "lengths"] ∧ Q .non H
def sp_law (K : PySem.W.Frag) : Sp := fun vs H Q _ => ∃ (a : Addr) (ns : List Int), vs = [.ref a] ∧ SqL K H a (ns.map V.int) ∧ ns.length ≤ 63 ∧ ∀ H', Q (.bl true) H'
/-! the text -/
abbrev s_is_whole : Stmt := topS 6
theorem sc_is_whole : FnScope ["thing", "least", "most"] ["thing", "least", "most"] (defScope s_is_whole) := ⟨rfl, rfl, rfl, by decide +kernel, rfl, by decide +kernel, by decide +kernel⟩
abbrev s_need_number : Stmt := topS 10
theorem sc_need_number : FnScope ["thing", "least", "most"] ["thing", "least", "most"] (defScope s_need_number) := ⟨rfl, rfl, rfl, by decide +kernel, rfl, by decide +kernel, by decide +kernel⟩
abbrev s_next_by_lengths : Stmt := topS 12
theorem sc_next_by_lengths : FnScope ["lengths", "many"] ["lengths"] (defScope s_next_by_lengths) := ⟨rfl, rfl, rfl, by decide +kernel, rfl, by decide +kernel, by decide +kernel⟩
abbrev s_pushed_by_lengths : Stmt := topS 13
theorem sc_pushed_by_lengths : FnScope ["stack", "many", "found", "at"] ["stack", "many"] (defScope s_pushed_by_lengths) := ⟨rfl, rfl, rfl, by decide +kernel, rfl, by decide +kernel, by decide +kernel⟩
abbrev s_need_policy : Stmt := topS 16
theorem sc_need_policy : FnScope ["policy"] ["policy"] (defScope s_need_policy) := ⟨rfl, rfl, rfl, by decide +kernel, rfl, by decide +kernel, by decide +kernel⟩
abbrev s_RunStack___init__ : Stmt := inClass (topS 17) 0
theorem sc_RunStack___init__ : FnScope ["self", "policy", "total"] ["self", "policy", "total"] (defScope s_RunStack___init__) := ⟨rfl, rfl, rfl, by decide +kernel, rfl, by decide +kernel, by decide +kernel⟩
abbrev s_RunStack_merge_near : Stmt := inClass (topS 17) 1
theorem sc_RunStack_merge_near : FnScope ["self", "at", "start", "one", "other"] ["self", "at"] (defScope s_RunStack_merge_near) := ⟨rfl, rfl, rfl, by decide +kernel, rfl, by decide +kernel, by decide +kernel⟩
abbrev s_RunStack_pushed : Stmt := inClass (topS 17) 2
theorem sc_RunStack_pushed : FnScope ["self", "many", "most", "push"] ["self", "many"] (defScope s_RunStack_pushed) := ⟨rfl, rfl, rfl, by decide +kernel, rfl, by decide +kernel, by decide +kernel⟩
abbrev s_least_lengths : Stmt := topS 18
theorem sc_least_lengths : FnScope ["depth", "found", "turn"] ["depth"] (defScope s_least_lengths) := ⟨rfl, rfl, rfl, by decide +kernel, rfl, by decide +kernel, by decide +kernel⟩
abbrev s_least_total : Stmt := topS 19
theorem sc_least_total : FnScope ["depth"] ["depth"] (defScope s_least_total) := ⟨rfl, rfl, rfl, by decide +kernel, rfl, by decide +kernel, by decide +kernel⟩
abbrev s_deepest : Stmt := topS 20
theorem sc_deepest : FnScope ["total", "depth", "above"] ["total"] (defScope s_deepest) := ⟨rfl, rfl, rfl, by decide +kernel, rfl, by decide +kernel, by decide +kernel⟩
abbrev s_l_begun : Stmt := topS 22
theorem sc_l_begun : FnScope ["_law_script", "_law_k", "_law_some", "_law_found", "_law_cell", "_law_left"] ["_law_script", "_law_k"] (defScope s_l_begun) := ⟨rfl, rfl, rfl, by decide +kernel, rfl, by decide +kernel, by decide +kernel⟩
abbrev s_l_take : Stmt := topS 23
theorem sc_l_take : FnScope ["_law_draw", "_law_below", "_law_found", "_law_at", "_law_prime", "_law_mixed"] ["_law_draw", "_law_below"] (defScope s_l_take) := ⟨rfl, rfl, rfl, by decide +kernel, rfl, by decide +kernel, by decide +kernel⟩
abbrev s_l_least : Stmt := topS 24
theorem sc_l_least : FnScope ["_law_deep", "_law_found", "_law_turn"] ["_law_deep"] (defScope s_l_least) := ⟨rfl, rfl, rfl, by decide +kernel, rfl, by decide +kernel, by decide +kernel⟩
abbrev s_l_merges : Stmt := topS 25
theorem sc_l_merges : FnScope ["_law_runs", "_law_stack", "_law_found", "_law_one"] ["_law_runs"] (defScope s_l_merges) := ⟨rfl, rfl, rfl, by decide +kernel, rfl, by decide +kernel, by decide +kernel⟩
abbrev s_l_deepest_right : Stmt := topS 26
theorem sc_l_deepest_right : FnScope ["_law_number", "_law_deep", "_law_due", "_law_told", "_law_one"] ["_law_number"] (defScope s_l_deepest_right) := ⟨rfl, rfl, rfl, by decide +kernel, rfl, by decide +kernel, by decide +kernel⟩
abbrev s_law : Stmt := topS 27
theorem sc_law : FnScope ["_law_script", "_law_deep", "_law_number", "_law_one", "_law_k", "_law_draw", "_law_runs", "_law_at"] ["_law_script"] (defScope s_law) := ⟨rfl, rfl, rfl, by decide +kernel, rfl, by decide +kernel, by decide +kernel⟩
structure Ad where
  (f_is_whole f_need_number f_next_by_lengths f_pushed_by_lengths f_need_policy C_RunStack f_RunStack___init__ f_RunStack_merge_near f_RunStack_pushed f_least_lengths f_least_total f_deepest f__law_begun f__law_take f__law_least f__law_merges f__law_deepest_right f_law k_PUSHES : Addr)
  (d_is_whole d_need_number d_next_by_lengths d_pushed_by_lengths d_need_policy d_RunStack___init__ d_RunStack_merge_near d_RunStack_pushed d_least_lengths d_least_total d_deepest d__law_begun d__law_take d__law_least d__law_merges d__law_deepest_right d_law : FuncData)
  (ke_PUSHES : Array DictEntry) (kn_PUSHES : Nat)
structure Txt (K : PySem.W.Frag) (mg : Str → Option Value) (w : World) (A : Ad) : Prop where
  c_is_whole : CalK K mg "is_whole" s_is_whole A.f_is_whole A.d_is_whole
  c_need_number : Cal K mg "need_number" s_need_number ["thing", "least", "most"] A.f_need_number A.d_need_number
  c_next_by_lengths : Cal K mg "next_by_lengths" s_next_by_lengths ["lengths"] A.f_next_by_lengths A.d_next_by_lengths
  c_pushed_by_lengths : Cal K mg "pushed_by_lengths" s_pushed_by_lengths ["stack", "many"] A.f_pushed_by_lengths A.d_pushed_by_lengths
  c_need_policy : Cal K mg "need_policy" s_need_policy ["policy"] A.f_need_policy A.d_need_policy
  m_RunStack : mg "RunStack" = some (.ref A.C_RunStack)
  cl_RunStack : Cls K A.C_RunStack
  na_RunStack_own_policy : NoAttr K A.C_RunStack "own_policy"
  na_RunStack_own_total : NoAttr K A.C_RunStack "own_total"
  na_RunStack_laid_lengths : NoAttr K A.C_RunStack "laid_lengths"
  na_RunStack_laid_powers : NoAttr K A.C_RunStack "laid_powers"
  i_RunStack : CalI K A.C_RunStack "RunStack.__init__" s_RunStack___init__ [("policy", .str "powers"), ("total", .non)] A.f_RunStack___init__ A.d_RunStack___init__
  h_RunStack_merge_near : Meth K A.C_RunStack "merge_near" A.f_RunStack_merge_near
  c_RunStack_merge_near : CalM K "merge_near" "RunStack.merge_near" s_RunStack_merge_near ["self", "at"] A.f_RunStack_merge_near A.d_RunStack_merge_near
  h_RunStack_pushed : Meth K A.C_RunStack "pushed" A.f_RunStack_pushed
  c_RunStack_pushed : CalM K "pushed" "RunStack.pushed" s_RunStack_pushed ["self", "many"] A.f_RunStack_pushed A.d_RunStack_pushed
  c_least_lengths : Cal K mg "least_lengths" s_least_lengths ["depth"] A.f_least_lengths A.d_least_lengths
  c_least_total : Cal K mg "least_total" s_least_total ["depth"] A.f_least_total A.d_least_total
  c_deepest : Cal K mg "deepest" s_deepest ["total"] A.f_deepest A.d_deepest
  c__law_begun : Cal K mg "_law_begun" s_l_begun ["_law_script", "_law_k"] A.f__law_begun A.d__law_begun
  c__law_take : Cal K mg "_law_take" s_l_take ["_law_draw", "_law_below"] A.f__law_take A.d__law_take
  c__law_least : Cal K mg "_law_least" s_l_least ["_law_deep"] A.f__law_least A.d__law_least
  c__law_merges : Cal K mg "_law_merges" s_l_merges ["_law_runs"] A.f__law_merges A.d__law_merges
  c__law_deepest_right : Cal K mg "_law_deepest_right" s_l_deepest_right ["_law_number"] A.f__law_deepest_right A.d__law_deepest_right
  c_law : Cal K mg "law" s_law ["_law_script"] A.f_law A.d_law
  g_MOST_THINGS : ∃ u, mg "MOST_THINGS" = some u ∧ RelV (.int 4096) u
  g_MOST_DEPTH : ∃ u, mg "MOST_DEPTH" = some u ∧ RelV (.int 15) u
  g_PUSHES : ∃ u, mg "PUSHES" = some u ∧ RelV (.ref A.k_PUSHES) u
  d_PUSHES : KDict K w A.k_PUSHES A.ke_PUSHES A.kn_PUSHES
  q_PUSHES_lengths : KDct K w A.k_PUSHES "lengths" (.ref A.f_pushed_by_lengths)
  n_PUSHES_lengths : ∃ u, PySem.W.nsIn K A.k_PUSHES "lengths" = some (some u)
  n_len : mg "len" = none
  n_min : mg "min" = none
  n_range : mg "range" = none
  n_repr : mg "repr" = none
  n_isinstance : mg "isinstance" = none
  n_int : mg "int" = none
  n_bool : mg "bool" = none
  n_str : mg "str" = none
  n_sum : mg "sum" = none
set_option maxHeartbeats 0 in
theorem all_mk {K : PySem.W.Frag} {mg : Str → Option Value} {w : World} {h : Heap} {f_is_whole : Addr} {oc_is_whole doc_is_whole pm_is_whole cd_is_whole ct_is_whole kV_is_whole : Value} {od_is_whole an_is_whole : Option Addr} {osl_is_whole : Array (Option Value)} {f_need_number : Addr} {oc_need_number doc_need_number pm_need_number cd_need_number ct_need_number kV_need_number : Value} {od_need_number an_need_number : Option Addr} {osl_need_number : Array (Option Value)} {f_next_by_lengths : Addr} {oc_next_by_lengths doc_next_by_lengths pm_next_by_lengths cd_next_by_lengths ct_next_by_lengths kV_next_by_lengths : Value} {od_next_by_lengths an_next_by_lengths : Option Addr} {osl_next_by_lengths : Array (Option Value)} {f_pushed_by_lengths : Addr} {oc_pushed_by_lengths doc_pushed_by_lengths pm_pushed_by_lengths cd_pushed_by_lengths ct_pushed_by_lengths kV_pushed_by_lengths : Value} {od_pushed_by_lengths an_pushed_by_lengths : Option Addr} {osl_pushed_by_lengths : Array (Option Value)} {f_need_policy : Addr} {oc_need_policy doc_need_policy pm_need_policy cd_need_policy ct_need_policy kV_need_policy : Value} {od_need_policy an_need_policy : Option Addr} {osl_need_policy : Array (Option Value)} {C_RunStack : Addr} {D_RunStack : Addr} {f_RunStack___init__ : Addr} {oc_RunStack___init__ doc_RunStack___init__ pm_RunStack___init__ cd_RunStack___init__ ct_RunStack___init__ : Value} {od_RunStack___init__ an_RunStack___init__ : Option Addr} {osl_RunStack___init__ : Array (Option Value)} {f_RunStack_merge_near : Addr} {oc_RunStack_merge_near doc_RunStack_merge_near pm_RunStack_merge_near cd_RunStack_merge_near ct_RunStack_merge_near kV_RunStack_merge_near : Value} {od_RunStack_merge_near an_RunStack_merge_near : Option Addr} {osl_RunStack_merge_near : Array (Option Value)} {f_RunStack_pushed : Addr} {oc_RunStack_pushed doc_RunStack_pushed pm_RunStack_pushed cd_RunStack_pushed ct_RunStack_pushed kV_RunStack_pushed : Value} {od_RunStack_pushed an_RunStack_pushed : Option Addr} {osl_RunStack_pushed : Array (Option Value)} {f_least_lengths : Addr} {oc_least_lengths doc_least_lengths pm_least_lengths cd_least_lengths ct_least_lengths kV_least_lengths : Value} {od_least_lengths an_least_lengths : Option Addr} {osl_least_lengths : Array (Option Value)} {f_least_total : Addr} {oc_least_total doc_least_total pm_least_total cd_least_total ct_least_total kV_least_total : Value} {od_least_total an_least_total : Option Addr} {osl_least_total : Array (Option Value)} {f_deepest : Addr} {oc_deepest doc_deepest pm_deepest cd_deepest ct_deepest kV_deepest : Value} {od_deepest an_deepest : Option Addr} {osl_deepest : Array (Option Value)} {f__law_begun : Addr} {oc__law_begun doc__law_begun pm__law_begun cd__law_begun ct__law_begun kV__law_begun : Value} {od__law_begun an__law_begun : Option Addr} {osl__law_begun : Array (Option Value)} {f__law_take : Addr} {oc__law_take doc__law_take pm__law_take cd__law_take ct__law_take kV__law_take : Value} {od__law_take an__law_take : Option Addr} {osl__law_take : Array (Option Value)} {f__law_least : Addr} {oc__law_least doc__law_least pm__law_least cd__law_least ct__law_least kV__law_least : Value} {od__law_least an__law_least : Option Addr} {osl__law_least : Array (Option Value)} {f__law_merges : Addr} {oc__law_merges doc__law_merges pm__law_merges cd__law_merges ct__law_merges kV__law_merges : Value} {od__law_merges an__law_merges : Option Addr} {osl__law_merges : Array (Option Value)} {f__law_deepest_right : Addr} {oc__law_deepest_right doc__law_deepest_right pm__law_deepest_right cd__law_deepest_right ct__law_deepest_right kV__law_deepest_right : Value} {od__law_deepest_right an__law_deepest_right : Option Addr} {osl__law_deepest_right : Array (Option Value)} {f_law : Addr} {oc_law doc_law pm_law cd_law ct_law kV_law : Value} {od_law an_law : Option Addr} {osl_law : Array (Option Value)} {u_MOST_THINGS : Value} {u_MOST_DEPTH : Value} {k_PUSHES : Addr} {ke_PUSHES : Array DictEntry} {kn_PUSHES : Nat} (X : K.In h) (G : h.Ns mainGlobals mg)
    (a_is_whole : PySem.W.nsIn K mainGlobals "is_whole" = some (some (.ref f_is_whole)))
    (l_is_whole : K.lookup f_is_whole = some ⟨oc_is_whole, od_is_whole, .func (PySem.W.fnOf "is_whole" "is_whole" (defArgs s_is_whole) (defBody s_is_whole) (defScope s_is_whole) .none kV_is_whole doc_is_whole pm_is_whole an_is_whole cd_is_whole ct_is_whole), osl_is_whole⟩)
    (e_is_whole : PySem.W.codeIn K cd_is_whole "is_whole" = true)
    (k_is_whole : PySem.W.keepIn K (.ref f_is_whole) = true)
    (a_need_number : PySem.W.nsIn K mainGlobals "need_number" = some (some (.ref f_need_number)))
    (l_need_number : K.lookup f_need_number = some ⟨oc_need_number, od_need_number, .func (PySem.W.fnOf "need_number" "need_number" (defArgs s_need_number) (defBody s_need_number) (defScope s_need_number) .none kV_need_number doc_need_number pm_need_number an_need_number cd_need_number ct_need_number), osl_need_number⟩)
    (e_need_number : PySem.W.codeIn K cd_need_number "need_number" = true)
    (k_need_number : PySem.W.keepIn K (.ref f_need_number) = true)
    (a_next_by_lengths : PySem.W.nsIn K mainGlobals "next_by_lengths" = some (some (.ref f_next_by_lengths)))
    (l_next_by_lengths : K.lookup f_next_by_lengths = some ⟨oc_next_by_lengths, od_next_by_lengths, .func (PySem.W.fnOf "next_by_lengths" "next_by_lengths" (defArgs s_next_by_lengths) (defBody s_next_by_lengths) (defScope s_next_by_lengths) .none kV_next_by_lengths doc_next_by_lengths pm_next_by_lengths an_next_by_lengths cd_next_by_lengths ct_next_by_lengths), osl_next_by_lengths⟩)
    (e_next_by_lengths : PySem.W.codeIn K cd_next_by_lengths "next_by_lengths" = true)
    (k_next_by_lengths : PySem.W.keepIn K (.ref f_next_by_lengths) = true)
    (a_pushed_by_lengths : PySem.W.nsIn K mainGlobals "pushed_by_lengths" = some (some (.ref f_pushed_by_lengths)))
    (l_pushed_by_lengths : K.lookup f_pushed_by_lengths = some ⟨oc_pushed_by_lengths, od_pushed_by_lengths, .func (PySem.W.fnOf "pushed_by_lengths" "pushed_by_lengths" (defArgs s_pushed_by_lengths) (defBody s_pushed_by_lengths) (defScope s_pushed_by_lengths) .none kV_pushed_by_lengths doc_pushed_by_lengths pm_pushed_by_lengths an_pushed_by_lengths cd_pushed_by_lengths ct_pushed_by_lengths), osl_pushed_by_lengths⟩)
    (e_pushed_by_lengths : PySem.W.codeIn K cd_pushed_by_lengths "pushed_by_lengths" = true)
    (k_pushed_by_lengths : PySem.W.keepIn K (.ref f_pushed_by_lengths) = true)
    (a_need_policy : PySem.W.nsIn K mainGlobals "need_policy" = some (some (.ref f_need_policy)))
    (l_need_policy : K.lookup f_need_policy = some ⟨oc_need_policy, od_need_policy, .func (PySem.W.fnOf "need_policy" "need_policy" (defArgs s_need_policy) (defBody s_need_policy) (defScope s_need_policy) .none kV_need_policy doc_need_policy pm_need_policy an_need_policy cd_need_policy ct_need_policy), osl_need_policy⟩)
    (e_need_policy : PySem.W.codeIn K cd_need_policy "need_policy" = true)
    (k_need_policy : PySem.W.keepIn K (.ref f_need_policy) = true)
    (a_RunStack : PySem.W.nsIn K mainGlobals "RunStack" = some (some (.ref C_RunStack)))
    (pg_RunStack : PySem.W.plainGet K C_RunStack Str.empty = true)
    (hd_RunStack : PySem.W.hasDictIn K C_RunStack = true)
    (po_RunStack : PySem.W.plainOver K C_RunStack = true)
    (sa_RunStack : PySem.W.findIn K (.ref C_RunStack) "__setattr__" = some (some (.builtin "object.__setattr__")))
    (mk_RunStack : PySem.W.makesIn K C_RunStack = true)
    (kc_RunStack : PySem.W.keepIn K (.ref C_RunStack) = true)
    (na_RunStack_own_policy : PySem.W.findIn K (.ref C_RunStack) "own_policy" = some none)
    (na_RunStack_own_total : PySem.W.findIn K (.ref C_RunStack) "own_total" = some none)
    (na_RunStack_laid_lengths : PySem.W.findIn K (.ref C_RunStack) "laid_lengths" = some none)
    (na_RunStack_laid_powers : PySem.W.findIn K (.ref C_RunStack) "laid_powers" = some none)
    (a_RunStack___init__ : PySem.W.findIn K (.ref C_RunStack) "__init__" = some (some (.ref f_RunStack___init__)))
    (i_RunStack___init__ : PySem.W.isFn K (.ref f_RunStack___init__) = true)
    (l_RunStack___init__ : K.lookup f_RunStack___init__ = some ⟨oc_RunStack___init__, od_RunStack___init__, .func (PySem.W.fnOf "__init__" "RunStack.__init__" (defArgs s_RunStack___init__) (defBody s_RunStack___init__) (defScope s_RunStack___init__) .none (.ref D_RunStack) doc_RunStack___init__ pm_RunStack___init__ an_RunStack___init__ cd_RunStack___init__ ct_RunStack___init__), osl_RunStack___init__⟩)
    (e_RunStack___init__ : PySem.W.codeIn K cd_RunStack___init__ "RunStack.__init__" = true)
    (k_RunStack___init__ : PySem.W.keepIn K (.ref f_RunStack___init__) = true)
    (dd_RunStack : ∀ q ∈ ([("policy", .str "powers"), ("total", .non)] : List (Str × V)), ∃ u, PySem.W.nsIn K D_RunStack q.1 = some (some u) ∧ RelV q.2 u)
    (a_RunStack_merge_near : PySem.W.findIn K (.ref C_RunStack) "merge_near" = some (some (.ref f_RunStack_merge_near)))
    (i_RunStack_merge_near : PySem.W.isFn K (.ref f_RunStack_merge_near) = true)
    (l_RunStack_merge_near : K.lookup f_RunStack_merge_near = some ⟨oc_RunStack_merge_near, od_RunStack_merge_near, .func (PySem.W.fnOf "merge_near" "RunStack.merge_near" (defArgs s_RunStack_merge_near) (defBody s_RunStack_merge_near) (defScope s_RunStack_merge_near) .none kV_RunStack_merge_near doc_RunStack_merge_near pm_RunStack_merge_near an_RunStack_merge_near cd_RunStack_merge_near ct_RunStack_merge_near), osl_RunStack_merge_near⟩)
    (e_RunStack_merge_near : PySem.W.codeIn K cd_RunStack_merge_near "RunStack.merge_near" = true)
    (k_RunStack_merge_near : PySem.W.keepIn K (.ref f_RunStack_merge_near) = true)
    (a_RunStack_pushed : PySem.W.findIn K (.ref C_RunStack) "pushed" = some (some (.ref f_RunStack_pushed)))
    (i_RunStack_pushed : PySem.W.isFn K (.ref f_RunStack_pushed) = true)
    (l_RunStack_pushed : K.lookup f_RunStack_pushed = some ⟨oc_RunStack_pushed, od_RunStack_pushed, .func (PySem.W.fnOf "pushed" "RunStack.pushed" (defArgs s_RunStack_pushed) (defBody s_RunStack_pushed) (defScope s_RunStack_pushed) .none kV_RunStack_pushed doc_RunStack_pushed pm_RunStack_pushed an_RunStack_pushed cd_RunStack_pushed ct_RunStack_pushed), osl_RunStack_pushed⟩)
    (e_RunStack_pushed : PySem.W.codeIn K cd_RunStack_pushed "RunStack.pushed" = true)
    (k_RunStack_pushed : PySem.W.keepIn K (.ref f_RunStack_pushed) = true)
    (a_least_lengths : PySem.W.nsIn K mainGlobals "least_lengths" = some (some (.ref f_least_lengths)))
    (l_least_lengths : K.lookup f_least_lengths = some ⟨oc_least_lengths, od_least_lengths, .func (PySem.W.fnOf "least_lengths" "least_lengths" (defArgs s_least_lengths) (defBody s_least_lengths) (defScope s_least_lengths) .none kV_least_lengths doc_least_lengths pm_least_lengths an_least_lengths cd_least_lengths ct_least_lengths), osl_least_lengths⟩)
    (e_least_lengths : PySem.W.codeIn K cd_least_lengths "least_lengths" = true)
    (k_least_lengths : PySem.W.keepIn K (.ref f_least_lengths) = true)
    (a_least_total : PySem.W.nsIn K mainGlobals "least_total" = some (some (.ref f_least_total)))
    (l_least_total : K.lookup f_least_total = some ⟨oc_least_total, od_least_total, .func (PySem.W.fnOf "least_total" "least_total" (defArgs s_least_total) (defBody s_least_total) (defScope s_least_total) .none kV_least_total doc_least_total pm_least_total an_least_total cd_least_total ct_least_total), osl_least_total⟩)
    (e_least_total : PySem.W.codeIn K cd_least_total "least_total" = true)
    (k_least_total : PySem.W.keepIn K (.ref f_least_total) = true)
    (a_deepest : PySem.W.nsIn K mainGlobals "deepest" = some (some (.ref f_deepest)))
    (l_deepest : K.lookup f_deepest = some ⟨oc_deepest, od_deepest, .func (PySem.W.fnOf "deepest" "deepest" (defArgs s_deepest) (defBody s_deepest) (defScope s_deepest) .none kV_deepest doc_deepest pm_deepest an_deepest cd_deepest ct_deepest), osl_deepest⟩)
    (e_deepest : PySem.W.codeIn K cd_deepest "deepest" = true)
    (k_deepest : PySem.W.keepIn K (.ref f_deepest) = true)
    (a__law_begun : PySem.W.nsIn K mainGlobals "_law_begun" = some (some (.ref f__law_begun)))
    (l__law_begun : K.lookup f__law_begun = some ⟨oc__law_begun, od__law_begun, .func (PySem.W.fnOf "_law_begun" "_law_begun" (defArgs s_l_begun) (defBody s_l_begun) (defScope s_l_begun) .none kV__law_begun doc__law_begun pm__law_begun an__law_begun cd__law_begun ct__law_begun), osl__law_begun⟩)
    (e__law_begun : PySem.W.codeIn K cd__law_begun "_law_begun" = true)
    (k__law_begun : PySem.W.keepIn K (.ref f__law_begun) = true)
    (a__law_take : PySem.W.nsIn K mainGlobals "_law_take" = some (some (.ref f__law_take)))
    (l__law_take : K.lookup f__law_take = some ⟨oc__law_take, od__law_take, .func (PySem.W.fnOf "_law_take" "_law_take" (defArgs s_l_take) (defBody s_l_take) (defScope s_l_take) .none kV__law_take doc__law_take pm__law_take an__law_take cd__law_take ct__law_take), osl__law_take⟩)
    (e__law_take : PySem.W.codeIn K cd__law_take "_law_take" = true)
    (k__law_take : PySem.W.keepIn K (.ref f__law_take) = true)
    (a__law_least : PySem.W.nsIn K mainGlobals "_law_least" = some (some (.ref f__law_least)))
    (l__law_least : K.lookup f__law_least = some ⟨oc__law_least, od__law_least, .func (PySem.W.fnOf "_law_least" "_law_least" (defArgs s_l_least) (defBody s_l_least) (defScope s_l_least) .none kV__law_least doc__law_least pm__law_least an__law_least cd__law_least ct__law_least), osl__law_least⟩)
    (e__law_least : PySem.W.codeIn K cd__law_least "_law_least" = true)
    (k__law_least : PySem.W.keepIn K (.ref f__law_least) = true)
    (a__law_merges : PySem.W.nsIn K mainGlobals "_law_merges" = some (some (.ref f__law_merges)))
    (l__law_merges : K.lookup f__law_merges = some ⟨oc__law_merges, od__law_merges, .func (PySem.W.fnOf "_law_merges" "_law_merges" (defArgs s_l_merges) (defBody s_l_merges) (defScope s_l_merges) .none kV__law_merges doc__law_merges pm__law_merges an__law_merges cd__law_merges ct__law_merges), osl__law_merges⟩)
    (e__law_merges : PySem.W.codeIn K cd__law_merges "_law_merges" = true)
    (k__law_merges : PySem.W.keepIn K (.ref f__law_merges) = true)
    (a__law_deepest_right : PySem.W.nsIn K mainGlobals "_law_deepest_right" = some (some (.ref f__law_deepest_right)))
    (l__law_deepest_right : K.lookup f__law_deepest_right = some ⟨oc__law_deepest_right, od__law_deepest_right, .func (PySem.W.fnOf "_law_deepest_right" "_law_deepest_right" (defArgs s_l_deepest_right) (defBody s_l_deepest_right) (defScope s_l_deepest_right) .none kV__law_deepest_right doc__law_deepest_right pm__law_deepest_right an__law_deepest_right cd__law_deepest_right ct__law_deepest_right), osl__law_deepest_right⟩)
    (e__law_deepest_right : PySem.W.codeIn K cd__law_deepest_right "_law_deepest_right" = true)
    (k__law_deepest_right : PySem.W.keepIn K (.ref f__law_deepest_right) = true)
    (a_law : PySem.W.nsIn K mainGlobals "law" = some (some (.ref f_law)))
    (l_law : K.lookup f_law = some ⟨oc_law, od_law, .func (PySem.W.fnOf "law" "law" (defArgs s_law) (defBody s_law) (defScope s_law) .none kV_law doc_law pm_law an_law cd_law ct_law), osl_law⟩)
    (e_law : PySem.W.codeIn K cd_law "law" = true)
    (k_law : PySem.W.keepIn K (.ref f_law) = true)
    (g_MOST_THINGS : PySem.W.nsIn K mainGlobals "MOST_THINGS" = some (some u_MOST_THINGS))
    (r_MOST_THINGS : RelV (.int 4096) u_MOST_THINGS)
    (g_MOST_DEPTH : PySem.W.nsIn K mainGlobals "MOST_DEPTH" = some (some u_MOST_DEPTH))
    (r_MOST_DEPTH : RelV (.int 15) u_MOST_DEPTH)
    (g_PUSHES : PySem.W.nsIn K mainGlobals "PUSHES" = some (some (.ref k_PUSHES)))
    (at_PUSHES : K.lookup k_PUSHES = some ⟨.type "dict", none, .dict ke_PUSHES kn_PUSHES, #[]⟩)
    (lit_PUSHES : PySem.W.KeysLit w.params ke_PUSHES.toList)
    (low_PUSHES : (k_PUSHES == sysModules) = false)
    (q_PUSHES_lengths : PySem.W.nsIn K k_PUSHES "lengths" = some (some (.ref f_pushed_by_lengths)))
    (z_len : PySem.W.nsIn K mainGlobals "len" = some none)
    (z_min : PySem.W.nsIn K mainGlobals "min" = some none)
    (z_range : PySem.W.nsIn K mainGlobals "range" = some none)
    (z_repr : PySem.W.nsIn K mainGlobals "repr" = some none)
    (z_isinstance : PySem.W.nsIn K mainGlobals "isinstance" = some none)
    (z_int : PySem.W.nsIn K mainGlobals "int" = some none)
    (z_bool : PySem.W.nsIn K mainGlobals "bool" = some none)
    (z_str : PySem.W.nsIn K mainGlobals "str" = some none)
    (z_sum : PySem.W.nsIn K mainGlobals "sum" = some none)
    : ∃ A, Txt K mg w A :=
  ⟨⟨f_is_whole, f_need_number, f_next_by_lengths, f_pushed_by_lengths, f_need_policy, C_RunStack, f_RunStack___init__, f_RunStack_merge_near, f_RunStack_pushed, f_least_lengths, f_least_total, f_deepest, f__law_begun, f__law_take, f__law_least, f__law_merges, f__law_deepest_right, f_law, k_PUSHES, (PySem.W.fnOf "is_whole" "is_whole" (defArgs s_is_whole) (defBody s_is_whole) (defScope s_is_whole) .none kV_is_whole doc_is_whole pm_is_whole an_is_whole cd_is_whole ct_is_whole), (PySem.W.fnOf "need_number" "need_number" (defArgs s_need_number) (defBody s_need_number) (defScope s_need_number) .none kV_need_number doc_need_number pm_need_number an_need_number cd_need_number ct_need_number), (PySem.W.fnOf "next_by_lengths" "next_by_lengths" (defArgs s_next_by_lengths) (defBody s_next_by_lengths) (defScope s_next_by_lengths) .none kV_next_by_lengths doc_next_by_lengths pm_next_by_lengths an_next_by_lengths cd_next_by_lengths ct_next_by_lengths), (PySem.W.fnOf "pushed_by_lengths" "pushed_by_lengths" (defArgs s_pushed_by_lengths) (defBody s_pushed_by_lengths) (defScope s_pushed_by_lengths) .none kV_pushed_by_lengths doc_pushed_by_lengths pm_pushed_by_lengths an_pushed_by_lengths cd_pushed_by_lengths ct_pushed_by_lengths), (PySem.W.fnOf "need_policy" "need_policy" (defArgs s_need_policy) (defBody s_need_policy) (defScope s_need_policy) .none kV_need_policy doc_need_policy pm_need_policy an_need_policy cd_need_policy ct_need_policy), (PySem.W.fnOf "__init__" "RunStack.__init__" (defArgs s_RunStack___init__) (defBody s_RunStack___init__) (defScope s_RunStack___init__) .none (.ref D_RunStack) doc_RunStack___init__ pm_RunStack___init__ an_RunStack___init__ cd_RunStack___init__ ct_RunStack___init__), (PySem.W.fnOf "merge_near" "RunStack.merge_near" (defArgs s_RunStack_merge_near) (defBody s_RunStack_merge_near) (defScope s_RunStack_merge_near) .none kV_RunStack_merge_near doc_RunStack_merge_near pm_RunStack_merge_near an_RunStack_merge_near cd_RunStack_merge_near ct_RunStack_merge_near), (PySem.W.fnOf "pushed" "RunStack.pushed" (defArgs s_RunStack_pushed) (defBody s_RunStack_pushed) (defScope s_RunStack_pushed) .none kV_RunStack_pushed doc_RunStack_pushed pm_RunStack_pushed an_RunStack_pushed cd_RunStack_pushed ct_RunStack_pushed), (PySem.W.fnOf "least_lengths" "least_lengths" (defArgs s_least_lengths) (defBody s_least_lengths) (defScope s_least_lengths) .none kV_least_lengths doc_least_lengths pm_least_lengths an_least_lengths cd_least_lengths ct_least_lengths), (PySem.W.fnOf "least_total" "least_total" (defArgs s_least_total) (defBody s_least_total) (defScope s_least_total) .none kV_least_total doc_least_total pm_least_total an_least_total cd_least_total ct_least_total), (PySem.W.fnOf "deepest" "deepest" (defArgs s_deepest) (defBody s_deepest) (defScope s_deepest) .none kV_deepest doc_deepest pm_deepest an_deepest cd_deepest ct_deepest), (PySem.W.fnOf "_law_begun" "_law_begun" (defArgs s_l_begun) (defBody s_l_begun) (defScope s_l_begun) .none kV__law_begun doc__law_begun pm__law_begun an__law_begun cd__law_begun ct__law_begun), (PySem.W.fnOf "_law_take" "_law_take" (defArgs s_l_take) (defBody s_l_take) (defScope s_l_take) .none kV__law_take doc__law_take pm__law_take an__law_take cd__law_take ct__law_take), (PySem.W.fnOf "_law_least" "_law_least" (defArgs s_l_least) (defBody s_l_least) (defScope s_l_least) .none kV__law_least doc__law_least pm__law_least an__law_least cd__law_least ct__law_least), (PySem.W.fnOf "_law_merges" "_law_merges" (defArgs s_l_merges) (defBody s_l_merges) (defScope s_l_merges) .none kV__law_merges doc__law_merges pm__law_merges an__law_merges cd__law_merges ct__law_merges), (PySem.W.fnOf "_law_deepest_right" "_law_deepest_right" (defArgs s_l_deepest_right) (defBody s_l_deepest_right) (defScope s_l_deepest_right) .none kV__law_deepest_right doc__law_deepest_right pm__law_deepest_right an__law_deepest_right cd__law_deepest_right ct__law_deepest_right), (PySem.W.fnOf "law" "law" (defArgs s_law) (defBody s_law) (defScope s_law) .none kV_law doc_law pm_law an_law cd_law ct_law), ke_PUSHES, kn_PUSHES⟩,
    { c_is_whole := ⟨fun_mk l_is_whole e_is_whole k_is_whole, PySem.W.mg_of X G a_is_whole⟩
      c_need_number := ⟨fun_mk l_need_number e_need_number k_need_number, (fun_mk (st := s_need_number) l_need_number e_need_number k_need_number).binds (ps := ["thing", "least", "most"]) (fun _ _ _ _ _ _ us hl => match us, hl with | [_, _, _], _ => rfl), PySem.W.mg_of X G a_need_number⟩
      c_next_by_lengths := ⟨fun_mk l_next_by_lengths e_next_by_lengths k_next_by_lengths, (fun_mk (st := s_next_by_lengths) l_next_by_lengths e_next_by_lengths k_next_by_lengths).binds (ps := ["lengths"]) (fun _ _ _ _ _ _ us hl => match us, hl with | [_], _ => rfl), PySem.W.mg_of X G a_next_by_lengths⟩
      c_pushed_by_lengths := ⟨fun_mk l_pushed_by_lengths e_pushed_by_lengths k_pushed_by_lengths, (fun_mk (st := s_pushed_by_lengths) l_pushed_by_lengths e_pushed_by_lengths k_pushed_by_lengths).binds (ps := ["stack", "many"]) (fun _ _ _ _ _ _ us hl => match us, hl with | [_, _], _ => rfl), PySem.W.mg_of X G a_pushed_by_lengths⟩
      c_need_policy := ⟨fun_mk l_need_policy e_need_policy k_need_policy, (fun_mk (st := s_need_policy) l_need_policy e_need_policy k_need_policy).binds (ps := ["policy"]) (fun _ _ _ _ _ _ us hl => match us, hl with | [_], _ => rfl), PySem.W.mg_of X G a_need_policy⟩
      m_RunStack := PySem.W.mg_of X G a_RunStack
      cl_RunStack := ⟨pg_RunStack, hd_RunStack, po_RunStack, sa_RunStack⟩
      na_RunStack_own_policy := na_RunStack_own_policy
      na_RunStack_own_total := na_RunStack_own_total
      na_RunStack_laid_lengths := na_RunStack_laid_lengths
      na_RunStack_laid_powers := na_RunStack_laid_powers
      i_RunStack := ⟨⟨mk_RunStack, a_RunStack___init__, i_RunStack___init__, kc_RunStack⟩, ⟨⟨_, _, .none, .ref D_RunStack, _, _, _, _, _, _, rfl, l_RunStack___init__, e_RunStack___init__, Or.inl ⟨rfl, rfl⟩, Or.inr ⟨D_RunStack, rfl, dd_RunStack⟩⟩, k_RunStack___init__⟩⟩
      h_RunStack_merge_near := ⟨a_RunStack_merge_near, i_RunStack_merge_near, k_RunStack_merge_near⟩
      c_RunStack_merge_near := ⟨fun_mk l_RunStack_merge_near e_RunStack_merge_near k_RunStack_merge_near, (fun_mk (st := s_RunStack_merge_near) l_RunStack_merge_near e_RunStack_merge_near k_RunStack_merge_near).binds (ps := ["self", "at"]) (fun _ _ _ _ _ _ us hl => match us, hl with | [_, _], _ => rfl)⟩
      h_RunStack_pushed := ⟨a_RunStack_pushed, i_RunStack_pushed, k_RunStack_pushed⟩
      c_RunStack_pushed := ⟨fun_mk l_RunStack_pushed e_RunStack_pushed k_RunStack_pushed, (fun_mk (st := s_RunStack_pushed) l_RunStack_pushed e_RunStack_pushed k_RunStack_pushed).binds (ps := ["self", "many"]) (fun _ _ _ _ _ _ us hl => match us, hl with | [_, _], _ => rfl)⟩
      c_least_lengths := ⟨fun_mk l_least_lengths e_least_lengths k_least_lengths, (fun_mk (st := s_least_lengths) l_least_lengths e_least_lengths k_least_lengths).binds (ps := ["depth"]) (fun _ _ _ _ _ _ us hl => match us, hl with | [_], _ => rfl), PySem.W.mg_of X G a_least_lengths⟩
      c_least_total := ⟨fun_mk l_least_total e_least_total k_least_total, (fun_mk (st := s_least_total) l_least_total e_least_total k_least_total).binds (ps := ["depth"]) (fun _ _ _ _ _ _ us hl => match us, hl with | [_], _ => rfl), PySem.W.mg_of X G a_least_total⟩
      c_deepest := ⟨fun_mk l_deepest e_deepest k_deepest, (fun_mk (st := s_deepest) l_deepest e_deepest k_deepest).binds (ps := ["total"]) (fun _ _ _ _ _ _ us hl => match us, hl with | [_], _ => rfl), PySem.W.mg_of X G a_deepest⟩
      c__law_begun := ⟨fun_mk l__law_begun e__law_begun k__law_begun, (fun_mk (st := s_l_begun) l__law_begun e__law_begun k__law_begun).binds (ps := ["_law_script", "_law_k"]) (fun _ _ _ _ _ _ us hl => match us, hl with | [_, _], _ => rfl), PySem.W.mg_of X G a__law_begun⟩
      c__law_take := ⟨fun_mk l__law_take e__law_take k__law_take, (fun_mk (st := s_l_take) l__law_take e__law_take k__law_take).binds (ps := ["_law_draw", "_law_below"]) (fun _ _ _ _ _ _ us hl => match us, hl with | [_, _], _ => rfl), PySem.W.mg_of X G a__law_take⟩
      c__law_least := ⟨fun_mk l__law_least e__law_least k__law_least, (fun_mk (st := s_l_least) l__law_least e__law_least k__law_least).binds (ps := ["_law_deep"]) (fun _ _ _ _ _ _ us hl => match us, hl with | [_], _ => rfl), PySem.W.mg_of X G a__law_least⟩
      c__law_merges := ⟨fun_mk l__law_merges e__law_merges k__law_merges, (fun_mk (st := s_l_merges) l__law_merges e__law_merges k__law_merges).binds (ps := ["_law_runs"]) (fun _ _ _ _ _ _ us hl => match us, hl with | [_], _ => rfl), PySem.W.mg_of X G a__law_merges⟩
      c__law_deepest_right := ⟨fun_mk l__law_deepest_right e__law_deepest_right k__law_deepest_right, (fun_mk (st := s_l_deepest_right) l__law_deepest_right e__law_deepest_right k__law_deepest_right).binds (ps := ["_law_number"]) (fun _ _ _ _ _ _ us hl => match us, hl with | [_], _ => rfl), PySem.W.mg_of X G a__law_deepest_right⟩
      c_law := ⟨fun_mk l_law e_law k_law, (fun_mk (st := s_law) l_law e_law k_law).binds (ps := ["_law_script"]) (fun _ _ _ _ _ _ us hl => match us, hl with | [_], _ => rfl), PySem.W.mg_of X G a_law⟩
      g_MOST_THINGS := ⟨_, PySem.W.mg_of X G g_MOST_THINGS, r_MOST_THINGS⟩
      g_MOST_DEPTH := ⟨_, PySem.W.mg_of X G g_MOST_DEPTH, r_MOST_DEPTH⟩
      g_PUSHES := ⟨_, PySem.W.mg_of X G g_PUSHES, rfl⟩
      d_PUSHES := ⟨at_PUSHES, lit_PUSHES, low_PUSHES⟩
      q_PUSHES_lengths := ⟨_, _, _, at_PUSHES, lit_PUSHES, q_PUSHES_lengths, rfl⟩
      n_PUSHES_lengths := ⟨_, q_PUSHES_lengths⟩
      n_len := PySem.W.mg_none_of X G z_len
      n_min := PySem.W.mg_none_of X G z_min
      n_range := PySem.W.mg_none_of X G z_range
      n_repr := PySem.W.mg_none_of X G z_repr
      n_isinstance := PySem.W.mg_none_of X G z_isinstance
      n_int := PySem.W.mg_none_of X G z_int
      n_bool := PySem.W.mg_none_of X G z_bool
      n_str := PySem.W.mg_none_of X G z_str
      n_sum := PySem.W.mg_none_of X G z_sum }⟩

section
variable {P : Program} {w : World} {K : PySem.W.Frag} {mg : Str → Option Value} {base : Heap} {A : Ad}
theorem ok_is_whole (T : Txt K mg w A) : FnOk P w K mg base CX0 1 A.f_is_whole A.d_is_whole ["thing", "least", "most"] sp_whole := by
  refine T.c_is_whole.F.ok sc_is_whole (fun vs H Q E h => ?_) (fun cdv Ar outer s H vs Q E hr h => ?_)
  · obtain ⟨t, l, m, rfl, _⟩ := h; rfl
  · obtain ⟨t, l, m, rfl, k⟩ := h
    refine ⟨_, (pss_one (ps_ret (pe_and (pe_callB call_isi (by rfl) T.n_isinstance PyProof.Rows.boot_isinstance (pa_cons (pv 0) (pa_cons (pe_bltn (v := .ty "int") rfl T.n_int PyProof.Rows.boot_int rfl) pa_nil))) (pe_and (pe_not (pe_callB call_isi (by rfl) T.n_isinstance PyProof.Rows.boot_isinstance (pa_cons (pv 0) (pa_cons (pe_bltn (v := .ty "bool") rfl T.n_bool PyProof.Rows.boot_bool rfl) pa_nil)))) (pe_one (pe_chain op_le op_le (pv 1) (pv 0) (pv 2))))))), ?_⟩
    walk_at "st"
    have ki := Kin.int (K := K) (H := H) t
    walk_at "rd"
    refine rd_isi ki (kit_int _) ?_
    walk_at "rd"
    show if true = true then _ else _
    walk_at "rd"
    refine rd_isi ki (kit_bool _) ?_
    walk_at "rd"
    show if true = true then _ else _
    walk_at "rd"
    refine rd_dec ?_ ?_ <;> intro h1
    · walk_at "rd"
      rw [decide_eq_true h1, Bool.true_and] at k
      exact k
    · rw [decide_eq_false h1, Bool.false_and] at k
      exact k
theorem kb_is_whole (T : Txt K mg w A) : KBn K A.d_is_whole ["thing", "least", "most"] 1 ["least", "most"] (fun us ws => us ++ ws) (fun us ws => us ++ ws) := by
  obtain ⟨oc, od, kV, doc, pm, an, cdv, ct, osl, e, lk, hcd⟩ := T.c_is_whole.F.ex
  rw [e]
  refine ⟨fun s us ws _ h1 h2 => ?_, fun r1 r2 => r1.append r2⟩
  match us, h1, ws, h2 with
  | [u], _, [a, b], _ => exact .of_eq rfl
theorem ok_need_number (T : Txt K mg w A) : FnOk P w K mg base CX0 2 A.f_need_number A.d_need_number ["thing", "least", "most"] sp_need := by
  have G_is_whole : FnOk P w K mg base CX0 1 A.f_is_whole A.d_is_whole ["thing", "least", "most"] sp_whole := ok_is_whole T
  refine T.c_need_number.F.ok sc_need_number (fun vs H Q E h => ?_) (fun cdv Ar outer s H vs Q E hr h => ?_)
  · obtain ⟨t, l, m, rfl, _⟩ := h; rfl
  · obtain ⟨t, l, m, rfl, h1, h2, k⟩ := h
    refine ⟨_, (pss_one (ps_if (pt_not (pt_val (pe_callN G_is_whole (hr.mono (by decide)) rfl T.c_is_whole.m T.c_is_whole.F.kp (kb_is_whole T) pass0 (pa_cons (pv 0) pa_nil) (pk_cons (pv 1) (pk_cons (pv 2) pk_nil)))))
        (pss_one ps_never)
        pss_nil)), ?_⟩
    walk_at "st"
    walk_at "rd"
    refine ⟨rfl, rfl, t, l, m, rfl, ?_⟩
    rw [decide_eq_true h1, decide_eq_true h2]
    walk_at "rd"
    show if false = true then _ else _
    walk_at "rd"
    exact k
theorem atI_bk {ns : List Int} {k : Nat} (h0 : 0 < k) (h : k ≤ ns.length) : atI (ns.map V.int) (-(k : Int)) = some (.int (bk ns k)) := by
  have h1 : ns.length - k < ns.length := by omega
  have e : ixN (ns.map V.int).length (-(k : Int)) = some (ns.length - k) := by
    unfold ixN
    rw [if_neg (by omega), if_pos (by simp; omega), List.length_map]
    congr 1
    omega
  unfold atI
  rw [e]
  show (ns.map V.int)[ns.length - k]? = _
  rw [List.getElem?_map]
  unfold bk
  rw [List.getD_eq_getElem?_getD, List.getElem?_eq_getElem h1]
  rfl
theorem ix1 {ns : List Int} (h : 1 ≤ ns.length) : atI (ns.map V.int) (-1) = some (.int (bk ns 1)) := atI_bk (k := 1) (by decide) h
theorem ix2 {ns : List Int} (h : 2 ≤ ns.length) : atI (ns.map V.int) (-2) = some (.int (bk ns 2)) := atI_bk (k := 2) (by decide) h
theorem ix3 {ns : List Int} (h : 3 ≤ ns.length) : atI (ns.map V.int) (-3) = some (.int (bk ns 3)) := atI_bk (k := 3) (by decide) h
theorem ix4 {ns : List Int} (h : 4 ≤ ns.length) : atI (ns.map V.int) (-4) = some (.int (bk ns 4)) := atI_bk (k := 4) (by decide) h
local macro_rules | `(tactic| walk_at "rd1") => `(tactic|
  ((with_reducible refine' Rs.rd_ixL (by assumption) ?m ?e ?_); (case m => (walk_at "mem"; done)); (case e => first | exact K36.ix1 (by omega) | exact K36.ix2 (by omega) | exact K36.ix3 (by omega) | exact K36.ix4 (by omega))))
theorem ok_next (T : Txt K mg w A) : FnOk P w K mg base CX0 1 A.f_next_by_lengths A.d_next_by_lengths ["lengths"] sp_next := by
  refine T.c_next_by_lengths.F.ok sc_next_by_lengths (fun vs H Q E h => ?_) (fun cdv Ar outer s H vs Q E hr h => ?_)
  · obtain ⟨l, ns, rfl, _⟩ := h; rfl
  · obtain ⟨l, ns, rfl, hl, k⟩ := h
    refine ⟨_, (pss_cons (ps_set (i := 1) sc_next_by_lengths.nd rfl (Or.inl rfl) (pe_callB call_len_seq (by rfl) T.n_len PySem.boot_len (pa_cons (pv 0) pa_nil)))
      (pss_cons (ps_if (PW.pt (pw_or (PW.pt (pw_and (pt_cmpR op_gt (pv 1) pe_int (nomark _)) (pw_and1 (pt_cmpR op_le (pe_ix ix_list (pv 0) (pe_un un_neg pe_int) (fun _ _ => rfl)) (pe_op op_add (pe_ix ix_list (pv 0) (pe_un un_neg pe_int) (fun _ _ => rfl)) (pe_ix ix_list (pv 0) (pe_un un_neg pe_int) (fun _ _ => rfl))) (nomark _))))) (pw_or1 (PW.pt (pw_and (pt_cmpR op_gt (pv 1) pe_int (nomark _)) (pw_and1 (pt_cmpR op_le (pe_ix ix_list (pv 0) (pe_un un_neg pe_int) (fun _ _ => rfl)) (pe_op op_add (pe_ix ix_list (pv 0) (pe_un un_neg pe_int) (fun _ _ => rfl)) (pe_ix ix_list (pv 0) (pe_un un_neg pe_int) (fun _ _ => rfl))) (nomark _))))))))
        (pss_one (ps_ret (pe_ifExp (pt_cmpR op_lt (pe_ix ix_list (pv 0) (pe_un un_neg pe_int) (fun _ _ => rfl)) (pe_ix ix_list (pv 0) (pe_un un_neg pe_int) (fun _ _ => rfl)) (nomark _)) (pe_op op_sub (pv 1) pe_int) (pe_op op_sub (pv 1) pe_int))))
        pss_nil)
      (pss_one (ps_ret (pe_ifExp (PW.pt (pw_and (pt_cmpR op_gt (pv 1) pe_int (nomark _)) (pw_and1 (pt_cmpR op_le (pe_ix ix_list (pv 0) (pe_un un_neg pe_int) (fun _ _ => rfl)) (pe_ix ix_list (pv 0) (pe_un un_neg pe_int) (fun _ _ => rfl)) (nomark _))))) (pe_op op_sub (pv 1) pe_int) pe_non))))), ?_⟩
    have S := Hs.start1 hl [] (.inl rfl)
    have k1 : ∀ r, nextL ns = r → Q (optV r) H := fun r e => e ▸ k
    clear k
    walk_at "st"
    walk_at "rd"
    rw [List.length_map]
    walk_at "cut"
    all_goals first
      | refine k1 (some _) ?_
      | refine k1 none ?_
    all_goals unfold nextL
    all_goals (repeat' split)
    all_goals first
      | rfl
      | (exfalso; omega)
theorem ok_lengths (T : Txt K mg w A) : FnOk P w K mg base CX0 1 A.f_least_lengths A.d_least_lengths ["depth"] sp_lengths := by
  refine T.c_least_lengths.F.ok sc_least_lengths (fun vs H Q E h => ?_) (fun cdv Ar outer s H vs Q E hr h => ?_)
  · obtain ⟨d, rfl, _⟩ := h; rfl
  · obtain ⟨d, rfl, hd, k⟩ := h
    refine ⟨_, (pss_cons (ps_set (i := 1) sc_least_lengths.nd rfl (Or.inl rfl) (pe_lst pa_nil))
      (pss_cons (ps_for PassesOwn.never rfl (pi_range1 rfl T.n_range (pa_cons (pv 0) pa_nil)) (pg_name (i := 2) sc_least_lengths.nd rfl (Or.inl rfl))
        (pss_one (ps_expr (pe_bm PySem.F.plainAttrs_list PySem.F.slot_list_append PySem.F.type_list_append mt_append (pv 1) (pa_cons (pe_op op_add pe_int (pe_callB (cr_sum rfl) (by rfl) T.n_sum PyProof.Rows.boot_sum (pa_cons (pe_slice sl_list (pv 1) (po_some (pe_un un_neg pe_int)) po_none) pa_nil))) pa_nil)))))
      (pss_one (ps_ret (pv 1))))), ?_⟩
    have S := Hs.start0 H
    walk_at "st"
    walk_at "rd"
    rename_i p H1 hp S1
    refine fw_range (fun i σ H' => ∃ o, σ = [some (.int d), some (.ref p), o] ∧ Hs H [] H' [(p, .lst ((fwd i).map V.int))]) ⟨_, rfl, S1⟩ ?_ ?_
    · rintro i σ H' hi ⟨o, rfl, S⟩
      have hz : (fwd i).length ≤ 16 := by rw [len_fwd]; omega
      walk_at "rd"
      rename_i S'
      refine ⟨_, rfl, ?_⟩
      have e : (fwd (i + 1)).map V.int = (fwd i).map V.int ++ [V.int (1 + (cutI (fwd i) (some (-2)) none).sum)] := by simp [fwd]
      rw [e]
      exact S'.sub (by walk_at "sub")
    · rintro σ H' ⟨o, rfl, S⟩
      rw [Int.toNat_natCast] at S
      walk_at "rd"
      apply k
      all_goals walk_at "end"
theorem ok_total (T : Txt K mg w A) : FnOk P w K mg base CX0 3 A.f_least_total A.d_least_total ["depth"] sp_total := by
  have G_least_lengths : FnOk P w K mg base CX0 1 A.f_least_lengths A.d_least_lengths ["depth"] sp_lengths := ok_lengths T
  have G_need_number : FnOk P w K mg base CX0 2 A.f_need_number A.d_need_number ["thing", "least", "most"] sp_need := ok_need_number T
  refine T.c_least_total.F.ok sc_least_total (fun vs H Q E h => ?_) (fun cdv Ar outer s H vs Q E hr h => ?_)
  · obtain ⟨d, rfl, _⟩ := h; rfl
  · obtain ⟨d, rfl, hd, k⟩ := h
    refine ⟨_, (pss_cons (ps_expr (pe_call G_need_number (hr.mono (by decide)) rfl T.c_need_number.m T.c_need_number.F.kp T.c_need_number.b .nil pass0 (pa_cons (pv 0) (pa_cons pe_int (pa_cons (pe_gl rfl T.g_MOST_DEPTH) pa_nil)))))
      (pss_one (ps_ret (pe_callB (cr_sum rfl) (by rfl) T.n_sum PyProof.Rows.boot_sum (pa_cons (pe_call G_least_lengths (hr.mono (by decide)) rfl T.c_least_lengths.m T.c_least_lengths.F.kp T.c_least_lengths.b .nil pass0 (pa_cons (pv 0) pa_nil)) pa_nil))))), ?_⟩
    have S := Hs.start0 H
    walk_at "st"
    walk_at "rd"
    refine ⟨d, 0, 15, rfl, by omega, by omega, ?_⟩
    walk_at "rd"
    refine ⟨d, rfl, hd, fun p H1 hp e sm => ?_⟩
    obtain ⟨h0, S1⟩ := S.more1 sm hp e
    walk_at "rd"
    have e2 : (fwd d).sum = tot d := by rw [fwd_lst d hd, List.sum_reverse]; rfl
    rw [e2]
    apply k
    all_goals walk_at "end"
end
end K36

namespace K36
open PySem L2 Rs
/-! the stack's attributes -/
def flds (l p : Addr) : List (Str × V) := [("own_policy", .str "lengths"), ("own_total", .non), ("laid_lengths", .ref l), ("laid_powers", .ref p)]
theorem fl_policy (l p : Addr) : (flds l p).lookup ("own_policy" : Str) = some (.str "lengths") := by rfl
theorem fl_total (l p : Addr) : (flds l p).lookup ("own_total" : Str) = some .non := by rfl
theorem fl_lengths (l p : Addr) : (flds l p).lookup ("laid_lengths" : Str) = some (.ref l) := by rfl
theorem fl_powers (l p : Addr) : (flds l p).lookup ("laid_powers" : Str) = some (.ref p) := by rfl
theorem fl_near (l p : Addr) : (flds l p).lookup ("merge_near" : Str) = none := by rfl
theorem fl_pushed (l p : Addr) : (flds l p).lookup ("pushed" : Str) = none := by rfl
theorem fl_put (l p : Addr) : putF "laid_powers" (.ref p) (putF "laid_lengths" (.ref l) (putF "own_total" .non (putF "own_policy" (.str "lengths") []))) = flds l p := by rfl
local macro_rules | `(tactic| walk_at "fv") => `(tactic| first | exact K36.fl_policy _ _ | exact K36.fl_total _ _ | exact K36.fl_lengths _ _ | exact K36.fl_powers _ _ | exact K36.fl_near _ _ | exact K36.fl_pushed _ _)
def mergedL (ns : List Int) (i : Nat) : List Int := ns.take i ++ [ns.getD i 0 + ns.getD (i + 1) 0] ++ ns.drop (i + 2)
theorem cut2 {ns : List Int} {i : Nat} (h : i + 2 ≤ ns.length) : cutI ns (some (i : Int)) (some ((i : Int) + 2)) = [ns.getD i 0, ns.getD (i + 1) 0] := by
  unfold cutI
  have e1 : HT.sIx ns.length 0 (some (i : Int)) = i := by
    unfold HT.sIx
    simp
    split <;> omega
  have e2 : HT.sIx ns.length ns.length (some ((i : Int) + 2)) = i + 2 := by
    unfold HT.sIx
    simp
    split <;> omega
  rw [e1, e2, show i + 2 - i = 2 by omega]
  have d1 : ns.drop i = ns.getD i 0 :: ns.drop (i + 1) := by
    rw [List.drop_eq_getElem_cons (by omega), List.getD_eq_getElem?_getD, List.getElem?_eq_getElem (by omega)]; rfl
  have d2 : ns.drop (i + 1) = ns.getD (i + 1) 0 :: ns.drop (i + 2) := by
    rw [List.drop_eq_getElem_cons (by omega), List.getD_eq_getElem?_getD, List.getElem?_eq_getElem (by omega)]; rfl
  rw [d1, d2]
  rfl
/-! the promises -/
def sp_init (C : Addr) : Sp := fun vs H Q _ => ∃ (x dx : Addr), vs = [.ref x, .str "lengths", .non] ∧ H x = some (.ins C dx []) ∧
  ∀ (l p : Addr) (H' : Hp), NewL H H' [(p, .lst []), (l, .lst [])] → H' x = some (.ins C dx (flds l p)) → (∀ b o, H b = some o → b ≠ x → H' b = some o) → Q .non H'
/-- the stack as it stands -/
structure RsAt (C : Addr) (H : Hp) (x dx l p : Addr) (ns : List Int) : Prop where
  hx : H x = some (.ins C dx (flds l p))
  hl : H l = some (.lst (ns.map V.int))
  hp : H p = some (.lst [])
  ne : l ≠ p
theorem RsAt.led {C : Addr} {H : Hp} {x dx l p : Addr} {ns : List Int} (R : RsAt C H x dx l p ns) : Hs H [l] H [(x, .ins C dx (flds l p)), (l, .lst (ns.map V.int)), (p, .lst [])] := by
  have h1 : x ≠ l := ne_of R.hx R.hl (by intro z; cases z)
  have h2 : x ≠ p := ne_of R.hx R.hp (by intro z; cases z)
  refine Hs.start H [l] _ (by simp [h1, h2, R.ne]) ?_ ?_
  · intro q hq
    simp only [List.mem_cons, List.not_mem_nil, or_false] at hq
    rcases hq with rfl | rfl | rfl
    · exact R.hx
    · exact R.hl
    · exact R.hp
  · intro b hb
    have e : b = l := by simpa using hb
    subst e
    rw [R.hl]; simp
def sp_near (C : Addr) : Sp := fun vs H Q _ => ∃ (x dx l p : Addr) (ns : List Int) (i : Nat), vs = [.ref x, .int i] ∧ RsAt C H x dx l p ns ∧ i + 2 ≤ ns.length ∧ ns.length ≤ 4096 ∧
  ∀ (q : Addr) (a b c : Int) (H' : Hp), NewL H H' [(q, .tup [.int a, .int b, .int c])] → H' l = some (.lst ((mergedL ns i).map V.int)) → (∀ b o, H b = some o → b ≠ l → H' b = some o) → Q (.ref q) H'
def sp_push (C : Addr) : Sp := fun vs H Q _ => ∃ (x dx l p : Addr) (ns : List Int) (m : Int), vs = [.ref x, .int m] ∧ RsAt C H x dx l p ns ∧ ns.length ≤ 4000 ∧ 1 ≤ m ∧ ns.sum + m ≤ 4096 ∧
  ∀ (f : Addr) (rs : List V) (T : Led) (ns' : List Int) (H' : Hp), NewL H H' ((f, .lst rs) :: T) → TupL rs T → (rs = [] ↔ nextL (ns ++ [m]) = none) → (rs = [] → ns' = ns ++ [m]) → ns'.sum = ns.sum + m → ns'.length ≤ ns.length + 1 → rs.length ≤ ns.length →
    H' l = some (.lst (ns'.map V.int)) → (∀ b o, H b = some o → b ≠ l → H' b = some o) → Q (.ref f) H'
section
variable {P : Program} {w : World} {K : PySem.W.Frag} {mg : Str → Option Value} {base : Heap} {A : Ad} {H H0 : Hp} {M : List Addr} {L L' : Led} {Q : VK} {E : XK}
theorem ok_policy (T : Txt K mg w A) : FnOk P w K mg base CX0 1 A.f_need_policy A.d_need_policy ["policy"] sp_policy := by
  refine T.c_need_policy.F.ok sc_need_policy (fun vs H Q E h => ?_) (fun cdv Ar outer s H vs Q E hr h => ?_)
  · obtain ⟨rfl, _⟩ := h; rfl
  · obtain ⟨rfl, k⟩ := h
    refine ⟨_, (pss_one (ps_if (PW.pt (pw_or (pt_not (pt_val (pe_callB call_isi (by rfl) T.n_isinstance PyProof.Rows.boot_isinstance (pa_cons (pv 0) (pa_cons (pe_bltn (v := .ty "str") rfl T.n_str PyProof.Rows.boot_str rfl) pa_nil))))) (pw_or1 (pt_cmpR (op_notIn_kd T.d_PUSHES) (pv 0) (pe_gl rfl T.g_PUSHES) (by rfl)))))
        (pss_one ps_never)
        pss_nil)), ?_⟩
    walk_at "st"
    walk_at "rd"
    refine rd_isi (.str _) (kit_str _) ?_
    walk_at "rd"
    show if false = true then _ else _
    walk_at "rd"
    obtain ⟨u, hu⟩ := T.n_PUSHES_lengths
    refine ⟨_, _, rfl, rfl, hu, ?_⟩
    walk_at "rd"
    show if false = true then _ else _
    walk_at "rd"
    exact k
theorem ok_init (T : Txt K mg w A) : FnOk P w K mg base CX0 2 A.f_RunStack___init__ A.d_RunStack___init__ ["self", "policy", "total"] (sp_init A.C_RunStack) := by
  have G_need_policy : FnOk P w K mg base CX0 1 A.f_need_policy A.d_need_policy ["policy"] sp_policy := ok_policy T
  have hC := T.cl_RunStack
  have n1 := T.na_RunStack_own_policy
  have n2 := T.na_RunStack_own_total
  have n3 := T.na_RunStack_laid_lengths
  have n4 := T.na_RunStack_laid_powers
  refine T.i_RunStack.F.ok sc_RunStack___init__ (fun vs H Q E h => ?_) (fun cdv Ar outer s H vs Q E hr h => ?_)
  · obtain ⟨x, dx, rfl, _⟩ := h; rfl
  · obtain ⟨x, dx, rfl, hx, k⟩ := h
    refine ⟨_, (pss_cons (ps_expr (pe_call G_need_policy (hr.mono (by decide)) rfl T.c_need_policy.m T.c_need_policy.F.kp T.c_need_policy.b .nil pass0 (pa_cons (pv 1) pa_nil)))
      (pss_cons (ps_if (PW.pt (pw_or (PW.pt (pw_and (pt_cmpR op_eq (pv 1) pe_str (nomark _)) (pw_and1 (pt_cmpR op_notN (pv 2) pe_non (nomark _))))) (pw_or1 (PW.pt (pw_and (pt_cmpR op_eq (pv 1) pe_str (nomark _)) (pw_and1 (pt_not (pt_val pe_nev))))))))
        (pss_one ps_never)
        pss_nil)
      (pss_cons (ps_fld (pv 0) (pv 1) rfl)
      (pss_cons (ps_fld (pv 0) (pv 2) rfl)
      (pss_cons (ps_fld (pv 0) (pe_lst pa_nil) rfl)
      (pss_one (ps_fld (pv 0) (pe_lst pa_nil) rfl))))))), ?_⟩
    have S := Hs.start1 hx [x] (.inr rfl)
    walk_at "st"
    walk_at "rd"
    refine ⟨rfl, ?_⟩
    walk_at "rd"
    refine rd_decT rfl ?_
    walk_at "rd"
    show if false = true then _ else _
    walk_at "rd"
    refine rd_decF (by decide +kernel) ?_
    walk_at "rd"
    rename_i S4
    rw [fl_put] at S4
    refine k _ _ _ (S4.news (by walk_at "sub") ?_) ?_ ?_
    · intro q hq
      simp only [List.mem_cons, List.not_mem_nil, or_false] at hq
      rcases hq with rfl | rfl <;> assumption
    all_goals walk_at "end"
theorem ok_near (T : Txt K mg w A) : FnOk P w K mg base CX0 1 A.f_RunStack_merge_near A.d_RunStack_merge_near ["self", "at"] (sp_near A.C_RunStack) := by
  have hC := T.cl_RunStack
  have n1 := T.na_RunStack_own_policy
  have n2 := T.na_RunStack_own_total
  have n3 := T.na_RunStack_laid_lengths
  have n4 := T.na_RunStack_laid_powers
  refine T.c_RunStack_merge_near.F.ok sc_RunStack_merge_near (fun vs H Q E h => ?_) (fun cdv Ar outer s H vs Q E hr h => ?_)
  · obtain ⟨x, dx, l, p, ns, i, rfl, _⟩ := h; rfl
  · obtain ⟨x, dx, l, p, ns, i, rfl, R, hi, hn, k⟩ := h
    refine ⟨_, (pss_cons (ps_set (i := 2) sc_RunStack_merge_near.nd rfl (Or.inl rfl) (pe_callB (cr_sum rfl) (by rfl) T.n_sum PyProof.Rows.boot_sum (pa_cons (pe_slice sl_list (pe_fld (pv 0) rfl) po_none (po_some (pv 1))) pa_nil)))
      (pss_cons (ps_asg (pe_slice sl_list (pe_fld (pv 0) rfl) (po_some (pv 1)) (po_some (pe_op op_add (pv 1) pe_int))) (pg_unl rfl (pgs_cons (pg_name (i := 3) sc_RunStack_merge_near.nd rfl (Or.inl rfl)) (pgs_cons (pg_name (i := 4) sc_RunStack_merge_near.nd rfl (Or.inl rfl)) pgs_nil))))
      (pss_cons (ps_asg (pe_lst (pa_cons (pe_op op_add (pv 3) (pv 4)) pa_nil)) (pg_slc (pe_fld (pv 0) rfl) (po_some (pv 1)) (po_some (pe_op op_add (pv 1) pe_int))))
      (pss_cons (ps_if (pt_cmpR (op_neD hr.units) (pe_fld (pv 0) rfl) (pe_lst pa_nil) (nomark _))
        (pss_one (ps_expr (pe_bm PySem.F.plainAttrs_list PySem.F.slot_list_pop PySem.F.type_list_pop mt_popAt (pe_fld (pv 0) rfl) (pa_cons (pv 1) pa_nil))))
        pss_nil)
      (pss_one (ps_ret (pe_tup (pa_cons (pv 2) (pa_cons (pe_op op_add (pv 2) (pv 3)) (pa_cons (pe_op op_add (pe_op op_add (pv 2) (pv 3)) (pv 4)) pa_nil)))))))))), ?_⟩
    have S := R.led
    walk_at "st"
    walk_at "rd"
    have e2 : cutI ns (some (i : Int)) (some ((i : Int) + 2)) = [ns.getD i 0, ns.getD (i + 1) 0] := cut2 hi
    rename_i S4
    rw [e2] at S4
    simp only [List.map_cons, List.map_nil] at S4
    walk_at "rd"
    refine gt_slcV (zs := (mergedL ns i).map V.int) (by assumption) (by walk_at "chg") (by walk_at "mem") (ne_of_none R.hl (by assumption)) (by walk_at "own") (by omega) (by omega) ?_ ?_ ?_ fun H5 S5 => ?_
    · simp; omega
    · refine Rs.sz ?_; simp; omega
    · have e3 : ((i : Int)).toNat = i := by omega
      have e4 : ((i : Int) + 2).toNat = i + 2 := by omega
      rw [e3, e4]
      simp [mergedL]
    clear S4
    walk_at "rd"
    refine rd_neIs (ns := []) (ms := []) (by assumption) (by walk_at "mem") (by walk_at "mem") (by rfl) (by rfl) ?_
    walk_at "rd"
    refine rd_decF (by simp) ?_
    walk_at "rd"
    rename_i S6
    refine k _ _ _ _ _ (S6.news (by walk_at "sub") ?_) ?_ ?_
    · intro q hq
      simp only [List.mem_cons, List.not_mem_nil, or_false] at hq
      rcases hq with rfl
      assumption
    all_goals walk_at "end"
end
end K36

namespace K36
open PySem L2 Rs
local macro_rules | `(tactic| walk_at "fv") => `(tactic| first | exact K36.fl_policy _ _ | exact K36.fl_total _ _ | exact K36.fl_lengths _ _ | exact K36.fl_powers _ _ | exact K36.fl_near _ _ | exact K36.fl_pushed _ _)
theorem split2 {ns : List Int} {i : Nat} (h : i + 2 ≤ ns.length) : ns = ns.take i ++ ns.getD i 0 :: ns.getD (i + 1) 0 :: ns.drop (i + 2) := by
  have d1 : ns.drop i = ns.getD i 0 :: ns.drop (i + 1) := by
    rw [List.drop_eq_getElem_cons (by omega), List.getD_eq_getElem?_getD, List.getElem?_eq_getElem (by omega)]; rfl
  have d2 : ns.drop (i + 1) = ns.getD (i + 1) 0 :: ns.drop (i + 2) := by
    rw [List.drop_eq_getElem_cons (by omega), List.getD_eq_getElem?_getD, List.getElem?_eq_getElem (by omega)]; rfl
  rw [← d2, ← d1, List.take_append_drop]
theorem merged_sum {ns : List Int} {i : Nat} (h : i + 2 ≤ ns.length) : (mergedL ns i).sum = ns.sum := by
  have e := congrArg List.sum (split2 h)
  rw [e]
  simp [mergedL]
  omega
theorem merged_len {ns : List Int} {i : Nat} (h : i + 2 ≤ ns.length) : (mergedL ns i).length + 1 = ns.length := by
  simp [mergedL]
  omega
theorem next_some {ns : List Int} {r : Int} (h : nextL ns = some r) : ∃ k : Nat, r = k ∧ k + 2 ≤ ns.length := by
  unfold nextL at h
  split at h
  · rename_i c
    split at h
    · exact ⟨ns.length - 3, by simp at h; omega, by omega⟩
    · exact ⟨ns.length - 2, by simp at h; omega, by omega⟩
  · split at h
    · exact ⟨ns.length - 2, by simp at h; omega, by omega⟩
    · cases h
section
variable {P : Program} {w : World} {K : PySem.W.Frag} {mg : Str → Option Value} {base : Heap} {A : Ad} {H H0 : Hp} {M : List Addr} {L L' : Led} {Q : VK} {E : XK}
theorem use_next {l : Addr} {ns : List Int} (S : Hs H0 M H L) (m : (l, HO.lst (ns.map V.int)) ∈ L) (k : Q (optV (nextL ns)) H) : sp_next [.ref l] H Q E := ⟨l, ns, rfl, S.is _ m, k⟩
theorem use_near {C x dx l p : Addr} {ns : List Int} {i : Nat} {F : HO → Led} (S : Hs H0 M H L) (mx : (x, HO.ins C dx (flds l p)) ∈ L) (mp : (p, HO.lst []) ∈ L) (ne : l ≠ p) (ch : ∀ o', Chg l (.lst (ns.map V.int)) o' L (F o')) (own : H0 l = none ∨ l ∈ M) (hi : i + 2 ≤ ns.length) (hn : ns.length ≤ 4096)
    (h : ∀ (q : Addr) (a b c : Int) (H' : Hp), H0 q = none → Hs H0 M H' ((q, .tup [.int a, .int b, .int c]) :: F (.lst ((mergedL ns i).map V.int))) → Q (.ref q) H') : sp_near C [.ref x, .int i] H Q E := by
  refine ⟨x, dx, l, p, ns, i, rfl, ⟨S.is _ mx, S.is _ (ch (.lst [])).mem, S.is _ mp, ne⟩, hi, hn, fun q a b c H' n e old => ?_⟩
  obtain ⟨h0, S'⟩ := S.oneN (ch _) own old e n
  exact h q a b c H' (h0 _ List.mem_cons_self) S'
theorem use_push {C x dx l p : Addr} {ns : List Int} {m : Int} {F : HO → Led} (S : Hs H0 M H L) (mx : (x, HO.ins C dx (flds l p)) ∈ L) (mp : (p, HO.lst []) ∈ L) (ne : l ≠ p) (ch : ∀ o', Chg l (.lst (ns.map V.int)) o' L (F o')) (own : H0 l = none ∨ l ∈ M) (hn : ns.length ≤ 4000) (hm : 1 ≤ m) (hs : ns.sum + m ≤ 4096)
    (h : ∀ (f : Addr) (rs : List V) (T : Led) (ns' : List Int) (H' : Hp), H0 f = none → (∀ q ∈ T, H0 q.1 = none) → Hs H0 M H' ((f, .lst rs) :: T ++ F (.lst (ns'.map V.int))) → TupL rs T → (rs = [] ↔ nextL (ns ++ [m]) = none) → (rs = [] → ns' = ns ++ [m]) → ns'.sum = ns.sum + m → ns'.length ≤ ns.length + 1 → rs.length ≤ ns.length → Q (.ref f) H') : sp_push C [.ref x, .int m] H Q E := by
  refine ⟨x, dx, l, p, ns, m, rfl, ⟨S.is _ mx, S.is _ (ch (.lst [])).mem, S.is _ mp, ne⟩, hn, hm, hs, fun f rs T ns' H' n t a1 a2 a3 a4 a5 e old => ?_⟩
  obtain ⟨h0, S'⟩ := S.oneN (ch _) own old e n
  exact h f rs T ns' H' (h0 _ List.mem_cons_self) (fun q hq => h0 _ (List.mem_cons_of_mem _ hq)) S' t a1 a2 a3 a4 a5
theorem ok_pushby (T : Txt K mg w A) : FnOk P w K mg base CX0 2 A.f_pushed_by_lengths A.d_pushed_by_lengths ["stack", "many"] (sp_push A.C_RunStack) := by
  have G_next_by_lengths : FnOk P w K mg base CX0 1 A.f_next_by_lengths A.d_next_by_lengths ["lengths"] sp_next := ok_next T
  have G_RunStack_merge_near : FnOk P w K mg base CX0 1 A.f_RunStack_merge_near A.d_RunStack_merge_near ["self", "at"] (sp_near A.C_RunStack) := ok_near T
  have hC := T.cl_RunStack
  have n1 := T.na_RunStack_own_policy
  have n2 := T.na_RunStack_own_total
  have n3 := T.na_RunStack_laid_lengths
  have n4 := T.na_RunStack_laid_powers
  refine T.c_pushed_by_lengths.F.ok sc_pushed_by_lengths (fun vs H Q E h => ?_) (fun cdv Ar outer s H vs Q E hr h => ?_)
  · obtain ⟨x, dx, l, p, ns, m, rfl, _⟩ := h; rfl
  · obtain ⟨x, dx, l, p, ns, m, rfl, R, hn, hm, hs, k⟩ := h
    refine ⟨_, (pss_cons (ps_expr (pe_bm PySem.F.plainAttrs_list PySem.F.slot_list_append PySem.F.type_list_append mt_append (pe_fld (pv 0) rfl) (pa_cons (pv 1) pa_nil)))
      (pss_cons (ps_set (i := 2) sc_pushed_by_lengths.nd rfl (Or.inl rfl) (pe_lst pa_nil))
      (pss_cons (ps_set (i := 3) sc_pushed_by_lengths.nd rfl (Or.inl rfl) (pe_call G_next_by_lengths (hr.mono (by decide)) rfl T.c_next_by_lengths.m T.c_next_by_lengths.F.kp T.c_next_by_lengths.b .nil pass0 (pa_cons (pe_fld (pv 0) rfl) pa_nil)))
      (pss_cons (ps_while PassesOwn.never (pt_cmpR op_notN (pv 3) pe_non (nomark _))
        (pss_cons (ps_expr (pe_bm PySem.F.plainAttrs_list PySem.F.slot_list_append PySem.F.type_list_append mt_append (pv 2) (pa_cons (pe_meth (pv 0) T.cl_RunStack T.h_RunStack_merge_near G_RunStack_merge_near (hr.mono (by decide)) T.c_RunStack_merge_near.b .nil pass0 (pa_cons (pv 3) pa_nil)) pa_nil)))
        (pss_one (ps_set (i := 3) sc_pushed_by_lengths.nd rfl (Or.inl rfl) (pe_call G_next_by_lengths (hr.mono (by decide)) rfl T.c_next_by_lengths.m T.c_next_by_lengths.F.kp T.c_next_by_lengths.b .nil pass0 (pa_cons (pe_fld (pv 0) rfl) pa_nil))))))
      (pss_one (ps_ret (pv 2))))))), ?_⟩
    have S := R.led
    have hz : ns.length + 1 ≤ 5000 := by omega
    walk_at "st"
    walk_at "rd"
    rename_i f H1 hf S1
    have e : ns.map V.int ++ [V.int m] = (ns ++ [m]).map V.int := by simp
    rw [e] at S1
    refine use_next (by assumption) (by walk_at "mem") ?_
    walk_at "rd"
    refine rd_while (fun n σ H' => ∃ (rs : List V) (T : Led) (ns' : List Int), σ = [some (.ref x), some (.int m), some (.ref f), some (optV (nextL ns'))] ∧ Hs H [l] H' ((f, .lst rs) :: (x, .ins A.C_RunStack dx (flds l p)) :: (l, .lst (ns'.map V.int)) :: (p, .lst []) :: T) ∧ TupL rs T ∧
      (∀ q ∈ T, H q.1 = none) ∧ n = ns'.length ∧ ns'.sum = ns.sum + m ∧ 1 ≤ ns'.length ∧ rs.length + ns'.length ≤ ns.length + 1 ∧ (rs = [] → ns' = ns ++ [m]) ∧ (rs ≠ [] → nextL (ns ++ [m]) ≠ none)) _
      ⟨[], [], ns ++ [m], rfl, S1, TupL.nil, fun q h => (nomatch h), rfl, by simp, by simp, by simp, fun _ => rfl, fun h => absurd rfl h⟩ ?_
    rintro n σ H' ⟨rs, T', ns', rfl, S, ht, hT, rfl, b1, b2, b3, b4, b5⟩
    cases en : nextL ns' with
    | none =>
      walk_at "rd"
      show if false = true then _ else _
      walk_at "rd"
      have hrs : rs = [] ↔ nextL (ns ++ [m]) = none := by
        refine ⟨fun z => ?_, fun z => ?_⟩
        · rw [← b4 z]; exact en
        · by_cases z2 : rs = []
          · exact z2
          · exact absurd z (b5 z2)
      have S2 : Hs H [l] H' ((f, .lst rs) :: T') := S.sub (by walk_at "sub")
      refine k f rs T' ns' H' (S2.news (List.Sublist.refl _) ?_) ht hrs b4 b1 (by omega) (by omega) (S.get (by walk_at "mem")) (fun b o e hb => S.old1 e hb)
      intro q hq
      rcases List.mem_cons.mp hq with rfl | hq
      · exact hf
      · exact hT q hq
    | some r =>
      obtain ⟨i, rfl, hi⟩ := next_some en
      walk_at "rd"
      show if true = true then _ else _
      walk_at "rd"
      refine use_near (F := fun o => (f, .lst rs) :: (x, .ins A.C_RunStack dx (flds l p)) :: (l, o) :: (p, .lst []) :: T') (by assumption) (by walk_at "mem") (by walk_at "mem") R.ne (by walk_at "chgF") (by walk_at "own") hi (by omega) fun q a b c H2 hq S2 => ?_
      have hz2 : rs.length ≤ 5000 := by omega
      walk_at "rd"
      refine use_next (by assumption) (by walk_at "mem") ?_
      walk_at "rd"
      rename_i S3
      have hml := merged_len hi
      refine ⟨_, ?_, rs ++ [V.ref q], (q, .tup [.int a, .int b, .int c]) :: T', mergedL ns' i, rfl, S3.perm (List.perm_middle (l₁ := [_, _, _, _])), ht.snoc q [a, b, c], ?_, rfl, by rw [merged_sum hi]; exact b1, by omega, ?_, ?_, ?_⟩
      · omega
      · intro z hz
        rcases List.mem_cons.mp hz with rfl | hz
        · exact hq
        · exact hT z hz
      · simp; omega
      · intro z; simp at z
      · intro _ z
        by_cases z2 : rs = []
        · rw [b4 z2, z] at en
          cases en
        · exact b5 z2 z
theorem ok_pushed (T : Txt K mg w A) : FnOk P w K mg base CX0 3 A.f_RunStack_pushed A.d_RunStack_pushed ["self", "many"] (sp_push A.C_RunStack) := by
  have G_pushed_by_lengths : FnOk P w K mg base CX0 2 A.f_pushed_by_lengths A.d_pushed_by_lengths ["stack", "many"] (sp_push A.C_RunStack) := ok_pushby T
  have G_need_number : FnOk P w K mg base CX0 2 A.f_need_number A.d_need_number ["thing", "least", "most"] sp_need := ok_need_number T
  have hC := T.cl_RunStack
  have n1 := T.na_RunStack_own_policy
  have n2 := T.na_RunStack_own_total
  have n3 := T.na_RunStack_laid_lengths
  have n4 := T.na_RunStack_laid_powers
  refine T.c_RunStack_pushed.F.ok sc_RunStack_pushed (fun vs H Q E h => ?_) (fun cdv Ar outer s H vs Q E hr h => ?_)
  · obtain ⟨x, dx, l, p, ns, m, rfl, _⟩ := h; rfl
  · obtain ⟨x, dx, l, p, ns, m, rfl, R, hn, hm, hs, k⟩ := h
    refine ⟨_, (pss_cons (ps_set (i := 2) sc_RunStack_pushed.nd rfl (Or.inl rfl) (pe_ifExp (pt_cmpR op_isN (pe_fld (pv 0) rfl) pe_non (nomark _)) (pe_gl rfl T.g_MOST_THINGS) (pe_fld (pv 0) rfl)))
      (pss_cons (ps_expr (pe_call G_need_number (hr.mono (by decide)) rfl T.c_need_number.m T.c_need_number.F.kp T.c_need_number.b .nil pass0 (pa_cons (pv 1) (pa_cons pe_int (pa_cons (pe_op op_sub (pv 2) (pe_callB (cr_sum rfl) (by rfl) T.n_sum PyProof.Rows.boot_sum (pa_cons (pe_fld (pv 0) rfl) pa_nil))) pa_nil)))))
      (pss_cons (ps_set (i := 3) sc_RunStack_pushed.nd rfl (Or.inl rfl) (pe_ix ix_kdict (pe_gl rfl T.g_PUSHES) (pe_fld (pv 0) rfl) (fun _ _ => rfl)))
      (pss_one (ps_ret (pe_callL (i := 3) G_pushed_by_lengths (hr.mono (by decide)) rfl (Or.inl rfl) T.c_pushed_by_lengths.F.kp T.c_pushed_by_lengths.b .nil pass0 (pa_cons (pv 0) (pa_cons (pv 1) pa_nil)))))))), ?_⟩
    have S := R.led
    walk_at "st"
    walk_at "rd"
    show if true = true then _ else _
    walk_at "rd"
    refine ⟨m, 1, 4096 - ns.sum, rfl, hm, by omega, ?_⟩
    walk_at "rd"
    refine ⟨_, _, _, rfl, rfl, T.q_PUSHES_lengths, ?_⟩
    walk_at "rd"
    refine rd_callL rfl ?_
    walk_at "rd"
    exact ⟨x, dx, l, p, ns, m, rfl, R, hn, hm, hs, k⟩
end
end K36

namespace K36
open PySem L2 Rs
local macro_rules | `(tactic| walk_at "val") => `(tactic| first | exact drw_left _ _ _ | exact drw_cell _ _ _ | exact drw_at _ _ _)
local macro_rules | `(tactic| walk_at "put") => `(tactic| first | exact put_left _ _ _ _ | exact put_at _ _ _ _ | exact merge_drw _ _ _)
local macro_rules | `(tactic| walk_at "fv") => `(tactic| first | exact K36.fl_policy _ _ | exact K36.fl_total _ _ | exact K36.fl_lengths _ _ | exact K36.fl_powers _ _ | exact K36.fl_near _ _ | exact K36.fl_pushed _ _)
def sp_merges : Sp := fun vs H Q _ => ∃ (a : Addr) (runs : List Int), vs = [.ref a] ∧ H a = some (.lst (runs.map V.int)) ∧ (∀ x ∈ runs, 1 ≤ x) ∧ runs.sum ≤ 4096 ∧ runs.length ≤ 20 ∧
  ∀ (f : Addr) (rs : List V) (T : Led) (H' : Hp), NewL H H' ((f, .lst rs) :: T) → TupL rs T → (rs = [] ↔ quiet runs = true) → Same H H' → Q (.ref f) H'
section
variable {P : Program} {w : World} {K : PySem.W.Frag} {mg : Str → Option Value} {base : Heap} {A : Ad} {H H0 : Hp} {M : List Addr} {L L' : Led} {Q : VK} {E : XK}
theorem ok_take (T : Txt K mg w A) : FnOk P w K mg base CX0 1 A.f__law_take A.d__law_take ["_law_draw", "_law_below"] sp_take := by
  refine T.c__law_take.F.ok sc_l_take (fun vs H Q E h => ?_) (fun cdv Ar outer s H vs Q E hr h => ?_)
  · obtain ⟨d, l, c, a, n, rfl, _⟩ := h; rfl
  · obtain ⟨d, l, c, a, n, rfl, hd, hn1, hn2, ha1, ha2, k⟩ := h
    have hu := hu_of hr
    refine ⟨_, (pss_cons (ps_if (pt_cmpR op_gt (pe_dget hu (pv 0) pe_str (fun _ _ => rfl)) pe_int (nomark _))
        (pss_cons (ps_set (i := 2) sc_l_take.nd rfl (Or.inl rfl) (pe_op op_mod (pe_dget hu (pv 0) pe_str (fun _ _ => rfl)) (pv 1)))
        (pss_cons (ps_dput hu (pv 0) pe_str (pe_op op_fdivW (pe_dget hu (pv 0) pe_str (fun _ _ => rfl)) (pv 1)) rfl)
        (pss_one (ps_ret (pv 2)))))
        pss_nil)
      (pss_cons (ps_set (i := 3) sc_l_take.nd rfl (Or.inl rfl) (pe_op op_add (pe_dget hu (pv 0) pe_str (fun _ _ => rfl)) pe_int))
      (pss_cons (ps_dput hu (pv 0) pe_str (pv 3) rfl)
      (pss_cons (ps_set (i := 4) sc_l_take.nd rfl (Or.inl rfl) (pe_ix ix_list (pe_lst (pa_cons pe_int (pa_cons pe_int (pa_cons pe_int (pa_cons pe_int (pa_cons pe_int pa_nil)))))) (pe_op op_mod (pv 3) pe_int) (fun _ _ => rfl)))
      (pss_cons (ps_set (i := 5) sc_l_take.nd rfl (Or.inl rfl) (pe_op op_mod (pe_op op_mul (pe_op op_add (pe_op op_add (pe_op op_add (pe_op op_mod (pe_dget hu (pv 0) pe_str (fun _ _ => rfl)) (pv 4)) (pe_op op_mul (pe_op op_mul pe_int (pv 3)) (pv 3))) (pe_op op_mul pe_int (pv 3))) pe_int) pe_int) (pv 4)))
      (pss_one (ps_ret (pe_op op_mod (pe_op op_mod (pe_op op_mul (pv 5) (pe_op op_add (pe_op op_mod (pv 5) pe_int) pe_int)) pe_int) (pv 1))))))))), ?_⟩
    have S := Hs.start1 hd [d] (.inr rfl)
    walk_at "st"
    walk_at "rd"
    refine rd_dec ?_ ?_ <;> intro hb
    · walk_at "rd"
      apply k
      all_goals walk_at "end"
    · walk_at "rd"
      refine rd_ixAny (by assumption) (by walk_at "mem") (by assumption) (by simpa using (by assumption)) fun v hv _ => ?_
      obtain ⟨q, rfl, hq1, hq2⟩ : ∃ q, v = V.int q ∧ 0 < q ∧ q < 2 ^ 31 := by
        simp only [List.mem_cons, List.not_mem_nil, or_false] at hv
        rcases hv with rfl | rfl | rfl | rfl | rfl <;> exact ⟨_, rfl, by decide, by decide⟩
      walk_at "rd"
      apply k
      all_goals walk_at "end"
theorem use_take {d : Addr} {l c a n : Int} {F : HO → Led} (S : Hs H0 M H L) (ch : ∀ o', Chg d (.dK (drw l c a)) o' L (F o')) (own : H0 d = none ∨ d ∈ M) (h1 : 1 ≤ n) (h2 : n < 2 ^ 60) (h3 : 0 ≤ a) (h4 : a < 2 ^ 40)
    (h : ∀ (r l' a' : Int) (H' : Hp), Hs H0 M H' (F (.dK (drw l' c a'))) → 0 ≤ r → r < n → a ≤ a' → a' ≤ a + 1 → Q (.int r) H') : sp_take [.ref d, .int n] H Q E :=
  ⟨d, l, c, a, n, rfl, S.is _ (ch (.dK [])).mem, h1, h2, h3, h4, fun r l' a' H' e k b1 b2 b3 b4 => h r l' a' H' (S.one (ch _) own k e) b1 b2 b3 b4⟩
theorem ok_begun (T : Txt K mg w A) : FnOk P w K mg base CX0 1 A.f__law_begun A.d__law_begun ["_law_script", "_law_k"] (sp_begun K) := by
  refine T.c__law_begun.F.ok sc_l_begun (fun vs H Q E h => ?_) (fun cdv Ar outer s H vs Q E hr h => ?_)
  · obtain ⟨x, ns, kk, rfl, _⟩ := h; rfl
  · obtain ⟨x, ns, kk, rfl, hs, hk1, hk2, k⟩ := h
    refine ⟨_, (pss_cons (ps_par (i := 2) (j := 3) rfl sc_l_begun.nd rfl rfl (by decide) rfl rfl (pa_cons (pe_slice3 (pv 0) (po_some (pv 1)) po_none (po_some pe_int)) (pa_cons pe_int pa_nil)) (by rfl))
      (pss_cons (ps_for PassesOwn.never rfl (pi_list (pv 2)) (pg_name (i := 4) sc_l_begun.nd rfl (Or.inl rfl))
        (pss_one (ps_set (i := 3) sc_l_begun.nd rfl (Or.inl rfl) (pe_op op_add (pe_op op_mul (pv 3) pe_int) (pv 4)))))
      (pss_cons (ps_set (i := 5) sc_l_begun.nd rfl (Or.inl rfl) (pe_ifExp (PW.pt (pw_and (pt_cmpR (op_neD hr.units) (pv 2) (pe_lst pa_nil) (nomark _)) (pw_and1 (pt_cmpR op_ge (pe_ix ix_list (pv 2) pe_int (fun _ _ => rfl)) (pe_op op_pow pe_int pe_int) (nomark _))))) (pe_ix ix_list (pv 2) pe_int (fun _ _ => rfl)) pe_int))
      (pss_one (ps_ret (pe_disp (pps_cons pe_str (pv 5) (pps_cons pe_str (pv 3) (pps_cons pe_str (pe_op op_mul pe_int (pv 1)) pps_nil))) (by rfl) (by rfl) (fun z => by cases z) (by decide))))))), ?_⟩
    have S := Hs.start0 H
    walk_at "st"
    walk_at "rd"
    refine ⟨x, _, rfl, S.sq hs (fun z => nomatch z), by simp, ?_⟩
    walk_at "rd"
    rename_i p H1 hp S1
    obtain ⟨ks, ek, _⟩ := pick_ints ns (some kk) none (some 7)
    rw [ek] at S1
    refine fw_list (xs := ks.map V.int) (fun i σ H' => ∃ (f : Int) (o : Option V), σ = [some (.ref x), some (.int kk), some (.ref p), some (.int f), o, none] ∧ Hs H [] H' [(p, .lst (ks.map V.int))]) ⟨7, none, rfl, by assumption⟩ (fun i σ H' _ h => by
      obtain ⟨f, o, _, S⟩ := h
      exact S.lst (by walk_at "mem")) ?_ ?_
    · rintro i y σ H' hi ⟨f, o, rfl, S⟩
      obtain ⟨z, _, rfl⟩ := List.mem_map.mp (List.mem_of_getElem? hi)
      walk_at "rd"
      exact ⟨_, _, rfl, S⟩
    · rintro σ H' ⟨f, o, rfl, S⟩
      walk_at "rd"
      refine rd_neIs (ns := ks) (ms := []) (by assumption) (by walk_at "mem") (by walk_at "mem") (by rfl) (by rfl) ?_
      walk_at "rd"
      refine rd_dec ?_ ?_ <;> intro hc
      · walk_at "rd"
        obtain ⟨z, zs, rfl⟩ : ∃ z zs, ks = z :: zs := by
          cases ks with
          | nil => exact absurd rfl hc
          | cons z zs => exact ⟨z, zs, rfl⟩
        have e0 : atI ((z :: zs).map V.int) 0 = some (V.int z) := atI_nat (j := 0) rfl
        walk_at "rd"
        refine rd_dec ?_ ?_ <;> intro hd <;> walk_at "rd"
        · apply k
          all_goals walk_at "end"
        · apply k
          all_goals walk_at "end"
      · walk_at "rd"
        apply k
        all_goals walk_at "end"
theorem ok_least (T : Txt K mg w A) : FnOk P w K mg base CX0 1 A.f__law_least A.d__law_least ["_law_deep"] sp_least := by
  refine T.c__law_least.F.ok sc_l_least (fun vs H Q E h => ?_) (fun cdv Ar outer s H vs Q E hr h => ?_)
  · obtain ⟨d, rfl, _⟩ := h; rfl
  · obtain ⟨d, rfl, hd, k⟩ := h
    refine ⟨_, (pss_cons (ps_set (i := 1) sc_l_least.nd rfl (Or.inl rfl) (pe_lst pa_nil))
      (pss_cons (ps_for PassesOwn.never rfl (pi_range1 rfl T.n_range (pa_cons (pv 0) pa_nil)) (pg_name (i := 2) sc_l_least.nd rfl (Or.inl rfl))
        (pss_one (ps_set (i := 1) sc_l_least.nd rfl (Or.inl rfl) (pe_op op_cat (pe_lst (pa_cons (pe_op op_add pe_int (pe_callB (cr_sum rfl) (by rfl) T.n_sum PyProof.Rows.boot_sum (pa_cons (pe_slice sl_list (pv 1) po_none (po_some pe_int)) pa_nil))) pa_nil)) (pv 1)))))
      (pss_one (ps_ret (pv 1))))), ?_⟩
    have S := Hs.start0 H
    walk_at "st"
    walk_at "rd"
    rename_i p H1 hp S1
    refine fw_range (fun i σ H' => ∃ o p, σ = [some (.int d), some (.ref p), o] ∧ H p = none ∧ Hs H [] H' [(p, .lst ((lst i).map V.int))]) ⟨_, _, rfl, hp, S1⟩ ?_ ?_
    · rintro i σ H' hi ⟨o, p, rfl, hp, S⟩
      have hz : (lst i).length ≤ 16 := by rw [len_lst]; omega
      walk_at "rd"
      rename_i S'
      exact ⟨_, _, rfl, by assumption, S'.sub (List.Sublist.cons_cons _ (List.nil_sublist _))⟩
    · rintro σ H' ⟨o, p, rfl, hp, S⟩
      rw [Int.toNat_natCast] at S
      walk_at "rd"
      apply k
      all_goals walk_at "end"
theorem ok_deepest (T : Txt K mg w A) : FnOk P w K mg base CX0 4 A.f_deepest A.d_deepest ["total"] sp_deepest := by
  have G_least_lengths : FnOk P w K mg base CX0 1 A.f_least_lengths A.d_least_lengths ["depth"] sp_lengths := ok_lengths T
  have G_least_total : FnOk P w K mg base CX0 3 A.f_least_total A.d_least_total ["depth"] sp_total := ok_total T
  have G_need_number : FnOk P w K mg base CX0 2 A.f_need_number A.d_need_number ["thing", "least", "most"] sp_need := ok_need_number T
  refine T.c_deepest.F.ok sc_deepest (fun vs H Q E h => ?_) (fun cdv Ar outer s H vs Q E hr h => ?_)
  · obtain ⟨n, rfl, _⟩ := h; rfl
  · obtain ⟨n, rfl, hn0, hn1, k⟩ := h
    refine ⟨_, (pss_cons (ps_expr (pe_call G_need_number (hr.mono (by decide)) rfl T.c_need_number.m T.c_need_number.F.kp T.c_need_number.b .nil pass0 (pa_cons (pv 0) (pa_cons pe_int (pa_cons (pe_gl rfl T.g_MOST_THINGS) pa_nil)))))
      (pss_cons (ps_set (i := 1) sc_deepest.nd rfl (Or.inl rfl) pe_int)
      (pss_cons (ps_while PassesOwn.never (pt_cmpR op_le (pe_call G_least_total (hr.mono (by decide)) rfl T.c_least_total.m T.c_least_total.F.kp T.c_least_total.b .nil pass0 (pa_cons (pe_op op_add (pv 1) pe_int) pa_nil)) (pv 0) (nomark _))
        (pss_one (ps_aug (i := 1) sc_deepest.nd rfl (Or.inl rfl) pe_int ip_add)))
      (pss_cons (ps_if (pt_cmpR op_eq (pv 1) pe_int (nomark _))
        (pss_one (ps_ret (pe_lst pa_nil)))
        pss_nil)
      (pss_cons (ps_set (i := 2) sc_deepest.nd rfl (Or.inl rfl) (pe_revL (pe_call G_least_lengths (hr.mono (by decide)) rfl T.c_least_lengths.m T.c_least_lengths.F.kp T.c_least_lengths.b .nil pass0 (pa_cons (pe_op op_sub (pv 1) pe_int) pa_nil))))
      (pss_one (ps_ret (pe_op op_cat (pe_lst (pa_cons (pe_op op_sub (pv 0) (pe_callB (cr_sum rfl) (by rfl) T.n_sum PyProof.Rows.boot_sum (pa_cons (pv 2) pa_nil))) pa_nil)) (pv 2))))))))), ?_⟩
    have S := Hs.start0 H
    walk_at "st"
    walk_at "rd"
    refine ⟨n, 0, 4096, rfl, hn0, hn1, ?_⟩
    walk_at "rd"
    refine rd_while (fun m σ H' => ∃ d : Nat, σ = [some (.int n), some (.int d), none] ∧ Hs H [] H' [] ∧ m = 15 - d ∧ d ≤ 14 ∧ tot d ≤ n) 15 ⟨0, rfl, S, rfl, by omega, hn0⟩ ?_
    rintro m σ H' ⟨d, rfl, S, rfl, hd, ht⟩
    walk_at "rd"
    refine ⟨d + 1, by simp, by omega, fun H2 sm => ?_⟩
    have S2 := S.more sm
    walk_at "rd"
    refine rd_dec ?_ ?_ <;> intro hc
    · walk_at "rd"
      have d14 : d ≠ 14 := fun z => by
        subst z
        have := tot_val
        simp only [show 14 + 1 = 15 from rfl] at hc
        omega
      exact ⟨15 - (d + 1), by omega, d + 1, rfl, S2, rfl, by omega, hc⟩
    · have ed : dep n = d := dep_of hn0 hn1 (by omega) ht (by omega)
      walk_at "rd"
      refine rd_dec ?_ ?_ <;> intro hd0
      · walk_at "rd"
        have z : deepL n = [] := by unfold deepL; rw [if_pos (by omega)]
        rw [z, List.map_nil] at k
        apply k
        all_goals walk_at "end"
      · walk_at "rd"
        refine ⟨d - 1, by rw [show ((d : Int) - 1) = ((d - 1 : Nat) : Int) by omega], by omega, fun p H3 hp e3 sm3 => ?_⟩
        obtain ⟨h03, S3⟩ := S2.more1 sm3 hp e3
        walk_at "rd"
        rename_i p4 H4 hp4 S4
        have e4 : ((fwd (d - 1)).map V.int).reverse = (lst (d - 1)).map V.int := by rw [← List.map_reverse, fwd_lst _ (by omega), List.reverse_reverse]
        rw [e4] at S4
        have hz : (lst (d - 1)).length ≤ 16 := by rw [len_lst]; omega
        walk_at "rd"
        have z : deepL n = (n - (lst (d - 1)).sum) :: lst (d - 1) := by unfold deepL; rw [if_neg (by omega), ed]
        rw [z] at k
        rename_i S5
        refine k _ _ (by assumption) (S5.get List.mem_cons_self) S5.same
theorem kb_init (T : Txt K mg w A) : ∃ mv : List Value, KBn K A.d_RunStack___init__ ["self", "policy", "total"] 1 ["policy"] (fun us ws => us ++ ws ++ mv) (fun vs zs => vs ++ zs ++ [.non]) := by
  refine T.i_RunStack.F.kbinds0 1 ["policy"] [("total", .non)] (fun us mv ws => us ++ ws ++ mv) (by simp) (by simp) (fun r1 r2 r3 => (r1.append r3).append r2) ?_
  intro D doc pm an cdv ct us mv ws h1 h2 h3
  match us, h1, mv, h2, ws, h3 with
  | [u], _, [m], _, [z], _ => exact ⟨_, _, _, _, _, _, rfl, rfl, rfl⟩
theorem quiet_snoc (r : List Int) (x : Int) : quiet (r ++ [x]) = (quiet r && (nextL (r ++ [x])).isNone) := by
  unfold quiet
  rw [List.length_append, List.length_singleton, List.range_succ, List.all_append]
  have e1 : ((List.range r.length).all fun i => (nextL (List.take (i + 1) (r ++ [x]))).isNone) = (List.range r.length).all fun i => (nextL (List.take (i + 1) r)).isNone := by
    rw [Bool.eq_iff_iff, List.all_eq_true, List.all_eq_true]
    refine forall_congr' fun i => forall_congr' fun hi => ?_
    rw [List.take_append_of_le_length (by simp at hi; omega)]
  rw [e1]
  congr 1
  simp
  rw [List.take_of_length_le (by simp)]
theorem use_init {C x dx : Addr} {F : HO → Led} (S : Hs H0 M H L) (ch : ∀ o', Chg x (.ins C dx []) o' L (F o')) (own : H0 x = none ∨ x ∈ M)
    (h : ∀ (l p : Addr) (H' : Hp), H0 l = none → H0 p = none → l ≠ p → Hs H0 M H' ((p, .lst []) :: (l, .lst []) :: F (.ins C dx (flds l p))) → Q .non H') : sp_init C [.ref x, .str "lengths", .non] H Q E := by
  refine ⟨x, dx, rfl, S.is _ (ch (.lst [])).mem, fun l p H' n e old => ?_⟩
  obtain ⟨h0, S'⟩ := S.oneN (ch _) own old e n
  have ne : l ≠ p := fun z => by
    have := n.nd
    simp [z] at this
  exact h l p H' (h0 (l, .lst []) (by simp)) (h0 (p, .lst []) (by simp)) ne S'
theorem sum_nonneg : ∀ {l : List Int}, (∀ z ∈ l, 0 ≤ z) → 0 ≤ l.sum
  | [], _ => by simp
  | x :: l, h => by
    have h1 := h x List.mem_cons_self
    have h2 := sum_nonneg (l := l) fun z hz => h z (List.mem_cons_of_mem _ hz)
    simp
    omega
theorem ok_merges (T : Txt K mg w A) : FnOk P w K mg base CX0 4 A.f__law_merges A.d__law_merges ["_law_runs"] sp_merges := by
  have G_RunStack_init : FnOk P w K mg base CX0 2 A.f_RunStack___init__ A.d_RunStack___init__ ["self", "policy", "total"] (sp_init A.C_RunStack) := ok_init T
  have G_RunStack_pushed : FnOk P w K mg base CX0 3 A.f_RunStack_pushed A.d_RunStack_pushed ["self", "many"] (sp_push A.C_RunStack) := ok_pushed T
  obtain ⟨mv, kb_RunStack_init⟩ := kb_init T
  refine T.c__law_merges.F.ok sc_l_merges (fun vs H Q E h => ?_) (fun cdv Ar outer s H vs Q E hr h => ?_)
  · obtain ⟨a, runs, rfl, _⟩ := h; rfl
  · obtain ⟨a, runs, rfl, ha, hp, hs, hl, k⟩ := h
    refine ⟨_, (pss_cons (ps_par (i := 1) (j := 2) rfl sc_l_merges.nd rfl rfl (by decide) rfl rfl (pa_cons (pe_makeK0 T.i_RunStack.M G_RunStack_init (hr.mono (by decide)) rfl T.m_RunStack kb_RunStack_init pass0 (pk_cons pe_str pk_nil)) (pa_cons (pe_lst pa_nil) pa_nil)) (by rfl))
      (pss_cons (ps_for PassesOwn.never rfl (pi_list (pv 0)) (pg_name (i := 3) sc_l_merges.nd rfl (Or.inl rfl))
        (pss_one (ps_set (i := 2) sc_l_merges.nd rfl (Or.inl rfl) (pe_op op_cat (pv 2) (pe_meth (pv 1) T.cl_RunStack T.h_RunStack_pushed G_RunStack_pushed (hr.mono (by decide)) T.c_RunStack_pushed.b .nil pass0 (pa_cons (pv 3) pa_nil))))))
      (pss_one (ps_ret (pv 2))))), ?_⟩
    have S := Hs.start1 ha [] (.inl rfl)
    walk_at "st"
    walk_at "rd"
    refine rd_mkK ?_
    walk_at "rd"
    refine ⟨rfl, rfl, fun x dx hx1 hd1 ne1 => ?_⟩
    obtain ⟨hx, S1⟩ := S.made (C := A.C_RunStack) hx1 hd1 ne1
    refine use_init (F := fun o => [(x, o), (a, .lst (runs.map V.int))]) S1 (by walk_at "chgF") (by walk_at "own") fun l p H2 hl0 hp0 ne S2 => ⟨rfl, ?_⟩
    walk_at "rd"
    rename_i f H3 hf S3
    refine fw_list (xs := runs.map V.int) (fun i σ H' => ∃ (o : Option V) (f : Addr) (rs : List V) (T' : Led) (st : List Int), σ = [some (.ref a), some (.ref x), some (.ref f), o] ∧
      Hs H [] H' ((f, .lst rs) :: (x, .ins A.C_RunStack dx (flds l p)) :: (l, .lst (st.map V.int)) :: (p, .lst []) :: (a, .lst (runs.map V.int)) :: T') ∧ H f = none ∧ (∀ q ∈ T', H q.1 = none) ∧ TupL rs T' ∧
      st.sum = (runs.take i).sum ∧ st.length ≤ i ∧ rs.length ≤ 20 * i ∧ (rs = [] → st = runs.take i) ∧ (rs = [] ↔ quiet (runs.take i) = true))
      ⟨none, f, [], [], [], rfl, S3.perm ?_, hf, fun q h => (nomatch h), TupL.nil, by simp, by simp, by simp, by simp, by simp [quiet]⟩ ?_ ?_ ?_
    · exact ((List.reverse_perm [(p, HO.lst []), (l, HO.lst []), (x, HO.ins A.C_RunStack dx (flds l p))]).append_right [(a, HO.lst (runs.map V.int))]).cons (f, HO.lst [])
    · rintro i σ H' hi ⟨o, f, rs, T', st, rfl, S, _⟩
      exact S.lst (by walk_at "mem")
    · rintro i y σ H' hi ⟨o, f, rs, T', st, rfl, S, hf, hT, ht, b1, b2, b3, b4, b5⟩
      obtain ⟨hil, hy⟩ := List.getElem?_eq_some_iff.mp hi
      rw [List.length_map] at hil
      rw [List.getElem_map] at hy
      subst hy
      have hm : 1 ≤ runs[i] := hp _ (List.getElem_mem hil)
      have tk : runs.take (i + 1) = runs.take i ++ [runs[i]] := by rw [List.take_succ, List.getElem?_eq_getElem hil]; rfl
      have tks : (runs.take (i + 1)).sum = (runs.take i).sum + runs[i] := by rw [tk, List.sum_append]; simp
      have hsm : (runs.take (i + 1)).sum ≤ 4096 := by
        have e1 := congrArg List.sum (List.take_append_drop (i + 1) runs)
        rw [List.sum_append] at e1
        have : 0 ≤ (runs.drop (i + 1)).sum := sum_nonneg fun z hz => by have := hp z (List.mem_of_mem_drop hz); omega
        omega
      walk_at "rd"
      refine use_push (F := fun o => (f, .lst rs) :: (x, .ins A.C_RunStack dx (flds l p)) :: (l, o) :: (p, .lst []) :: (a, .lst (runs.map V.int)) :: T') S (by walk_at "mem") (by walk_at "mem") ne (by walk_at "chgF") (Or.inl hl0) (by omega) hm (by omega)
        fun f2 rs2 T2 st2 H4 hf2 hT2 S4 ht2 c1 c2 c3 c4 c5 => ?_
      have S5 := S4.perm ((List.perm_append_comm_assoc [(f, HO.lst rs), (x, HO.ins A.C_RunStack dx (flds l p)), (l, HO.lst (st2.map V.int)), (p, HO.lst []), (a, HO.lst (runs.map V.int))] T2 T').cons (f2, HO.lst rs2))
      simp only [List.cons_append, List.nil_append] at S5
      clear S4 S
      walk_at "rd"
      rename_i f3 H5 hf3 S6
      have qs : quiet (runs.take (i + 1)) = (quiet (runs.take i) && (nextL (runs.take i ++ [runs[i]])).isNone) := by rw [tk, quiet_snoc]
      refine ⟨_, f3, rs ++ rs2, T2 ++ T', st2, rfl, S6.sub (by walk_at "sub"), hf3, ?_, ht.app ht2, by omega, by omega, by simp; omega, ?_, ?_⟩
      · intro q hq
        rcases List.mem_append.mp hq with z | z
        · exact hT2 q z
        · exact hT q z
      · intro z
        obtain ⟨z1, z2⟩ := List.append_eq_nil_iff.mp z
        rw [c2 z2, b4 z1, tk]
      · rw [qs]
        by_cases z1 : rs = []
        · have e4 := b4 z1
          subst e4
          rw [b5.mp z1]
          subst z1
          simp only [List.nil_append, Bool.true_and, c1, Option.isNone_iff_eq_none]
        · have : quiet (runs.take i) = false := by
            cases e : quiet (runs.take i) with
            | false => rfl
            | true => exact absurd (b5.mpr e) z1
          simp [this, z1]
    · rintro σ H' ⟨o, f, rs, T', st, rfl, S, hf, hT, ht, b1, b2, b3, b4, b5⟩
      walk_at "rd"
      rw [List.length_map, List.take_length] at b5
      have S2 : Hs H [] H' ((f, .lst rs) :: T') := S.sub (by walk_at "sub")
      refine k f rs T' H' (S2.news (List.Sublist.refl _) ?_) ht b5 S.same
      intro q hq
      rcases List.mem_cons.mp hq with rfl | hq
      · exact hf
      · exact hT q hq
end
end K36

namespace K36
open PySem L2 Rs
local macro_rules | `(tactic| walk_at "val") => `(tactic| first | exact drw_left _ _ _ | exact drw_cell _ _ _ | exact drw_at _ _ _)
local macro_rules | `(tactic| walk_at "put") => `(tactic| first | exact put_left _ _ _ _ | exact put_at _ _ _ _ | exact merge_drw _ _ _)
def sp_right : Sp := fun vs H Q _ => ∃ (n : Int), vs = [.int n] ∧ 0 ≤ n ∧ n ≤ 4096 ∧ ∀ (H' : Hp), Same H H' → Q (.bl true) H'
section
variable {P : Program} {w : World} {K : PySem.W.Frag} {mg : Str → Option Value} {base : Heap} {A : Ad} {H H0 : Hp} {M : List Addr} {L L' : Led} {Q : VK} {E : XK}
theorem use_least {z : Int} (d : Nat) (S : Hs H0 M H L) (e : z = d) (hd : d < 16) (h : ∀ p H', H0 p = none → Hs H0 M H' ((p, .lst ((lst d).map V.int)) :: L) → Q (.ref p) H') : sp_least [.int z] H Q E := by
  subst e
  exact ⟨d, rfl, hd, fun p H' hp hp' sm => h p H' (S.more1 sm hp hp').1 (S.more1 sm hp hp').2⟩
theorem use_total {z : Int} (d : Nat) (S : Hs H0 M H L) (e : z = d) (hd : d < 16) (h : ∀ H', Hs H0 M H' L → Q (.int (tot d)) H') : sp_total [.int z] H Q E := by
  subst e
  exact ⟨d, rfl, hd, fun H' sm => h H' (S.more sm)⟩
theorem use_deepest {n : Int} (S : Hs H0 M H L) (h0 : 0 ≤ n) (h1 : n ≤ 4096) (h : ∀ p H', H0 p = none → Hs H0 M H' ((p, .lst ((deepL n).map V.int)) :: L) → Q (.ref p) H') : sp_deepest [.int n] H Q E :=
  ⟨n, rfl, h0, h1, fun p H' hp hp' sm => h p H' (S.more1 sm hp hp').1 (S.more1 sm hp hp').2⟩
theorem use_merges {a : Addr} {xs : List V} (runs : List Int) (S : Hs H0 M H L) (m : (a, HO.lst xs) ∈ L) (e : xs = runs.map V.int) (h1 : ∀ x ∈ runs, 1 ≤ x) (h2 : runs.sum ≤ 4096) (h3 : runs.length ≤ 20)
    (h : ∀ f rs T H', H0 f = none → Hs H0 M H' ((f, .lst rs) :: (T ++ L)) → TupL rs T → (rs = [] ↔ quiet runs = true) → Q (.ref f) H') : sp_merges [.ref a] H Q E := by
  subst e
  refine ⟨a, runs, rfl, S.is _ m, h1, h2, h3, fun f rs T H' n t q sm => ?_⟩
  obtain ⟨h0, S'⟩ := S.moreN sm n
  exact h f rs T H' (h0 _ List.mem_cons_self) S' t q
theorem kb_deepest (T : Txt K mg w A) : KBn K A.d_deepest ["total"] 0 ["total"] (fun us ws => us ++ [0].filterMap (ws[·]?)) (fun us ws => us ++ [0].filterMap (ws[·]?)) :=
  kb_of T.c_deepest.F _ fun _ _ _ _ _ _ us ws h1 h2 => match us, h1, ws, h2 with | [], _, [_], _ => rfl
theorem kb_least_total (T : Txt K mg w A) : KBn K A.d_least_total ["depth"] 0 ["depth"] (fun us ws => us ++ [0].filterMap (ws[·]?)) (fun us ws => us ++ [0].filterMap (ws[·]?)) :=
  kb_of T.c_least_total.F _ fun _ _ _ _ _ _ us ws h1 h2 => match us, h1, ws, h2 with | [], _, [_], _ => rfl
theorem cut1 (h : Int) (t : List Int) : cutI (h :: t) (some 1) none = t := by
  unfold cutI
  have e1 : HT.sIx (h :: t).length 0 (some 1) = 1 := by
    unfold HT.sIx
    simp
  have e2 : HT.sIx (h :: t).length (h :: t).length none = t.length + 1 := by simp [HT.sIx]
  rw [e1, e2]
  simp
theorem deep_pos {n : Int} (h0 : 0 ≤ n) (h : n ≤ 4096) : (∀ x ∈ deepL n, 1 ≤ x ∧ x ≤ 4096) ∧ (deepL n).sum ≤ 4096 ∧ quiet (deepL n) = true := by
  obtain ⟨a, b, c⟩ := dep_spec n h0 h
  by_cases hd : dep n = 0
  · have e : deepL n = [] := by unfold deepL; rw [if_pos hd]
    rw [e]
    exact ⟨fun x h => (nomatch h), by simp, rfl⟩
  · have hh := head_deep h0 h hd
    have hs := sum_deep n hd
    have hp := lst_pos (dep n - 1) (by omega)
    have e : deepL n = (n - (lst (dep n - 1)).sum) :: lst (dep n - 1) := by unfold deepL; rw [if_neg hd]
    have hc : 0 ≤ (cutI (lst (dep n - 1)) none (some 2)).sum := sum_nonneg fun z hz => by
      have := hp z (List.mem_of_mem_drop (List.mem_of_mem_take hz))
      omega
    have hn : 0 ≤ (lst (dep n - 1)).sum := sum_nonneg fun z hz => by have := hp z hz; omega
    refine ⟨fun x hx => ?_, by omega, ?_⟩
    · rw [e] at hx
      rcases List.mem_cons.mp hx with rfl | hx
      · omega
      · exact hp x hx
    · rw [e]
      exact quiet_cons _ (by omega) _ hh
theorem ok_right (T : Txt K mg w A) : FnG P w K mg base 5 A.f__law_deepest_right A.d__law_deepest_right ["_law_number"] sp_right := by
  have G__law_least : FnOk P w K mg base CX0 1 A.f__law_least A.d__law_least ["_law_deep"] sp_least := ok_least T
  have G_deepest : FnOk P w K mg base CX0 4 A.f_deepest A.d_deepest ["total"] sp_deepest := ok_deepest T
  have G__law_merges : FnOk P w K mg base CX0 4 A.f__law_merges A.d__law_merges ["_law_runs"] sp_merges := ok_merges T
  have G_least_total : FnOk P w K mg base CX0 3 A.f_least_total A.d_least_total ["depth"] sp_total := ok_total T
  refine defG T.c__law_deepest_right.F sc_l_deepest_right (fun vs H Q E h => ?_) (fun cdv Ar outer s H vs Q E cl hr h => ?_)
  · obtain ⟨n, rfl, _⟩ := h; rfl
  · obtain ⟨n, rfl, hn0, hn1, k⟩ := h
    have hu := hu_of hr
    refine ⟨_, (pss_cons (ps_set (i := 1) sc_l_deepest_right.nd rfl (Or.inl rfl) (pe_callB call_len_seq (by rfl) T.n_len PySem.boot_len (pa_cons (pe_lc (own := [("_law_one", 4)]) (g := gName 4) (tt := _) rfl sc_l_deepest_right.nd (pi_range2 rfl T.n_range (pa_cons pe_int (pa_cons pe_int pa_nil))) (blkOk_by (N := ["_law_number", "_law_deep", "_law_due", "_law_told", "_law_one"]) (sc := defScope s_l_deepest_right) (by decide +kernel)) (fun _ _ _ _ _ => (pg_name (i := 4) sc_l_deepest_right.nd rfl (Or.inl rfl))) (fun _ _ _ _ _ => (pts_one (pt_cmpR op_le (pe_callB (show CallR _ (.builtin "sum") (rSum K) from cr_sum rfl) (by rfl) T.n_sum PyProof.Rows.boot_sum (pa_cons (pe_call G__law_least (hr.mono (by decide)) rfl T.c__law_least.m T.c__law_least.F.kp T.c__law_least.b .nil pass0 (pa_cons (pv 4) pa_nil)) pa_nil)) (pv 0) (nomark _)))) (fun _ _ _ _ _ => (pv 4))) pa_nil)))
      (pss_cons (ps_set (i := 2) sc_l_deepest_right.nd rfl (Or.inl rfl) (pe_call G__law_least (hr.mono (by decide)) rfl T.c__law_least.m T.c__law_least.F.kp T.c__law_least.b .nil pass0 (pa_cons (pv 1) pa_nil)))
      (pss_cons (ps_if (pt_cmpR op_gt (pv 1) pe_int (nomark _))
        (pss_one (ps_asg (pe_op op_sub (pv 0) (pe_callB (cr_sum rfl) (by rfl) T.n_sum PyProof.Rows.boot_sum (pa_cons (pe_slice sl_list (pv 2) (po_some pe_int) po_none) pa_nil))) (pg_sub (pv 2) pe_int set_list)))
        pss_nil)
      (pss_cons (ps_set (i := 3) sc_l_deepest_right.nd rfl (Or.inl rfl) (pe_call G_deepest (hr.mono (by decide)) rfl T.c_deepest.m T.c_deepest.F.kp T.c_deepest.b .nil pass0 (pa_cons (pv 0) pa_nil)))
      (pss_cons (ps_if (pt_cmpR op_ne (pe_callB (call_repr cl hr) (by rfl) T.n_repr PyProof.Rows.boot_repr (pa_cons (pv 3) pa_nil)) (pe_callB (call_repr cl hr) (by rfl) T.n_repr PyProof.Rows.boot_repr (pa_cons (pv 2) pa_nil)) (nomark _))
        (pss_one (ps_ret pe_bl))
        pss_nil)
      (pss_cons (ps_expr (pe_bm PySem.F.plainAttrs_list PySem.F.slot_list_append PySem.F.type_list_append mt_append (pv 3) (pa_cons pe_int pa_nil)))
      (pss_cons (ps_set (i := 3) sc_l_deepest_right.nd rfl (Or.inl rfl) (pe_callK0 G_deepest (hr.mono (by decide)) rfl T.c_deepest.m T.c_deepest.F.kp (kb_deepest T) pass0 (pk_cons (pv 0) pk_nil)))
      (pss_one (ps_ret (pe_and (pe_cmpR op_eq (pe_callB (call_repr cl hr) (by rfl) T.n_repr PyProof.Rows.boot_repr (pa_cons (pv 3) pa_nil)) (pe_callB (call_repr cl hr) (by rfl) T.n_repr PyProof.Rows.boot_repr (pa_cons (pv 2) pa_nil)) (nomark _)) (pe_and (pe_cmpR (op_eqD hr.units) (pe_call G__law_merges (hr.mono (by decide)) rfl T.c__law_merges.m T.c__law_merges.F.kp T.c__law_merges.b .nil pass0 (pa_cons (pv 3) pa_nil)) (pe_lst pa_nil) (nomark _)) (pe_one (pe_cmpR op_le (pe_call G_least_total (hr.mono (by decide)) rfl T.c_least_total.m T.c_least_total.F.kp T.c_least_total.b .nil pass0 (pa_cons (pe_callB call_len_seq (by rfl) T.n_len PySem.boot_len (pa_cons (pv 3) pa_nil)) pa_nil)) (pv 0) (nomark _)))))))))))))), ?_⟩
    have S := Hs.start0 H
    walk_at "st"
    walk_at "rd"
    refine rd_rng2v (by omega) (by omega) (by omega) (by omega) ?_
    refine lcw_range S (fun i acc => acc.length = ((List.range i).filter fun j => decide (tot (j + 1) ≤ n)).length) rfl ?_ ?_
    · intro D i acc H1 hi hr hD S
      walk_at "lc"
      refine use_least (i + 1) S (by omega) (by omega) fun p H2 hp S2 => ?_
      walk_at "rd"
      rw [List.range_succ, List.filter_append, List.length_append, ← hr]
      show if decide (tot (i + 1) ≤ n) = true then _ else _
      refine rd_dec ?_ ?_ <;> intro hc
      · walk_at "rd"
        have ha : acc.length ≤ 100 := by
          have := List.length_filter_le (fun j => decide (tot (j + 1) ≤ n)) (List.range i)
          simp at this
          omega
        refine rd_lcPut S2 (by walk_at "chg") hD (by walk_at "size1") (by walk_at "sub") ?_
        simp [hc]
      · refine rd_lcSkip S2 hD (by walk_at "sub") ?_
        simp [hc]
    · intro D acc H1 hr hD S
      have hr' : acc.length = dep n := hr
      clear hr
      obtain ⟨d1, d2, d3⟩ := dep_spec n hn0 hn1
      obtain ⟨p1, p2, p3⟩ := deep_pos hn0 hn1
      have hb : ∀ z ∈ deepL n, z.natAbs < 10 ^ 12 := fun z hz => by have := p1 z hz; omega
      have hl14 : (deepL n).length ≤ 14 := by rw [len_deep]; exact d1
      have hl : (deepL n).length ≤ 10000 := by omega
      walk_at "rd"
      rw [hr']
      refine use_least (dep n) S rfl (by omega) fun p H2 hp S2 => ?_
      walk_at "rd"
      refine rd_dec ?_ ?_ <;> intro hc
      · walk_at "rd"
        obtain ⟨d', e'⟩ : ∃ d', dep n = d' + 1 := ⟨dep n - 1, by omega⟩
        have el : (lst (dep n)).map V.int = V.int (1 + (cutI (lst d') none (some 2)).sum) :: (lst d').map V.int := by rw [e']; rfl
        have ec : cutI (lst (dep n)) (some 1) none = lst d' := by rw [e']; exact cut1 _ _
        rename_i S3
        rw [ec] at S3 ⊢
        rw [el] at S3
        have ed : (V.int (1 + (cutI (lst d') none (some 2)).sum) :: (lst d').map V.int).set 0 (V.int (n - (lst d').sum)) = (deepL n).map V.int := by simp [deepL, e']
        refine gt_setL (j := 0) S3 (by walk_at "chg") (by walk_at "own") (by simp [ixN]) fun H4 S4 => ?_
        rw [ed] at S4
        have S5 : Hs H [] H4 [(p, .lst ((deepL n).map V.int))] := S4.sub (by walk_at "sub")
        clear S4 S3 S2 S el ec ed
        walk_at "rd"
        refine use_deepest S5 hn0 hn1 fun q H5 hq S6 => ?_
        clear S5
        walk_at "rd"
        refine rd_reprI (ns := deepL n) (by assumption) (by walk_at "mem") (by rfl) hb hl ?_
        walk_at "rd"
        refine rd_reprI (ns := deepL n) (by assumption) (by walk_at "mem") (by rfl) hb hl ?_
        walk_at "rd"
        refine rd_decF (by simp) ?_
        walk_at "rd"
        refine ⟨rfl, rfl, use_deepest (by assumption) hn0 hn1 fun q2 H7 hq2 S7 => ?_⟩
        walk_at "rd"
        refine rd_reprI (ns := deepL n) (by assumption) (by walk_at "mem") (by rfl) hb hl ?_
        walk_at "rd"
        refine rd_reprI (ns := deepL n) (by assumption) (by walk_at "mem") (by rfl) hb hl ?_
        walk_at "rd"
        refine rd_decT rfl ?_
        walk_at "rd"
        refine use_merges (deepL n) (by assumption) (by walk_at "mem") rfl (fun x hx => (p1 x hx).1) p2 (by omega) fun f rs T2 H8 hf S8 ht hqt => ?_
        have e0 : rs = [] := hqt.mpr p3
        walk_at "rd"
        refine rd_eqT0 ht (by assumption) (by walk_at "mem") (by walk_at "mem") (fun z hz => by simp [hz]) ?_
        rw [e0]
        walk_at "rd"
        show if true = true then _ else _
        walk_at "rd"
        rename_i S9
        have S10 : Hs H [] _ [(q2, HO.lst ((deepL n).map V.int))] := S9.sub (.cons _ (.cons _ ((List.Sublist.cons_cons _ (List.nil_sublist _)).trans (List.sublist_append_right T2 _))))
        clear S9 S8
        walk_at "rd"
        refine use_total (dep n) S10 (by simp [len_deep]) (by omega) fun H11 S11 => ?_
        walk_at "rd"
        rw [decide_eq_true d2]
        exact k _ S11.same
      · walk_at "rd"
        have ed : (lst (dep n)).map V.int = (deepL n).map V.int := by
          have : dep n = 0 := by omega
          simp [deepL, this, lst]
        rw [ed] at S2
        have S5 : Hs H [] H2 [(p, .lst ((deepL n).map V.int))] := S2.sub (by walk_at "sub")
        clear S2 S ed
        refine use_deepest S5 hn0 hn1 fun q H5 hq S6 => ?_
        clear S5
        walk_at "rd"
        refine rd_reprI (ns := deepL n) (by assumption) (by walk_at "mem") (by rfl) hb hl ?_
        walk_at "rd"
        refine rd_reprI (ns := deepL n) (by assumption) (by walk_at "mem") (by rfl) hb hl ?_
        walk_at "rd"
        refine rd_decF (by simp) ?_
        walk_at "rd"
        refine ⟨rfl, rfl, use_deepest (by assumption) hn0 hn1 fun q2 H7 hq2 S7 => ?_⟩
        walk_at "rd"
        refine rd_reprI (ns := deepL n) (by assumption) (by walk_at "mem") (by rfl) hb hl ?_
        walk_at "rd"
        refine rd_reprI (ns := deepL n) (by assumption) (by walk_at "mem") (by rfl) hb hl ?_
        walk_at "rd"
        refine rd_decT rfl ?_
        walk_at "rd"
        refine use_merges (deepL n) (by assumption) (by walk_at "mem") rfl (fun x hx => (p1 x hx).1) p2 (by omega) fun f rs T2 H8 hf S8 ht hqt => ?_
        have e0 : rs = [] := hqt.mpr p3
        walk_at "rd"
        refine rd_eqT0 ht (by assumption) (by walk_at "mem") (by walk_at "mem") (fun z hz => by simp [hz]) ?_
        rw [e0]
        walk_at "rd"
        show if true = true then _ else _
        walk_at "rd"
        rename_i S9
        have S10 : Hs H [] _ [(q2, HO.lst ((deepL n).map V.int))] := S9.sub (.cons _ (.cons _ ((List.Sublist.cons_cons _ (List.nil_sublist _)).trans (List.sublist_append_right T2 _))))
        clear S9 S8
        walk_at "rd"
        refine use_total (dep n) S10 (by simp [len_deep]) (by omega) fun H11 S11 => ?_
        walk_at "rd"
        rw [decide_eq_true d2]
        exact k _ S11.same
end
end K36

namespace K36
open PySem L2 Rs
local macro_rules | `(tactic| walk_at "val") => `(tactic| first | exact drw_left _ _ _ | exact drw_cell _ _ _ | exact drw_at _ _ _)
local macro_rules | `(tactic| walk_at "put") => `(tactic| first | exact put_left _ _ _ _ | exact put_at _ _ _ _ | exact merge_drw _ _ _)
section
variable {P : Program} {w : World} {K : PySem.W.Frag} {mg : Str → Option Value} {base : Heap} {A : Ad} {H H0 : Hp} {M : List Addr} {L L' : Led} {Q : VK} {E : XK}
theorem tot_14 : ∀ d, d < 15 → (lst d).sum ≤ 4096 := by decide +kernel
theorem unsum : ∀ d, d < 15 → ∀ i, i < d - 1 → ((lst d).set i ((lst d).getD i 0 - 1)).sum ≤ 4096 := by decide +kernel
theorem tot_bound : ∀ i, i < 16 → 0 ≤ tot i ∧ tot i ≤ 5000 := by decide +kernel
theorem use_right {n : Int} (S : Hs H0 M H L) (h0 : 0 ≤ n) (h1 : n ≤ 4096) (h : ∀ H', Hs H0 M H' L → Q (.bl true) H') : sp_right [.int n] H Q E :=
  ⟨n, rfl, h0, h1, fun H' sm => h H' (S.more sm)⟩
local macro_rules | `(tactic| walk_at "rd1") => `(tactic| first
  | ((with_reducible refine' K36.use_take (by assumption) ?c ?o ?b1 ?b2 ?b3 ?b4 ?_); (case c => walk_at "chgF"); (case o => walk_at "own"); (case b1 => omega); (case b2 => omega); (case b3 => omega); (case b4 => omega); intro r l a H S h0 h1 h2 h3)
  | ((with_reducible refine' K36.use_right (by assumption) ?b0 ?b1 ?_); (case b0 => omega); (case b1 => omega); intro H S))
theorem ok_law (T : Txt K mg w A) : FnG P w K mg base 6 A.f_law A.d_law ["_law_script"] (sp_law K) := by
  have G__law_begun : FnOk P w K mg base CX0 1 A.f__law_begun A.d__law_begun ["_law_script", "_law_k"] (sp_begun K) := ok_begun T
  have G__law_take : FnOk P w K mg base CX0 1 A.f__law_take A.d__law_take ["_law_draw", "_law_below"] sp_take := ok_take T
  have G__law_least : FnOk P w K mg base CX0 1 A.f__law_least A.d__law_least ["_law_deep"] sp_least := ok_least T
  have G_deepest : FnOk P w K mg base CX0 4 A.f_deepest A.d_deepest ["total"] sp_deepest := ok_deepest T
  have G__law_merges : FnOk P w K mg base CX0 4 A.f__law_merges A.d__law_merges ["_law_runs"] sp_merges := ok_merges T
  have G_least_total : FnOk P w K mg base CX0 3 A.f_least_total A.d_least_total ["depth"] sp_total := ok_total T
  have G__law_deepest_right : FnG P w K mg base 5 A.f__law_deepest_right A.d__law_deepest_right ["_law_number"] sp_right := ok_right T
  refine defG T.c_law.F sc_law (fun vs H Q E h => ?_) (fun cdv Ar outer s H vs Q E cl hr h => ?_)
  · obtain ⟨a, ns, rfl, _⟩ := h; rfl
  · obtain ⟨a, ns, rfl, hs, hn, k⟩ := h
    have hu := hu_of hr
    refine ⟨_, (pss_cons (ps_for PassesOwn.never rfl (pi_range1 rfl T.n_range (pa_cons pe_int pa_nil)) (pg_name (i := 1) sc_law.nd rfl (Or.inl rfl))
        (pss_one (ps_if (pt_cmpR op_ne (pe_callB (call_repr cl hr) (by rfl) T.n_repr PyProof.Rows.boot_repr (pa_cons (pe_lst (pa_cons (pe_call G_least_total (hr.mono (by decide)) rfl T.c_least_total.m T.c_least_total.F.kp T.c_least_total.b .nil pass0 (pa_cons (pv 1) pa_nil)) (pa_cons (pe_callK0 G_least_total (hr.mono (by decide)) rfl T.c_least_total.m T.c_least_total.F.kp (kb_least_total T) pass0 (pk_cons (pv 1) pk_nil)) pa_nil))) pa_nil)) (pe_callB (call_repr cl hr) (by rfl) T.n_repr PyProof.Rows.boot_repr (pa_cons (pe_op op_rep (pe_lst (pa_cons (pe_callB (cr_sum rfl) (by rfl) T.n_sum PyProof.Rows.boot_sum (pa_cons (pe_call G__law_least (hr.mono (by decide)) rfl T.c__law_least.m T.c__law_least.F.kp T.c__law_least.b .nil pass0 (pa_cons (pv 1) pa_nil)) pa_nil)) pa_nil)) pe_int) pa_nil)) (nomark _))
          (pss_one (ps_ret pe_bl))
          pss_nil)))
      (pss_cons (ps_for PassesOwn.never rfl (pi_range1 rfl T.n_range (pa_cons pe_int pa_nil)) (pg_name (i := 1) sc_law.nd rfl (Or.inl rfl))
        (pss_cons (ps_set (i := 2) sc_law.nd rfl (Or.inl rfl) (pe_callB (cr_sum rfl) (by rfl) T.n_sum PyProof.Rows.boot_sum (pa_cons (pe_call G__law_least (hr.mono (by decide)) rfl T.c__law_least.m T.c__law_least.F.kp T.c__law_least.b .nil pass0 (pa_cons (pv 1) pa_nil)) pa_nil)))
        (pss_one (ps_for PassesOwn.never rfl (pi_tup (pe_tup (pa_cons (pe_op op_sub (pv 2) pe_int) (pa_cons (pv 2) (pa_cons (pe_op op_add (pv 2) pe_int) pa_nil))))) (pg_name (i := 3) sc_law.nd rfl (Or.inl rfl))
          (pss_one (ps_if (PW.pt (pw_and (pt_chain op_le op_le pe_int (pv 3) pe_int) (pw_and1 (pt_not (pt_val (pe_callG G__law_deepest_right cl (hr.mono (by decide)) rfl T.c__law_deepest_right.m T.c__law_deepest_right.F.kp T.c__law_deepest_right.b .nil (pa_cons (pv 3) pa_nil)))))))
            (pss_one (ps_ret pe_bl))
            pss_nil))))))
      (pss_cons (ps_for PassesOwn.never rfl (pi_range1 rfl T.n_range (pa_cons (pe_op op_add pe_int (pe_callB (call_min2 rfl) (by rfl) T.n_min PyProof.Rows.boot_min (pa_cons pe_int (pa_cons (pe_callB call_len_seq (by rfl) T.n_len PySem.boot_len (pa_cons (pv 0) pa_nil)) pa_nil)))) pa_nil)) (pg_name (i := 4) sc_law.nd rfl (Or.inl rfl))
        (pss_cons (ps_set (i := 5) sc_law.nd rfl (Or.inl rfl) (pe_call G__law_begun (hr.mono (by decide)) rfl T.c__law_begun.m T.c__law_begun.F.kp T.c__law_begun.b .nil pass0 (pa_cons (pv 0) (pa_cons (pv 4) pa_nil))))
        (pss_cons (ps_if (PW.pt (pw_or (pt_not (pt_val (pe_callG G__law_deepest_right cl (hr.mono (by decide)) rfl T.c__law_deepest_right.m T.c__law_deepest_right.F.kp T.c__law_deepest_right.b .nil (pa_cons (pe_call G__law_take (hr.mono (by decide)) rfl T.c__law_take.m T.c__law_take.F.kp T.c__law_take.b .nil pass0 (pa_cons (pv 5) (pa_cons pe_int pa_nil))) pa_nil)))) (pw_or1 (pt_not (pt_val (pe_callG G__law_deepest_right cl (hr.mono (by decide)) rfl T.c__law_deepest_right.m T.c__law_deepest_right.F.kp T.c__law_deepest_right.b .nil (pa_cons (pe_call G__law_take (hr.mono (by decide)) rfl T.c__law_take.m T.c__law_take.F.kp T.c__law_take.b .nil pass0 (pa_cons (pv 5) (pa_cons pe_int pa_nil))) pa_nil)))))))
          (pss_one (ps_ret pe_bl))
          pss_nil)
        (pss_cons (ps_set (i := 1) sc_law.nd rfl (Or.inl rfl) (pe_op op_add pe_int (pe_call G__law_take (hr.mono (by decide)) rfl T.c__law_take.m T.c__law_take.F.kp T.c__law_take.b .nil pass0 (pa_cons (pv 5) (pa_cons pe_int pa_nil)))))
        (pss_cons (ps_set (i := 6) sc_law.nd rfl (Or.inl rfl) (pe_call G__law_least (hr.mono (by decide)) rfl T.c__law_least.m T.c__law_least.F.kp T.c__law_least.b .nil pass0 (pa_cons (pv 1) pa_nil)))
        (pss_cons (ps_set (i := 7) sc_law.nd rfl (Or.inl rfl) (pe_call G__law_take (hr.mono (by decide)) rfl T.c__law_take.m T.c__law_take.F.kp T.c__law_take.b .nil pass0 (pa_cons (pv 5) (pa_cons (pe_op op_sub (pv 1) pe_int) pa_nil))))
        (pss_cons (ps_if (pt_cmpR (op_neD hr.units) (pe_call G__law_merges (hr.mono (by decide)) rfl T.c__law_merges.m T.c__law_merges.F.kp T.c__law_merges.b .nil pass0 (pa_cons (pv 6) pa_nil)) (pe_lst pa_nil) (nomark _))
          (pss_one (ps_ret pe_bl))
          pss_nil)
        (pss_cons (ps_asg (pe_op op_sub (pe_ix ix_list (pv 6) (pv 7) (fun _ _ => rfl)) pe_int) (pg_sub (pv 6) (pv 7) set_list))
        (pss_one (ps_if (pt_cmpR (op_eqD hr.units) (pe_call G__law_merges (hr.mono (by decide)) rfl T.c__law_merges.m T.c__law_merges.F.kp T.c__law_merges.b .nil pass0 (pa_cons (pv 6) pa_nil)) (pe_lst pa_nil) (nomark _))
          (pss_one (ps_ret pe_bl))
          pss_nil))))))))))
      (pss_one (ps_ret (pe_and (pe_cmpR (op_eqD hr.units) (pe_call G_deepest (hr.mono (by decide)) rfl T.c_deepest.m T.c_deepest.F.kp T.c_deepest.b .nil pass0 (pa_cons pe_int pa_nil)) (pe_lst pa_nil) (nomark _)) (pe_and (pe_cmpR op_eq (pe_ix ix_list (pe_call G_deepest (hr.mono (by decide)) rfl T.c_deepest.m T.c_deepest.F.kp T.c_deepest.b .nil pass0 (pa_cons pe_int pa_nil)) pe_int (fun _ _ => rfl)) (pe_op op_sub pe_int (pe_call G_least_total (hr.mono (by decide)) rfl T.c_least_total.m T.c_least_total.F.kp T.c_least_total.b .nil pass0 (pa_cons pe_int pa_nil))) (nomark _)) (pe_one (pe_cmpR op_gt (pe_call G_least_total (hr.mono (by decide)) rfl T.c_least_total.m T.c_least_total.F.kp T.c_least_total.b .nil pass0 (pa_cons pe_int pa_nil)) pe_int (nomark _)))))))))), ?_⟩
    have S := Hs.start0 H
    walk_at "st"
    walk_at "rd"
    refine fw_range (fun _ σ H' => ∃ x1 x2 x3 x4 x5 x6 x7, σ = [some (.ref a), x1, x2, x3, x4, x5, x6, x7] ∧ Hs H [] H' []) ⟨_, _, _, _, _, _, _, rfl, S⟩ ?_ ?_
    · rintro i σ H1 hi ⟨x1, x2, x3, x4, x5, x6, x7, rfl, S⟩
      have hi' : i < 16 := hi
      have hb := tot_bound i hi'
      walk_at "rd"
      refine use_total i S (by omega) hi' fun H2 S2 => ?_
      walk_at "rd"
      refine ⟨rfl, rfl, use_total i S2 (by omega) hi' fun H3 S3 => ?_⟩
      clear S S2
      walk_at "rd"
      refine rd_reprI (ns := [tot i, tot i]) (by assumption) (by walk_at "mem") (by rfl) (by intro z hz; simp at hz; omega) (by simp) ?_
      walk_at "rd"
      refine use_least i (by assumption) (by omega) hi' fun p H4 hp S4 => ?_
      walk_at "rd"
      refine rd_repL (by assumption) (by walk_at "mem") (by omega) (by omega) (by walk_at "size") fun q H5 hq S5 => ?_
      walk_at "rd"
      refine rd_reprI (ns := [tot i, tot i]) S5 (by walk_at "mem") (by rfl) (by intro z hz; simp at hz; omega) (by simp) ?_
      walk_at "rd"
      refine rd_decF (by simp) ?_
      walk_at "rd"
      exact ⟨_, _, _, _, _, _, _, rfl, S5.sub (by walk_at "sub")⟩
    · rintro σ H1 ⟨x1, x2, x3, x4, x5, x6, x7, rfl, S⟩
      walk_at "rd"
      refine fw_range (fun _ σ H' => ∃ x1 x2 x3 x4 x5 x6 x7, σ = [some (.ref a), x1, x2, x3, x4, x5, x6, x7] ∧ Hs H [] H' []) ⟨_, _, _, _, _, _, _, rfl, S⟩ ?_ ?_
      · rintro i σ H1 hi ⟨x1, x2, x3, x4, x5, x6, x7, rfl, S⟩
        have hi' : i < 15 := hi
        have hb := tot_bound i (by omega)
        walk_at "rd"
        refine use_least i (by assumption) (by omega) (by omega) fun p H4 hp S4 => ?_
        walk_at "rd"
        rename_i p5 H5 hp5 S5
        refine fw_tup (xs := [.int ((lst i).sum - 1), .int (lst i).sum, .int ((lst i).sum + 1)]) (fun _ σ H' => ∃ x3 x4 x5 x6 x7, σ = [some (.ref a), some (.int (0 + i)), some (.int (lst i).sum), x3, x4, x5, x6, x7] ∧ Hs H [] H' [(p5, .tup [.int ((lst i).sum - 1), .int (lst i).sum, .int ((lst i).sum + 1)])]) ⟨_, _, _, _, _, rfl, S5.sub (by walk_at "sub")⟩ ?_ ?_ ?_
        · rintro j σ H1 hj ⟨x3, x4, x5, x6, x7, rfl, S⟩
          exact S.tup (by simp)
        · rintro j x σ H1 hj ⟨x3, x4, x5, x6, x7, rfl, S⟩
          obtain ⟨t, rfl⟩ : ∃ t : Int, x = .int t := by
            have hm := List.mem_of_getElem? hj
            simp at hm
            rcases hm with rfl | rfl | rfl <;> exact ⟨_, rfl⟩
          clear S4 S5
          walk_at "rd"
          refine rd_dec ?_ ?_ <;> intro h0
          · walk_at "rd"
            refine rd_dec ?_ ?_ <;> intro h1
            · walk_at "rd"
              exact ⟨_, _, _, _, _, rfl, by assumption⟩
            · walk_at "rd"
              exact ⟨_, _, _, _, _, rfl, by assumption⟩
          · walk_at "rd"
            exact ⟨_, _, _, _, _, rfl, by assumption⟩
        · rintro σ H1 ⟨x3, x4, x5, x6, x7, rfl, S⟩
          exact ⟨_, _, _, _, _, _, _, rfl, S.sub (by walk_at "sub")⟩
      · rintro σ H1 ⟨x1, x2, x3, x4, x5, x6, x7, rfl, S⟩
        walk_at "rd"
        refine ⟨a, _, rfl, Or.inl (S.sq hs (by simp)), ?_⟩
        walk_at "rd"
        refine fw_range (fun _ σ H' => ∃ x1 x2 x3 x4 x5 x6 x7, σ = [some (.ref a), x1, x2, x3, x4, x5, x6, x7] ∧ Hs H [] H' []) ⟨_, _, _, _, _, _, _, rfl, S⟩ ?_ ?_
        · rintro i σ H1 hi ⟨x1, x2, x3, x4, x5, x6, x7, rfl, S⟩
          have hk : (i : Int) ≤ 10 := by split at hi <;> omega
          walk_at "rd"
          refine ⟨a, ns, _, rfl, S.sq hs (by simp), by omega, by omega, fun d l c H2 hd hd' hsm => ?_⟩
          obtain ⟨hd0, S2⟩ := S.more1 hsm hd hd'
          clear S
          walk_at "rd"
          rename_i r1 l1 a1 H3 S3 g0 g1 g2 g3
          obtain ⟨e, rfl⟩ := Int.eq_ofNat_of_zero_le g0
          refine use_least (2 + e) S3 (by omega) (by omega) fun p H4 hp S4 => ?_
          have hl14 : (lst (2 + e)).length = 2 + e := len_lst _
          have ht := tot_14 (2 + e) (by omega)
          walk_at "rd"
          rename_i r2 l2 a2 H5 S5 j0 j1 j2 j3
          obtain ⟨j, rfl⟩ := Int.eq_ofNat_of_zero_le j0
          refine use_merges (lst (2 + e)) S5 (by walk_at "mem") rfl (fun x hx => (lst_pos (2 + e) (by omega) x hx).1) ht (by omega) fun f rs T2 H6 hf S6 hT hq => ?_
          have e0 : rs = [] := hq.mpr (quiet_lst _ (by omega))
          walk_at "rd"
          refine rd_neT0 hT (by assumption) (by walk_at "mem") (by walk_at "mem") (fun z hz => by simp [hz]) ?_
          rw [e0]
          walk_at "rd"
          show if false = true then _ else _
          rename_i S7
          have S8 := S7.sub (.cons _ (.cons _ (List.sublist_append_right T2 _)))
          clear S7 S6 S5 S4 S3 S2
          walk_at "rd"
          have hj : j < (lst (2 + e)).length := by omega
          have ej : atI ((lst (2 + e)).map V.int) (j : Int) = some (.int ((lst (2 + e)).getD j 0)) := by
            refine atI_nat (j := j) ?_
            rw [List.getElem?_map, List.getD_eq_getElem?_getD, List.getElem?_eq_getElem hj]
            rfl
          walk_at "rd"
          refine gt_setL (j := j) S8 (by walk_at "chg") (by walk_at "own") (by simp [ixN]; omega) fun H9 S9 => ?_
          rw [show V.int ((lst (2 + e)).getD j 0 - 1) = V.int ((lst (2 + e)).getD j 0 - 1) from rfl, ← List.map_set] at S9
          obtain ⟨u1, u2⟩ := unquiet (2 + e) (by omega) j (by omega)
          have u3 := unsum (2 + e) (by omega) j (by omega)
          clear S8
          walk_at "rd"
          refine use_merges _ S9 (by walk_at "mem") rfl u2 u3 (by simp; omega) fun f rs T2 H6 hf S6 hT hq => ?_
          have e0 : ¬ rs.length = 0 := fun z => by
            have := hq.mp (List.eq_nil_of_length_eq_zero z)
            rw [u1] at this
            cases this
          walk_at "rd"
          refine rd_eqT0 hT (by assumption) (by walk_at "mem") (by walk_at "mem") (fun z hz => by simp [hz]) ?_
          rw [decide_eq_false e0]
          walk_at "rd"
          rename_i S7
          exact ⟨_, _, _, _, _, _, _, rfl, S7.sub (List.nil_sublist _)⟩
        · rintro σ H1 ⟨x1, x2, x3, x4, x5, x6, x7, rfl, S⟩
          walk_at "rd"
          refine use_deepest S (by omega) (by omega) fun p H2 hp S2 => ?_
          have d0 : deepL 0 = [] := by decide +kernel
          rw [d0] at S2
          clear S
          walk_at "rd"
          refine rd_eqIs (ns := []) (ms := []) (by assumption) (by walk_at "mem") (by walk_at "mem") (by rfl) (by rfl) ?_
          walk_at "rd"
          show if true = true then _ else _
          walk_at "rd"
          refine use_deepest (by assumption) (by omega) (by omega) fun p H2 hp S2 => ?_
          have d0 : deepL 4096 = (4096 - tot 13) :: lst 13 := by decide +kernel
          rw [d0, List.map_cons] at S2
          have e0 : atI (V.int (4096 - tot 13) :: (lst 13).map V.int) 0 = some (V.int (4096 - tot 13)) := atI_nat (j := 0) rfl
          walk_at "rd"
          refine use_total 13 S2 (by omega) (by omega) fun H3 S3 => ?_
          walk_at "rd"
          refine rd_decT rfl ?_
          walk_at "rd"
          refine use_total 15 S3 (by omega) (by omega) fun H3 S3 => ?_
          walk_at "rd"
          have t15 : decide (4096 < tot 15) = true := by decide +kernel
          rw [t15]
          exact k _
theorem end_law (K : PySem.W.Frag) (H : Hp) (a : Addr) (ns : List Int) (hn : ns.length ≤ 63) (_ : ∀ z ∈ ns, Builtin.Int.intBits z ≤ 1048576) (h : SqL K H a (ns.map V.int)) : sp_law K [.ref a] H (fun v _ => v = .bl true) E0 :=
  ⟨a, ns, rfl, h, hn, fun _ => rfl⟩
end
end K36

namespace K36
end K36
open PySem PySem.W PyProof.Rows
set_option maxRecDepth 100000 in
set_option maxHeartbeats 0 in
theorem PySem.Challenge.cw_runsort_k36_least_totals_holds : PySem.Challenge.rw_runsort_k36_least_totals.Holds := by
  w_on; o_law; k_head; (case hw => w_witness2)
  k_fill
  refine Rs.walkE (n := 63) (k := 6) (st := K36.s_law) (x := "_law_script") (sp := K36.sp_law) rfl (by decide) rfl ⟨rfl, by decide, by decide⟩ (fun w h Y => PySem.W.kIn_of Y) rfl (fun _ _ _ _ _ _ _ => rfl) ?F K36.end_law
  case F =>
    intro w mg h KX G
    obtain ⟨A, T⟩ : ∃ A, K36.Txt _ mg w A := by
      refine' K36.all_mk (w := w) KX G ?a_is_whole ?l_is_whole ?e_is_whole ?k_is_whole ?a_need_number ?l_need_number ?e_need_number ?k_need_number ?a_next_by_lengths ?l_next_by_lengths ?e_next_by_lengths ?k_next_by_lengths ?a_pushed_by_lengths ?l_pushed_by_lengths ?e_pushed_by_lengths ?k_pushed_by_lengths ?a_need_policy ?l_need_policy ?e_need_policy ?k_need_policy ?a_RunStack ?pg_RunStack ?hd_RunStack ?po_RunStack ?sa_RunStack ?mk_RunStack ?kc_RunStack ?na_RunStack_own_policy ?na_RunStack_own_total ?na_RunStack_laid_lengths ?na_RunStack_laid_powers ?a_RunStack___init__ ?i_RunStack___init__ ?l_RunStack___init__ ?e_RunStack___init__ ?k_RunStack___init__ ?dd_RunStack ?a_RunStack_merge_near ?i_RunStack_merge_near ?l_RunStack_merge_near ?e_RunStack_merge_near ?k_RunStack_merge_near ?a_RunStack_pushed ?i_RunStack_pushed ?l_RunStack_pushed ?e_RunStack_pushed ?k_RunStack_pushed ?a_least_lengths ?l_least_lengths ?e_least_lengths ?k_least_lengths ?a_least_total ?l_least_total ?e_least_total ?k_least_total ?a_deepest ?l_deepest ?e_deepest ?k_deepest ?a__law_begun ?l__law_begun ?e__law_begun ?k__law_begun ?a__law_take ?l__law_take ?e__law_take ?k__law_take ?a__law_least ?l__law_least ?e__law_least ?k__law_least ?a__law_merges ?l__law_merges ?e__law_merges ?k__law_merges ?a__law_deepest_right ?l__law_deepest_right ?e__law_deepest_right ?k__law_deepest_right ?a_law ?l_law ?e_law ?k_law ?g_MOST_THINGS ?r_MOST_THINGS ?g_MOST_DEPTH ?r_MOST_DEPTH ?g_PUSHES ?at_PUSHES ?lit_PUSHES ?low_PUSHES ?q_PUSHES_lengths ?z_len ?z_min ?z_range ?z_repr ?z_isinstance ?z_int ?z_bool ?z_str ?z_sum
      (case a_is_whole => k_is)
      (case l_is_whole => k_is)
      (case e_is_whole => k_is)
      (case k_is_whole => k_is)
      (case a_need_number => k_is)
      (case l_need_number => k_is)
      (case e_need_number => k_is)
      (case k_need_number => k_is)
      (case a_next_by_lengths => k_is)
      (case l_next_by_lengths => k_is)
      (case e_next_by_lengths => k_is)
      (case k_next_by_lengths => k_is)
      (case a_pushed_by_lengths => k_is)
      (case l_pushed_by_lengths => k_is)
      (case e_pushed_by_lengths => k_is)
      (case k_pushed_by_lengths => k_is)
      (case a_need_policy => k_is)
      (case l_need_policy => k_is)
      (case e_need_policy => k_is)
      (case k_need_policy => k_is)
      (case a_RunStack => k_is)
      (case pg_RunStack => k_is)
      (case hd_RunStack => k_is)
      (case po_RunStack => k_is)
      (case sa_RunStack => k_is)
      (case mk_RunStack => k_is)
      (case kc_RunStack => k_is)
      (case na_RunStack_own_policy => k_is)
      (case na_RunStack_own_total => k_is)
      (case na_RunStack_laid_lengths => k_is)
      (case na_RunStack_laid_powers => k_is)
      (case a_RunStack___init__ => k_is)
      (case i_RunStack___init__ => k_is)
      (case l_RunStack___init__ => k_is)
      (case e_RunStack___init__ => k_is)
      (case k_RunStack___init__ => k_is)
      (case dd_RunStack => (intro q hq; simp only [List.mem_cons, List.not_mem_nil, or_false] at hq; rcases hq with rfl | rfl <;> (dsimp only; refine' Rs.ex_u ?_ ?_; rotate_left; k_is; first | exact ⟨_, rfl⟩ | exact rfl)))
      (case a_RunStack_merge_near => k_is)
      (case i_RunStack_merge_near => k_is)
      (case l_RunStack_merge_near => k_is)
      (case e_RunStack_merge_near => k_is)
      (case k_RunStack_merge_near => k_is)
      (case a_RunStack_pushed => k_is)
      (case i_RunStack_pushed => k_is)
      (case l_RunStack_pushed => k_is)
      (case e_RunStack_pushed => k_is)
      (case k_RunStack_pushed => k_is)
      (case a_least_lengths => k_is)
      (case l_least_lengths => k_is)
      (case e_least_lengths => k_is)
      (case k_least_lengths => k_is)
      (case a_least_total => k_is)
      (case l_least_total => k_is)
      (case e_least_total => k_is)
      (case k_least_total => k_is)
      (case a_deepest => k_is)
      (case l_deepest => k_is)
      (case e_deepest => k_is)
      (case k_deepest => k_is)
      (case a__law_begun => k_is)
      (case l__law_begun => k_is)
      (case e__law_begun => k_is)
      (case k__law_begun => k_is)
      (case a__law_take => k_is)
      (case l__law_take => k_is)
      (case e__law_take => k_is)
      (case k__law_take => k_is)
      (case a__law_least => k_is)
      (case l__law_least => k_is)
      (case e__law_least => k_is)
      (case k__law_least => k_is)
      (case a__law_merges => k_is)
      (case l__law_merges => k_is)
      (case e__law_merges => k_is)
      (case k__law_merges => k_is)
      (case a__law_deepest_right => k_is)
      (case l__law_deepest_right => k_is)
      (case e__law_deepest_right => k_is)
      (case k__law_deepest_right => k_is)
      (case a_law => k_is)
      (case l_law => k_is)
      (case e_law => k_is)
      (case k_law => k_is)
      (case g_MOST_THINGS => k_is)
      (case r_MOST_THINGS => first | exact ⟨_, rfl⟩ | exact rfl)
      (case g_MOST_DEPTH => k_is)
      (case r_MOST_DEPTH => first | exact ⟨_, rfl⟩ | exact rfl)
      (case g_PUSHES => k_is)
      (case at_PUSHES => k_is)
      (case lit_PUSHES => exact ⟨⟨_, _, rfl, rfl⟩, ⟨_, _, rfl, rfl⟩, trivial⟩)
      (case low_PUSHES => rfl)
      (case q_PUSHES_lengths => k_is)
      (case z_len => k_is)
      (case z_min => k_is)
      (case z_range => k_is)
      (case z_repr => k_is)
      (case z_isinstance => k_is)
      (case z_int => k_is)
      (case z_bool => k_is)
      (case z_str => k_is)
      (case z_sum => k_is)
    exact ⟨_, _, T.c_law, fun base => K36.ok_law T⟩
