import PyProof.Rows.All
import Wide.All
import OpenK.AllK
import Wide.FinOn
import HandS.ForMost
import HandS.EndBits
import HandS.Defaults
import HandS.WideBits
import HandS.Style
import HandS.IsInst
import PySem.Challenge.RW_runsort_k34_powers_of_neighbours
set_option Elab.async false
set_option maxRecDepth 100000
set_option maxHeartbeats 4000000
namespace Rs
open PySem PySem.Spec PyProof.Rows L2

/-! ### a promise that is kept while no text of a container is under way -/
def Clr (A : Around) : Prop := A.guards = some []
theorem Clr.deep {A : Around} (c : Clr A) (e : Env) : Clr (A.deeper e) := c

structure FnG (P : Program) (w : World) (K : PySem.W.Frag) (mg : Str → Option Value) (base : Heap) (k : Nat) (f : Addr) (fd : FuncData) (ps : List Str) (sp : Sp) : Prop where
  many : ∀ vs H Q E, sp vs H Q E → vs.length = ps.length
  go : ∀ (A : Around) (o : List Env) (s : Shared) (H : Hp) (us : List Value) (a : Args) (vs : List V) (Q : VK) (E : XK), Clr A → Room k A → Env0 P w K mg base A o s H →
    BindsTo s fd a (ps.zip us) → Vals vs us → sp vs H Q E → codeAny (model P w) A (.call (.ref f) a) (CR CX0 o P w H s Q E) s
theorem FnG.up {P : Program} {w : World} {K : PySem.W.Frag} {mg : Str → Option Value} {base : Heap} {j k : Nat} {f : Addr} {fd : FuncData} {ps : List Str} {sp : Sp}
    (F : FnG P w K mg base j f fd ps sp) (h : j ≤ k) : FnG P w K mg base k f fd ps sp :=
  ⟨F.many, fun A o s H us a vs Q E c r => F.go A o s H us a vs Q E c (r.mono h)⟩
theorem FnG.of {P : Program} {w : World} {K : PySem.W.Frag} {mg : Str → Option Value} {base : Heap} {k : Nat} {f : Addr} {fd : FuncData} {ps : List Str} {sp : Sp}
    (F : FnOk P w K mg base CX0 k f fd ps sp) : FnG P w K mg base k f fd ps sp :=
  ⟨F.len, fun A o s H us a vs Q E _ r e b v h => F.run A o s H a us vs Q E r e b v h⟩

section
variable {P : Program} {w : World} {K : PySem.W.Frag} {mg : Str → Option Value} {base : Heap}
/-- a def by its body, as FnG -/
theorem defG {x qual : Str} {st : Stmt} {f : Addr} {fd : FuncData} {N ps : List Str} {k : Nat} {sp : Sp} (F : Fun K x qual st f fd) (S : FnScope N ps (defScope st))
    (many : ∀ vs H Q E, sp vs H Q E → vs.length = ps.length)
    (body : ∀ (cdv : Value) (A : Around) (o : List Env) (s : Shared) (H : Hp) (vs : List V) (Q : VK) (E : XK), Clr A →
      Room k (A.deeper (envOfC qual (defScope st) s.heap.objs.size f cdv)) → sp vs H Q E →
      ∃ t, PSs (cxOf CX0 P w K mg base N qual (defScope st) f cdv A o s H E).nox (defBody st) t ∧ t { nx := fun _ H' => Q .non H', rt := Q } (start N vs) H) :
    FnG P w K mg base (k + 1) f fd ps sp := by
  obtain ⟨oc, od, kV, doc, pm, an, cdv, ct, osl, rfl, lk, hcd⟩ := F.ex
  refine ⟨many, ?_⟩
  intro A o s H us a vs Q E c r e0 hb rv hsp
  obtain ⟨t, ht, hq⟩ := body cdv A o s H vs Q E c (r.deeper _) hsp
  have inK : ∀ b ob, K.lookup b = some ob → s.heap.get? b = some ob := fun b ob e => (e0.bs b ob (e0.mod.kin b ob e)).1
  have noL : s.heap.NoLimit := e0.mod.nolimit.keeps fun b ob e => (e0.bs b ob e).1
  refine codeAny_call_function r.depth (inK _ _ lk) rfl S.co S.gen rfl (PySem.W.codeRec_of inK hcd) (hb _ _ _ _ ?_)
  refine wpAny_newFunctionEnv_cells S.kind ?_ ?_
  · rintro ⟨n, v⟩ hy
    rcases S.par n (List.of_mem_zip hy).1 with q | q
    · exact Or.inl q
    · exact Or.inr ⟨q, PySem.W.cellsFrom_some _ _ _ (Or.inl q)⟩
  · intro env he s1 x1
    subst he
    refine ⟨noL.keeps x1.toInCall.keep, codeAny_func ?_⟩
    have J := inv_start (CX := CX0) (mg := mg) (E := E) (qual := qual) S r.hd e0 (many _ _ _ _ hsp) rv x1
    refine wpAny_mono (ht.nox.run [] s1 _ H _ J hq) ?_ ?_
    · intro fl s2 h2
      cases fl with
      | next => obtain ⟨_, H2, J2, q2⟩ := h2; exact ⟨V.non, H2, J2.os, J2.bare, J2.base, J2.hok, rfl, q2⟩
      | ret u => obtain ⟨v, _, H2, J2, r2, q2⟩ := h2; exact ⟨v, H2, J2.os, J2.bare, J2.base, J2.hok, r2, q2⟩
      | brk => obtain ⟨_, _, _, q2⟩ := h2; exact q2.elim
      | cont => obtain ⟨_, _, _, q2⟩ := h2; exact q2.elim
    · intro e s2 h2; exact h2
end

section
variable {X : Cx} {k : Nat} {f : Addr} {fd : FuncData} {ps : List Str} {sp : Sp} {dvs : List V} {ds : List Value} {x : Str} {p pos : Pos} {e : Expr} {es : List Expr} {t : TA}
theorem goG {pins : List (Addr × Obj)} {σ : L2.St} {H : Hp} {s : Shared} {Q : VK} {us : List Value} {vs : List V} (F : FnG X.prog X.w X.K X.mg X.base k f fd ps sp) (c : Clr X.A) (hr : Room k X.A)
    (hb : Binds X.K fd ps ds) (hd : Vals dvs ds) (I : Inv X pins σ H s) (r : Vals vs us) (h : sp (vs ++ dvs) H Q E0) : wpAny (model X.prog X.w) X.A (call (.ref f) us) (EP X pins σ Q) X.xe s := by
  have r2 := r.append hd
  have hl : (us ++ ds).length = ps.length := r2.length.symm.trans (F.many _ _ _ _ h)
  apply wpAny_call
  refine codeAny_mono (F.go X.A X.stack s H (us ++ ds) ⟨us, []⟩ (vs ++ dvs) Q E0 c hr I.env0 (hb s us I.kIn hl) r2 h) ?_
  intro q s2 h2
  match q, h2 with
  | .error _, h2 => exact h2.elim
  | .ok (.ret _), h2 => exact I.after h2
  | .ok .next, h2 => exact h2.elim
  | .ok .brk, h2 => exact h2.elim
  | .ok .cont, h2 => exact h2.elim
/-- f(e, ..) of such a def -/
theorem pe_callG (F : FnG X.prog X.w X.K X.mg X.base k f fd ps sp) (c : Clr X.A) (hr : Room k X.A) (hg : Gl X x) (hm : X.mg x = some (.ref f)) (hk : PySem.W.keepIn X.K (.ref f) = true)
    (hb : Binds X.K fd ps ds) (hd : Vals dvs ds) (ha : PA X (e :: es) t) (hdb : (x == ("__debug__" : Str)) = false := by decide)
    (he : starEach (e :: es) X.env = (false, eval e X.env) :: starEach es X.env := by rfl) (hpl : (backTo pos (starEach es X.env)).any (·.1) = false := by rfl) :
    PE X (.Call (.Name x p) (e :: es) [] pos) (tCall sp dvs E0 t) := by
  constructor
  intro pins s σ H Q I h
  apply wpAny_Call_Name_kw
  refine ld_glob I hg hm ?_ hdb
  refine PySem.W.callWith_K (h₀ := X.base) I.ok.mod.kin hk ?_ he hpl
  refine thn (ha.run pos pins s σ H _ I h) ?_
  rintro us s1 ⟨vs, H1, I1, r, q⟩
  exact ⟨I1.kIn, goG F c hr hb hd I1 r q⟩
theorem pe_callG0 (F : FnG X.prog X.w X.K X.mg X.base k f fd ps sp) (c : Clr X.A) (hr : Room k X.A) (hg : Gl X x) (hm : X.mg x = some (.ref f)) (hk : PySem.W.keepIn X.K (.ref f) = true)
    (hb : Binds X.K fd ps ds) (hd : Vals dvs ds) (hdb : (x == ("__debug__" : Str)) = false := by decide) : PE X (.Call (.Name x p) [] [] pos) (tCall sp dvs E0 tNil) := by
  constructor
  intro pins s σ H Q I h
  apply wpAny_Call_Name_kw
  refine ld_glob I hg hm ?_ hdb
  exact PySem.W.callWith_K0 I.kIn hk (goG (us := []) F c hr hb hd I .nil h)
end

/-! ### repr of data -/
/-- data that can be shown -/
structure Shw (d : PyData) : Prop where
  ok : d.showable = true
  sz : d.shown.length ≤ sizeLine
def rRepr (K : PySem.W.Frag) : List V → Hp → VK → Prop := fun xs H Q => ∃ x d, xs = [x] ∧ Dp K H x d ∧ Shw d ∧ d.depth ≤ 50 ∧ Q (.str d.shown) H
mutual
theorem dp_noDict {K : PySem.W.Frag} {H : Hp} : ∀ (d : PyData) (v : V), Dp K H v d → d.hasDict = false
  | .none, _, _ => by simp only [PyData.hasDict]
  | .bool _, _, _ => by simp only [PyData.hasDict]
  | .int _, _, _ => by simp only [PyData.hasDict]
  | .str _, _, _ => by simp only [PyData.hasDict]
  | .list ds, _, h => by
    cases h with
    | lst _ ha => simp only [PyData.hasDict]; exact dps_noDict ds _ ha
  | .tuple ds, _, h => by
    cases h with
    | tup _ ha => simp only [PyData.hasDict]; exact dps_noDict ds _ ha
  | .dict _, _, h => by cases h
theorem dps_noDict {K : PySem.W.Frag} {H : Hp} : ∀ (ds : List PyData) (vs : List V), DpAll K H vs ds → PyData.hasDictAll ds = false
  | [], _, _ => by simp only [PyData.hasDictAll]
  | d :: ds, _, h => by
    cases h with
    | cons h1 h2 => simp only [PyData.hasDictAll, dp_noDict d _ h1, dps_noDict ds _ h2, Bool.or_self]
end
section
variable {X : Cx}
theorem call_repr {k : Nat} (c : Clr X.A) (hr : Room k X.A) : CallR X (.builtin "repr") (rRepr X.K) := by
  intro pins s σ H xs us Q I r h
  obtain ⟨x, d, rfl, hd, hs, hdp, q⟩ := h
  cases r with
  | cons r1 r2 =>
    cases r2
    rename_i u
    have nd := dp_noDict d x hd
    obtain ⟨as, rd⟩ := Dp.reads I d x u hd r1
    have fin : ∀ h' t tk, (∀ b o, s.heap.get? b = some o → h'.get? b = some o) → EP X pins σ Q (.str d.shown t) { s with heap := h', toks := tk } :=
      fun h' t tk kp => ⟨.str d.shown, H, I.kept kp, ⟨t, rfl⟩, q⟩
    have un := hr.units
    have room : X.A.units + (d.depth + 1) < cLine := by omega
    cases x with
    | ref a =>
      cases (show u = Value.ref a from r1)
      exact repr_of_reads' (s := s) rd hs.ok (PyData.noDict_hsm nd) c room (fun _ _ e => e) fin hs.sz
    | non =>
      cases (show u = Value.none from r1)
      cases hd
      have e : PyData.shown .none = ("None" : Str) := by simp only [PyData.shown]
      rw [e] at q
      exact PySem.P.repr_of_none ⟨.str _, H, I.tok _, ⟨_, rfl⟩, q⟩
    | bl b =>
      cases (show u = Value.bool b from r1)
      cases hd
      have e : PyData.shown (.bool b) = ((if b then "True" else "False" : String) : Str) := by cases b <;> simp only [PyData.shown] <;> rfl
      rw [e] at q
      cases b <;> exact PySem.P.repr_of_bool ⟨.str _, H, I.tok _, ⟨_, rfl⟩, q⟩
    | int i =>
      obtain ⟨t, rfl⟩ := (show ∃ t, u = Value.int i t from r1)
      cases hd
      have e : PyData.shown (.int i) = ((toString i : String) : Str) := by simp only [PyData.shown]
      have z : i.natAbs.log2 < 1920 := by simpa [PyData.showable] using hs.ok
      rw [e] at q
      exact PySem.P.repr_of_int z ⟨.str _, H, I.tok _, ⟨_, rfl⟩, q⟩
    | str x =>
      obtain ⟨t, rfl⟩ := (show ∃ t, u = Value.str x t from r1)
      cases hd
      have e : PyData.shown (.str x) = reprText x := by simp only [PyData.shown]
      have z := hs.sz
      rw [e] at q z
      exact PySem.P.repr_of_str ⟨.str _, H, I.tok _, ⟨_, rfl⟩, q⟩ z
    | byt _ => cases hd
    | flt _ => cases hd
    | ty _ => cases hd
end

/-! ### slices with a step -/
/-- the places that a slice takes -/
def slIx (n : Nat) (lo hi st : Option Int) : List Nat := sliceRange (sliceBounds lo hi st n).1 (sliceBounds lo hi st n).2.1 (sliceBounds lo hi st n).2.2
def pickV (xs : List V) (lo hi st : Option Int) : List V := (slIx xs.length lo hi st).filterMap (xs[·]?)
theorem vals_pick {xs : List V} {us : List Value} (r : Vals xs us) : ∀ ix : List Nat, Vals (ix.filterMap (xs[·]?)) (ix.filterMap (us[·]?))
  | [] => .nil
  | i :: ix => by
    have ih := vals_pick r ix
    cases e : xs[i]? with
    | none =>
      have e' := r.none_of e
      rw [List.filterMap_cons_none e, List.filterMap_cons_none e']
      exact ih
    | some x =>
      obtain ⟨u, e', ru⟩ := r.get e
      rw [List.filterMap_cons_some e, List.filterMap_cons_some e']
      exact .cons ru ih
def tSl3 (K : PySem.W.Frag) (te : TE) (tl th ts : TO) : TE := fun σ H Q => te σ H fun x H1 => tl σ H1 fun l H2 => th σ H2 fun u H3 => ts σ H3 fun st H4 => ∃ a xs, x = .ref a ∧ SqL K H4 a xs ∧ st ≠ some 0 ∧
  ∀ p, H4 p = none → Q (.ref p) (upd H4 p (.lst (pickV xs l u st)))
section
variable {X : Cx}
theorem pe_slice3 {e : Expr} {te : TE} {lo hi st : Option Expr} {tl th ts : TO} {p2 pos : Pos} (he : PE X e te) (hl : PO X lo tl) (hh : PO X hi th) (hs : PO X st ts)
    (hsub : ∀ ov iv, subscripted (.Slice lo hi st p2) false ov iv = operate [ov, iv] (getItem ov iv) := by intro _ _; with_unfolding_all rfl) : PE X (.Subscript e (.Slice lo hi st p2) pos) (tSl3 X.K te tl th ts) := by
  constructor
  intro pins s σ H Q I h
  refine PyProof.Rows.Subscript_ (thn (he.run pins s σ H _ I h) ?_)
  rintro v s1 ⟨x, H1, I1, r1, q1⟩
  refine wpAny_Slice (thn (hl.run pins s1 σ H1 _ I1 q1) ?_)
  rintro vl s2 ⟨l, H2, I2, pl, q2⟩
  refine thn (hh.run pins s2 σ H2 _ I2 q2) ?_
  rintro vu s3 ⟨u, H3, I3, pu, q3⟩
  refine thn (hs.run pins s3 σ H3 _ I3 q3) ?_
  rintro vs s4 ⟨c, H4, I4, ps, a, xs, ex, hx, h0, q4⟩
  subst ex
  cases r1
  have I5 : Inv X pins σ H4 { s4 with heap := s4.heap.push { cls := .type "slice", data := .fields #[vl, vu, vs] } } := I4.kept (t' := s4.toks) fun b ob q => Heap.get?_push_of_some _ q
  obtain ⟨its, rv, ht, hz⟩ := I5.list hx
  have hlen : its.length = xs.length := rv.length.symm
  show wpAny (model X.prog X.w) X.A (subscriptTail e (.Slice lo hi st p2) (.ref a) (.ref s4.heap.objs.size)) (EP X pins σ Q) X.xe _
  refine tail_any (ops := [.ref a, .ref s4.heap.objs.size]) ht.isList.typeIs PySem.slot_list_getitem.lookup ?_ (hsub _ _)
  refine wpAny_getItem_list_slice ht.isList (Heap.IsSliceOf.new _ vl vu vs) pl pu ps h0 ?_ (by rw [List.size_toArray, hlen]; exact hz)
  have hp : PySem.slicePick its.toArray l u c = ((slIx xs.length l u c).filterMap (its[·]?)).toArray := by
    unfold PySem.slicePick slIx
    rw [List.size_toArray, hlen]
    simp only [List.getElem?_toArray]
  have hn := PySem.slicePick_size_le its.toArray l u c
  rw [hp, List.size_toArray, List.size_toArray, hlen] at hn
  rw [hp]
  refine ⟨.ref _, _, I5.laid (t' := s4.toks) (o := .lst (pickV xs l u c)) (fun b ob q => Heap.get?_push_of_some _ q) (Nat.le_refl _) ?_, rfl, q4 _ (I5.hok.fresh (Nat.le_refl _))⟩
  refine ⟨?_, _, 0, vals_pick rv _, Heap.get?_push_size _ rfl⟩
  have e := (vals_pick rv (slIx xs.length l u c)).length
  show (List.filterMap (fun i => xs[i]?) (slIx xs.length l u c)).length ≤ sizeLine
  rw [e]
  exact Nat.le_trans hn hz
end

/-! ### a call by keywords alone -/
section
variable {X : Cx} {CX : CXT} {k : Nat} {f : Addr} {fd : FuncData} {ps ks : List Str} {sp : Sp} {E : XK} {x : Str} {p pos : Pos} {kws : List Keyword} {tk : TA} {g : List Value → List Value → List Value} {gV : List V → List V → List V}
theorem pe_callK0 (F : FnOk X.prog X.w X.K X.mg X.base CX k f fd ps sp) (hr : Room k X.A) (hg : Gl X x) (hm : X.mg x = some (.ref f)) (hk : PySem.W.keepIn X.K (.ref f) = true) (hb : KBn X.K fd ps 0 ks g gV) (hx : Passes CX X E)
    (hkw : PK X kws tk) (hall : (backToKw pos (keywordEach kws X.env)).all (·.1.isSome) = true := by rfl) (hks : (backToKw pos (keywordEach kws X.env)).filterMap (·.1) = ks := by rfl)
    (hdb : (x == ("__debug__" : Str)) = false := by decide) : PE X (.Call (.Name x p) [] kws pos) (tCallN 0 ks.length sp gV E tNil tk) := by
  constructor
  intro pins s σ H Q I h
  apply wpAny_Call_Name_kw
  refine ld_glob I hg hm ?_ hdb
  have np : ((backTo pos (starEach [] X.env)).any (·.1) || (backToKw pos (keywordEach kws X.env)).any (·.1.isNone)) = false := by
    have z : ∀ l : List (Option Str × Sem Value), l.all (·.1.isSome) = true → l.any (·.1.isNone) = false := by
      intro l hl
      induction l with
      | nil => rfl
      | cons q l ih =>
        simp only [List.all_cons, Bool.and_eq_true] at hl
        simp only [List.any_cons, ih hl.2, Bool.or_false]
        cases e : q.1 with
        | none => rw [e] at hl; exact absurd hl.1 (by decide)
        | some _ => rfl
    rw [z _ hall]; rfl
  refine PySem.W.callWith_KW0 (h₀ := X.base) I.ok.mod.kin hk hall ?_ np
  refine thn (hkw.run pos pins s σ H _ I h) ?_
  rintro ws s1 ⟨zs, H1, I1, rz, _, l2, q⟩
  refine ⟨I1.kIn, ?_⟩
  rw [hks]
  exact run_fnN (us := []) F hr hb hx I1 .nil rz rfl l2 q
end

/-! ### the law's own call -/
/-- the heap that knows of nothing but the script (at a, where it stands apart) -/
def scriptH (own : Bool) (a : Addr) (o : Obj) (ns : List Int) : Hp := fun b => if own = true ∧ b = a then some (.frz o (.lst (ns.map V.int))) else none
theorem scriptH_only (own : Bool) (a : Addr) (o : Obj) (ns : List Int) : Only (scriptH own a o ns) := fun b => by
  unfold scriptH
  split
  · exact Or.inr ⟨_, _, rfl⟩
  · exact Or.inl rfl
theorem scriptH_some {own : Bool} {a b : Addr} {o : Obj} {ns : List Int} {u : HO} (h : scriptH own a o ns b = some u) : own = true ∧ b = a ∧ u = .frz o (.lst (ns.map V.int)) := by
  unfold scriptH at h
  split at h
  · rename_i z; exact ⟨z.1, z.2, (Option.some.inj h).symm⟩
  · cases h
theorem lawG {P : Program} {w : World} {K : PySem.W.Frag} {mg mb : Str → Option Value} {k : Nat} {fa a : Addr} {fd : FuncData} {x : Str} {sp : Sp} {s : Shared} {vs : List Value} {ns : List Int}
    (KX : K.In s.heap) (hm : s.heap.Ns mainGlobals mg) (hb : s.heap.Ns builtinsNs mb) (hbb : ∀ x : Str, x ≠ "__name__" → mb x = bootBuiltins x) (hlim : s.heap.NoLimit) (hg : s.gens = #[])
    (ha : s.heap.get? a = some { cls := .type "list", data := .seq vs.toArray }) (hi : IntsAre vs ns) (hl : ns.length ≤ sizeLine) (hr : Room k callerA)
    (F : ∀ base : Heap, K.In base → base.Ns mainGlobals mg → FnG P w K mg base k fa fd [x] sp) (hbind : ∀ (s : Shared) (u : Value), BindsTo s fd ⟨[u], []⟩ [(x, u)])
    (hsp : ∀ H : Hp, Only H → SqL K H a (ns.map V.int) → sp [.ref a] H (fun v _ => v = .bl true) E0) :
    codeAny (model P w) callerA (.call (.ref fa) ⟨[.ref a], []⟩) (fun r s' => r = .ok (.ret (.bool true)) ∧ OldK s.heap s'.heap ∧ s'.os = s.os ∧ AllBare s'.gens) s := by
  have rv := vals_ints hi
  have lv := hi.length
  -- own: the script is no object of the written part
  have key : ∀ own : Bool, (own = true → K.lookup a = none) → (own = false → ∃ o, K.lookup a = some o) →
      codeAny (model P w) callerA (.call (.ref fa) ⟨[.ref a], []⟩) (fun r s' => r = .ok (.ret (.bool true)) ∧ OldK s.heap s'.heap ∧ s'.os = s.os ∧ AllBare s'.gens) s := by
    intro own h1 h2
    have hO := scriptH_only own a { cls := .type "list", data := .seq vs.toArray } ns
    have hS := fun {b : Addr} {u : HO} => scriptH_some (own := own) (a := a) (b := b) (o := { cls := .type "list", data := .seq vs.toArray }) (ns := ns) (u := u)
    generalize eH : scriptH own a { cls := .type "list", data := .seq vs.toArray } ns = H at hO hS
    have frs0 : ∀ {b : Addr} {o : Obj} {es : Array DictEntry} {n : Nat}, s.heap.get? b = some o → o.data = .dict es n → H b = none := by
      intro b o es n e d
      cases q : H b with
      | none => rfl
      | some u =>
        obtain ⟨_, rfl, _⟩ := hS q
        rw [ha] at e
        cases e
        have d' : Data.seq vs.toArray _ = Data.dict es n := d
        cases d'
    have ns0 : ∀ {b : Addr} {m : Str → Option Value}, s.heap.Ns b m → (hidT s.heap H).Ns b m := by
      rintro b m ⟨o, es, n, e, d, r⟩
      exact ⟨o, es, n, hidT_get e (frs0 e d), d, r⟩
    have K0 : K.In (hidT s.heap H) := by
      intro b o e
      refine hidT_get (KX b o e) ?_
      cases q : H b with
      | none => rfl
      | some u =>
        obtain ⟨z, rfl, _⟩ := hS q
        rw [h1 z] at e
        cases e
    have hok : HOk P w H s.heap := by
      intro b u q
      obtain ⟨_, rfl, rfl⟩ := hS q
      exact ⟨ha, by rw [List.length_map]; exact hl, vs, _, rv, ha⟩
    have M0 : Mod K mg (hidT s.heap H) := by
      refine ⟨K0, ns0 hm, ⟨mb, ns0 hb, hbb⟩, ?_⟩
      obtain ⟨mc, q1, q2⟩ := hlim
      exact ⟨mc, ns0 q1, q2⟩
    have env : Env0 P w K mg (hidT s.heap H) callerA [] s H := by
      refine ⟨rfl, M0, fun b o e => of_hidT e, Nat.le_of_eq (hidT_size _ _), trivial, ?_, hok, .of_eq hg⟩
      intro b hb'
      cases hb'
    have sq : SqL K H a (ns.map V.int) := by
      cases own with
      | true => exact Or.inl (Or.inr ⟨_, by rw [← eH]; exact if_pos ⟨rfl, rfl⟩⟩)
      | false =>
        obtain ⟨o, e⟩ := h2 rfl
        have e' := KX a o e
        rw [ha] at e'
        cases e'
        exact Or.inr ⟨_, vs.toArray, _, e, rfl, rfl, rfl, by rw [List.size_toArray, lv]; exact hl, by simpa using rv⟩
    refine codeAny_mono ((F _ K0 (ns0 hm)).go callerA [] s H [.ref a] ⟨[.ref a], []⟩ [.ref a] _ E0 rfl hr env (hbind s (.ref a)) (.cons rfl .nil) (hsp H hO sq)) ?_
    intro r s' h
    match r, h with
    | .error _, h => exact h.elim
    | .ok .next, h => exact h.elim
    | .ok .brk, h => exact h.elim
    | .ok .cont, h => exact h.elim
    | .ok (.ret u), h =>
      obtain ⟨v, H', os, bare, un, hok', r', q⟩ := h
      cases (show v = .bl true from q)
      cases (show u = Value.bool true from r')
      refine ⟨rfl, OldK.of_keep ?_, os, bare⟩
      intro b o e
      cases q : H b with
      | none => exact un.keep b o e q (fun z => nomatch z) (fun z => nomatch z)
      | some u =>
        obtain ⟨_, rfl, rfl⟩ := hS q
        rw [ha] at e
        cases e
        obtain ⟨e2, _⟩ := hok' b _ (un.frzs b _ _ q)
        exact e2
  cases hk : K.lookup a with
  | some o => exact key false (fun z => Bool.noConfusion z) (fun _ => ⟨o, hk⟩)
  | none => exact key true (fun _ => hk) (fun z => Bool.noConfusion z)
theorem walkG {l : PySem.W.OpenLaw} {n k : Nat} {q : Program} {loose : List Str} {XP : (Str → Option Value) → Heap → Prop} {YP : World → Heap → Prop} {d : DefRec} {K : Params → PySem.W.Frag} {sp : PySem.W.Frag → Sp} {x : Str}
    (hn : l.most = some n) (hn2 : n ≤ sizeLine) (hdf : d.params.defaults = []) (hr : Room k callerA) (hY : ∀ (w : World) (h : Heap), YP w h → (K w.params).In h)
    (F : ∀ (w : World) (mg : Str → Option Value) (fa : Addr) (h : Heap), (K w.params).In h → h.Ns mainGlobals mg → mg d.name = some (.ref fa) →
      ∃ fd : FuncData, (∀ (s : Shared) (u : Value), BindsTo s fd ⟨[u], []⟩ [(x, u)]) ∧
        ∀ base : Heap, (K w.params).In base → base.Ns mainGlobals mg → FnG l.prog w (K w.params) mg base k fa fd [x] (sp (K w.params)))
    (hsp : ∀ (K : PySem.W.Frag) (H : Hp) (a : Addr) (ns : List Int), ns.length ≤ n → (∀ z ∈ ns, Builtin.Int.intBits z ≤ 1048576) → SqL K H a (ns.map V.int) → sp K [.ref a] H (fun v _ => v = .bl true) E0) :
    PySem.W.WalkO q loose XP YP l.row.toRowW d [] (fun f vs => PySem.call f vs) := by
  apply Att.attach_callB hn hdf
  intro w s0 s1 mg mb fa o pm cd doc a vs ns G Y ho hd hcd hmg hobj hints hlen hbits hg
  have KX := hY w _ Y
  obtain ⟨fd, hb, hF⟩ := F w mg fa _ KX G.T.g hmg
  exact lawG KX G.T.g G.T.b G.T.builtins G.T.nolimit hg hobj hints (Nat.le_trans hlen hn2) hr hF hb fun H _ hS => hsp _ H a ns hlen hbits hS
end Rs

namespace Rs
open PySem PySem.Spec PyProof.Rows L2

/-! ### what is known of the heap -/
abbrev Led := List (Addr × HO)
/-- H0: the heap at the entry; M: the objects of it that may have changed; L: what stands now -/
structure Hs (H0 : Hp) (M : List Addr) (H : Hp) (L : Led) : Prop where
  nd : (L.map (·.1)).Nodup
  is : ∀ q ∈ L, H q.1 = some q.2
  old : ∀ b o, H0 b = some o → b ∉ M → H b = some o
  mu : ∀ b ∈ M, H b ≠ none
/-- one entry exchanged -/
inductive Chg (a : Addr) (o o' : HO) : Led → Led → Prop where
  | here {L : Led} : Chg a o o' ((a, o) :: L) ((a, o') :: L)
  | there {q : Addr × HO} {L L' : Led} : Chg a o o' L L' → Chg a o o' (q :: L) (q :: L')
theorem Chg.keys {a : Addr} {o o' : HO} {L L' : Led} (c : Chg a o o' L L') : L'.map (·.1) = L.map (·.1) := by
  induction c with
  | here => rfl
  | there _ ih => simp only [List.map_cons, ih]
theorem Chg.mem {a : Addr} {o o' : HO} {L L' : Led} (c : Chg a o o' L L') : (a, o) ∈ L := by
  induction c with
  | here => exact List.mem_cons_self
  | there _ ih => exact List.mem_cons_of_mem _ ih
theorem Chg.of {a : Addr} {o o' : HO} {L L' : Led} (c : Chg a o o' L L') (nd : (L.map (·.1)).Nodup) : ∀ q ∈ L', q = (a, o') ∨ (q ∈ L ∧ q.1 ≠ a) := by
  induction c with
  | @here L =>
    intro q hq
    rcases List.mem_cons.mp hq with e | hq
    · exact Or.inl e
    · refine Or.inr ⟨List.mem_cons_of_mem _ hq, ?_⟩
      intro e
      simp only [List.map_cons, List.nodup_cons] at nd
      exact nd.1 (e ▸ List.mem_map_of_mem hq)
  | @there p L L' c ih =>
    intro q hq
    simp only [List.map_cons, List.nodup_cons] at nd
    rcases List.mem_cons.mp hq with e | hq
    · subst e
      refine Or.inr ⟨List.mem_cons_self, ?_⟩
      intro e
      exact nd.1 (e ▸ List.mem_map_of_mem (f := (·.1)) c.mem)
    · rcases ih nd.2 q hq with e | ⟨h1, h2⟩
      · exact Or.inl e
      · exact Or.inr ⟨List.mem_cons_of_mem _ h1, h2⟩
section
variable {H0 H H' : Hp} {M : List Addr} {L L' : Led} {a : Addr} {o o' : HO}
theorem Hs.new (S : Hs H0 M H L) (hp : H a = none) (o : HO) : H0 a = none ∧ Hs H0 M (upd H a o) ((a, o) :: L) := by
  have n0 : H0 a = none := by
    cases e : H0 a with
    | none => rfl
    | some u =>
      by_cases hm : a ∈ M
      · exact absurd hp (S.mu a hm)
      · have := S.old a u e hm
        rw [hp] at this
        cases this
  have ne : ∀ q ∈ L, q.1 ≠ a := fun q hq e => by
    have := S.is q hq
    rw [e, hp] at this
    cases this
  refine ⟨n0, ?_, ?_, ?_, ?_⟩
  · simp only [List.map_cons, List.nodup_cons]
    refine ⟨fun hm => ?_, S.nd⟩
    obtain ⟨q, hq, e⟩ := List.mem_map.mp hm
    exact ne q hq e
  · intro q hq
    rcases List.mem_cons.mp hq with e | hq
    · subst e; exact upd_same
    · rw [upd_ne (ne q hq)]; exact S.is q hq
  · intro b u e hm
    have hb : b ≠ a := fun z => by rw [z, n0] at e; cases e
    rw [upd_ne hb]
    exact S.old b u e hm
  · intro b hb
    unfold upd
    split
    · simp
    · exact S.mu b hb
theorem Hs.put (S : Hs H0 M H L) (c : Chg a o o' L L') (hm : H0 a = none ∨ a ∈ M) : Hs H0 M (upd H a o') L' := by
  refine ⟨by rw [c.keys]; exact S.nd, ?_, ?_, ?_⟩
  · intro q hq
    rcases c.of S.nd q hq with e | ⟨h1, h2⟩
    · subst e; exact upd_same
    · rw [upd_ne h2]; exact S.is q h1
  · intro b u e hb
    have ne : b ≠ a := fun z => by
      subst z
      rcases hm with z | z
      · rw [z] at e; cases e
      · exact hb z
    rw [upd_ne ne]
    exact S.old b u e hb
  · intro b hb
    unfold upd
    split
    · simp
    · exact S.mu b hb
/-- behind a call that changed at most the objects of C (each fresh or in M), and left L' -/
theorem Hs.call (S : Hs H0 M H L) {C : List Addr} (k : ∀ b u, H b = some u → b ∉ C → H' b = some u) (hC : ∀ b ∈ C, (H0 b = none ∨ b ∈ M) ∧ H' b ≠ none) (nd : (L'.map (·.1)).Nodup)
    (is : ∀ q ∈ L', H' q.1 = some q.2) : Hs H0 M H' L' := by
  refine ⟨nd, is, ?_, ?_⟩
  · intro b u e hb
    refine k b u (S.old b u e hb) fun hc => ?_
    rcases (hC b hc).1 with z | z
    · rw [z] at e; cases e
    · exact hb z
  · intro b hb
    by_cases hc : b ∈ C
    · exact (hC b hc).2
    · intro z
      cases e : H b with
      | none => exact S.mu b hb e
      | some u =>
        rw [k b u e hc] at z
        cases z
/-- nothing was changed -/
theorem Hs.more (S : Hs H0 M H L) (k : Same H H') : Hs H0 M H' L :=
  S.call (C := []) (fun b u e _ => k b u e) (fun b hb => nomatch hb) S.nd fun q hq => k _ _ (S.is q hq)
/-- nothing was changed, one object is new -/
theorem Hs.more1 (S : Hs H0 M H L) (k : Same H H') (hp : H a = none) (h' : H' a = some o) : H0 a = none ∧ Hs H0 M H' ((a, o) :: L) := by
  obtain ⟨n0, S'⟩ := S.new hp o
  refine ⟨n0, (S.more k).call (C := []) (fun b u e _ => e) (fun b hb => nomatch hb) S'.nd ?_⟩
  intro q hq
  rcases List.mem_cons.mp hq with e | hq
  · subst e; exact h'
  · exact k _ _ (S.is q hq)
/-- one object was changed, to o' -/
theorem Hs.one (S : Hs H0 M H L) (c : Chg a o o' L L') (hm : H0 a = none ∨ a ∈ M) (k : ∀ b u, H b = some u → b ≠ a → H' b = some u) (h' : H' a = some o') : Hs H0 M H' L' := by
  have S' := S.put c hm
  refine S.call (C := [a]) (fun b u e hb => k b u e fun z => hb (by simp [z])) ?_ S'.nd ?_
  · intro b hb
    have e : b = a := by simpa using hb
    subst e
    exact ⟨hm, by rw [h']; simp⟩
  · intro q hq
    rcases c.of S.nd q hq with e | ⟨h1, h2⟩
    · subst e; exact h'
    · exact k _ _ (S.is q h1) h2
/-- one object was changed, one is new -/
theorem Hs.one1 {p : Addr} {u : HO} (S : Hs H0 M H L) (c : Chg a o o' L L') (hm : H0 a = none ∨ a ∈ M) (k : ∀ b u, H b = some u → b ≠ a → H' b = some u) (h' : H' a = some o') (hp : H p = none) (hp' : H' p = some u) : H0 p = none ∧ Hs H0 M H' ((p, u) :: L') := by
  have S' := S.one c hm k h'
  have S2 := S.new hp u
  refine ⟨S2.1, ?_, ?_, S'.old, S'.mu⟩
  · simp only [List.map_cons, List.nodup_cons]
    refine ⟨fun hq => ?_, S'.nd⟩
    rw [c.keys] at hq
    obtain ⟨q, hq, e⟩ := List.mem_map.mp hq
    have := S.is q hq
    rw [e, hp] at this
    cases this
  · intro q hq
    rcases List.mem_cons.mp hq with e | hq
    · subst e; exact hp'
    · exact S'.is q hq
theorem Hs.sub (S : Hs H0 M H L) (h : L'.Sublist L) : Hs H0 M H L' := ⟨S.nd.sublist (h.map _), fun q hq => S.is q (h.subset hq), S.old, S.mu⟩
theorem Hs.start (H : Hp) (M : List Addr) (L : Led) (nd : (L.map (·.1)).Nodup) (is : ∀ q ∈ L, H q.1 = some q.2) (hM : ∀ b ∈ M, H b ≠ none) : Hs H M H L := ⟨nd, is, fun b u e _ => e, hM⟩
theorem Hs.start0 (H : Hp) : Hs H [] H [] := ⟨List.nodup_nil, fun q hq => (nomatch hq), fun b u e _ => e, fun b hb => nomatch hb⟩
theorem Hs.start1 {H : Hp} {a : Addr} {o : HO} (h : H a = some o) (M : List Addr) (hM : M = [] ∨ M = [a]) : Hs H M H [(a, o)] := by
  refine ⟨by simp, fun q hq => ?_, fun b u e _ => e, fun b hb => ?_⟩
  · have e : q = (a, o) := by simpa using hq
    subst e; exact h
  · rcases hM with rfl | rfl
    · cases hb
    · have e : b = a := by simpa using hb
      subst e; rw [h]; simp
theorem Hs.get (S : Hs H0 M H L) (m : (a, o) ∈ L) : H a = some o := S.is _ m
theorem Hs.old1 {d b : Addr} {u : HO} (S : Hs H0 [d] H L) (e : H0 b = some u) (hb : b ≠ d) : H b = some u := S.old b u e (by simpa using hb)
theorem Hs.same (S : Hs H0 [] H L) : Same H0 H := fun b o e => S.old b o e (fun z => nomatch z)
theorem Hs.lst {K : PySem.W.Frag} {xs : List V} (S : Hs H0 M H L) (m : (a, HO.lst xs) ∈ L) : SqL K H a xs := SqL.of (S.is _ m)
theorem Hs.tup {K : PySem.W.Frag} {xs : List V} (S : Hs H0 M H L) (m : (a, HO.tup xs) ∈ L) : SqT K H a xs := SqT.of (S.is _ m)
/-- the script, or what else stands in the written part, at a list -/
theorem Hs.sq {K : PySem.W.Frag} {xs : List V} (S : Hs H0 M H L) (h : SqL K H0 a xs) (hm : a ∉ M) : SqL K H a xs := by
  rcases h with (h | ⟨u, h⟩) | h
  · exact Or.inl (Or.inl (S.old _ _ h hm))
  · exact Or.inl (Or.inr ⟨u, S.old _ _ h hm⟩)
  · exact Or.inr h
end

/-! ### readings, step by step -/
/-- the slots at the entry -/
def stV : List Str → List V → L2.St
  | [], _ => []
  | _ :: N, vs => vs.head? :: stV N vs.tail
theorem start_eq : ∀ (N : List Str) (vs : List V), vs.length ≤ N.length → L2.start N vs = stV N vs
  | [], [], _ => by simp [L2.start, stV]
  | [], v :: vs, h => by simp at h
  | n :: N, [], _ => by
    have ih := start_eq N [] (Nat.zero_le _)
    simp only [stV, List.tail_nil, ← ih]
    simp [L2.start, List.replicate_succ]
  | n :: N, v :: vs, h => by
    have ih := start_eq N vs (by simpa using h)
    simp only [stV, List.tail_cons, ← ih]
    simp [L2.start]
section
variable {σ : L2.St} {H H0 : Hp} {M : List Addr} {L L' : Led} {Q : VK} {v x y : V} {nx : L2.St → Hp → Prop} {rt : VK} {bk ct : L2.St → Hp → Prop} {t u : TS} {te ta tb tc : TE} {g : TG} {tt tu : TT} {r r' : R2} {A B : Prop}
theorem rd_start {t : TS} {D : Ends} {N : List Str} {vs : List V} (h : t D (stV N vs) H) (hl : vs.length ≤ N.length := by exact Nat.le_of_ble_eq_true rfl) : t D (L2.start N vs) H := by rw [start_eq N vs hl]; exact h
theorem rd_seq (h : t ⟨fun σ H => u ⟨nx, rt, bk, ct⟩ σ H, rt, bk, ct⟩ σ H) : tSeq t u ⟨nx, rt, bk, ct⟩ σ H := h
theorem rd_asg (h : te σ H fun x H1 => g x σ H1 nx) : tAsg te g ⟨nx, rt, bk, ct⟩ σ H := h
theorem rd_name {i : Nat} {σ' : L2.St} {N : L2.St → Hp → Prop} (e : σ.set i (some v) = σ') (h : N σ' H) : gName i v σ H N := by subst e; exact h
theorem rd_ret (h : te σ H rt) : tRet te ⟨nx, rt, bk, ct⟩ σ H := h
theorem rd_retN (h : rt .non H) : tRetN ⟨nx, rt, bk, ct⟩ σ H := h
theorem rd_drop (h : te σ H fun _ H1 => nx σ H1) : tDrop te ⟨nx, rt, bk, ct⟩ σ H := h
theorem rd_next (h : nx σ H) : tNext ⟨nx, rt, bk, ct⟩ σ H := h
theorem rd_ifS (h : tt σ H fun b H1 => if b = true then t ⟨nx, rt, bk, ct⟩ σ H1 else u ⟨nx, rt, bk, ct⟩ σ H1) : tIfS tt t u ⟨nx, rt, bk, ct⟩ σ H := h
theorem rd_par {i j : Nat} {ta : TA} (h : ta σ H fun vs H1 => ∃ v w, vs = [v, w] ∧ nx ((σ.set i (some v)).set j (some w)) H1) : tPar i j ta ⟨nx, rt, bk, ct⟩ σ H := h
theorem rd_par3 {i j l : Nat} {ta : TA} (h : ta σ H fun vs H1 => ∃ u v w, vs = [u, v, w] ∧ nx (((σ.set i (some u)).set j (some v)).set l (some w)) H1) : tPar3 i j l ta ⟨nx, rt, bk, ct⟩ σ H := h
theorem rd_two {R : V → V → Prop} (h : R x y) : ∃ v w, [x, y] = [v, w] ∧ R v w := ⟨_, _, rfl, h⟩
theorem rd_three {z : V} {R : V → V → V → Prop} (h : R x y z) : ∃ u v w, [x, y, z] = [u, v, w] ∧ R u v w := ⟨_, _, _, rfl, h⟩
theorem rd_var {i : Nat} (e : σ[i]? = some (some v)) (h : Q v H) : tVar i σ H Q := ⟨v, e, h⟩
theorem rd_c (h : Q v H) : tC v σ H Q := h
theorem rd_op (h : ta σ H fun x H1 => tb σ H1 fun y H2 => r x y H2 Q) : tOp r ta tb σ H Q := h
theorem rd_un {r : V → Hp → VK → Prop} (h : ta σ H fun x H1 => r x H1 Q) : tUn r ta σ H Q := h
theorem rd_I0 {f : Int → Int → V} {i j : Int} (h : Q (f i j) H) : rI0 f (.int i) (.int j) H Q := ⟨i, j, rfl, rfl, h⟩
theorem rd_I {C : Int → Int → Prop} {f : Int → Int → V} {i j : Int} (hc : C i j) (h : Q (f i j) H) : rI C f (.int i) (.int j) H Q := ⟨i, j, rfl, rfl, hc, h⟩
theorem rd_U {f : Int → V} {i : Int} (h : Q (f i) H) : rU f (.int i) H Q := ⟨i, rfl, h⟩
theorem rd_eqI {i j : Int} (h : Q (.bl (decide (i = j))) H) : rEq (.int i) (.int j) H Q := by
  refine ⟨rfl, ?_⟩
  have e : decide (V.int i = V.int j) = decide (i = j) := by simp
  rw [e]; exact h
theorem rd_neI {i j : Int} (h : Q (.bl (decide (¬ i = j))) H) : rNe (.int i) (.int j) H Q := by
  refine ⟨rfl, ?_⟩
  have e : (!decide (V.int i = V.int j)) = decide (¬ i = j) := by simp
  rw [e]; exact h
theorem rd_eqS {i j : Str} (h : Q (.bl (decide (i = j))) H) : rEq (.str i) (.str j) H Q := by
  refine ⟨rfl, ?_⟩
  have e : decide (V.str i = V.str j) = decide (i = j) := by simp
  rw [e]; exact h
theorem rd_neS {i j : Str} (h : Q (.bl (decide (¬ i = j))) H) : rNe (.str i) (.str j) H Q := by
  refine ⟨rfl, ?_⟩
  have e : (!decide (V.str i = V.str j)) = decide (¬ i = j) := by simp
  rw [e]; exact h
theorem rd_eqB {i j : Bool} (h : Q (.bl (decide (i = j))) H) : rEq (.bl i) (.bl j) H Q := by
  refine ⟨rfl, ?_⟩
  have e : decide (V.bl i = V.bl j) = decide (i = j) := by simp
  rw [e]; exact h
theorem rd_test {Q : Bool → Hp → Prop} (h : te σ H fun x H' => ∃ k, x = .bl k ∧ Q k H') : tTest te σ H Q := h
theorem rd_tB {Q : Bool → Hp → Prop} (h : te σ H fun x H' => ∃ k, x = .bl k ∧ Q k H') : tB te σ H Q := h
theorem rd_bl {b : Bool} {R : Bool → Prop} (h : R b) : ∃ k, V.bl b = .bl k ∧ R k := ⟨b, rfl, h⟩
theorem rd_and {Q : Bool → Hp → Prop} (h : tt σ H fun c H1 => if c = true then tu σ H1 Q else Q false H1) : tAnd tt tu σ H Q := h
theorem rd_or {Q : Bool → Hp → Prop} (h : tt σ H fun c H1 => if c = true then Q true H1 else tu σ H1 Q) : tOr tt tu σ H Q := h
theorem rd_not {Q : Bool → Hp → Prop} (h : tt σ H fun c H1 => Q (!c) H1) : tNot tt σ H Q := h
theorem rd_andV (h : ta σ H fun x H1 => ∃ c, x = .bl c ∧ if c = true then tb σ H1 Q else Q (.bl false) H1) : tAndV ta tb σ H Q := h
theorem rd_orV (h : ta σ H fun x H1 => ∃ c, x = .bl c ∧ if c = true then Q (.bl true) H1 else tb σ H1 Q) : tOrV ta tb σ H Q := h
theorem rd_notV (h : ta σ H fun x H1 => ∃ c, x = .bl c ∧ Q (.bl (!c)) H1) : tNotV ta σ H Q := h
theorem rd_if (h : tt σ H fun c H1 => if c = true then ta σ H1 Q else tb σ H1 Q) : tIf tt ta tb σ H Q := h
theorem rd_cons {tr : TA} {Q : List V → Hp → Prop} (h : te σ H fun x H1 => tr σ H1 fun xs H2 => Q (x :: xs) H2) : tCons te tr σ H Q := h
theorem rd_nil {Q : List V → Hp → Prop} (h : Q [] H) : tNil σ H Q := h
/-- what is wanted of a new object -/
def nw (Q : VK) (H : Hp) (o : HO) : Prop := ∀ p, H p = none → Q (.ref p) (upd H p o)
def nwL (Q : VK) (H : Hp) (xs : List V) : Prop := xs.length ≤ sizeLine ∧ nw Q H (.lst xs)
def nwT (Q : VK) (H : Hp) (xs : List V) : Prop := xs.length ≤ sizeLine ∧ nw Q H (.tup xs)
theorem rd_tup {ta : TA} (h : ta σ H fun xs H1 => nwT Q H1 xs) : tTup ta σ H Q := h
theorem rd_lst {ta : TA} (h : ta σ H fun xs H1 => nwL Q H1 xs) : tLst ta σ H Q := h
theorem rd_cb {r : List V → Hp → VK → Prop} {ta : TA} (h : ta σ H fun vs H1 => r vs H1 Q) : tCB r ta σ H Q := h
theorem rd_call {sp : Sp} {dvs : List V} {E : XK} {ta : TA} (h : ta σ H fun vs H1 => sp (vs ++ dvs) H1 Q E) : tCall sp dvs E ta σ H Q := h
theorem rd_call0 {sp : Sp} {E : XK} {ta : TA} (h : ta σ H fun vs H1 => sp vs H1 Q E) : tCall sp [] E ta σ H Q := by
  have e : (fun (vs : List V) H1 => sp (vs ++ []) H1 Q E) = fun vs H1 => sp vs H1 Q E := by funext vs H1; rw [List.append_nil]
  show ta σ H (fun vs H1 => sp (vs ++ []) H1 Q E)
  rw [e]; exact h
theorem rd_callN {n m : Nat} {sp : Sp} {gV : List V → List V → List V} {E : XK} {ta tk : TA} (h : ta σ H fun vs H1 => tk σ H1 fun zs H2 => vs.length = n ∧ zs.length = m ∧ sp (gV vs zs) H2 Q E) : tCallN n m sp gV E ta tk σ H Q := h
theorem rd_chain (h : ta σ H fun x H1 => tb σ H1 fun y H2 => r x y H2 fun z H3 => ∃ k, z = .bl k ∧ (if k = true then tc σ H3 fun w H4 => r' y w H4 Q else Q (.bl false) H3)) : tChain r r' ta tb tc σ H Q := h
theorem rd_bits (h : te σ H fun x H1 => ∃ i, x = .int i ∧ Q (.int (Builtin.Int.intBits i : Nat)) H1) : tBits te σ H Q := h
theorem rd_int1 {i : Int} {R : Int → Prop} (h : R i) : ∃ j, V.int i = .int j ∧ R j := ⟨i, rfl, h⟩
theorem rd_int2 {i j : Int} {R : Int → Int → Prop} (h : R i j) : ∃ i' j', [V.int i, V.int j] = [.int i', .int j'] ∧ R i' j' := ⟨i, j, rfl, h⟩
theorem rd_dget {td ty : TE} (h : td σ H fun x H1 => ty σ H1 fun y H2 => ∃ a v, x = .ref a ∧ DGet H2 a y (some v) ∧ Q v H2) : tDGet td ty σ H Q := h
theorem rd_dput {td ty tv : TE} (h : tv σ H fun v H1 => td σ H1 fun x H2 => ty σ H2 fun y H3 => ∃ a H4, x = .ref a ∧ DPut H3 a y v H4 ∧ nx σ H4) : sDPut td ty tv ⟨nx, rt, bk, ct⟩ σ H := h
theorem rd_slice3 {K : PySem.W.Frag} {tl th ts : TO} (h : te σ H fun x H1 => tl σ H1 fun l H2 => th σ H2 fun u H3 => ts σ H3 fun st H4 => ∃ a xs, x = .ref a ∧ SqL K H4 a xs ∧ st ≠ some 0 ∧ nw Q H4 (.lst (pickV xs l u st))) : tSl3 K te tl th ts σ H Q := h
theorem rd_sl {r : V → Option Int → Option Int → Hp → VK → Prop} {tl th : TO} (h : te σ H fun x H1 => tl σ H1 fun l H2 => th σ H2 fun u H3 => r x l u H3 Q) : tSl r te tl th σ H Q := h
theorem rd_noPart {Q : Option Int → Hp → Prop} (h : Q none H) : tNoPart σ H Q := h
theorem rd_part {Q : Option Int → Hp → Prop} (h : te σ H fun x H1 => ∃ i, x = .int i ∧ Q (some i) H1) : tPart te σ H Q := h
theorem sz {n : Nat} (h : n ≤ 1000000) : n ≤ sizeLine := Nat.le_trans h (by decide)
theorem sz' {n : Nat} (h : n ≤ 1000000) : n < sizeLine := Nat.lt_of_le_of_lt h (by decide)
theorem rd_mod {i j : Int} (hj : 0 < j) (h : ∀ r, r = i % j → 0 ≤ r → r < j → Q (.int r) H) : rI (fun _ j => 0 < j) (fun i j => .int (i % j)) (.int i) (.int j) H Q :=
  ⟨i, j, rfl, rfl, hj, h _ rfl (Int.emod_nonneg _ (by omega)) (Int.emod_lt_of_pos _ hj)⟩
theorem rd_div {i j : Int} (hj : 0 < j) (hb : j < 2 ^ 64) (h : Q (.int (i / j)) H) : rI CDivW (fun i j => .int (i / j)) (.int i) (.int j) H Q :=
  ⟨i, j, rfl, rfl, wide_div (b := 64) hj (by omega) (by decide) (by decide), h⟩
theorem rd_mulL {i j : Int} (h0 : -(2 ^ 64) < i) (h1 : i < 2 ^ 64) (h : Q (.int (i * j)) H) : rI CMul (fun i j => .int (i * j)) (.int i) (.int j) H Q := ⟨i, j, rfl, rfl, .inl ⟨h0, h1⟩, h⟩
theorem rd_mulR {i j : Int} (h0 : -(2 ^ 64) < j) (h1 : j < 2 ^ 64) (h : Q (.int (i * j)) H) : rI CMul (fun i j => .int (i * j)) (.int i) (.int j) H Q := ⟨i, j, rfl, rfl, .inr ⟨h0, h1⟩, h⟩
theorem rd_pow {f : Int → Int → V} {i j : Int} (h0 : 0 ≤ j) (h1 : j ≤ 1000000) (h2 : i.natAbs < 2 ^ 64) (h : Q (f i j) H) : rI CPow f (.int i) (.int j) H Q := ⟨i, j, rfl, rfl, ⟨h0, h1, h2⟩, h⟩
/-! tests -/
theorem rd_dec {p : Prop} [Decidable p] (h1 : p → A) (h2 : ¬ p → B) : if decide p = true then A else B := by
  by_cases h : p
  · rw [if_pos (decide_eq_true h)]; exact h1 h
  · rw [if_neg (by simp [h])]; exact h2 h
theorem rd_decT {p : Prop} [Decidable p] (h : p) (h1 : A) : if decide p = true then A else B := by rw [if_pos (decide_eq_true h)]; exact h1
theorem rd_decF {p : Prop} [Decidable p] (h : ¬ p) (h1 : B) : if decide p = true then A else B := by rw [if_neg (by simp [h])]; exact h1
theorem rd_ite {b : Bool} (h1 : b = true → A) (h2 : b = false → B) : if b = true then A else B := by
  cases b with
  | true => rw [if_pos rfl]; exact h1 rfl
  | false => rw [if_neg Bool.false_ne_true]; exact h2 rfl
theorem rd_iteT (h : A) : if true = true then A else B := by rw [if_pos rfl]; exact h
theorem rd_iteF (h : B) : if false = true then A else B := by rw [if_neg Bool.false_ne_true]; exact h
theorem rd_ndec {p : Prop} [Decidable p] (h1 : ¬ p → A) (h2 : p → B) : if (!decide p) = true then A else B := by
  by_cases h : p
  · rw [if_neg (by simp [h])]; exact h2 h
  · rw [if_pos (by simp [h])]; exact h1 h
theorem rd_ndecT {p : Prop} [Decidable p] (h : p) (h2 : B) : if (!decide p) = true then A else B := by rw [if_neg (by simp [h])]; exact h2
theorem rd_ndecF {p : Prop} [Decidable p] (h : ¬ p) (h1 : A) : if (!decide p) = true then A else B := by rw [if_pos (by simp [h])]; exact h1
theorem rd_nT (h : B) : if (!true) = true then A else B := by rw [if_neg (by decide)]; exact h
theorem rd_nF (h : A) : if (!false) = true then A else B := by rw [if_pos (by decide)]; exact h
/-! with the ledger -/
theorem rd_newL {xs : List V} (S : Hs H0 M H L) (hz : xs.length ≤ sizeLine) (h : ∀ p H', H0 p = none → Hs H0 M H' ((p, .lst xs) :: L) → Q (.ref p) H') : nwL Q H xs :=
  ⟨hz, fun p hp => h p _ (S.new hp (.lst xs)).1 (S.new hp (.lst xs)).2⟩
theorem rd_newT {xs : List V} (S : Hs H0 M H L) (hz : xs.length ≤ sizeLine) (h : ∀ p H', H0 p = none → Hs H0 M H' ((p, .tup xs) :: L) → Q (.ref p) H') : nwT Q H xs :=
  ⟨hz, fun p hp => h p _ (S.new hp (.tup xs)).1 (S.new hp (.tup xs)).2⟩
theorem rd_newO {o : HO} (S : Hs H0 M H L) (h : ∀ p H', H0 p = none → Hs H0 M H' ((p, o) :: L) → Q (.ref p) H') : nw Q H o :=
  fun p hp => h p _ (S.new hp o).1 (S.new hp o).2
theorem rd_ixL {K : PySem.W.Frag} {a : Addr} {xs : List V} {i : Int} (S : Hs H0 M H L) (m : (a, HO.lst xs) ∈ L) (e : atI xs i = some v) (h : Q v H) : rIxL K (.ref a) (.int i) H Q := ⟨a, xs, i, v, rfl, rfl, S.lst m, e, h⟩
theorem atI_any {α : Type} {xs : List α} {i : Int} (h0 : 0 ≤ i) (h1 : i < xs.length) : ∃ v, v ∈ xs ∧ xs[i.toNat]? = some v ∧ atI xs i = some v := by
  have hl : i.toNat < xs.length := by omega
  have e : xs[i.toNat]? = some xs[i.toNat] := by simp [hl]
  refine ⟨xs[i.toNat], List.getElem_mem hl, e, ?_⟩
  have z : ((i.toNat : Nat) : Int) = i := by omega
  have q := atI_nat e
  rw [z] at q
  exact q
theorem rd_ixAny {K : PySem.W.Frag} {a : Addr} {xs : List V} {i : Int} (S : Hs H0 M H L) (m : (a, HO.lst xs) ∈ L) (h0 : 0 ≤ i) (h1 : i < xs.length) (h : ∀ v, v ∈ xs → xs[i.toNat]? = some v → Q v H) : rIxL K (.ref a) (.int i) H Q := by
  obtain ⟨v, hv, e, he⟩ := atI_any h0 h1
  exact ⟨a, xs, i, v, rfl, rfl, S.lst m, he, h v hv e⟩
theorem rd_ixT {K : PySem.W.Frag} {a : Addr} {xs : List V} {i : Int} (S : Hs H0 M H L) (m : (a, HO.tup xs) ∈ L) (e : atI xs i = some v) (h : Q v H) : rIxT K (.ref a) (.int i) H Q := ⟨a, xs, i, v, rfl, rfl, S.tup m, e, h⟩
theorem rd_len {K : PySem.W.Frag} {a : Addr} {xs : List V} (S : Hs H0 M H L) {R : List V → Prop} (m : (a, HO.lst xs) ∈ L) (h : R xs) : ∃ p ys, [V.ref a] = [.ref p] ∧ (SqL K H p ys ∨ SqT K H p ys) ∧ R ys := ⟨a, xs, rfl, Or.inl (S.lst m), h⟩
theorem rd_lenT {K : PySem.W.Frag} {a : Addr} {xs : List V} (S : Hs H0 M H L) {R : List V → Prop} (m : (a, HO.tup xs) ∈ L) (h : R xs) : ∃ p ys, [V.ref a] = [.ref p] ∧ (SqL K H p ys ∨ SqT K H p ys) ∧ R ys := ⟨a, xs, rfl, Or.inr (S.tup m), h⟩
theorem rd_getS {a : Addr} {kvs : List (Key × V)} {k : Str} (S : Hs H0 M H L) (m : (a, HO.dK kvs) ∈ L) (e : valV kvs (.inr k) = some v) {R : V → Prop} (h : R v) : ∃ a' v', V.ref a = .ref a' ∧ DGet H a' (.str k) (some v') ∧ R v' :=
  ⟨a, v, rfl, by rw [← e]; exact DGet.k (k := Sum.inr k) (S.is _ m), h⟩
theorem rd_putS {a : Addr} {kvs kvs' : List (Key × V)} {k : Str} {R : Hp → Prop} (S : Hs H0 M H L) (c : Chg a (.dK kvs) (.dK kvs') L L') (hm : H0 a = none ∨ a ∈ M) (hl : kvs.length < sizeLine) (e : putK kvs (.inr k) v = kvs')
    (h : ∀ H', Hs H0 M H' L' → R H') : ∃ a' H4, V.ref a = .ref a' ∧ DPut H a' (.str k) v H4 ∧ R H4 := by
  subst e
  exact ⟨a, _, rfl, DPut.k (k := Sum.inr k) (S.is _ c.mem) hl, h _ (S.put c hm)⟩
theorem gt_ref {K : PySem.W.Frag} {a : Addr} {xs : List V} {n : Nat} {ts : TGs} {N : L2.St → Hp → Prop} (S : Hs H0 M H L) (m : (a, HO.tup xs) ∈ L) (hn : xs.length = n) (h : ts xs σ H N) : gTup K n ts (.ref a) σ H N := ⟨a, xs, rfl, S.tup m, hn, h⟩
theorem gt_cons {ts : TGs} {w : V} {vs : List V} {N : L2.St → Hp → Prop} (h : g w σ H fun σ' H' => ts vs σ' H' N) : gCons g ts (w :: vs) σ H N := ⟨w, vs, rfl, h⟩
theorem gt_nil {N : L2.St → Hp → Prop} (h : N σ H) : gNil [] σ H N := ⟨rfl, h⟩
end
/-! ### a def as it is called by its name -/
structure Cal (K : PySem.W.Frag) (mg : Str → Option Value) (x : Str) (st : Stmt) (ps : List Str) (f : Addr) (fd : FuncData) : Prop where
  F : Fun K x x st f fd
  b : Binds K fd ps []
  m : mg x = some (.ref f)
end Rs

namespace Rs
open PySem PySem.Spec PyProof.Rows L2

/-! ### kinds of values -/
inductive Kn where
  | int | bool | str | none | list | tup | dict
  deriving DecidableEq
def Kn.nm : Kn → String
  | .int => "int" | .bool => "bool" | .str => "str" | .none => "NoneType" | .list => "list" | .tup => "tuple" | .dict => "dict"
inductive Kin (K : PySem.W.Frag) (H : Hp) : V → Kn → Prop where
  | int (i : Int) : Kin K H (.int i) .int
  | bl (b : Bool) : Kin K H (.bl b) .bool
  | str (x : Str) : Kin K H (.str x) .str
  | non : Kin K H .non .none
  | ref {a : Addr} {k : Kn} (h : TyX K H (.ref a) (.type k.nm)) (n : k = .list ∨ k = .tup ∨ k = .dict) : Kin K H (.ref a) k
section
variable {K : PySem.W.Frag} {H H0 : Hp} {M : List Addr} {L : Led} {x : V} {k : Kn} {Q : VK} {a : Addr}
theorem Kin.ty (h : Kin K H x k) : TyX K H x (.type k.nm) := by
  cases h with
  | int i => exact .base (.int i)
  | bl b => exact .base (.bl b)
  | str x => exact .base (.str x)
  | non => exact .base .non
  | ref h n => exact h
theorem Kin.lst {xs : List V} (h : H a = some (.lst xs)) : Kin K H (.ref a) .list := .ref (.base (.lst h)) (.inl rfl)
theorem Kin.tup {xs : List V} (h : H a = some (.tup xs)) : Kin K H (.ref a) .tup := .ref (.base (.tup h)) (.inr (.inl rfl))
theorem Kin.dK {kvs : List (Key × V)} (h : H a = some (.dK kvs)) : Kin K H (.ref a) .dict := .ref (.base (.dK h)) (.inr (.inr rfl))
theorem kit_int (k : Kn) : kitB k.nm "int" = some (k == .int || k == .bool) := by cases k <;> decide +kernel
theorem kit_bool (k : Kn) : kitB k.nm "bool" = some (k == .bool) := by cases k <;> decide +kernel
theorem kit_list (k : Kn) : kitB k.nm "list" = some (k == .list) := by cases k <;> decide +kernel
theorem kit_tuple (k : Kn) : kitB k.nm "tuple" = some (k == .tup) := by cases k <;> decide +kernel
theorem kit_str (k : Kn) : kitB k.nm "str" = some (k == .str) := by cases k <;> decide +kernel
theorem rd_isi {T : String} {b : Bool} (h : Kin K H x k) (e : kitB k.nm T = some b) (q : Q (.bl b) H) : rIsi K [x, .ty T] H Q := ⟨x, .ty T, .type k.nm, .type T, b, rfl, .ty T, h.ty, kit_ty e, q⟩
end
/-- a def with keyword-only defaults, as it is called by its name -/
structure CalK (K : PySem.W.Frag) (mg : Str → Option Value) (x : Str) (st : Stmt) (f : Addr) (fd : FuncData) : Prop where
  F : Fun K x x st f fd
  m : mg x = some (.ref f)
/-- whether a thing is a whole number from l to m -/
def isWh (x : V) (l m : Int) : Bool := match x with
  | .int t => decide (l ≤ t) && decide (t ≤ m)
  | _ => false
theorem isWh_int (t l m : Int) : isWh (.int t) l m = (decide (l ≤ t) && decide (t ≤ m)) := rfl

/-! ### more readings -/
section
variable {X : Cx}
/-- a module's constant -/
theorem pe_gl {x : Str} {v : V} {pos : Pos} (hg : Gl X x) (h : ∃ u, X.mg x = some u ∧ RelV v u) (hd : (x == ("__debug__" : Str)) = false := by decide) : PE X (.Name x pos) (tC v) := by
  obtain ⟨u, h1, h2⟩ := h
  exact pe_glob hg h1 h2 hd
end
/-- the keys of written pairs -/
def toK : List (V × V) → List (Key × V)
  | [] => []
  | (.int i, v) :: r => (.inl i, v) :: toK r
  | (.str x, v) :: r => (.inr x, v) :: toK r
  | _ :: r => toK r
def dspEnd (Q : VK) (p : Addr) (ps : List (V × V)) (H : Hp) : Prop := H p = some (.dK []) ∧ ∃ kvs : List (Key × V), ps = kvs.map (fun kv => (kV kv.1, kv.2)) ∧ kvs.length ≤ 15 ∧ Q (.ref p) (upd H p (.dK (mergeK [] kvs)))
def forW (J : It) (g : TG) (tb : TS) (D : Ends) (σ : L2.St) (H : Hp) : Prop := ∃ W : Nat → Nat → L2.St → Hp → Prop, (∃ m, W 0 m σ H) ∧ ∀ i m σ H, W i m σ H →
  (J.stop i H ∧ D.nx σ H) ∨ (J.go i H ∧ ∃ N : L2.St → Hp → Prop, (∀ σ' H', N σ' H' → ∃ m', m' < m ∧ W (i + 1) m' σ' H') ∧ ∀ x H', J.yld i H x H' → g x σ H' fun σ2 H2 => tb { D with nx := N, ct := N, bk := D.nx } σ2 H2)
def wl (W : Nat → L2.St → Hp → Prop) (m : Nat) (tw : TS) (nx : L2.St → Hp → Prop) (rt : VK) (σ : L2.St) (H : Hp) : Prop := ∃ N : L2.St → Hp → Prop, (∀ σ' H', N σ' H' → ∃ m', m' < m ∧ W m' σ' H') ∧ tw ⟨N, rt, nx, N⟩ σ H
def rng1 (R : It → Hp → Prop) (vs : List V) (H : Hp) : Prop := ∃ j : Int, vs = [.int j] ∧ -(2 ^ 62) ≤ j ∧ j < 2 ^ 62 ∧ R (Itr 0 j.toNat) H
def rng2 (R : It → Hp → Prop) (vs : List V) (H : Hp) : Prop := ∃ i j : Int, vs = [.int i, .int j] ∧ (-(2 ^ 62) ≤ i ∧ i < 2 ^ 62 ∧ -(2 ^ 62) ≤ j ∧ j < 2 ^ 62) ∧ R (Itr i (j - i).toNat) H
def lstI (K : PySem.W.Frag) (R : It → Hp → Prop) (x : V) (H : Hp) : Prop := ∃ a, x = .ref a ∧ (∃ xs, SqL K H a xs) ∧ R (Itl K a) H
def tupI (K : PySem.W.Frag) (R : It → Hp → Prop) (x : V) (H : Hp) : Prop := ∃ a, x = .ref a ∧ (∃ xs, SqT K H a xs) ∧ R (Itt K a) H
section
variable {σ : L2.St} {H H0 : Hp} {M : List Addr} {L L' : Led} {Q : VK} {v x y : V} {nx : L2.St → Hp → Prop} {rt : VK} {bk ct : L2.St → Hp → Prop} {t u : TS} {te ta tb tc : TE} {g : TG} {tt tu : TT} {tw : TS} {wi : TI}
theorem rd_disp {trs : List (TE × TE)} (S : Hs H0 M H L) (h : ∀ p H', H0 p = none → Hs H0 M H' ((p, .dK []) :: L) → tPairs trs σ H' fun ps H2 => dspEnd Q p ps H2) : tDisp trs σ H Q :=
  fun p hp => h p _ (S.new hp (.dK [])).1 (S.new hp (.dK [])).2
theorem rd_dspEnd {p : Addr} {ps : List (V × V)} {kvs : List (Key × V)} (S : Hs H0 M H L) (c : Chg p (.dK []) (.dK kvs) L L') (hm : H0 p = none ∨ p ∈ M) (e : ps = (toK ps).map fun kv => (kV kv.1, kv.2)) (hl : (toK ps).length ≤ 15)
    (ek : mergeK [] (toK ps) = kvs) (h : ∀ H', Hs H0 M H' L' → Q (.ref p) H') : dspEnd Q p ps H := by
  subst ek
  exact ⟨S.is _ c.mem, toK ps, e, hl, h _ (S.put c hm)⟩
theorem rd_prs {r : List (TE × TE)} {R : List (V × V) → Hp → Prop} (h : ta σ H fun k H1 => tb σ H1 fun v H2 => tPairs r σ H2 fun ps H3 => R ((k, v) :: ps) H3) : tPairs ((ta, tb) :: r) σ H R := h
theorem rd_prs0 {R : List (V × V) → Hp → Prop} (h : R [] H) : tPairs [] σ H R := h
theorem rd_for (h : wi σ H fun J H1 => forW J g tw ⟨nx, rt, bk, ct⟩ σ H1) : tFor wi g tw ⟨nx, rt, bk, ct⟩ σ H := h
theorem rd_rng1 {ta : TA} {R : It → Hp → Prop} (h : ta σ H fun vs H1 => rng1 R vs H1) : iRng1 ta σ H R := h
theorem rd_rng2 {ta : TA} {R : It → Hp → Prop} (h : ta σ H fun vs H1 => rng2 R vs H1) : iRng2 ta σ H R := h
theorem rd_rng1v {R : It → Hp → Prop} {j : Int} (h1 : -(2 ^ 62) ≤ j) (h2 : j < 2 ^ 62) (h : R (Itr 0 j.toNat) H) : rng1 R [.int j] H := ⟨j, rfl, h1, h2, h⟩
theorem rd_rng2v {R : It → Hp → Prop} {i j : Int} (h1 : -(2 ^ 62) ≤ i) (h2 : i < 2 ^ 62) (h3 : -(2 ^ 62) ≤ j) (h4 : j < 2 ^ 62) (h : R (Itr i (j - i).toNat) H) : rng2 R [.int i, .int j] H := ⟨i, j, rfl, ⟨h1, h2, h3, h4⟩, h⟩
theorem rd_iList {K : PySem.W.Frag} {R : It → Hp → Prop} (h : te σ H fun x H1 => lstI K R x H1) : iList K te σ H R := h
theorem rd_iTup {K : PySem.W.Frag} {R : It → Hp → Prop} (h : te σ H fun x H1 => tupI K R x H1) : iTup K te σ H R := h
theorem rd_lstI {K : PySem.W.Frag} {R : It → Hp → Prop} {a : Addr} {xs : List V} (S : Hs H0 M H L) (m : (a, HO.lst xs) ∈ L) (h : R (Itl K a) H) : lstI K R (.ref a) H := ⟨a, rfl, ⟨xs, S.lst m⟩, h⟩
theorem rd_tupI {K : PySem.W.Frag} {R : It → Hp → Prop} {a : Addr} {xs : List V} (S : Hs H0 M H L) (m : (a, HO.tup xs) ∈ L) (h : R (Itt K a) H) : tupI K R (.ref a) H := ⟨a, rfl, ⟨xs, S.tup m⟩, h⟩
/-- over lo, lo + 1, .. -/
theorem fw_range {lo : Int} {n : Nat} (Pv : Nat → L2.St → Hp → Prop) (h0 : Pv 0 σ H) (hs : ∀ i σ H, i < n → Pv i σ H → g (.int (lo + i)) σ H fun σ2 H2 => tw ⟨Pv (i + 1), rt, nx, Pv (i + 1)⟩ σ2 H2) (hd : ∀ σ H, Pv n σ H → nx σ H) :
    forW (Itr lo n) g tw ⟨nx, rt, bk, ct⟩ σ H := for_range Pv h0 hs hd
/-- over a list that stays as it is -/
theorem fw_list {K : PySem.W.Frag} {a : Addr} {xs : List V} (Pv : Nat → L2.St → Hp → Prop) (h0 : Pv 0 σ H) (hl : ∀ i σ H, i ≤ xs.length → Pv i σ H → SqL K H a xs)
    (hs : ∀ i x σ H, xs[i]? = some x → Pv i σ H → g x σ H fun σ2 H2 => tw ⟨Pv (i + 1), rt, nx, Pv (i + 1)⟩ σ2 H2) (hd : ∀ σ H, Pv xs.length σ H → nx σ H) : forW (Itl K a) g tw ⟨nx, rt, bk, ct⟩ σ H := for_list Pv h0 hl hs hd
theorem fw_tup {K : PySem.W.Frag} {a : Addr} {xs : List V} (Pv : Nat → L2.St → Hp → Prop) (h0 : Pv 0 σ H) (hl : ∀ i σ H, i ≤ xs.length → Pv i σ H → SqT K H a xs)
    (hs : ∀ i x σ H, xs[i]? = some x → Pv i σ H → g x σ H fun σ2 H2 => tw ⟨Pv (i + 1), rt, nx, Pv (i + 1)⟩ σ2 H2) (hd : ∀ σ H, Pv xs.length σ H → nx σ H) : forW (Itt K a) g tw ⟨nx, rt, bk, ct⟩ σ H := for_tup Pv h0 hl hs hd
/-- while: W a word with a number that falls -/
theorem rd_while (W : Nat → L2.St → Hp → Prop) (m0 : Nat) (h0 : W m0 σ H) (hs : ∀ m σ H, W m σ H → tt σ H fun b H1 => if b = true then wl W m tw nx rt σ H1 else nx σ H1) : tWhile tt tw ⟨nx, rt, bk, ct⟩ σ H := ⟨W, ⟨m0, h0⟩, hs⟩
theorem rd_wl {W : Nat → L2.St → Hp → Prop} {m : Nat} (h : tw ⟨fun σ' H' => ∃ m', m' < m ∧ W m' σ' H', rt, nx, fun σ' H' => ∃ m', m' < m ∧ W m' σ' H'⟩ σ H) : wl W m tw nx rt σ H := ⟨_, fun _ _ h => h, h⟩
end
end Rs

namespace Rs
open PySem PySem.Spec PyProof.Rows L2

/-! ### plain data: how far it reaches -/
mutual
/-- whole numbers below 10 ^ 12, short texts of small signs, no dicts -/
def tame : PyData → Bool
  | .none | .bool _ => true
  | .int i => decide (i.natAbs < 10 ^ 12)
  | .str x => PyData.strOk x && decide (x.cps.size ≤ 40) && x.cps.toList.all fun c => decide (c < 16 ^ 8)
  | .list xs | .tuple xs => tames xs
  | .dict _ => false
def tames : List PyData → Bool
  | [] => true
  | x :: xs => tame x && tames xs
end
mutual
/-- how many there are in all -/
def cnt : PyData → Nat
  | .list xs | .tuple xs => 1 + cnts xs
  | _ => 1
def cnts : List PyData → Nat
  | [] => 0
  | x :: xs => cnt x + cnts xs
end
mutual
theorem tame_show : ∀ d : PyData, tame d = true → d.showable = true ∧ d.canLay0 = true ∧ d.intsShort 13 = true ∧ d.weight + 1 ≤ 46 * cnt d
  | .none, _ => by simp [PyData.showable, PyData.canLay0, PyData.intsShort, PyData.weight, cnt]
  | .bool _, _ => by simp [PyData.showable, PyData.canLay0, PyData.intsShort, PyData.weight, cnt]
  | .int i, h => by
    have h1 : i.natAbs < 10 ^ 12 := by simpa [tame] using h
    have h2 : i.natAbs.log2 < 40 := by
      by_cases z : i.natAbs = 0
      · rw [z]; decide
      · exact (Nat.log2_lt z).mpr (by omega)
    have h3 := PyData.shown_int_le h1
    refine ⟨by simp [PyData.showable]; omega, by simp [PyData.canLay0], by simp [PyData.intsShort]; omega, ?_⟩
    simp only [PyData.weight, cnt]
    split <;> omega
  | .str x, h => by
    simp only [tame, Bool.and_eq_true, decide_eq_true_eq] at h
    refine ⟨by simp [PyData.showable], by simpa [PyData.canLay0] using h.1.1, by simp [PyData.intsShort], ?_⟩
    simp only [PyData.weight, cnt]
    omega
  | .list xs, h => by
    obtain ⟨h1, h2, h3, h4⟩ := tames_show xs (by simpa [tame] using h)
    refine ⟨by simpa [PyData.showable] using h1, by simpa [PyData.canLay0] using h2, by simpa [PyData.intsShort] using h3, ?_⟩
    simp only [PyData.weight, cnt]
    omega
  | .tuple xs, h => by
    obtain ⟨h1, h2, h3, h4⟩ := tames_show xs (by simpa [tame] using h)
    refine ⟨by simpa [PyData.showable] using h1, by simpa [PyData.canLay0] using h2, by simpa [PyData.intsShort] using h3, ?_⟩
    simp only [PyData.weight, cnt]
    omega
  | .dict _, h => by simp [tame] at h
theorem tames_show : ∀ xs : List PyData, tames xs = true → PyData.showableAll xs = true ∧ PyData.canLayAll0 xs = true ∧ PyData.intsShortAll 13 xs = true ∧ PyData.weightAll xs ≤ 46 * cnts xs
  | [], _ => by simp [PyData.showableAll, PyData.canLayAll0, PyData.intsShortAll, PyData.weightAll, cnts]
  | x :: xs, h => by
    have h' : tame x = true ∧ tames xs = true := by simpa [tames] using h
    obtain ⟨a1, a2, a3, a4⟩ := tame_show x h'.1
    obtain ⟨b1, b2, b3, b4⟩ := tames_show xs h'.2
    simp only [PyData.showableAll, PyData.canLayAll0, PyData.intsShortAll, PyData.weightAll, cnts, a1, a2, a3, b1, b2, b3, Bool.and_self, true_and]
    omega
end
theorem shw_of {d : PyData} (h : tame d = true) (hc : cnt d ≤ 20000) : Shw d := by
  obtain ⟨h1, h2, h3, h4⟩ := tame_show d h
  exact ⟨h1, PyData.shown_fits (B := 13) (by decide) (by decide) (PyData.leavesShort_of_canLay0 13 d h2 h3) (by omega)⟩
theorem shaped_of {d : PyData} (h : tame d = true) (hd : d.depth ≤ 64) : SeqAt.shaped d = true := by
  obtain ⟨_, h2, _, _⟩ := tame_show d h
  unfold SeqAt.shaped
  rw [h2, Bool.true_and]
  exact decide_eq_true hd
/-! ### lists of whole numbers -/
def dI (ns : List Int) : PyData := .list (ns.map .int)
section
variable {K : PySem.W.Frag} {H H0 : Hp} {M : List Addr} {L L' : Led} {Q : VK} {a b : Addr}
theorem dps_ints : ∀ ns : List Int, DpAll K H (ns.map V.int) (ns.map .int)
  | [] => .nil
  | n :: ns => .cons (.int n) (dps_ints ns)
theorem dp_ints {ns : List Int} (h : SqL K H a (ns.map V.int)) : Dp K H (.ref a) (dI ns) := .lst h (dps_ints ns)
theorem depth_ints : ∀ ns : List Int, PyData.depthAll (ns.map .int) = 0
  | [] => by simp [PyData.depthAll]
  | n :: ns => by simp [PyData.depthAll, PyData.depth, depth_ints ns]
theorem depth_dI (ns : List Int) : (dI ns).depth = 1 := by simp [dI, PyData.depth, depth_ints]
theorem canLay_ints : ∀ ns : List Int, PyData.canLayAll0 (ns.map .int) = true
  | [] => by simp [PyData.canLayAll0]
  | n :: ns => by simp [PyData.canLayAll0, PyData.canLay0, canLay_ints ns]
theorem shaped_dI (ns : List Int) : SeqAt.shaped (dI ns) = true := by
  unfold SeqAt.shaped
  rw [depth_dI]
  simp [dI, PyData.canLay0, canLay_ints]
theorem eqv_ints : ∀ ns ms : List Int, PyData.eqvAll (ns.map .int) (ms.map .int) = decide (ns = ms)
  | [], [] => by simp [PyData.eqvAll]
  | [], m :: ms => by simp [PyData.eqvAll]
  | n :: ns, [] => by simp [PyData.eqvAll]
  | n :: ns, m :: ms => by
    simp only [List.map_cons, PyData.eqvAll, PyData.eqv, eqv_ints ns ms, List.cons.injEq, Bool.decide_and]
    rfl
theorem eqv_dI (ns ms : List Int) : PyData.eqv (dI ns) (dI ms) = decide (ns = ms) := by
  simp only [dI, PyData.eqv, eqv_ints]
theorem tames_ints : ∀ ns : List Int, (∀ n ∈ ns, n.natAbs < 10 ^ 12) → tames (ns.map .int) = true
  | [], _ => by simp [tames]
  | n :: ns, h => by
    simp only [List.map_cons, tames, tame, Bool.and_eq_true, decide_eq_true_eq]
    exact ⟨h n List.mem_cons_self, tames_ints ns fun m hm => h m (List.mem_cons_of_mem _ hm)⟩
theorem cnts_ints : ∀ ns : List Int, cnts (ns.map .int) = ns.length
  | [] => by simp [cnts]
  | n :: ns => by simp only [List.map_cons, cnts, cnt, cnts_ints ns, List.length_cons]; omega
theorem shw_dI {ns : List Int} (h : ∀ n ∈ ns, n.natAbs < 10 ^ 12) (hl : ns.length ≤ 10000) : Shw (dI ns) :=
  shw_of (by simp [dI, tame, tames_ints ns h]) (by simp only [dI, cnt, cnts_ints]; omega)
/-- == and != of two lists of whole numbers -/
theorem rd_eqIs {xs ys : List V} {ns ms : List Int} (S : Hs H0 M H L) (m1 : (a, HO.lst xs) ∈ L) (m2 : (b, HO.lst ys) ∈ L) (e1 : xs = ns.map V.int) (e2 : ys = ms.map V.int) (h : Q (.bl (decide (ns = ms))) H) : rEqD K (.ref a) (.ref b) H Q := by
  subst e1 e2
  exact ⟨_, _, dp_ints (S.lst m1), dp_ints (S.lst m2), shaped_dI ns, shaped_dI ms, by rw [eqv_dI]; exact h⟩
theorem rd_neIs {xs ys : List V} {ns ms : List Int} (S : Hs H0 M H L) (m1 : (a, HO.lst xs) ∈ L) (m2 : (b, HO.lst ys) ∈ L) (e1 : xs = ns.map V.int) (e2 : ys = ms.map V.int) (h : Q (.bl (decide (¬ ns = ms))) H) : rNeD K (.ref a) (.ref b) H Q := by
  subst e1 e2
  refine ⟨_, _, dp_ints (S.lst m1), dp_ints (S.lst m2), shaped_dI ns, shaped_dI ms, ?_⟩
  rw [eqv_dI]
  have e : (!decide (ns = ms)) = decide (¬ ns = ms) := by simp
  rw [e]; exact h
theorem rd_reprI {xs : List V} {ns : List Int} (S : Hs H0 M H L) (m : (a, HO.lst xs) ∈ L) (e : xs = ns.map V.int) (hb : ∀ n ∈ ns, n.natAbs < 10 ^ 12) (hl : ns.length ≤ 10000) (h : Q (.str (dI ns).shown) H) : rRepr K [.ref a] H Q := by
  subst e
  exact ⟨.ref a, dI ns, rfl, dp_ints (S.lst m), shw_dI hb hl, by rw [depth_dI]; decide, h⟩
theorem pick_ints (ns : List Int) (lo hi st : Option Int) : ∃ ks : List Int, pickV (ns.map V.int) lo hi st = ks.map V.int ∧ (∀ k ∈ ks, k ∈ ns) := by
  have e : ∀ ix : List Nat, ix.filterMap ((ns.map V.int)[·]?) = (ix.filterMap (ns[·]?)).map V.int := fun ix => by
    induction ix with
    | nil => rfl
    | cons i ix ih =>
      cases h : ns[i]? with
      | none => rw [List.filterMap_cons_none (by rw [List.getElem?_map, h]; rfl), List.filterMap_cons_none h, ih]
      | some z => rw [List.filterMap_cons_some (by rw [List.getElem?_map, h]; rfl), List.filterMap_cons_some h, ih]; rfl
  refine ⟨(slIx (ns.map V.int).length lo hi st).filterMap (ns[·]?), e _, fun k hk => ?_⟩
  obtain ⟨i, _, hi⟩ := List.mem_filterMap.mp hk
  exact List.mem_of_getElem? hi
end
/-- how keywords are put in the parameters' order -/
theorem kb_of {K : PySem.W.Frag} {x qual : Str} {st : Stmt} {f : Addr} {fd : FuncData} {ps ks : List Str} {n : Nat} (F : Fun K x qual st f fd) (ix : List Nat)
    (h : ∀ (kV doc pm : Value) (an : Option Addr) (cdv ct : Value) (us ws : List Value), us.length = n → ws.length = ks.length →
      bindArgs (PySem.W.fnOf x qual (defArgs st) (defBody st) (defScope st) .none kV doc pm an cdv ct) ⟨us, ks.zip ws⟩ = pure (ps.zip (us ++ ix.filterMap (ws[·]?)))) :
    KBn K fd ps n ks (fun us ws => us ++ ix.filterMap (ws[·]?)) (fun us ws => us ++ ix.filterMap (ws[·]?)) := by
  obtain ⟨oc, od, kV, doc, pm, an, cdv, ct, osl, rfl, lk, hcd⟩ := F.ex
  exact ⟨fun s us ws _ h1 h2 => .of_eq (h kV doc pm an cdv ct us ws h1 h2), fun r1 r2 => r1.append (vals_pick r2 ix)⟩
end Rs

namespace Rs
open PySem PySem.Spec PyProof.Rows L2
section
variable {K : PySem.W.Frag} {mg : Str → Option Value} {h : Heap}
theorem ex_calK {x : Str} {st : Stmt} {f : Addr} {oc : Value} {od an : Option Addr} {osl : Array (Option Value)} {kV doc pm cdv ct : Value} (X : K.In h) (G : h.Ns mainGlobals mg) (a : PySem.W.nsIn K mainGlobals x = some (some (.ref f)))
    (l : K.lookup f = some ⟨oc, od, .func (PySem.W.fnOf x x (defArgs st) (defBody st) (defScope st) .none kV doc pm an cdv ct), osl⟩) (c : PySem.W.codeIn K cdv x = true) (k : PySem.W.keepIn K (.ref f) = true) : ∃ f fd, CalK K mg x st f fd :=
  ⟨_, _, fun_mk l c k, PySem.W.mg_of X G a⟩
theorem ex_cal {x : Str} {st : Stmt} {ps : List Str} {f : Addr} {oc : Value} {od an : Option Addr} {osl : Array (Option Value)} {kV doc pm cdv ct : Value} (X : K.In h) (G : h.Ns mainGlobals mg) (a : PySem.W.nsIn K mainGlobals x = some (some (.ref f)))
    (l : K.lookup f = some ⟨oc, od, .func (PySem.W.fnOf x x (defArgs st) (defBody st) (defScope st) .none kV doc pm an cdv ct), osl⟩) (c : PySem.W.codeIn K cdv x = true) (k : PySem.W.keepIn K (.ref f) = true)
    (b : ∀ (kV doc pm : Value) (an : Option Addr) (cdv ct : Value) (us : List Value), us.length = ps.length → bindArgs (PySem.W.fnOf x x (defArgs st) (defBody st) (defScope st) .none kV doc pm an cdv ct) ⟨us, []⟩ = pure (ps.zip us)) : ∃ f fd, Cal K mg x st ps f fd :=
  ⟨_, _, fun_mk l c k, (fun_mk l c k).binds b, PySem.W.mg_of X G a⟩
theorem ex_gl {x : Str} {v : V} {u : Value} (X : K.In h) (G : h.Ns mainGlobals mg) (a : PySem.W.nsIn K mainGlobals x = some (some u)) (r : RelV v u) : ∃ u, mg x = some u ∧ RelV v u := ⟨u, PySem.W.mg_of X G a, r⟩
end
/-- the end, the law's def by its facts -/
theorem walkE {l : PySem.W.OpenLaw} {n k : Nat} {q : Program} {loose : List Str} {XP : (Str → Option Value) → Heap → Prop} {YP : World → Heap → Prop} {d : DefRec} {K : Params → PySem.W.Frag} {sp : PySem.W.Frag → Sp} {st : Stmt} {x : Str}
    (hn : l.most = some n) (hn2 : n ≤ sizeLine) (hdf : d.params.defaults = []) (hr : Room k callerA) (hY : ∀ (w : World) (h : Heap), YP w h → (K w.params).In h) (hx : d.name = "law")
    (hb : ∀ (kV doc pm : Value) (an : Option Addr) (cdv ct u : Value), bindArgs (PySem.W.fnOf "law" "law" (defArgs st) (defBody st) (defScope st) .none kV doc pm an cdv ct) ⟨[u], []⟩ = pure [(x, u)])
    (F : ∀ (w : World) (mg : Str → Option Value) (h : Heap), (K w.params).In h → h.Ns mainGlobals mg →
      ∃ (fa : Addr) (fd : FuncData), Cal (K w.params) mg "law" st [x] fa fd ∧ ∀ base : Heap, FnG l.prog w (K w.params) mg base k fa fd [x] (sp (K w.params)))
    (hsp : ∀ (K : PySem.W.Frag) (H : Hp) (a : Addr) (ns : List Int), ns.length ≤ n → (∀ z ∈ ns, Builtin.Int.intBits z ≤ 1048576) → SqL K H a (ns.map V.int) → sp K [.ref a] H (fun v _ => v = .bl true) E0) :
    PySem.W.WalkO q loose XP YP l.row.toRowW d [] (fun f vs => PySem.call f vs) := by
  refine walkG (x := x) hn hn2 hdf hr hY (fun w mg fa h KX G hmg => ?_) hsp
  obtain ⟨f, fd, C, ok⟩ := F w mg h KX G
  rw [hx] at hmg
  have e := C.m.symm.trans hmg
  cases e
  obtain ⟨oc, od, kV, doc, pm, an, cdv, ct, osl, rfl, lk, hcd⟩ := C.F.ex
  exact ⟨_, fun s u => .of_eq (hb kV doc pm an cdv ct u), fun base _ _ => ok base⟩
end Rs

/-! K34m: the mathematics of powers. -/
namespace K34
/-- p is the first place at which the two, as parts of W, rounded, are unlike -/
def IsP (a b W : Int) (p : Nat) : Prop := (∀ q, q < p → a * 2 ^ q / W = b * 2 ^ q / W) ∧ a * 2 ^ p / W ≠ b * 2 ^ p / W
theorem IsP.uniq {a b W : Int} {p q : Nat} (h : IsP a b W p) (k : IsP a b W q) : p = q := by
  rcases Nat.lt_trichotomy p q with z | z | z
  · exact absurd (k.1 p z) h.2
  · exact z
  · exact absurd (h.1 q z) k.2
theorem p2 (x : Int) (p : Nat) : x * 2 ^ (p + 1) = 2 * (x * 2 ^ p) := by
  rw [Int.pow_succ, ← Int.mul_assoc]; omega
/-- equal quotients: the two are near -/
theorem near {x y W : Int} (hW : 0 < W) (e : x / W = y / W) : y - x < W := by
  have h1 := Int.emod_nonneg x (show W ≠ 0 by omega)
  have h2 := Int.emod_lt_of_pos y hW
  have d1 := Int.emod_def x W
  have d2 := Int.emod_def y W
  rw [e] at d1
  omega
theorem far {x y W : Int} (hW : 0 < W) (h : W ≤ y - x) : x / W ≠ y / W := fun e => by
  have := near hW e
  omega
theorem step_dig {x W : Int} (hW : 0 < W) : (2 * x) / W = 2 * (x / W) + (if W ≤ 2 * (x % W) then 1 else 0) ∧ (2 * x) % W = 2 * (x % W) - (if W ≤ 2 * (x % W) then W else 0) := by
  have h0 := Int.emod_nonneg x (show W ≠ 0 by omega)
  have h1 := Int.emod_lt_of_pos x hW
  have d := Int.emod_def x W
  have key : ∀ q r : Int, 2 * x = W * q + r → 0 ≤ r → r < W → (2 * x) / W = q ∧ (2 * x) % W = r := by
    intro q r e z0 z1
    rw [e]
    constructor
    · rw [Int.add_comm, Int.add_mul_ediv_left _ _ (by omega), Int.ediv_eq_zero_of_lt z0 z1]; omega
    · rw [Int.add_comm, Int.add_mul_emod_self_left, Int.emod_eq_of_lt z0 z1]
  have m2 : ∀ z : Int, W * (2 * z) = 2 * (W * z) := fun z => by rw [Int.mul_left_comm]
  split
  · apply key
    · rw [Int.mul_add, m2]; omega
    · omega
    · omega
  · apply key
    · rw [Int.add_zero, m2]; omega
    · omega
    · omega
theorem pow_pos2 (p : Nat) : (1 : Int) ≤ 2 ^ p := by
  induction p with
  | zero => decide
  | succ n ih => rw [Int.pow_succ]; omega
theorem sub_pow (a b : Int) (p : Nat) : b * 2 ^ p - a * 2 ^ p = (b - a) * 2 ^ p := by rw [Int.sub_mul]
theorem mul_le {d : Int} (p : Nat) (h : 1 ≤ d) : 2 ^ p ≤ d * 2 ^ p := by
  have z := pow_pos2 p
  have := Int.mul_le_mul_of_nonneg_right h (show (0 : Int) ≤ 2 ^ p by omega)
  omega
theorem dbl (p : Nat) : (2 : Int) ^ (p + 1) = 2 * 2 ^ p := by rw [Int.pow_succ]; omega
theorem pow_mono {p q : Nat} (h : p ≤ q) : (2 : Int) ^ p ≤ 2 ^ q := by
  induction q with
  | zero => simp at h; subst h; exact Int.le_refl _
  | succ n ih =>
    by_cases e : p = n + 1
    · subst e; exact Int.le_refl _
    · have := ih (by omega)
      have z := pow_pos2 n
      rw [dbl]; omega
/-- where all quotients up to k are equal k is small -/
theorem small {a b W : Int} {k n : Nat} (hW : 0 < W) (hab : a + 2 ≤ b) (e : a * 2 ^ k / W = b * 2 ^ k / W) (hn : W ≤ 2 ^ (n + 1)) : k < n := by
  have h1 := near hW e
  rw [sub_pow] at h1
  by_cases hk : k < n
  · exact hk
  · have h2 : (b - a) * 2 ^ k ≥ 2 * 2 ^ k := Int.mul_le_mul_of_nonneg_right (show 2 ≤ b - a by omega) (by have := pow_pos2 k; omega)
    have h3 := pow_mono (show n ≤ k by omega)
    rw [dbl] at hn
    omega
theorem IsP.pos {a b W : Int} {p : Nat} (h : IsP a b W p) (ha : 0 ≤ a) (hb : 0 ≤ b) (h1 : a < W) (h2 : b < W) : 1 ≤ p := by
  cases p with
  | zero =>
    refine absurd ?_ h.2
    simp only [Int.pow_zero, Int.mul_one]
    rw [Int.ediv_eq_zero_of_lt ha h1, Int.ediv_eq_zero_of_lt hb h2]
  | succ n => omega
theorem IsP.le {a b W : Int} {p n : Nat} (h : IsP a b W p) (hW : 0 < W) (hab : a + 2 ≤ b) (hn : W ≤ 2 ^ (n + 1)) : p ≤ n := by
  by_cases z : p ≤ n
  · exact z
  · have := small hW hab (h.1 n (by omega)) hn
    omega
theorem IsP.twice {a b W : Int} {p : Nat} (h : IsP a b W p) : IsP (2 * a) (2 * b) (2 * W) p := by
  have e : ∀ (x : Int) (q : Nat), 2 * x * 2 ^ q / (2 * W) = x * 2 ^ q / W := fun x q => by
    rw [Int.mul_assoc, Int.mul_ediv_mul_of_pos _ _ (by decide)]
  refine ⟨fun q hq => ?_, ?_⟩
  · rw [e, e]; exact h.1 q hq
  · rw [e, e]; exact h.2
/-- by a double whole the quotients at the place itself are equal -/
theorem IsP.half {a b W : Int} {p : Nat} (h : IsP a b W p) (hp : 1 ≤ p) : a * 2 ^ p / (2 * W) = b * 2 ^ p / (2 * W) := by
  obtain ⟨n, rfl⟩ : ∃ n, p = n + 1 := ⟨p - 1, by omega⟩
  have e : ∀ x : Int, x * 2 ^ (n + 1) / (2 * W) = x * 2 ^ n / W := fun x => by
    rw [p2, Int.mul_ediv_mul_of_pos _ _ (by decide)]
  rw [e, e]
  exact h.1 n (by omega)
/-- binary digits -/
theorem lt_log (n : Nat) : n < 2 ^ (n.log2 + 1) := Nat.lt_log2_self
end K34

local macro_rules | `(tactic| walk_at "mem") => `(tactic| repeat (with_reducible first | exact List.mem_cons_self | apply List.mem_cons_of_mem))
local macro_rules | `(tactic| walk_at "chg") => `(tactic| repeat (with_reducible first | exact Rs.Chg.here | apply Rs.Chg.there))
local macro_rules | `(tactic| walk_at "chgF") => `(tactic| (intro o'; walk_at "chg"))
local macro_rules | `(tactic| walk_at "own") => `(tactic| first | (apply Or.inl; assumption) | (apply Or.inr; simp))
local macro_rules | `(tactic| walk_at "size") => `(tactic| first | exact Rs.sz (Nat.le_of_ble_eq_true rfl) | exact Rs.sz (by simp) | exact Rs.sz (by simp; omega))
local macro_rules | `(tactic| walk_at "size1") => `(tactic| first | exact Rs.sz' (Nat.le_of_ble_eq_true rfl) | exact Rs.sz' (by simp) | exact Rs.sz' (by simp; omega))
local macro_rules | `(tactic| walk_at "val") => `(tactic| first | assumption | rfl)
local macro_rules | `(tactic| walk_at "put") => `(tactic| first | assumption | rfl)
local macro_rules | `(tactic| walk_at "rd1") => `(tactic| first
  | with_reducible refine Rs.rd_seq ?_
  | with_reducible refine Rs.rd_asg ?_
  | ((with_reducible refine' Rs.rd_var ?e ?_); (case e => rfl))
  | with_reducible refine Rs.rd_c ?_
  | with_reducible refine Rs.rd_op ?_
  | with_reducible refine Rs.rd_I0 ?_
  | with_reducible refine Rs.rd_cons ?_
  | with_reducible refine Rs.rd_nil ?_
  | ((with_reducible refine' Rs.rd_name ?e ?_); (case e => (dsimp only [List.set]; try rfl)))
  | with_reducible refine Rs.rd_ifS ?_
  | with_reducible refine Rs.rd_test ?_
  | with_reducible refine Rs.rd_bl ?_
  | with_reducible refine Rs.rd_ret ?_
  | with_reducible refine Rs.rd_retN ?_
  | with_reducible refine Rs.rd_drop ?_
  | with_reducible refine Rs.rd_next ?_
  | with_reducible refine Rs.rd_eqI ?_
  | with_reducible refine Rs.rd_neI ?_
  | with_reducible refine Rs.rd_eqS ?_
  | with_reducible refine Rs.rd_neS ?_
  | with_reducible refine Rs.rd_eqB ?_
  | with_reducible refine Rs.rd_par ?_
  | with_reducible refine Rs.rd_par3 ?_
  | ((with_reducible refine Rs.rd_two ?_); dsimp only [List.set])
  | ((with_reducible refine Rs.rd_three ?_); dsimp only [List.set])
  | with_reducible refine Rs.rd_un ?_
  | with_reducible refine Rs.rd_U ?_
  | with_reducible refine Rs.rd_tB ?_
  | with_reducible refine Rs.rd_and ?_
  | with_reducible refine Rs.rd_or ?_
  | with_reducible refine Rs.rd_not ?_
  | with_reducible refine Rs.rd_andV ?_
  | with_reducible refine Rs.rd_orV ?_
  | with_reducible refine Rs.rd_notV ?_
  | with_reducible refine Rs.rd_if ?_
  | with_reducible refine Rs.rd_tup ?_
  | with_reducible refine Rs.rd_lst ?_
  | with_reducible refine Rs.rd_cb ?_
  | with_reducible refine Rs.rd_call0 ?_
  | with_reducible refine Rs.rd_call ?_
  | with_reducible refine Rs.rd_callN ?_
  | with_reducible refine Rs.rd_chain ?_
  | with_reducible refine Rs.rd_bits ?_
  | with_reducible refine Rs.rd_int1 ?_
  | with_reducible refine Rs.rd_int2 ?_
  | with_reducible refine Rs.rd_dget ?_
  | with_reducible refine Rs.rd_dput ?_
  | with_reducible refine Rs.rd_slice3 ?_
  | with_reducible refine Rs.rd_sl ?_
  | with_reducible refine Rs.rd_noPart ?_
  | with_reducible refine Rs.rd_part ?_
  | ((with_reducible refine' Rs.rd_mod ?c ?_); (case c => omega); intro r e h0 h1)
  | ((with_reducible refine' Rs.rd_div ?c ?d ?_); (case c => omega); (case d => omega))
  | ((with_reducible refine' Rs.rd_mulL ?c ?d ?_); (case c => omega); (case d => omega))
  | ((with_reducible refine' Rs.rd_mulR ?c ?d ?_); (case c => omega); (case d => omega))
  | ((with_reducible refine' Rs.rd_pow ?c ?d ?f ?_); (case c => omega); (case d => omega); (case f => omega))
  | ((with_reducible refine' Rs.rd_newL (by assumption) ?z ?_); (case z => walk_at "size"); intro p H hp S)
  | ((with_reducible refine' Rs.rd_newT (by assumption) ?z ?_); (case z => walk_at "size"); intro p H hp S)
  | ((with_reducible refine' Rs.rd_newO (by assumption) ?_); intro p H hp S)
  | ((with_reducible refine' Rs.rd_ixL (by assumption) ?m ?e ?_); (case m => (walk_at "mem"; done)); (case e => first | rfl | assumption))
  | ((with_reducible refine' Rs.rd_ixT (by assumption) ?m ?e ?_); (case m => (walk_at "mem"; done)); (case e => first | rfl | assumption))
  | ((with_reducible refine' Rs.rd_len (by assumption) ?m ?_); (case m => (walk_at "mem"; done)))
  | ((with_reducible refine' Rs.rd_lenT (by assumption) ?m ?_); (case m => (walk_at "mem"; done)))
  | ((with_reducible refine' Rs.rd_getS (by assumption) ?m ?e ?_); (case m => (walk_at "mem"; done)); (case e => walk_at "val"))
  | ((with_reducible refine' Rs.rd_putS (by assumption) ?c ?m ?z ?e ?_); (case c => (walk_at "chg"; done)); (case m => walk_at "own"); (case z => walk_at "size1"); (case e => walk_at "put"); intro H S)
  | ((with_reducible refine' Rs.gt_ref (by assumption) ?m ?e ?_); (case m => (walk_at "mem"; done)); (case e => rfl))
  | with_reducible refine Rs.gt_cons ?_
  | with_reducible refine Rs.gt_nil ?_
  | with_reducible refine Rs.rd_for ?_
  | with_reducible refine Rs.rd_rng1 ?_
  | with_reducible refine Rs.rd_rng2 ?_
  | ((with_reducible refine' Rs.rd_rng1v ?c ?d ?_); (case c => omega); (case d => omega))
  | with_reducible refine Rs.rd_iList ?_
  | with_reducible refine Rs.rd_iTup ?_
  | ((with_reducible refine' Rs.rd_lstI (by assumption) ?m ?_); (case m => (walk_at "mem"; done)))
  | ((with_reducible refine' Rs.rd_tupI (by assumption) ?m ?_); (case m => (walk_at "mem"; done)))
  | with_reducible refine Rs.rd_wl ?_
  | ((with_reducible refine' Rs.rd_disp (by assumption) ?_); intro p H hp S)
  | with_reducible refine Rs.rd_prs ?_
  | with_reducible refine Rs.rd_prs0 ?_
  | ((with_reducible refine' Rs.rd_dspEnd (by assumption) ?c ?m ?e ?z ?f ?_); (case c => (walk_at "chg"; done)); (case m => walk_at "own"); (case e => rfl); (case z => exact Nat.le_of_ble_eq_true rfl); (case f => walk_at "put"); intro H S)
  | ((with_reducible refine' Rs.rd_isi (by assumption) ?e ?_); (case e => first | exact Rs.kit_int _ | exact Rs.kit_bool _ | exact Rs.kit_list _ | exact Rs.kit_tuple _ | exact Rs.kit_str _))
  | with_reducible refine Rs.rd_iteT ?_
  | with_reducible refine Rs.rd_nT ?_
  | with_reducible refine Rs.rd_nF ?_
  | with_reducible refine Rs.rd_iteF ?_)
local macro_rules | `(tactic| walk_at "end") => `(tactic| first
  | assumption
  | omega
  | exact Rs.Hs.get (by assumption) (by walk_at "mem"; done)
  | exact Rs.Hs.same (by assumption)
  | (intro b o e hb; exact Rs.Hs.old1 (by assumption) e hb)
  | rfl)
local macro_rules | `(tactic| walk_at "rd") => `(tactic| repeat (walk_at "rd1"))
local macro_rules | `(tactic| walk_at "st") => `(tactic| (refine Rs.rd_start ?_; dsimp only [Rs.stV, List.head?, List.tail]))
namespace K34
open PySem L2 Rs
def topS (i : Nat) : Stmt := PySem.Challenge.pw_runsort_k34_powers_of_neighbours.main.body.getD i (.Pass ⟨0, 0, 0, 0⟩)
/-! the draws -/
def drw (l c a : Int) : List (Key × V) := [(.inr "left", .int l), (.inr "cell", .int c), (.inr "at", .int a)]
theorem k_lc : ¬ (("left" : Str) = "cell") := by decide +kernel
theorem k_la : ¬ (("left" : Str) = "at") := by decide +kernel
theorem k_ca : ¬ (("cell" : Str) = "at") := by decide +kernel
theorem k_ne {a b : Str} (h : ¬ a = b) : ¬ ((Sum.inr a : Key) = Sum.inr b) := fun e => h (Sum.inr.inj e)
theorem drw_left (l c a : Int) : valV (drw l c a) (.inr "left") = some (.int l) := valV_pos rfl
theorem drw_cell (l c a : Int) : valV (drw l c a) (.inr "cell") = some (.int c) := (valV_neg (k_ne k_lc)).trans (valV_pos rfl)
theorem drw_at (l c a : Int) : valV (drw l c a) (.inr "at") = some (.int a) := (valV_neg (k_ne k_la)).trans ((valV_neg (k_ne k_ca)).trans (valV_pos rfl))
theorem put_left (l c a x : Int) : putK (drw l c a) (.inr "left") (.int x) = drw x c a := by
  unfold putK drw
  simp [show ¬ (("cell" : Str) = "left") from fun e => k_lc e.symm, show ¬ (("at" : Str) = "left") from fun e => k_la e.symm]
theorem put_at (l c a x : Int) : putK (drw l c a) (.inr "at") (.int x) = drw l c x := by
  unfold putK drw
  simp [k_ca, k_la]
theorem merge_drw (l c a : Int) : mergeK [] (toK [(.str "left", .int l), (.str "cell", .int c), (.str "at", .int a)]) = drw l c a := by
  simp only [toK, mergeK, List.foldl_cons, List.foldl_nil]
  unfold putK drw
  simp [k_lc, k_la, k_ca, show ¬ (("cell" : Str) = "left") from fun e => k_lc e.symm, show ¬ (("at" : Str) = "left") from fun e => k_la e.symm, show ¬ (("at" : Str) = "cell") from fun e => k_ca e.symm]
local macro_rules | `(tactic| walk_at "val") => `(tactic| first | exact drw_left _ _ _ | exact drw_cell _ _ _ | exact drw_at _ _ _)
local macro_rules | `(tactic| walk_at "put") => `(tactic| first | exact put_left _ _ _ _ | exact put_at _ _ _ _ | exact merge_drw _ _ _)
/-! the promises -/
def sp_whole : Sp := fun vs H Q _ => ∃ (t l m : Int), vs = [.int t, .int l, .int m] ∧ Q (.bl (decide (l ≤ t) && decide (t ≤ m))) H
def sp_bits : Sp := fun vs H Q _ => ∃ n : Int, vs = [.int n] ∧ 0 ≤ n ∧ Q (.int (Builtin.Int.intBits n : Nat)) H
def sp_need : Sp := fun vs H Q _ => ∃ (t l m : Int), vs = [.int t, .int l, .int m] ∧ l ≤ t ∧ t ≤ m ∧ Q .non H
def sp_power : Sp := fun vs H Q _ => ∃ (s m e t : Int), vs = [.int s, .int m, .int e, .int t] ∧ 0 ≤ s ∧ s < m ∧ m < e ∧ e ≤ t ∧ t ≤ 4096 ∧ ∀ p : Nat, IsP (s + m) (m + e) (2 * t) p → Q (.int p) H
def sp_begun (K : PySem.W.Frag) : Sp := fun vs H Q _ => ∃ (s : Addr) (ns : List Int) (k : Int), vs = [.ref s, .int k] ∧ SqL K H s (ns.map V.int) ∧ 0 ≤ k ∧ k ≤ 100 ∧
  ∀ (d : Addr) (l c : Int) (H' : Hp), H d = none → H' d = some (.dK (drw l c (60 * k))) → Same H H' → Q (.ref d) H'
def sp_take : Sp := fun vs H Q _ => ∃ (d : Addr) (l c a n : Int), vs = [.ref d, .int n] ∧ H d = some (.dK (drw l c a)) ∧ 1 ≤ n ∧ n < 2 ^ 60 ∧ 0 ≤ a ∧ a < 2 ^ 40 ∧
  ∀ (r l' a' : Int) (H' : Hp), H' d = some (.dK (drw l' c a')) → (∀ b o, H b = some o → b ≠ d → H' b = some o) → 0 ≤ r → r < n → a ≤ a' → a' ≤ a + 1 → Q (.int r) H'
def sp_of : Sp := fun vs H Q _ => ∃ (d q : Addr) (l c a : Int) (ns : List Int), vs = [.ref d, .ref q] ∧ H d = some (.dK (drw l c a)) ∧ H q = some (.lst (ns.map V.int)) ∧ 0 < ns.length ∧ ns.length ≤ 1000 ∧ 0 ≤ a ∧ a < 2 ^ 40 ∧
  ∀ (r l' a' : Int) (H' : Hp), H' d = some (.dK (drw l' c a')) → (∀ b o, H b = some o → b ≠ d → H' b = some o) → r ∈ ns → a ≤ a' → a' ≤ a + 1 → Q (.int r) H'
def sp_digit : Sp := fun vs H Q _ => ∃ (x w : Int), vs = [.int x, .int w] ∧
  ∀ (p : Addr) (H' : Hp), H p = none → H' p = some (.tup [.int (if w ≤ 2 * x then 1 else 0), .int (2 * x - (if w ≤ 2 * x then w else 0))]) → Same H H' → Q (.ref p) H'
def sp_due : Sp := fun vs H Q _ => ∃ (s m e t : Int), vs = [.int s, .int m, .int e, .int t] ∧ 0 ≤ s ∧ s < m ∧ m < e ∧ e ≤ t ∧ t ≤ 4096 ∧ ∀ (p : Nat) (H' : Hp), IsP (s + m) (m + e) (2 * t) p → Same H H' → Q (.int p) H'
def sp_places : Sp := fun vs H Q _ => ∃ (d : Addr) (l c a : Int), vs = [.ref d] ∧ H d = some (.dK (drw l c a)) ∧ 0 ≤ a ∧ a < 2 ^ 39 ∧
  ∀ (p : Addr) (s m e t l' a' : Int) (H' : Hp), H p = none → H' p = some (.tup [.int s, .int m, .int e, .int t]) → H' d = some (.dK (drw l' c a')) → (∀ b o, H b = some o → b ≠ d → H' b = some o) → 0 ≤ s → s < m → m < e → e ≤ t → t ≤ 4096 → a ≤ a' → a' ≤ a + 10 → Q (.ref p) H'
def sp_right : Sp := fun vs H Q _ => ∃ (s m e t : Int), vs = [.int s, .int m, .int e, .int t] ∧ 0 ≤ s ∧ s < m ∧ m < e ∧ e ≤ t ∧ t ≤ 4096 ∧ ∀ (H' : Hp), Same H H' → Q (.bl true) H'
def sp_law (K : PySem.W.Frag) : Sp := fun vs H Q _ => ∃ (a : Addr) (ns : List Int), vs = [.ref a] ∧ SqL K H a (ns.map V.int) ∧ ns.length ≤ 63 ∧ ∀ H', Q (.bl true) H'
/-! the text -/
abbrev s_is_whole : Stmt := topS 4
abbrev s_bits : Stmt := topS 5
abbrev s_need_number : Stmt := topS 7
abbrev s_power_of : Stmt := topS 8
abbrev s_l_begun : Stmt := topS 10
abbrev s_l_take : Stmt := topS 11
abbrev s_l_of : Stmt := topS 12
abbrev s_l_digit : Stmt := topS 13
abbrev s_l_due : Stmt := topS 14
abbrev s_l_places : Stmt := topS 15
abbrev s_l_right : Stmt := topS 16
abbrev s_law : Stmt := topS 17
theorem sc_is_whole : FnScope ["thing", "least", "most"] ["thing", "least", "most"] (defScope s_is_whole) := ⟨rfl, rfl, rfl, by decide +kernel, rfl, by decide +kernel, by decide +kernel⟩
theorem sc_bits : FnScope ["number"] ["number"] (defScope s_bits) := ⟨rfl, rfl, rfl, by decide +kernel, rfl, by decide +kernel, by decide +kernel⟩
theorem sc_need_number : FnScope ["thing", "least", "most"] ["thing", "least", "most"] (defScope s_need_number) := ⟨rfl, rfl, rfl, by decide +kernel, rfl, by decide +kernel, by decide +kernel⟩
theorem sc_power_of : FnScope ["start", "middle", "end", "total", "low", "high", "power"] ["start", "middle", "end", "total"] (defScope s_power_of) := ⟨rfl, rfl, rfl, by decide +kernel, rfl, by decide +kernel, by decide +kernel⟩
theorem sc_l_begun : FnScope ["_law_script", "_law_k", "_law_some", "_law_found", "_law_cell", "_law_left"] ["_law_script", "_law_k"] (defScope s_l_begun) := ⟨rfl, rfl, rfl, by decide +kernel, rfl, by decide +kernel, by decide +kernel⟩
theorem sc_l_take : FnScope ["_law_draw", "_law_below", "_law_found", "_law_at", "_law_prime", "_law_mixed"] ["_law_draw", "_law_below"] (defScope s_l_take) := ⟨rfl, rfl, rfl, by decide +kernel, rfl, by decide +kernel, by decide +kernel⟩
theorem sc_l_of : FnScope ["_law_draw", "_law_some"] ["_law_draw", "_law_some"] (defScope s_l_of) := ⟨rfl, rfl, rfl, by decide +kernel, rfl, by decide +kernel, by decide +kernel⟩
theorem sc_l_digit : FnScope ["_law_part", "_law_whole", "_law_twice"] ["_law_part", "_law_whole"] (defScope s_l_digit) := ⟨rfl, rfl, rfl, by decide +kernel, rfl, by decide +kernel, by decide +kernel⟩
theorem sc_l_due : FnScope ["_law_first", "_law_second", "_law_third", "_law_whole", "_law_low", "_law_high", "_law_found", "_law_one", "_law_other"] ["_law_first", "_law_second", "_law_third", "_law_whole"] (defScope s_l_due) := ⟨rfl, rfl, rfl, by decide +kernel, rfl, by decide +kernel, by decide +kernel⟩
theorem sc_l_places : FnScope ["_law_draw", "_law_whole", "_law_way", "_law_first", "_law_second", "_law_third"] ["_law_draw"] (defScope s_l_places) := ⟨rfl, rfl, rfl, by decide +kernel, rfl, by decide +kernel, by decide +kernel⟩
theorem sc_l_right : FnScope ["_law_first", "_law_second", "_law_third", "_law_whole", "_law_due_here", "_law_told", "_law_low", "_law_high"] ["_law_first", "_law_second", "_law_third", "_law_whole"] (defScope s_l_right) := ⟨rfl, rfl, rfl, by decide +kernel, rfl, by decide +kernel, by decide +kernel⟩
theorem sc_law : FnScope ["_law_script", "_law_k", "_law_draw", "_law_turn", "_law_first", "_law_second", "_law_third", "_law_whole", "_law_at"] ["_law_script"] (defScope s_law) := ⟨rfl, rfl, rfl, by decide +kernel, rfl, by decide +kernel, by decide +kernel⟩
structure Ad where
  (is_whole bits need_number power_of begun take of digit due places right law : Addr)
  (is_wholeD bitsD need_numberD power_ofD begunD takeD ofD digitD dueD placesD rightD lawD : FuncData)
structure Txt (K : PySem.W.Frag) (mg : Str → Option Value) (A : Ad) : Prop where
  c_is_whole : CalK K mg "is_whole" s_is_whole A.is_whole A.is_wholeD
  c_bits : Cal K mg "bits" s_bits ["number"] A.bits A.bitsD
  c_need_number : Cal K mg "need_number" s_need_number ["thing", "least", "most"] A.need_number A.need_numberD
  c_power_of : Cal K mg "power_of" s_power_of ["start", "middle", "end", "total"] A.power_of A.power_ofD
  c__law_begun : Cal K mg "_law_begun" s_l_begun ["_law_script", "_law_k"] A.begun A.begunD
  c__law_take : Cal K mg "_law_take" s_l_take ["_law_draw", "_law_below"] A.take A.takeD
  c__law_of : Cal K mg "_law_of" s_l_of ["_law_draw", "_law_some"] A.of A.ofD
  c__law_digit : Cal K mg "_law_digit" s_l_digit ["_law_part", "_law_whole"] A.digit A.digitD
  c__law_due : Cal K mg "_law_due" s_l_due ["_law_first", "_law_second", "_law_third", "_law_whole"] A.due A.dueD
  c__law_places : Cal K mg "_law_places" s_l_places ["_law_draw"] A.places A.placesD
  c__law_right : Cal K mg "_law_right" s_l_right ["_law_first", "_law_second", "_law_third", "_law_whole"] A.right A.rightD
  c_law : Cal K mg "law" s_law ["_law_script"] A.law A.lawD
  g_MOST_THINGS : ∃ u, mg "MOST_THINGS" = some u ∧ RelV (.int 4096) u
  n_len : mg "len" = none
  n_min : mg "min" = none
  n_range : mg "range" = none
  n_repr : mg "repr" = none
  n_isinstance : mg "isinstance" = none
  n_int : mg "int" = none
  n_bool : mg "bool" = none
section
variable {P : Program} {w : World} {K : PySem.W.Frag} {mg : Str → Option Value} {base : Heap} {A : Ad}
theorem ok_is_whole (T : Txt K mg A) : FnOk P w K mg base CX0 1 A.is_whole A.is_wholeD ["thing", "least", "most"] sp_whole := by
  refine T.c_is_whole.F.ok sc_is_whole (fun vs H Q E h => ?_) (fun cdv Ar outer s H vs Q E hr h => ?_)
  · obtain ⟨t, l, m, rfl, _⟩ := h; rfl
  · obtain ⟨t, l, m, rfl, k⟩ := h
    refine ⟨_, (pss_one (ps_ret (pe_and (pe_callB call_isi (by rfl) T.n_isinstance PyProof.Rows.boot_isinstance (pa_cons (pv 0) (pa_cons (pe_bltn (v := .ty "int") rfl T.n_int PyProof.Rows.boot_int rfl) pa_nil))) (pe_and (pe_not (pe_callB call_isi (by rfl) T.n_isinstance PyProof.Rows.boot_isinstance (pa_cons (pv 0) (pa_cons (pe_bltn (v := .ty "bool") rfl T.n_bool PyProof.Rows.boot_bool rfl) pa_nil)))) (pe_one (pe_chain op_le op_le (pv 1) (pv 0) (pv 2))))))), ?_⟩
    walk_at "st"
    have ki := Kin.int (K := K) (H := H) t
    walk_at "rd"
    refine rd_isi ki (kit_int _) ?_
    walk_at "rd"
    show if true = true then _ else _
    walk_at "rd"
    refine rd_isi ki (kit_bool _) ?_
    walk_at "rd"
    show if true = true then _ else _
    walk_at "rd"
    refine rd_dec ?_ ?_ <;> intro h1
    · walk_at "rd"
      rw [decide_eq_true h1, Bool.true_and] at k
      exact k
    · rw [decide_eq_false h1, Bool.false_and] at k
      exact k
theorem ok_bits (T : Txt K mg A) : FnOk P w K mg base CX0 1 A.bits A.bitsD ["number"] sp_bits := by
  refine T.c_bits.F.ok sc_bits (fun vs H Q E h => ?_) (fun cdv Ar outer s H vs Q E hr h => ?_)
  · obtain ⟨n, rfl, _⟩ := h; rfl
  · obtain ⟨n, rfl, hn, k⟩ := h
    refine ⟨_, (pss_cons (ps_if (PW.pt (pw_or (pt_not (pt_val (pe_callB call_isi (by rfl) T.n_isinstance PyProof.Rows.boot_isinstance (pa_cons (pv 0) (pa_cons (pe_bltn (v := .ty "int") rfl T.n_int PyProof.Rows.boot_int rfl) pa_nil))))) (pw_or (pt_val (pe_callB call_isi (by rfl) T.n_isinstance PyProof.Rows.boot_isinstance (pa_cons (pv 0) (pa_cons (pe_bltn (v := .ty "bool") rfl T.n_bool PyProof.Rows.boot_bool rfl) pa_nil)))) (pw_or1 (pt_cmpR op_lt (pv 0) pe_int (nomark _))))))
        (pss_one ps_never)
        pss_nil)
      (pss_one (ps_ret (pe_bits (pv 0))))), ?_⟩
    walk_at "st"
    have ki := Kin.int (K := K) (H := H) n
    walk_at "rd"
    refine rd_isi ki (kit_int _) ?_
    walk_at "rd"
    show if false = true then _ else _
    walk_at "rd"
    refine rd_isi ki (kit_bool _) ?_
    walk_at "rd"
    show if false = true then _ else _
    walk_at "rd"
    refine rd_decF (by omega) ?_
    walk_at "rd"
    exact k
theorem kb_is_whole (T : Txt K mg A) : KBn K A.is_wholeD ["thing", "least", "most"] 1 ["least", "most"] (fun us ws => us ++ ws) (fun us ws => us ++ ws) := by
  obtain ⟨oc, od, kV, doc, pm, an, cdv, ct, osl, e, lk, hcd⟩ := T.c_is_whole.F.ex
  rw [e]
  refine ⟨fun s us ws _ h1 h2 => ?_, fun r1 r2 => r1.append r2⟩
  match us, h1, ws, h2 with
  | [u], _, [a, b], _ => exact .of_eq rfl
theorem ok_need_number (T : Txt K mg A) : FnOk P w K mg base CX0 2 A.need_number A.need_numberD ["thing", "least", "most"] sp_need := by
  have G_is_whole : FnOk P w K mg base CX0 1 A.is_whole A.is_wholeD ["thing", "least", "most"] sp_whole := ok_is_whole T
  refine T.c_need_number.F.ok sc_need_number (fun vs H Q E h => ?_) (fun cdv Ar outer s H vs Q E hr h => ?_)
  · obtain ⟨t, l, m, rfl, _⟩ := h; rfl
  · obtain ⟨t, l, m, rfl, h1, h2, k⟩ := h
    refine ⟨_, (pss_one (ps_if (pt_not (pt_val (pe_callN G_is_whole (hr.mono (by decide)) rfl T.c_is_whole.m T.c_is_whole.F.kp (kb_is_whole T) pass0 (pa_cons (pv 0) pa_nil) (pk_cons (pv 1) (pk_cons (pv 2) pk_nil)))))
        (pss_one ps_never)
        pss_nil)), ?_⟩
    walk_at "st"
    walk_at "rd"
    refine ⟨rfl, rfl, t, l, m, rfl, ?_⟩
    rw [decide_eq_true h1, decide_eq_true h2]
    walk_at "rd"
    show if false = true then _ else _
    walk_at "rd"
    exact k
theorem ok_power_of (T : Txt K mg A) : FnOk P w K mg base CX0 3 A.power_of A.power_ofD ["start", "middle", "end", "total"] sp_power := by
  have G_need_number : FnOk P w K mg base CX0 2 A.need_number A.need_numberD ["thing", "least", "most"] sp_need := ok_need_number T
  refine T.c_power_of.F.ok sc_power_of (fun vs H Q E h => ?_) (fun cdv Ar outer s H vs Q E hr h => ?_)
  · obtain ⟨x, m, e, t, rfl, _⟩ := h; rfl
  · obtain ⟨x, m, e, t, rfl, h0, h1, h2, h3, h4, k⟩ := h
    refine ⟨_, (pss_cons (ps_expr (pe_call G_need_number (hr.mono (by decide)) rfl T.c_need_number.m T.c_need_number.F.kp T.c_need_number.b .nil pass0 (pa_cons (pv 0) (pa_cons pe_int (pa_cons (pe_gl rfl T.g_MOST_THINGS) pa_nil)))))
      (pss_cons (ps_expr (pe_call G_need_number (hr.mono (by decide)) rfl T.c_need_number.m T.c_need_number.F.kp T.c_need_number.b .nil pass0 (pa_cons (pv 1) (pa_cons (pe_op op_add (pv 0) pe_int) (pa_cons (pe_gl rfl T.g_MOST_THINGS) pa_nil)))))
      (pss_cons (ps_expr (pe_call G_need_number (hr.mono (by decide)) rfl T.c_need_number.m T.c_need_number.F.kp T.c_need_number.b .nil pass0 (pa_cons (pv 2) (pa_cons (pe_op op_add (pv 1) pe_int) (pa_cons (pe_gl rfl T.g_MOST_THINGS) pa_nil)))))
      (pss_cons (ps_expr (pe_call G_need_number (hr.mono (by decide)) rfl T.c_need_number.m T.c_need_number.F.kp T.c_need_number.b .nil pass0 (pa_cons (pv 3) (pa_cons (pv 2) (pa_cons (pe_gl rfl T.g_MOST_THINGS) pa_nil)))))
      (pss_cons (ps_par3 (i := 4) (j := 5) (l := 6) rfl sc_power_of.nd rfl rfl rfl (by decide) (by decide) (by decide) rfl rfl rfl (pa_cons (pe_op op_add (pv 0) (pv 1)) (pa_cons (pe_op op_add (pv 1) (pv 2)) (pa_cons pe_int pa_nil))) (by rfl))
      (pss_cons (ps_while PassesOwn.never (pt_cmpR op_eq (pe_op op_fdivW (pv 4) (pe_op op_mul pe_int (pv 3))) (pe_op op_fdivW (pv 5) (pe_op op_mul pe_int (pv 3))) (nomark _))
        (pss_one (ps_par3 (i := 4) (j := 5) (l := 6) rfl sc_power_of.nd rfl rfl rfl (by decide) (by decide) (by decide) rfl rfl rfl (pa_cons (pe_op op_mul pe_int (pv 4)) (pa_cons (pe_op op_mul pe_int (pv 5)) (pa_cons (pe_op op_add (pv 6) pe_int) pa_nil))) (by rfl))))
      (pss_one (ps_ret (pv 6))))))))), ?_⟩
    walk_at "st"
    walk_at "rd"
    refine ⟨x, 0, 4096, rfl, h0, by omega, ?_⟩
    walk_at "rd"
    refine ⟨m, x + 1, 4096, rfl, by omega, by omega, ?_⟩
    walk_at "rd"
    refine ⟨e, m + 1, 4096, rfl, by omega, by omega, ?_⟩
    walk_at "rd"
    refine ⟨t, e, 4096, rfl, by omega, by omega, ?_⟩
    walk_at "rd"
    refine rd_while (fun n σ H' => H' = H ∧ ∃ p : Nat, σ = [some (.int x), some (.int m), some (.int e), some (.int t), some (.int ((x + m) * 2 ^ p)), some (.int ((m + e) * 2 ^ p)), some (.int (p : Int))] ∧
      n = (2 * t - ((m + e) * 2 ^ p - (x + m) * 2 ^ p)).toNat ∧ ∀ q, q < p → (x + m) * 2 ^ q / (2 * t) = (m + e) * 2 ^ q / (2 * t)) _ ⟨rfl, 0, by simp, rfl, fun q hq => by omega⟩ ?_
    rintro n σ H' ⟨rfl, p, rfl, rfl, hq⟩
    walk_at "rd"
    refine rd_dec ?_ ?_ <;> intro hb
    · walk_at "rd"
      have hn := near (show 0 < 2 * t by omega) hb
      have hp := pow_pos2 p
      have hs : (m + e) * 2 ^ p - (x + m) * 2 ^ p = (e - x) * 2 ^ p := by rw [sub_pow, show m + e - (x + m) = e - x by omega]
      have hl := mul_le p (show 1 ≤ e - x by omega)
      refine ⟨_, ?_, rfl, p + 1, ?_, rfl, ?_⟩
      · rw [p2, p2]; omega
      · rw [p2, p2]; simp
      · intro q hq'
        by_cases z : q = p
        · subst z; exact hb
        · exact hq q (by omega)
    · walk_at "rd"
      exact k p ⟨hq, hb⟩
end
end K34

namespace K34
open PySem L2 Rs
local macro_rules | `(tactic| walk_at "val") => `(tactic| first | exact drw_left _ _ _ | exact drw_cell _ _ _ | exact drw_at _ _ _)
local macro_rules | `(tactic| walk_at "put") => `(tactic| first | exact put_left _ _ _ _ | exact put_at _ _ _ _ | exact merge_drw _ _ _)
section
variable {P : Program} {w : World} {K : PySem.W.Frag} {mg : Str → Option Value} {base : Heap} {A : Ad}
theorem ok_take (T : Txt K mg A) : FnOk P w K mg base CX0 1 A.take A.takeD ["_law_draw", "_law_below"] sp_take := by
  refine T.c__law_take.F.ok sc_l_take (fun vs H Q E h => ?_) (fun cdv Ar outer s H vs Q E hr h => ?_)
  · obtain ⟨d, l, c, a, n, rfl, _⟩ := h; rfl
  · obtain ⟨d, l, c, a, n, rfl, hd, hn1, hn2, ha1, ha2, k⟩ := h
    have hu := hu_of hr
    refine ⟨_, (pss_cons (ps_if (pt_cmpR op_gt (pe_dget hu (pv 0) pe_str (fun _ _ => rfl)) pe_int (nomark _))
        (pss_cons (ps_set (i := 2) sc_l_take.nd rfl (Or.inl rfl) (pe_op op_mod (pe_dget hu (pv 0) pe_str (fun _ _ => rfl)) (pv 1)))
        (pss_cons (ps_dput hu (pv 0) pe_str (pe_op op_fdivW (pe_dget hu (pv 0) pe_str (fun _ _ => rfl)) (pv 1)) rfl)
        (pss_one (ps_ret (pv 2)))))
        pss_nil)
      (pss_cons (ps_set (i := 3) sc_l_take.nd rfl (Or.inl rfl) (pe_op op_add (pe_dget hu (pv 0) pe_str (fun _ _ => rfl)) pe_int))
      (pss_cons (ps_dput hu (pv 0) pe_str (pv 3) rfl)
      (pss_cons (ps_set (i := 4) sc_l_take.nd rfl (Or.inl rfl) (pe_ix ix_list (pe_lst (pa_cons pe_int (pa_cons pe_int (pa_cons pe_int (pa_cons pe_int (pa_cons pe_int pa_nil)))))) (pe_op op_mod (pv 3) pe_int) (fun _ _ => rfl)))
      (pss_cons (ps_set (i := 5) sc_l_take.nd rfl (Or.inl rfl) (pe_op op_mod (pe_op op_mul (pe_op op_add (pe_op op_add (pe_op op_add (pe_op op_mod (pe_dget hu (pv 0) pe_str (fun _ _ => rfl)) (pv 4)) (pe_op op_mul (pe_op op_mul pe_int (pv 3)) (pv 3))) (pe_op op_mul pe_int (pv 3))) pe_int) pe_int) (pv 4)))
      (pss_one (ps_ret (pe_op op_mod (pe_op op_mod (pe_op op_mul (pv 5) (pe_op op_add (pe_op op_mod (pv 5) pe_int) pe_int)) pe_int) (pv 1))))))))), ?_⟩
    have S := Hs.start1 hd [d] (.inr rfl)
    walk_at "st"
    walk_at "rd"
    refine rd_dec ?_ ?_ <;> intro hb
    · walk_at "rd"
      apply k
      all_goals walk_at "end"
    · walk_at "rd"
      refine rd_ixAny (by assumption) (by walk_at "mem") (by assumption) (by simpa using (by assumption)) fun v hv _ => ?_
      obtain ⟨q, rfl, hq1, hq2⟩ : ∃ q, v = V.int q ∧ 0 < q ∧ q < 2 ^ 31 := by
        simp only [List.mem_cons, List.not_mem_nil, or_false] at hv
        rcases hv with rfl | rfl | rfl | rfl | rfl <;> exact ⟨_, rfl, by decide, by decide⟩
      walk_at "rd"
      apply k
      all_goals walk_at "end"
theorem ok_of (T : Txt K mg A) : FnOk P w K mg base CX0 2 A.of A.ofD ["_law_draw", "_law_some"] sp_of := by
  have G__law_take : FnOk P w K mg base CX0 1 A.take A.takeD ["_law_draw", "_law_below"] sp_take := ok_take T
  refine T.c__law_of.F.ok sc_l_of (fun vs H Q E h => ?_) (fun cdv Ar outer s H vs Q E hr h => ?_)
  · obtain ⟨d, q, l, c, a, ns, rfl, _⟩ := h; rfl
  · obtain ⟨d, q, l, c, a, ns, rfl, hd, hq, hn1, hn2, ha1, ha2, k⟩ := h
    refine ⟨_, (pss_one (ps_ret (pe_ix ix_list (pv 1) (pe_call G__law_take (hr.mono (by decide)) rfl T.c__law_take.m T.c__law_take.F.kp T.c__law_take.b .nil pass0 (pa_cons (pv 0) (pa_cons (pe_callB call_len_seq (by rfl) T.n_len PySem.boot_len (pa_cons (pv 1) pa_nil)) pa_nil))) (fun _ _ => rfl)))), ?_⟩
    have S := Hs.start1 hq [] (.inl rfl)
    walk_at "st"
    walk_at "rd"
    refine ⟨d, l, c, a, _, rfl, hd, ?_, ?_, ha1, ha2, fun r l' a' H' h4 h5 h0 h1 h2 h3 => ?_⟩
    · simp; omega
    · simp; omega
    · have dq : q ≠ d := ne_of hq hd (by intro z; cases z)
      have hq' := h5 q _ hq dq
      obtain ⟨v, hv, e, he⟩ := atI_any h0 h1
      refine ⟨q, _, r, v, rfl, rfl, SqL.of hq', he, ?_⟩
      obtain ⟨x, hx, rfl⟩ := List.mem_map.mp hv
      exact k x l' a' H' h4 h5 hx h2 h3
theorem ok_digit (T : Txt K mg A) : FnOk P w K mg base CX0 1 A.digit A.digitD ["_law_part", "_law_whole"] sp_digit := by
  refine T.c__law_digit.F.ok sc_l_digit (fun vs H Q E h => ?_) (fun cdv Ar outer s H vs Q E hr h => ?_)
  · obtain ⟨x, w, rfl, _⟩ := h; rfl
  · obtain ⟨x, w, rfl, k⟩ := h
    refine ⟨_, (pss_cons (ps_set (i := 2) sc_l_digit.nd rfl (Or.inl rfl) (pe_op op_mul pe_int (pv 0)))
      (pss_one (ps_ret (pe_ifExp (pt_cmpR op_ge (pv 2) (pv 1) (nomark _)) (pe_tup (pa_cons pe_int (pa_cons (pe_op op_sub (pv 2) (pv 1)) pa_nil))) (pe_tup (pa_cons pe_int (pa_cons (pv 2) pa_nil))))))), ?_⟩
    have S := Hs.start0 H
    walk_at "st"
    walk_at "rd"
    refine rd_dec ?_ ?_ <;> intro hb
    · walk_at "rd"
      rw [if_pos hb, if_pos hb] at k
      apply k
      all_goals walk_at "end"
    · walk_at "rd"
      rw [if_neg hb, if_neg hb, Int.sub_zero] at k
      apply k
      all_goals walk_at "end"
end
end K34

namespace K34
open PySem L2 Rs
local macro_rules | `(tactic| walk_at "val") => `(tactic| first | exact drw_left _ _ _ | exact drw_cell _ _ _ | exact drw_at _ _ _)
local macro_rules | `(tactic| walk_at "put") => `(tactic| first | exact put_left _ _ _ _ | exact put_at _ _ _ _ | exact merge_drw _ _ _)
section
variable {P : Program} {w : World} {K : PySem.W.Frag} {mg : Str → Option Value} {base : Heap} {A : Ad} {H H0 : Hp} {M : List Addr} {L L' : Led} {Q : VK} {E : XK}
theorem use_take {d : Addr} {l c a n : Int} {F : HO → Led} (S : Hs H0 M H L) (ch : ∀ o', Chg d (.dK (drw l c a)) o' L (F o')) (own : H0 d = none ∨ d ∈ M) (h1 : 1 ≤ n) (h2 : n < 2 ^ 60) (h3 : 0 ≤ a) (h4 : a < 2 ^ 40)
    (h : ∀ (r l' a' : Int) (H' : Hp), Hs H0 M H' (F (.dK (drw l' c a'))) → 0 ≤ r → r < n → a ≤ a' → a' ≤ a + 1 → Q (.int r) H') : sp_take [.ref d, .int n] H Q E :=
  ⟨d, l, c, a, n, rfl, S.is _ (ch (.dK [])).mem, h1, h2, h3, h4, fun r l' a' H' e k b1 b2 b3 b4 => h r l' a' H' (S.one (ch _) own k e) b1 b2 b3 b4⟩
theorem use_of {d q : Addr} {l c a : Int} {xs : List V} {ns : List Int} {F : HO → Led} (S : Hs H0 M H L) (ch : ∀ o', Chg d (.dK (drw l c a)) o' L (F o')) (own : H0 d = none ∨ d ∈ M) (m : (q, HO.lst xs) ∈ L) (e : xs = ns.map V.int) (h1 : 0 < ns.length) (h2 : ns.length ≤ 1000) (h3 : 0 ≤ a) (h4 : a < 2 ^ 40)
    (h : ∀ (r l' a' : Int) (H' : Hp), Hs H0 M H' (F (.dK (drw l' c a'))) → r ∈ ns → a ≤ a' → a' ≤ a + 1 → Q (.int r) H') : sp_of [.ref d, .ref q] H Q E :=
  ⟨d, q, l, c, a, ns, rfl, S.is _ (ch (.dK [])).mem, e ▸ S.is _ m, h1, h2, h3, h4, fun r l' a' H' e k b1 b2 b3 => h r l' a' H' (S.one (ch _) own k e) b1 b2 b3⟩
theorem use_digit {x w : Int} (S : Hs H0 M H L) (h : ∀ (p : Addr) (H' : Hp), H0 p = none → Hs H0 M H' ((p, .tup [.int (if w ≤ 2 * x then 1 else 0), .int (2 * x - (if w ≤ 2 * x then w else 0))]) :: L) → Q (.ref p) H') : sp_digit [.int x, .int w] H Q E :=
  ⟨x, w, rfl, fun p H' hp e k => h p H' (S.more1 k hp e).1 (S.more1 k hp e).2⟩
local macro_rules | `(tactic| walk_at "rd1") => `(tactic| ((with_reducible refine' K34.use_take (by assumption) ?c ?o ?b1 ?b2 ?b3 ?b4 ?_); (case c => walk_at "chgF"); (case o => walk_at "own"); (case b1 => omega); (case b2 => omega); (case b3 => omega); (case b4 => omega); intro r l a H S h0 h1 h2 h3))
theorem ok_places (T : Txt K mg A) : FnOk P w K mg base CX0 3 A.places A.placesD ["_law_draw"] sp_places := by
  have G__law_take : FnOk P w K mg base CX0 1 A.take A.takeD ["_law_draw", "_law_below"] sp_take := ok_take T
  have G__law_of : FnOk P w K mg base CX0 2 A.of A.ofD ["_law_draw", "_law_some"] sp_of := ok_of T
  refine T.c__law_places.F.ok sc_l_places (fun vs H Q E h => ?_) (fun cdv Ar outer s H vs Q E hr h => ?_)
  · obtain ⟨d, l, c, a, rfl, _⟩ := h; rfl
  · obtain ⟨d, l, c, a, rfl, hd, ha1, ha2, k⟩ := h
    refine ⟨_, (pss_cons (ps_set (i := 1) sc_l_places.nd rfl (Or.inl rfl) (pe_call G__law_of (hr.mono (by decide)) rfl T.c__law_of.m T.c__law_of.F.kp T.c__law_of.b .nil pass0 (pa_cons (pv 0) (pa_cons (pe_lst (pa_cons (pe_op op_add pe_int (pe_call G__law_take (hr.mono (by decide)) rfl T.c__law_take.m T.c__law_take.F.kp T.c__law_take.b .nil pass0 (pa_cons (pv 0) (pa_cons pe_int pa_nil)))) (pa_cons (pe_op op_add pe_int (pe_call G__law_take (hr.mono (by decide)) rfl T.c__law_take.m T.c__law_take.F.kp T.c__law_take.b .nil pass0 (pa_cons (pv 0) (pa_cons pe_int pa_nil)))) (pa_cons (pe_op op_sub pe_int (pe_call G__law_take (hr.mono (by decide)) rfl T.c__law_take.m T.c__law_take.F.kp T.c__law_take.b .nil pass0 (pa_cons (pv 0) (pa_cons pe_int pa_nil)))) (pa_cons pe_int pa_nil))))) pa_nil))))
      (pss_cons (ps_set (i := 2) sc_l_places.nd rfl (Or.inl rfl) (pe_call G__law_take (hr.mono (by decide)) rfl T.c__law_take.m T.c__law_take.F.kp T.c__law_take.b .nil pass0 (pa_cons (pv 0) (pa_cons pe_int pa_nil))))
      (pss_cons (ps_set (i := 3) sc_l_places.nd rfl (Or.inl rfl) (pe_call G__law_take (hr.mono (by decide)) rfl T.c__law_take.m T.c__law_take.F.kp T.c__law_take.b .nil pass0 (pa_cons (pv 0) (pa_cons (pe_op op_sub (pv 1) pe_int) pa_nil))))
      (pss_cons (ps_set (i := 4) sc_l_places.nd rfl (Or.inl rfl) (pe_op op_add (pe_op op_add (pv 3) pe_int) (pe_call G__law_take (hr.mono (by decide)) rfl T.c__law_take.m T.c__law_take.F.kp T.c__law_take.b .nil pass0 (pa_cons (pv 0) (pa_cons (pe_op op_sub (pe_op op_sub (pv 1) pe_int) (pv 3)) pa_nil)))))
      (pss_cons (ps_set (i := 5) sc_l_places.nd rfl (Or.inl rfl) (pe_op op_add (pe_op op_add (pv 4) pe_int) (pe_call G__law_take (hr.mono (by decide)) rfl T.c__law_take.m T.c__law_take.F.kp T.c__law_take.b .nil pass0 (pa_cons (pv 0) (pa_cons (pe_op op_sub (pv 1) (pv 4)) pa_nil)))))
      (pss_cons (ps_if (pt_cmpR op_eq (pv 2) pe_int (nomark _))
        (pss_one (ps_par (i := 4) (j := 5) rfl sc_l_places.nd rfl rfl (by decide) rfl rfl (pa_cons (pe_op op_add (pv 3) pe_int) (pa_cons (pe_op op_add (pv 3) pe_int) pa_nil)) (by rfl)))
        pss_nil)
      (pss_cons (ps_if (pt_cmpR op_eq (pv 2) pe_int (nomark _))
        (pss_one (ps_set (i := 1) sc_l_places.nd rfl (Or.inl rfl) (pv 5)))
        pss_nil)
      (pss_cons (ps_if (pt_cmpR op_eq (pv 2) pe_int (nomark _))
        (pss_one (ps_set (i := 3) sc_l_places.nd rfl (Or.inl rfl) pe_int))
        pss_nil)
      (pss_one (ps_ret (pe_tup (pa_cons (pv 3) (pa_cons (pv 4) (pa_cons (pv 5) (pa_cons (pv 1) pa_nil))))))))))))))), ?_⟩
    have S := Hs.start1 hd [d] (.inr rfl)
    walk_at "st"
    walk_at "rd"
    refine' use_of (by assumption) (by walk_at "chgF") (by walk_at "own") (ns := [_, _, _, _]) (by walk_at "mem") (by rfl) (by simp) (by simp) (by omega) (by omega) _
    intro r4 l4 a4 H4 S4 hr4 _ _
    simp only [List.mem_cons, List.not_mem_nil, or_false] at hr4
    have b4 : 2 ≤ r4 ∧ r4 ≤ 4096 := by omega
    clear hr4
    walk_at "rd"
    -- the ways, one behind the other
    refine rd_dec ?_ ?_ <;> intro hb <;> walk_at "rd"
    all_goals (refine rd_dec ?_ ?_ <;> intro hb <;> walk_at "rd")
    all_goals (refine rd_dec ?_ ?_ <;> intro hb <;> walk_at "rd")
    all_goals (try omega)
    all_goals (apply k; all_goals (walk_at "end"))
end
end K34

namespace K34
open PySem L2 Rs
local macro_rules | `(tactic| walk_at "val") => `(tactic| first | exact drw_left _ _ _ | exact drw_cell _ _ _ | exact drw_at _ _ _)
local macro_rules | `(tactic| walk_at "put") => `(tactic| first | exact put_left _ _ _ _ | exact put_at _ _ _ _ | exact merge_drw _ _ _)
section
variable {P : Program} {w : World} {K : PySem.W.Frag} {mg : Str → Option Value} {base : Heap} {A : Ad} {H H0 : Hp} {M : List Addr} {L L' : Led} {Q : VK} {E : XK}
local macro_rules | `(tactic| walk_at "rd1") => `(tactic| ((with_reducible refine' K34.use_digit (by assumption) ?_); intro p H hp S))
theorem ok_due (T : Txt K mg A) : FnOk P w K mg base CX0 2 A.due A.dueD ["_law_first", "_law_second", "_law_third", "_law_whole"] sp_due := by
  have G__law_digit : FnOk P w K mg base CX0 1 A.digit A.digitD ["_law_part", "_law_whole"] sp_digit := ok_digit T
  refine T.c__law_due.F.ok sc_l_due (fun vs H Q E h => ?_) (fun cdv Ar outer s H vs Q E hr h => ?_)
  · obtain ⟨x, m, e, t, rfl, _⟩ := h; rfl
  · obtain ⟨x, m, e, t, rfl, h0, h1, h2, h3, h4, k⟩ := h
    refine ⟨_, (pss_cons (ps_par3 (i := 4) (j := 5) (l := 6) rfl sc_l_due.nd rfl rfl rfl (by decide) (by decide) (by decide) rfl rfl rfl (pa_cons (pe_op op_add (pv 0) (pv 1)) (pa_cons (pe_op op_add (pv 1) (pv 2)) (pa_cons pe_int pa_nil))) (by rfl))
      (pss_cons (ps_while PassesOwn.never (pt_cmpR op_lt (pv 6) pe_int (nomark _))
        (pss_cons (ps_set (i := 6) sc_l_due.nd rfl (Or.inl rfl) (pe_op op_add (pv 6) pe_int))
        (pss_cons (ps_asg (pe_call G__law_digit (hr.mono (by decide)) rfl T.c__law_digit.m T.c__law_digit.F.kp T.c__law_digit.b .nil pass0 (pa_cons (pv 4) (pa_cons (pe_op op_mul pe_int (pv 3)) pa_nil))) (pg_tup rfl (pgs_cons (pg_name (i := 7) sc_l_due.nd rfl (Or.inl rfl)) (pgs_cons (pg_name (i := 4) sc_l_due.nd rfl (Or.inl rfl)) pgs_nil))))
        (pss_cons (ps_asg (pe_call G__law_digit (hr.mono (by decide)) rfl T.c__law_digit.m T.c__law_digit.F.kp T.c__law_digit.b .nil pass0 (pa_cons (pv 5) (pa_cons (pe_op op_mul pe_int (pv 3)) pa_nil))) (pg_tup rfl (pgs_cons (pg_name (i := 8) sc_l_due.nd rfl (Or.inl rfl)) (pgs_cons (pg_name (i := 5) sc_l_due.nd rfl (Or.inl rfl)) pgs_nil))))
        (pss_one (ps_if (pt_cmpR op_ne (pv 7) (pv 8) (nomark _))
          (pss_one (ps_ret (pv 6)))
          pss_nil))))))
      (pss_one (ps_ret pe_int)))), ?_⟩
    walk_at "st"
    walk_at "rd"
    have hW : 0 < 2 * t := by omega
    have hb : 2 * t ≤ 2 ^ (12 + 1) := by omega
    refine rd_while (fun n σ H' => ∃ (p : Nat) (o1 o2 : Option V), Hs H [] H' [] ∧ σ = [some (.int x), some (.int m), some (.int e), some (.int t), some (.int ((x + m) * 2 ^ p % (2 * t))), some (.int ((m + e) * 2 ^ p % (2 * t))), some (.int (p : Int)), o1, o2] ∧
      n = 100 - p ∧ p < 12 ∧ ∀ q, q ≤ p → (x + m) * 2 ^ q / (2 * t) = (m + e) * 2 ^ q / (2 * t)) _ ⟨0, none, none, Hs.start0 H, ?_, rfl, by omega, ?_⟩ ?_
    · rw [Int.pow_zero, Int.mul_one, Int.mul_one, Int.emod_eq_of_lt (by omega) (by omega), Int.emod_eq_of_lt (by omega) (by omega)]
      rfl
    · intro q hq
      obtain rfl : q = 0 := by omega
      rw [Int.pow_zero, Int.mul_one, Int.mul_one, Int.ediv_eq_zero_of_lt (by omega) (by omega), Int.ediv_eq_zero_of_lt (by omega) (by omega)]
    · rintro n σ H' ⟨p, o1, o2, S, rfl, rfl, hp, hq⟩
      obtain ⟨ea, ma⟩ := step_dig (x := (x + m) * 2 ^ p) hW
      obtain ⟨eb, mb⟩ := step_dig (x := (m + e) * 2 ^ p) hW
      rw [← p2] at ea ma eb mb
      rw [← hq p (Nat.le_refl _)] at eb
      generalize (x + m) * 2 ^ p % (2 * t) = ra at *
      generalize (m + e) * 2 ^ p % (2 * t) = rb at *
      walk_at "rd"
      refine rd_decT (by omega) ?_
      walk_at "rd"
      refine rd_dec ?_ ?_ <;> intro hc <;> walk_at "rd"
      · have z : ((p + 1 : Nat) : Int) = (p : Int) + 1 := by omega
        rw [← z]
        apply k
        · refine ⟨fun q hq' => hq q (by omega), fun e' => hc ?_⟩
          rw [ea, eb] at e'
          omega
        · walk_at "end"
      · have e1 : (x + m) * 2 ^ (p + 1) / (2 * t) = (m + e) * 2 ^ (p + 1) / (2 * t) := by rw [ea, eb]; omega
        have hp' := small hW (by omega) e1 hb
        refine ⟨_, ?_, p + 1, some (.int (if 2 * t ≤ 2 * ra then 1 else 0)), some (.int (if 2 * t ≤ 2 * rb then 1 else 0)), Hs.sub (by assumption) (List.nil_sublist _), ?_, rfl, hp', ?_⟩
        · omega
        · rw [ma, mb]; simp
        · intro q hq'
          by_cases z : q = p + 1
          · subst z; exact e1
          · exact hq q (by omega)
theorem ok_begun (T : Txt K mg A) : FnOk P w K mg base CX0 1 A.begun A.begunD ["_law_script", "_law_k"] (sp_begun K) := by
  refine T.c__law_begun.F.ok sc_l_begun (fun vs H Q E h => ?_) (fun cdv Ar outer s H vs Q E hr h => ?_)
  · obtain ⟨x, ns, kk, rfl, _⟩ := h; rfl
  · obtain ⟨x, ns, kk, rfl, hs, hk1, hk2, k⟩ := h
    refine ⟨_, (pss_cons (ps_par (i := 2) (j := 3) rfl sc_l_begun.nd rfl rfl (by decide) rfl rfl (pa_cons (pe_slice3 (pv 0) (po_some (pv 1)) po_none (po_some pe_int)) (pa_cons pe_int pa_nil)) (by rfl))
      (pss_cons (ps_for PassesOwn.never rfl (pi_list (pv 2)) (pg_name (i := 4) sc_l_begun.nd rfl (Or.inl rfl))
        (pss_one (ps_set (i := 3) sc_l_begun.nd rfl (Or.inl rfl) (pe_op op_add (pe_op op_mul (pv 3) pe_int) (pv 4)))))
      (pss_cons (ps_set (i := 5) sc_l_begun.nd rfl (Or.inl rfl) (pe_ifExp (PW.pt (pw_and (pt_cmpR (op_neD hr.units) (pv 2) (pe_lst pa_nil) (nomark _)) (pw_and1 (pt_cmpR op_ge (pe_ix ix_list (pv 2) pe_int (fun _ _ => rfl)) (pe_op op_pow pe_int pe_int) (nomark _))))) (pe_ix ix_list (pv 2) pe_int (fun _ _ => rfl)) pe_int))
      (pss_one (ps_ret (pe_disp (pps_cons pe_str (pv 5) (pps_cons pe_str (pv 3) (pps_cons pe_str (pe_op op_mul pe_int (pv 1)) pps_nil))) (by rfl) (by rfl) (fun z => by cases z) (by decide))))))), ?_⟩
    have S := Hs.start0 H
    walk_at "st"
    walk_at "rd"
    refine ⟨x, _, rfl, S.sq hs (fun z => nomatch z), by simp, ?_⟩
    walk_at "rd"
    rename_i p H1 hp S1
    obtain ⟨ks, ek, _⟩ := pick_ints ns (some kk) none (some 7)
    rw [ek] at S1
    refine fw_list (xs := ks.map V.int) (fun i σ H' => ∃ (f : Int) (o : Option V), σ = [some (.ref x), some (.int kk), some (.ref p), some (.int f), o, none] ∧ Hs H [] H' [(p, .lst (ks.map V.int))]) ⟨7, none, rfl, by assumption⟩ (fun i σ H' _ h => by
      obtain ⟨f, o, _, S⟩ := h
      exact S.lst (by walk_at "mem")) ?_ ?_
    · rintro i y σ H' hi ⟨f, o, rfl, S⟩
      obtain ⟨z, _, rfl⟩ := List.mem_map.mp (List.mem_of_getElem? hi)
      walk_at "rd"
      exact ⟨_, _, rfl, S⟩
    · rintro σ H' ⟨f, o, rfl, S⟩
      walk_at "rd"
      refine rd_neIs (ns := ks) (ms := []) (by assumption) (by walk_at "mem") (by walk_at "mem") (by rfl) (by rfl) ?_
      walk_at "rd"
      refine rd_dec ?_ ?_ <;> intro hc
      · walk_at "rd"
        obtain ⟨z, zs, rfl⟩ : ∃ z zs, ks = z :: zs := by
          cases ks with
          | nil => exact absurd rfl hc
          | cons z zs => exact ⟨z, zs, rfl⟩
        have e0 : atI ((z :: zs).map V.int) 0 = some (V.int z) := atI_nat (j := 0) rfl
        walk_at "rd"
        refine rd_dec ?_ ?_ <;> intro hd <;> walk_at "rd"
        · apply k
          all_goals walk_at "end"
        · apply k
          all_goals walk_at "end"
      · walk_at "rd"
        apply k
        all_goals walk_at "end"
end
end K34

namespace K34
open PySem L2 Rs
local macro_rules | `(tactic| walk_at "val") => `(tactic| first | exact drw_left _ _ _ | exact drw_cell _ _ _ | exact drw_at _ _ _)
local macro_rules | `(tactic| walk_at "put") => `(tactic| first | exact put_left _ _ _ _ | exact put_at _ _ _ _ | exact merge_drw _ _ _)
section
variable {P : Program} {w : World} {K : PySem.W.Frag} {mg : Str → Option Value} {base : Heap} {A : Ad} {H H0 : Hp} {M : List Addr} {L L' : Led} {Q : VK} {E : XK}
theorem use_power {s m e t : Int} {p : Nat} (hp : IsP (s + m) (m + e) (2 * t) p) (h0 : 0 ≤ s) (h1 : s < m) (h2 : m < e) (h3 : e ≤ t) (h4 : t ≤ 4096) (h : Q (.int p) H) : sp_power [.int s, .int m, .int e, .int t] H Q E :=
  ⟨s, m, e, t, rfl, h0, h1, h2, h3, h4, fun q hq => by rw [hq.uniq hp]; exact h⟩
theorem use_due {s m e t : Int} (S : Hs H0 M H L) (h0 : 0 ≤ s) (h1 : s < m) (h2 : m < e) (h3 : e ≤ t) (h4 : t ≤ 4096) (h : ∀ (p : Nat) (H' : Hp), IsP (s + m) (m + e) (2 * t) p → Hs H0 M H' L → Q (.int p) H') : sp_due [.int s, .int m, .int e, .int t] H Q E :=
  ⟨s, m, e, t, rfl, h0, h1, h2, h3, h4, fun q H' hq k => h q H' hq (S.more k)⟩
theorem kb_power_of (T : Txt K mg A) : KBn K A.power_ofD ["start", "middle", "end", "total"] 0 ["total", "end", "start", "middle"] (fun us ws => us ++ [2, 3, 1, 0].filterMap (ws[·]?)) (fun us ws => us ++ [2, 3, 1, 0].filterMap (ws[·]?)) :=
  kb_of T.c_power_of.F _ fun _ _ _ _ _ _ us ws h1 h2 => match us, h1, ws, h2 with | [], _, [_, _, _, _], _ => rfl
theorem bits_ge {t : Int} {p : Nat} {a b : Int} (h : IsP a b (2 * t) p) (hab : a + 2 ≤ b) (ht : 2 ≤ t) : (p : Int) ≤ (Builtin.Int.intBits (t - 1) : Nat) := by
  have hl : t ≤ 2 ^ (Builtin.Int.intBits (t - 1)) := by
    have e : Builtin.Int.intBits (t - 1) = (t - 1).natAbs.log2 + 1 := by
      unfold Builtin.Int.intBits
      rw [if_neg]
      simp; omega
    rw [e]
    have z := lt_log (t - 1).natAbs
    have z2 : ((t - 1).natAbs : Int) = t - 1 := by omega
    have z3 : (((2 ^ ((t - 1).natAbs.log2 + 1) : Nat)) : Int) = 2 ^ ((t - 1).natAbs.log2 + 1) := by simp
    omega
  have := h.le (n := Builtin.Int.intBits (t - 1)) (by omega) hab (by rw [dbl]; omega)
  omega
theorem ok_right (T : Txt K mg A) : FnG P w K mg base 4 A.right A.rightD ["_law_first", "_law_second", "_law_third", "_law_whole"] sp_right := by
  have G__law_due : FnOk P w K mg base CX0 2 A.due A.dueD ["_law_first", "_law_second", "_law_third", "_law_whole"] sp_due := ok_due T
  have G_power_of : FnOk P w K mg base CX0 3 A.power_of A.power_ofD ["start", "middle", "end", "total"] sp_power := ok_power_of T
  have G_bits : FnOk P w K mg base CX0 1 A.bits A.bitsD ["number"] sp_bits := ok_bits T
  refine defG T.c__law_right.F sc_l_right (fun vs H Q E h => ?_) (fun cdv Ar outer s H vs Q E cl hr h => ?_)
  · obtain ⟨x, m, e, t, rfl, _⟩ := h; rfl
  · obtain ⟨x, m, e, t, rfl, h0, h1, h2, h3, h4, k⟩ := h
    have hu := hu_of hr
    refine ⟨_, (pss_cons (ps_set (i := 4) sc_l_right.nd rfl (Or.inl rfl) (pe_call G__law_due (hr.mono (by decide)) rfl T.c__law_due.m T.c__law_due.F.kp T.c__law_due.b .nil pass0 (pa_cons (pv 0) (pa_cons (pv 1) (pa_cons (pv 2) (pa_cons (pv 3) pa_nil))))))
      (pss_cons (ps_set (i := 5) sc_l_right.nd rfl (Or.inl rfl) (pe_lst (pa_cons (pe_call G_power_of (hr.mono (by decide)) rfl T.c_power_of.m T.c_power_of.F.kp T.c_power_of.b .nil pass0 (pa_cons (pv 0) (pa_cons (pv 1) (pa_cons (pv 2) (pa_cons (pv 3) pa_nil))))) (pa_cons (pe_callK0 G_power_of (hr.mono (by decide)) rfl T.c_power_of.m T.c_power_of.F.kp (kb_power_of T) pass0 (pk_cons (pv 3) (pk_cons (pv 2) (pk_cons (pv 0) (pk_cons (pv 1) pk_nil))))) pa_nil))))
      (pss_cons (ps_if (PW.pt (pw_or (pt_cmpR op_ne (pe_callB (call_repr cl hr) (by rfl) T.n_repr PyProof.Rows.boot_repr (pa_cons (pv 5) pa_nil)) (pe_callB (call_repr cl hr) (by rfl) T.n_repr PyProof.Rows.boot_repr (pa_cons (pe_lst (pa_cons (pv 4) (pa_cons (pv 4) pa_nil))) pa_nil)) (nomark _)) (pw_or1 (pt_not (pt_chain op_le op_le pe_int (pv 4) (pe_call G_bits (hr.mono (by decide)) rfl T.c_bits.m T.c_bits.F.kp T.c_bits.b .nil pass0 (pa_cons (pe_op op_sub (pv 3) pe_int) pa_nil)))))))
        (pss_one (ps_ret pe_bl))
        pss_nil)
      (pss_cons (ps_par (i := 6) (j := 7) rfl sc_l_right.nd rfl rfl (by decide) rfl rfl (pa_cons (pe_op op_shl (pe_op op_add (pv 0) (pv 1)) (pv 4)) (pa_cons (pe_op op_shl (pe_op op_add (pv 1) (pv 2)) (pv 4)) pa_nil)) (by rfl))
      (pss_cons (ps_if (PW.pt (pw_or (pt_cmpR op_eq (pe_op op_fdivW (pv 6) (pe_op op_mul pe_int (pv 3))) (pe_op op_fdivW (pv 7) (pe_op op_mul pe_int (pv 3))) (nomark _)) (pw_or1 (pt_cmpR op_ne (pe_op op_fdivW (pv 6) (pe_op op_mul pe_int (pv 3))) (pe_op op_fdivW (pv 7) (pe_op op_mul pe_int (pv 3))) (nomark _)))))
        (pss_one (ps_ret pe_bl))
        pss_nil)
      (pss_one (ps_ret (pe_or (pe_cmpR op_gt (pv 3) pe_int (nomark _)) (pe_one (pe_cmpR op_eq (pe_call G_power_of (hr.mono (by decide)) rfl T.c_power_of.m T.c_power_of.F.kp T.c_power_of.b .nil pass0 (pa_cons (pe_op op_mul pe_int (pv 0)) (pa_cons (pe_op op_mul pe_int (pv 1)) (pa_cons (pe_op op_mul pe_int (pv 2)) (pa_cons (pe_op op_mul pe_int (pv 3)) pa_nil))))) (pv 4) (nomark _))))))))))), ?_⟩
    have S := Hs.start0 H
    walk_at "st"
    walk_at "rd"
    refine use_due S h0 h1 h2 h3 h4 fun p H1 hp S1 => ?_
    walk_at "rd"
    refine use_power hp h0 h1 h2 h3 h4 ?_
    walk_at "rd"
    refine ⟨rfl, rfl, use_power hp h0 h1 h2 h3 h4 ?_⟩
    walk_at "rd"
    refine rd_reprI (ns := [_, _]) (by assumption) (by walk_at "mem") (by rfl) ?_ (by simp) ?_
    · intro n hn
      have hp' := hp.le (n := 12) (by omega) (by omega) (by omega)
      simp at hn
      omega
    walk_at "rd"
    refine rd_reprI (ns := [_, _]) (by assumption) (by walk_at "mem") (by rfl) ?_ (by simp) ?_
    · intro n hn
      have hp' := hp.le (n := 12) (by omega) (by omega) (by omega)
      simp at hn
      omega
    walk_at "rd"
    refine rd_decF (by simp) ?_
    have hp1 := hp.pos (by omega) (by omega) (by omega) (by omega)
    walk_at "rd"
    refine rd_decT (by omega) ?_
    walk_at "rd"
    refine ⟨t - 1, rfl, by omega, ?_⟩
    have hb := bits_ge hp (by omega) (by omega)
    walk_at "rd"
    refine rd_ndecT hb ?_
    have hp12 := hp.le (n := 12) (by omega) (by omega) (by omega)
    walk_at "rd"
    simp only [Int.toNat_natCast]
    refine rd_decF hp.2 ?_
    walk_at "rd"
    refine rd_decF ?_ ?_
    · have e4 : 4 * t = 2 * (2 * t) := by omega
      rw [e4]
      intro z
      exact z (hp.half hp1)
    walk_at "rd"
    show if (decide (2048 < t)) = true then _ else _
    refine rd_dec ?_ ?_ <;> intro hc
    · walk_at "rd"
      apply k
      walk_at "end"
    · walk_at "rd"
      have ht := hp.twice
      rw [show 2 * (x + m) = 2 * x + 2 * m by omega, show 2 * (m + e) = 2 * m + 2 * e by omega] at ht
      refine use_power ht (by omega) (by omega) (by omega) (by omega) (by omega) ?_
      walk_at "rd"
      rw [decide_eq_true rfl]
      apply k
      walk_at "end"
theorem use_right {s m e t : Int} (S : Hs H0 M H L) (h0 : 0 ≤ s) (h1 : s < m) (h2 : m < e) (h3 : e ≤ t) (h4 : t ≤ 4096) (h : ∀ H', Hs H0 M H' L → Q (.bl true) H') : sp_right [.int s, .int m, .int e, .int t] H Q E :=
  ⟨s, m, e, t, rfl, h0, h1, h2, h3, h4, fun H' k => h H' (S.more k)⟩
theorem use_places {d : Addr} {l c a : Int} {F : HO → Led} (S : Hs H0 M H L) (ch : ∀ o', Chg d (.dK (drw l c a)) o' L (F o')) (own : H0 d = none ∨ d ∈ M) (h3 : 0 ≤ a) (h4 : a < 2 ^ 39)
    (h : ∀ (p : Addr) (s m e t l' a' : Int) (H' : Hp), H0 p = none → Hs H0 M H' ((p, .tup [.int s, .int m, .int e, .int t]) :: F (.dK (drw l' c a'))) → 0 ≤ s → s < m → m < e → e ≤ t → t ≤ 4096 → a ≤ a' → a' ≤ a + 10 → Q (.ref p) H') : sp_places [.ref d] H Q E := by
  refine ⟨d, l, c, a, rfl, S.is _ (ch (.dK [])).mem, h3, h4, fun p s m e t l' a' H' hp hp' hd k b0 b1 b2 b3 b4 b5 b6 => ?_⟩
  have S' := S.one1 (ch _) own k hd hp hp'
  exact h p s m e t l' a' H' S'.1 S'.2 b0 b1 b2 b3 b4 b5 b6
local macro_rules | `(tactic| walk_at "rd1") => `(tactic| first
  | ((with_reducible refine' K34.use_right (by assumption) ?b0 ?b1 ?b2 ?b3 ?b4 ?_); (case b0 => omega); (case b1 => omega); (case b2 => omega); (case b3 => omega); (case b4 => omega); intro H S)
  | ((with_reducible refine' K34.use_places (by assumption) ?c ?o ?b3 ?b4 ?_); (case c => walk_at "chgF"); (case o => walk_at "own"); (case b3 => omega); (case b4 => omega); intro p s m e t l a H hp S b0 b1 b2 b3 b4 b5 b6))
theorem ok_law (T : Txt K mg A) : FnG P w K mg base 5 A.law A.lawD ["_law_script"] (sp_law K) := by
  have G__law_begun : FnOk P w K mg base CX0 1 A.begun A.begunD ["_law_script", "_law_k"] (sp_begun K) := ok_begun T
  have G__law_places : FnOk P w K mg base CX0 3 A.places A.placesD ["_law_draw"] sp_places := ok_places T
  have G__law_right : FnG P w K mg base 4 A.right A.rightD ["_law_first", "_law_second", "_law_third", "_law_whole"] sp_right := ok_right T
  have G_power_of : FnOk P w K mg base CX0 3 A.power_of A.power_ofD ["start", "middle", "end", "total"] sp_power := ok_power_of T
  refine defG T.c_law.F sc_law (fun vs H Q E h => ?_) (fun cdv Ar outer s H vs Q E cl hr h => ?_)
  · obtain ⟨a, ns, rfl, _⟩ := h; rfl
  · obtain ⟨a, ns, rfl, hs, hn, k⟩ := h
    refine ⟨_, (pss_cons (ps_for PassesOwn.never rfl (pi_range1 rfl T.n_range (pa_cons (pe_op op_add pe_int (pe_callB (call_min2 rfl) (by rfl) T.n_min PyProof.Rows.boot_min (pa_cons pe_int (pa_cons (pe_callB call_len_seq (by rfl) T.n_len PySem.boot_len (pa_cons (pv 0) pa_nil)) pa_nil)))) pa_nil)) (pg_name (i := 1) sc_law.nd rfl (Or.inl rfl))
        (pss_cons (ps_set (i := 2) sc_law.nd rfl (Or.inl rfl) (pe_call G__law_begun (hr.mono (by decide)) rfl T.c__law_begun.m T.c__law_begun.F.kp T.c__law_begun.b .nil pass0 (pa_cons (pv 0) (pa_cons (pv 1) pa_nil))))
        (pss_one (ps_for PassesOwn.never rfl (pi_range1 rfl T.n_range (pa_cons pe_int pa_nil)) (pg_name (i := 3) sc_law.nd rfl (Or.inl rfl))
          (pss_cons (ps_asg (pe_call G__law_places (hr.mono (by decide)) rfl T.c__law_places.m T.c__law_places.F.kp T.c__law_places.b .nil pass0 (pa_cons (pv 2) pa_nil)) (pg_tup rfl (pgs_cons (pg_name (i := 4) sc_law.nd rfl (Or.inl rfl)) (pgs_cons (pg_name (i := 5) sc_law.nd rfl (Or.inl rfl)) (pgs_cons (pg_name (i := 6) sc_law.nd rfl (Or.inl rfl)) (pgs_cons (pg_name (i := 7) sc_law.nd rfl (Or.inl rfl)) pgs_nil))))))
          (pss_one (ps_if (pt_not (pt_val (pe_callG G__law_right cl (hr.mono (by decide)) rfl T.c__law_right.m T.c__law_right.F.kp T.c__law_right.b .nil (pa_cons (pv 4) (pa_cons (pv 5) (pa_cons (pv 6) (pa_cons (pv 7) pa_nil)))))))
            (pss_one (ps_ret pe_bl))
            pss_nil)))))))
      (pss_cons (ps_for PassesOwn.never rfl (pi_tup (pe_tup (pa_cons pe_int (pa_cons pe_int (pa_cons pe_int (pa_cons pe_int (pa_cons pe_int (pa_cons pe_int (pa_cons pe_int pa_nil))))))))) (pg_name (i := 8) sc_law.nd rfl (Or.inl rfl))
        (pss_one (ps_if (PW.pt (pw_or (pt_not (pt_val (pe_callG G__law_right cl (hr.mono (by decide)) rfl T.c__law_right.m T.c__law_right.F.kp T.c__law_right.b .nil (pa_cons (pv 8) (pa_cons (pe_op op_add (pv 8) pe_int) (pa_cons (pe_op op_add (pv 8) pe_int) (pa_cons pe_int pa_nil))))))) (pw_or1 (pt_not (pt_val (pe_callG G__law_right cl (hr.mono (by decide)) rfl T.c__law_right.m T.c__law_right.F.kp T.c__law_right.b .nil (pa_cons pe_int (pa_cons (pe_op op_add (pv 8) pe_int) (pa_cons (pe_op op_add (pv 8) pe_int) (pa_cons (pe_op op_add (pv 8) pe_int) pa_nil))))))))))
          (pss_one (ps_ret pe_bl))
          pss_nil)))
      (pss_one (ps_ret (pe_and (pe_cmpR op_eq (pe_call G_power_of (hr.mono (by decide)) rfl T.c_power_of.m T.c_power_of.F.kp T.c_power_of.b .nil pass0 (pa_cons pe_int (pa_cons pe_int (pa_cons pe_int (pa_cons pe_int pa_nil))))) pe_int (nomark _)) (pe_and (pe_cmpR op_eq (pe_call G_power_of (hr.mono (by decide)) rfl T.c_power_of.m T.c_power_of.F.kp T.c_power_of.b .nil pass0 (pa_cons pe_int (pa_cons pe_int (pa_cons pe_int (pa_cons pe_int pa_nil))))) pe_int (nomark _)) (pe_one (pe_cmpR op_eq (pe_call G_power_of (hr.mono (by decide)) rfl T.c_power_of.m T.c_power_of.F.kp T.c_power_of.b .nil pass0 (pa_cons pe_int (pa_cons pe_int (pa_cons pe_int (pa_cons pe_int pa_nil))))) pe_int (nomark _))))))))), ?_⟩
    have S := Hs.start0 H
    walk_at "st"
    walk_at "rd"
    refine ⟨a, _, rfl, Or.inl (S.sq hs (by simp)), ?_⟩
    walk_at "rd"
    refine fw_range (fun _ σ H' => ∃ x1 x2 x3 x4 x5 x6 x7 x8, σ = [some (.ref a), x1, x2, x3, x4, x5, x6, x7, x8] ∧ Hs H [] H' []) ⟨_, _, _, _, _, _, _, _, rfl, S⟩ ?_ ?_
    · rintro i σ H1 hi ⟨x1, x2, x3, x4, x5, x6, x7, x8, rfl, S⟩
      have hk : (i : Int) ≤ 10 := by split at hi <;> omega
      walk_at "rd"
      refine ⟨a, ns, _, rfl, S.sq hs (by simp), by omega, by omega, fun d l c H2 hd hd' hsm => ?_⟩
      obtain ⟨hd0, S⟩ := S.more1 hsm hd hd'
      walk_at "rd"
      refine fw_range (fun j σ H' => ∃ x3 x4 x5 x6 x7 x8 l a', σ = [some (.ref a), some (.int (0 + i)), some (.ref d), x3, x4, x5, x6, x7, x8] ∧ Hs H [] H' [(d, .dK (drw l c a'))] ∧ 0 ≤ a' ∧ a' ≤ 60 * i + 10 * j) ⟨_, _, _, _, _, _, _, _, rfl, S, by omega, by omega⟩ ?_ ?_
      · rintro j σ H1 hj ⟨x3, x4, x5, x6, x7, x8, l, a', rfl, S, c0, c1⟩
        walk_at "rd"
        rename_i S'
        refine ⟨_, _, _, _, _, _, _, _, rfl, S'.sub (List.Sublist.cons _ (List.Sublist.refl _)), by omega, by omega⟩
      · rintro σ H1 ⟨x3, x4, x5, x6, x7, x8, l, a', rfl, S, c0, c1⟩
        exact ⟨_, _, _, _, _, _, _, _, rfl, S.sub (by simp)⟩
    · rintro σ H1 ⟨x1, x2, x3, x4, x5, x6, x7, x8, rfl, S⟩
      walk_at "rd"
      refine fw_tup (xs := [.int 0, .int 1, .int 2046, .int 2047, .int 2048, .int 4093, .int 4094]) (fun _ σ H' => ∃ x1 x2 x3 x4 x5 x6 x7 x8 L', σ = [some (.ref a), x1, x2, x3, x4, x5, x6, x7, x8] ∧ Hs H [] H' L' ∧ L' = [(_, _)]) ⟨_, _, _, _, _, _, _, _, _, rfl, by assumption, rfl⟩ ?_ ?_ ?_
      · rintro j σ H1 hj ⟨x1, x2, x3, x4, x5, x6, x7, x8, L', rfl, S, rfl⟩
        exact S.tup (by simp)
      · rintro j x σ H1 hj ⟨x1, x2, x3, x4, x5, x6, x7, x8, L', rfl, S, rfl⟩
        obtain ⟨t, rfl, t0, t1⟩ : ∃ t : Int, x = .int t ∧ 0 ≤ t ∧ t ≤ 4094 := by
          have hm := List.mem_of_getElem? hj
          simp at hm
          rcases hm with rfl | rfl | rfl | rfl | rfl | rfl | rfl <;> exact ⟨_, rfl, by decide, by decide⟩
        walk_at "rd"
        refine ⟨_, _, _, _, _, _, _, _, _, rfl, by assumption, rfl⟩
      · rintro σ H1 ⟨x1, x2, x3, x4, x5, x6, x7, x8, L', rfl, S, rfl⟩
        walk_at "rd"
        refine use_power (p := 12) ⟨by decide, by decide⟩ (by decide) (by decide) (by decide) (by decide) (by decide) ?_
        walk_at "rd"
        refine rd_decT rfl ?_
        walk_at "rd"
        refine use_power (p := 1) ⟨by decide, by decide⟩ (by decide) (by decide) (by decide) (by decide) (by decide) ?_
        walk_at "rd"
        refine rd_decT rfl ?_
        walk_at "rd"
        refine use_power (p := 1) ⟨by decide, by decide⟩ (by decide) (by decide) (by decide) (by decide) (by decide) ?_
        walk_at "rd"
        exact k _
end
end K34

namespace K34
open PySem L2 Rs
theorem end_law (K : PySem.W.Frag) (H : Hp) (a : Addr) (ns : List Int) (hn : ns.length ≤ 63) (_ : ∀ z ∈ ns, Builtin.Int.intBits z ≤ 1048576) (h : SqL K H a (ns.map V.int)) : sp_law K [.ref a] H (fun v _ => v = .bl true) E0 :=
  ⟨a, ns, rfl, h, hn, fun _ => rfl⟩
end K34
open PySem PySem.W PyProof.Rows
set_option maxRecDepth 100000 in
set_option maxHeartbeats 0 in
theorem PySem.Challenge.cw_runsort_k34_powers_of_neighbours_holds : PySem.Challenge.rw_runsort_k34_powers_of_neighbours.Holds := by
  w_on; o_law; k_head; (case hw => w_witness2)
  k_fill
  refine Rs.walkE (n := 63) (k := 5) (st := K34.s_law) (x := "_law_script") (sp := K34.sp_law) rfl (by decide) rfl ⟨rfl, by decide, by decide⟩ (fun w h Y => PySem.W.kIn_of Y) rfl (fun _ _ _ _ _ _ _ => rfl) ?F K34.end_law
  case F =>
    intro w mg h KX G
    obtain ⟨f1, d1, C1⟩ : ∃ f fd, Rs.CalK (_ : PySem.W.Frag) mg "is_whole" K34.s_is_whole f fd := by
      refine' Rs.ex_calK KX G ?a1 ?l1 ?c1 ?k1; (case a1 => k_is); (case l1 => k_is); (case c1 => k_is); (case k1 => k_is)
    obtain ⟨f2, d2, C2⟩ : ∃ f fd, Rs.Cal (_ : PySem.W.Frag) mg "bits" K34.s_bits ["number"] f fd := by
      refine' Rs.ex_cal KX G ?a2 ?l2 ?c2 ?k2 ?b2; (case a2 => k_is); (case l2 => k_is); (case c2 => k_is); (case k2 => k_is); exact fun _ _ _ _ _ _ us hl => match us, hl with | [_], _ => rfl
    obtain ⟨f3, d3, C3⟩ : ∃ f fd, Rs.Cal (_ : PySem.W.Frag) mg "need_number" K34.s_need_number ["thing", "least", "most"] f fd := by
      refine' Rs.ex_cal KX G ?a3 ?l3 ?c3 ?k3 ?b3; (case a3 => k_is); (case l3 => k_is); (case c3 => k_is); (case k3 => k_is); exact fun _ _ _ _ _ _ us hl => match us, hl with | [_, _, _], _ => rfl
    obtain ⟨f4, d4, C4⟩ : ∃ f fd, Rs.Cal (_ : PySem.W.Frag) mg "power_of" K34.s_power_of ["start", "middle", "end", "total"] f fd := by
      refine' Rs.ex_cal KX G ?a4 ?l4 ?c4 ?k4 ?b4; (case a4 => k_is); (case l4 => k_is); (case c4 => k_is); (case k4 => k_is); exact fun _ _ _ _ _ _ us hl => match us, hl with | [_, _, _, _], _ => rfl
    obtain ⟨f5, d5, C5⟩ : ∃ f fd, Rs.Cal (_ : PySem.W.Frag) mg "_law_begun" K34.s_l_begun ["_law_script", "_law_k"] f fd := by
      refine' Rs.ex_cal KX G ?a5 ?l5 ?c5 ?k5 ?b5; (case a5 => k_is); (case l5 => k_is); (case c5 => k_is); (case k5 => k_is); exact fun _ _ _ _ _ _ us hl => match us, hl with | [_, _], _ => rfl
    obtain ⟨f6, d6, C6⟩ : ∃ f fd, Rs.Cal (_ : PySem.W.Frag) mg "_law_take" K34.s_l_take ["_law_draw", "_law_below"] f fd := by
      refine' Rs.ex_cal KX G ?a6 ?l6 ?c6 ?k6 ?b6; (case a6 => k_is); (case l6 => k_is); (case c6 => k_is); (case k6 => k_is); exact fun _ _ _ _ _ _ us hl => match us, hl with | [_, _], _ => rfl
    obtain ⟨f7, d7, C7⟩ : ∃ f fd, Rs.Cal (_ : PySem.W.Frag) mg "_law_of" K34.s_l_of ["_law_draw", "_law_some"] f fd := by
      refine' Rs.ex_cal KX G ?a7 ?l7 ?c7 ?k7 ?b7; (case a7 => k_is); (case l7 => k_is); (case c7 => k_is); (case k7 => k_is); exact fun _ _ _ _ _ _ us hl => match us, hl with | [_, _], _ => rfl
    obtain ⟨f8, d8, C8⟩ : ∃ f fd, Rs.Cal (_ : PySem.W.Frag) mg "_law_digit" K34.s_l_digit ["_law_part", "_law_whole"] f fd := by
      refine' Rs.ex_cal KX G ?a8 ?l8 ?c8 ?k8 ?b8; (case a8 => k_is); (case l8 => k_is); (case c8 => k_is); (case k8 => k_is); exact fun _ _ _ _ _ _ us hl => match us, hl with | [_, _], _ => rfl
    obtain ⟨f9, d9, C9⟩ : ∃ f fd, Rs.Cal (_ : PySem.W.Frag) mg "_law_due" K34.s_l_due ["_law_first", "_law_second", "_law_third", "_law_whole"] f fd := by
      refine' Rs.ex_cal KX G ?a9 ?l9 ?c9 ?k9 ?b9; (case a9 => k_is); (case l9 => k_is); (case c9 => k_is); (case k9 => k_is); exact fun _ _ _ _ _ _ us hl => match us, hl with | [_, _, _, _], _ => rfl
    obtain ⟨f10, d10, C10⟩ : ∃ f fd, Rs.Cal (_ : PySem.W.Frag) mg "_law_places" K34.s_l_places ["_law_draw"] f fd := by
      refine' Rs.ex_cal KX G ?a10 ?l10 ?c10 ?k10 ?b10; (case a10 => k_is); (case l10 => k_is); (case c10 => k_is); (case k10 => k_is); exact fun _ _ _ _ _ _ us hl => match us, hl with | [_], _ => rfl
    obtain ⟨f11, d11, C11⟩ : ∃ f fd, Rs.Cal (_ : PySem.W.Frag) mg "_law_right" K34.s_l_right ["_law_first", "_law_second", "_law_third", "_law_whole"] f fd := by
      refine' Rs.ex_cal KX G ?a11 ?l11 ?c11 ?k11 ?b11; (case a11 => k_is); (case l11 => k_is); (case c11 => k_is); (case k11 => k_is); exact fun _ _ _ _ _ _ us hl => match us, hl with | [_, _, _, _], _ => rfl
    obtain ⟨f12, d12, C12⟩ : ∃ f fd, Rs.Cal (_ : PySem.W.Frag) mg "law" K34.s_law ["_law_script"] f fd := by
      refine' Rs.ex_cal KX G ?a12 ?l12 ?c12 ?k12 ?b12; (case a12 => k_is); (case l12 => k_is); (case c12 => k_is); (case k12 => k_is); exact fun _ _ _ _ _ _ us hl => match us, hl with | [_], _ => rfl
    have g13 : ∃ u, mg "MOST_THINGS" = some u ∧ L2.RelV (.int 4096) u := by
      refine' Rs.ex_gl KX G ?a13 ?r13; (case a13 => k_is); (case r13 => first | exact ⟨_, rfl⟩ | exact rfl)
    have z14 : mg "len" = none := by
      refine PySem.W.mg_none_of KX G ?_; k_is
    have z15 : mg "min" = none := by
      refine PySem.W.mg_none_of KX G ?_; k_is
    have z16 : mg "range" = none := by
      refine PySem.W.mg_none_of KX G ?_; k_is
    have z17 : mg "repr" = none := by
      refine PySem.W.mg_none_of KX G ?_; k_is
    have z18 : mg "isinstance" = none := by
      refine PySem.W.mg_none_of KX G ?_; k_is
    have z19 : mg "int" = none := by
      refine PySem.W.mg_none_of KX G ?_; k_is
    have z20 : mg "bool" = none := by
      refine PySem.W.mg_none_of KX G ?_; k_is
    have T : K34.Txt _ mg ⟨f1, f2, f3, f4, f5, f6, f7, f8, f9, f10, f11, f12, d1, d2, d3, d4, d5, d6, d7, d8, d9, d10, d11, d12⟩ := ⟨C1, C2, C3, C4, C5, C6, C7, C8, C9, C10, C11, C12, g13, z14, z15, z16, z17, z18, z19, z20⟩
    exact ⟨_, _, T.c_law, fun base => K34.ok_law T⟩
