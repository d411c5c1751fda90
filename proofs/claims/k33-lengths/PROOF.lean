import PyProof.Rows.All
import Wide.All
import OpenK.AllK
import Wide.FinOn
import HandS.ForMost
import HandS.EndBits
import HandS.Defaults
import HandS.WideBits
import HandS.Style
import HandS.IsInst
import HandS.NoneIn
import HandS.More
import HandS.MakeKwOnly
import HandS.CallLocal
import HandS.SortKw
import HandS.TupMul
import HandS.TupAny
import KE.DataMinMax
import KE.KMinKey
import HandS.FStr
import HandS.SlotsOwn
import HandS.Codes
import HandS.Walk
import PySem.Challenge.RW_runsort_k33_stacks_by_lengths
set_option Elab.async false
set_option maxRecDepth 100000
set_option maxHeartbeats 4000000
/-! K33m: stacks by lengths. -/
namespace K33
/-- the k-th from the end -/
def bk (ns : List Int) (k : Nat) : Int := ns.getD (ns.length - k) 0
def nextN (ns : List Int) : Option Nat :=
  if (2 < ns.length ∧ bk ns 3 ≤ bk ns 2 + bk ns 1) ∨ (3 < ns.length ∧ bk ns 4 ≤ bk ns 3 + bk ns 2) then some (if bk ns 3 < bk ns 1 then ns.length - 3 else ns.length - 2)
  else if 1 < ns.length ∧ bk ns 2 ≤ bk ns 1 then some (ns.length - 2) else none
def lastN (ns : List Int) : Option Nat := if 1 < ns.length then some (if 2 < ns.length ∧ bk ns 3 < bk ns 1 then ns.length - 3 else ns.length - 2) else none
def mergedL (ns : List Int) (i : Nat) : List Int := ns.take i ++ [ns.getD i 0 + ns.getD (i + 1) 0] ++ ns.drop (i + 2)
def tri (ns : List Int) (i : Nat) : List Int := [(ns.take i).sum, (ns.take i).sum + ns.getD i 0, (ns.take i).sum + ns.getD i 0 + ns.getD (i + 1) 0]
/-- merges till none is due -/
inductive Run (f : List Int → Option Nat) : List Int → List Int → List (List Int) → Prop where
  | done {ns : List Int} : f ns = none → Run f ns ns []
  | step {ns ns' : List Int} {i : Nat} {ts : List (List Int)} : f ns = some i → Run f (mergedL ns i) ns' ts → Run f ns ns' (tri ns i :: ts)
theorem Run.det {f : List Int → Option Nat} {ns a b : List Int} {ts us : List (List Int)} (h : Run f ns a ts) (k : Run f ns b us) : a = b ∧ ts = us := by
  induction h generalizing b us with
  | done h =>
    cases k with
    | done _ => exact ⟨rfl, rfl⟩
    | step h2 _ => rw [h] at h2; cases h2
  | step h _ ih =>
    cases k with
    | done h2 => rw [h] at h2; cases h2
    | step h2 k2 =>
      rw [h] at h2
      cases h2
      obtain ⟨rfl, rfl⟩ := ih k2
      exact ⟨rfl, rfl⟩
theorem nextN_le {ns : List Int} {i : Nat} (h : nextN ns = some i) : i + 2 ≤ ns.length := by
  unfold nextN at h
  split at h
  · split at h <;> simp at h <;> omega
  · split at h
    · simp at h; omega
    · cases h
theorem lastN_le {ns : List Int} {i : Nat} (h : lastN ns = some i) : i + 2 ≤ ns.length := by
  unfold lastN at h
  split at h
  · split at h <;> simp at h <;> omega
  · cases h
theorem split2 {ns : List Int} {i : Nat} (h : i + 2 ≤ ns.length) : ns = ns.take i ++ ns.getD i 0 :: ns.getD (i + 1) 0 :: ns.drop (i + 2) := by
  have d1 : ns.drop i = ns.getD i 0 :: ns.drop (i + 1) := by
    rw [List.drop_eq_getElem_cons (by omega), List.getD_eq_getElem?_getD, List.getElem?_eq_getElem (by omega)]; rfl
  have d2 : ns.drop (i + 1) = ns.getD (i + 1) 0 :: ns.drop (i + 2) := by
    rw [List.drop_eq_getElem_cons (by omega), List.getD_eq_getElem?_getD, List.getElem?_eq_getElem (by omega)]; rfl
  rw [← d2, ← d1, List.take_append_drop]
theorem merged_sum {ns : List Int} {i : Nat} (h : i + 2 ≤ ns.length) : (mergedL ns i).sum = ns.sum := by
  have e := congrArg List.sum (split2 h)
  rw [e]
  simp [mergedL]
  omega
theorem merged_len {ns : List Int} {i : Nat} (h : i + 2 ≤ ns.length) : (mergedL ns i).length + 1 = ns.length := by
  simp [mergedL]
  omega
theorem getD_mem {ns : List Int} {i : Nat} (h : i < ns.length) : ns.getD i 0 ∈ ns := by
  rw [List.getD_eq_getElem?_getD, List.getElem?_eq_getElem h]
  exact List.getElem_mem h
theorem merged_pos {ns : List Int} {i : Nat} (h : i + 2 ≤ ns.length) (h1 : ∀ z ∈ ns, 1 ≤ z) : ∀ z ∈ mergedL ns i, 1 ≤ z := by
  intro z hz
  simp only [mergedL, List.mem_append, List.mem_cons, List.not_mem_nil, or_false] at hz
  rcases hz with (hz | rfl) | hz
  · exact h1 z (List.mem_of_mem_take hz)
  · have := h1 _ (getD_mem (show i < ns.length by omega))
    have := h1 _ (getD_mem (show i + 1 < ns.length by omega))
    omega
  · exact h1 z (List.mem_of_mem_drop hz)
theorem sum_nn : ∀ {l : List Int}, (∀ z ∈ l, 1 ≤ z) → 0 ≤ l.sum
  | [], _ => by simp
  | x :: l, h => by
    have h1 := h x List.mem_cons_self
    have h2 := sum_nn (l := l) fun z hz => h z (List.mem_cons_of_mem _ hz)
    simp
    omega
theorem le_sum : ∀ {l : List Int}, (∀ z ∈ l, 1 ≤ z) → ∀ z ∈ l, z ≤ l.sum
  | x :: l, h, z, hz => by
    have h2 := sum_nn (l := l) fun z hz => h z (List.mem_cons_of_mem _ hz)
    have hx := h x List.mem_cons_self
    rcases List.mem_cons.mp hz with rfl | hz
    · simp; omega
    · have := le_sum (fun z hz => h z (List.mem_cons_of_mem _ hz)) z hz
      simp; omega
theorem len_sum : ∀ {l : List Int}, (∀ z ∈ l, 1 ≤ z) → (l.length : Int) ≤ l.sum
  | [], _ => by simp
  | x :: l, h => by
    have h1 := h x List.mem_cons_self
    have h2 := len_sum (l := l) fun z hz => h z (List.mem_cons_of_mem _ hz)
    simp
    omega
theorem tri_ok {ns : List Int} {i : Nat} (h : i + 2 ≤ ns.length) (h1 : ∀ z ∈ ns, 1 ≤ z) (hs : ns.sum ≤ 4096) : (tri ns i).length ≤ 10 ∧ ∀ n ∈ tri ns i, n.natAbs < 10 ^ 12 := by
  have e := congrArg List.sum (split2 h)
  simp at e
  have a := sum_nn (l := ns.take i) fun z hz => h1 z (List.mem_of_mem_take hz)
  have b := sum_nn (l := ns.drop (i + 2)) fun z hz => h1 z (List.mem_of_mem_drop hz)
  have c := h1 _ (getD_mem (show i < ns.length by omega))
  have d := h1 _ (getD_mem (show i + 1 < ns.length by omega))
  simp only [List.getD_eq_getElem?_getD] at c d
  refine ⟨by simp [tri], fun n hn => ?_⟩
  simp [tri] at hn
  omega
theorem Run.ok {f : List Int → Option Nat} (hf : ∀ {ns : List Int} {i : Nat}, f ns = some i → i + 2 ≤ ns.length) {ns a : List Int} {ts : List (List Int)} (h : Run f ns a ts) (h1 : ∀ z ∈ ns, 1 ≤ z) (hs : ns.sum ≤ 4096) :
    a.sum = ns.sum ∧ (∀ z ∈ a, 1 ≤ z) ∧ ts.length + a.length = ns.length ∧ (∀ t ∈ ts, t.length ≤ 10 ∧ ∀ n ∈ t, n.natAbs < 10 ^ 12) ∧ f a = none := by
  induction h with
  | done h => exact ⟨rfl, h1, by simp, fun t ht => (nomatch ht), h⟩
  | @step ns ns' i ts h k ih =>
    have hi := hf h
    obtain ⟨e1, e2, e3, e4, e5⟩ := ih (merged_pos hi h1) (by rw [merged_sum hi]; exact hs)
    have := merged_len hi
    refine ⟨by rw [e1, merged_sum hi], e2, by simp; omega, fun t ht => ?_, e5⟩
    rcases List.mem_cons.mp ht with rfl | ht
    · exact tri_ok hi h1 hs
    · exact e4 t ht
theorem Run.ex {f : List Int → Option Nat} (hf : ∀ {ns : List Int} {i : Nat}, f ns = some i → i + 2 ≤ ns.length) : ∀ (n : Nat) (ns : List Int), ns.length = n → ∃ a ts, Run f ns a ts := by
  intro n
  induction n with
  | zero =>
    intro ns h
    cases e : f ns with
    | none => exact ⟨_, _, .done e⟩
    | some i => have := hf e; omega
  | succ n ih =>
    intro ns h
    cases e : f ns with
    | none => exact ⟨_, _, .done e⟩
    | some i =>
      have hi := hf e
      obtain ⟨a, ts, k⟩ := ih (mergedL ns i) (by have := merged_len hi; omega)
      exact ⟨_, _, .step e k⟩
end K33

namespace Rs
open PySem PySem.Spec PyProof.Rows L2

/-! ### a promise that is kept while no text of a container is under way -/
def Clr (A : Around) : Prop := A.guards = some []
theorem Clr.deep {A : Around} (c : Clr A) (e : Env) : Clr (A.deeper e) := c

structure FnG (P : Program) (w : World) (K : PySem.W.Frag) (mg : Str → Option Value) (base : Heap) (k : Nat) (f : Addr) (fd : FuncData) (ps : List Str) (sp : Sp) : Prop where
  many : ∀ vs H Q E, sp vs H Q E → vs.length = ps.length
  go : ∀ (A : Around) (o : List Env) (s : Shared) (H : Hp) (us : List Value) (a : Args) (vs : List V) (Q : VK) (E : XK), Clr A → Room k A → Env0 P w K mg base A o s H →
    BindsTo s fd a (ps.zip us) → Vals vs us → sp vs H Q E → codeAny (model P w) A (.call (.ref f) a) (CR CX0 o P w H s Q E) s
theorem FnG.up {P : Program} {w : World} {K : PySem.W.Frag} {mg : Str → Option Value} {base : Heap} {j k : Nat} {f : Addr} {fd : FuncData} {ps : List Str} {sp : Sp}
    (F : FnG P w K mg base j f fd ps sp) (h : j ≤ k) : FnG P w K mg base k f fd ps sp :=
  ⟨F.many, fun A o s H us a vs Q E c r => F.go A o s H us a vs Q E c (r.mono h)⟩
theorem FnG.of {P : Program} {w : World} {K : PySem.W.Frag} {mg : Str → Option Value} {base : Heap} {k : Nat} {f : Addr} {fd : FuncData} {ps : List Str} {sp : Sp}
    (F : FnOk P w K mg base CX0 k f fd ps sp) : FnG P w K mg base k f fd ps sp :=
  ⟨F.len, fun A o s H us a vs Q E _ r e b v h => F.run A o s H a us vs Q E r e b v h⟩

section
variable {P : Program} {w : World} {K : PySem.W.Frag} {mg : Str → Option Value} {base : Heap}
/-- a def by its body, as FnG -/
theorem defG {x qual : Str} {st : Stmt} {f : Addr} {fd : FuncData} {N ps : List Str} {k : Nat} {sp : Sp} (F : Fun K x qual st f fd) (S : FnScope N ps (defScope st))
    (many : ∀ vs H Q E, sp vs H Q E → vs.length = ps.length)
    (body : ∀ (cdv : Value) (A : Around) (o : List Env) (s : Shared) (H : Hp) (vs : List V) (Q : VK) (E : XK), Clr A →
      Room k (A.deeper (envOfC qual (defScope st) s.heap.objs.size f cdv)) → sp vs H Q E →
      ∃ t, PSs (cxOf CX0 P w K mg base N qual (defScope st) f cdv A o s H E).nox (defBody st) t ∧ t { nx := fun _ H' => Q .non H', rt := Q } (start N vs) H) :
    FnG P w K mg base (k + 1) f fd ps sp := by
  obtain ⟨oc, od, kV, doc, pm, an, cdv, ct, osl, rfl, lk, hcd⟩ := F.ex
  refine ⟨many, ?_⟩
  intro A o s H us a vs Q E c r e0 hb rv hsp
  obtain ⟨t, ht, hq⟩ := body cdv A o s H vs Q E c (r.deeper _) hsp
  have inK : ∀ b ob, K.lookup b = some ob → s.heap.get? b = some ob := fun b ob e => (e0.bs b ob (e0.mod.kin b ob e)).1
  have noL : s.heap.NoLimit := e0.mod.nolimit.keeps fun b ob e => (e0.bs b ob e).1
  refine codeAny_call_function r.depth (inK _ _ lk) rfl S.co S.gen rfl (PySem.W.codeRec_of inK hcd) (hb _ _ _ _ ?_)
  refine wpAny_newFunctionEnv_cells S.kind ?_ ?_
  · rintro ⟨n, v⟩ hy
    rcases S.par n (List.of_mem_zip hy).1 with q | q
    · exact Or.inl q
    · exact Or.inr ⟨q, PySem.W.cellsFrom_some _ _ _ (Or.inl q)⟩
  · intro env he s1 x1
    subst he
    refine ⟨noL.keeps x1.toInCall.keep, codeAny_func ?_⟩
    have J := inv_start (CX := CX0) (mg := mg) (E := E) (qual := qual) S r.hd e0 (many _ _ _ _ hsp) rv x1
    refine wpAny_mono (ht.nox.run [] s1 _ H _ J hq) ?_ ?_
    · intro fl s2 h2
      cases fl with
      | next => obtain ⟨_, H2, J2, q2⟩ := h2; exact ⟨V.non, H2, J2.os, J2.bare, J2.base, J2.hok, rfl, q2⟩
      | ret u => obtain ⟨v, _, H2, J2, r2, q2⟩ := h2; exact ⟨v, H2, J2.os, J2.bare, J2.base, J2.hok, r2, q2⟩
      | brk => obtain ⟨_, _, _, q2⟩ := h2; exact q2.elim
      | cont => obtain ⟨_, _, _, q2⟩ := h2; exact q2.elim
    · intro e s2 h2; exact h2
end

section
variable {X : Cx} {k : Nat} {f : Addr} {fd : FuncData} {ps : List Str} {sp : Sp} {dvs : List V} {ds : List Value} {x : Str} {p pos : Pos} {e : Expr} {es : List Expr} {t : TA}
theorem goG {pins : List (Addr × Obj)} {σ : L2.St} {H : Hp} {s : Shared} {Q : VK} {us : List Value} {vs : List V} (F : FnG X.prog X.w X.K X.mg X.base k f fd ps sp) (c : Clr X.A) (hr : Room k X.A)
    (hb : Binds X.K fd ps ds) (hd : Vals dvs ds) (I : Inv X pins σ H s) (r : Vals vs us) (h : sp (vs ++ dvs) H Q E0) : wpAny (model X.prog X.w) X.A (call (.ref f) us) (EP X pins σ Q) X.xe s := by
  have r2 := r.append hd
  have hl : (us ++ ds).length = ps.length := r2.length.symm.trans (F.many _ _ _ _ h)
  apply wpAny_call
  refine codeAny_mono (F.go X.A X.stack s H (us ++ ds) ⟨us, []⟩ (vs ++ dvs) Q E0 c hr I.env0 (hb s us I.kIn hl) r2 h) ?_
  intro q s2 h2
  match q, h2 with
  | .error _, h2 => exact h2.elim
  | .ok (.ret _), h2 => exact I.after h2
  | .ok .next, h2 => exact h2.elim
  | .ok .brk, h2 => exact h2.elim
  | .ok .cont, h2 => exact h2.elim
/-- f(e, ..) of such a def -/
theorem pe_callG (F : FnG X.prog X.w X.K X.mg X.base k f fd ps sp) (c : Clr X.A) (hr : Room k X.A) (hg : Gl X x) (hm : X.mg x = some (.ref f)) (hk : PySem.W.keepIn X.K (.ref f) = true)
    (hb : Binds X.K fd ps ds) (hd : Vals dvs ds) (ha : PA X (e :: es) t) (hdb : (x == ("__debug__" : Str)) = false := by decide)
    (he : starEach (e :: es) X.env = (false, eval e X.env) :: starEach es X.env := by rfl) (hpl : (backTo pos (starEach es X.env)).any (·.1) = false := by rfl) :
    PE X (.Call (.Name x p) (e :: es) [] pos) (tCall sp dvs E0 t) := by
  constructor
  intro pins s σ H Q I h
  apply wpAny_Call_Name_kw
  refine ld_glob I hg hm ?_ hdb
  refine PySem.W.callWith_K (h₀ := X.base) I.ok.mod.kin hk ?_ he hpl
  refine thn (ha.run pos pins s σ H _ I h) ?_
  rintro us s1 ⟨vs, H1, I1, r, q⟩
  exact ⟨I1.kIn, goG F c hr hb hd I1 r q⟩
theorem pe_callG0 (F : FnG X.prog X.w X.K X.mg X.base k f fd ps sp) (c : Clr X.A) (hr : Room k X.A) (hg : Gl X x) (hm : X.mg x = some (.ref f)) (hk : PySem.W.keepIn X.K (.ref f) = true)
    (hb : Binds X.K fd ps ds) (hd : Vals dvs ds) (hdb : (x == ("__debug__" : Str)) = false := by decide) : PE X (.Call (.Name x p) [] [] pos) (tCall sp dvs E0 tNil) := by
  constructor
  intro pins s σ H Q I h
  apply wpAny_Call_Name_kw
  refine ld_glob I hg hm ?_ hdb
  exact PySem.W.callWith_K0 I.kIn hk (goG (us := []) F c hr hb hd I .nil h)
end

/-! ### repr of data -/
/-- data that can be shown -/
structure Shw (d : PyData) : Prop where
  ok : d.showable = true
  sz : d.shown.length ≤ sizeLine
def rRepr (K : PySem.W.Frag) : List V → Hp → VK → Prop := fun xs H Q => ∃ x d, xs = [x] ∧ Dp K H x d ∧ Shw d ∧ d.depth ≤ 50 ∧ Q (.str d.shown) H
mutual
theorem dp_noDict {K : PySem.W.Frag} {H : Hp} : ∀ (d : PyData) (v : V), Dp K H v d → d.hasDict = false
  | .none, _, _ => by simp only [PyData.hasDict]
  | .bool _, _, _ => by simp only [PyData.hasDict]
  | .int _, _, _ => by simp only [PyData.hasDict]
  | .str _, _, _ => by simp only [PyData.hasDict]
  | .list ds, _, h => by
    cases h with
    | lst _ ha => simp only [PyData.hasDict]; exact dps_noDict ds _ ha
  | .tuple ds, _, h => by
    cases h with
    | tup _ ha => simp only [PyData.hasDict]; exact dps_noDict ds _ ha
  | .dict _, _, h => by cases h
theorem dps_noDict {K : PySem.W.Frag} {H : Hp} : ∀ (ds : List PyData) (vs : List V), DpAll K H vs ds → PyData.hasDictAll ds = false
  | [], _, _ => by simp only [PyData.hasDictAll]
  | d :: ds, _, h => by
    cases h with
    | cons h1 h2 => simp only [PyData.hasDictAll, dp_noDict d _ h1, dps_noDict ds _ h2, Bool.or_self]
end
section
variable {X : Cx}
theorem call_repr {k : Nat} (c : Clr X.A) (hr : Room k X.A) : CallR X (.builtin "repr") (rRepr X.K) := by
  intro pins s σ H xs us Q I r h
  obtain ⟨x, d, rfl, hd, hs, hdp, q⟩ := h
  cases r with
  | cons r1 r2 =>
    cases r2
    rename_i u
    have nd := dp_noDict d x hd
    obtain ⟨as, rd⟩ := Dp.reads I d x u hd r1
    have fin : ∀ h' t tk, (∀ b o, s.heap.get? b = some o → h'.get? b = some o) → EP X pins σ Q (.str d.shown t) { s with heap := h', toks := tk } :=
      fun h' t tk kp => ⟨.str d.shown, H, I.kept kp, ⟨t, rfl⟩, q⟩
    have un := hr.units
    have room : X.A.units + (d.depth + 1) < cLine := by omega
    cases x with
    | ref a =>
      cases (show u = Value.ref a from r1)
      exact repr_of_reads' (s := s) rd hs.ok (PyData.noDict_hsm nd) c room (fun _ _ e => e) fin hs.sz
    | non =>
      cases (show u = Value.none from r1)
      cases hd
      have e : PyData.shown .none = ("None" : Str) := by simp only [PyData.shown]
      rw [e] at q
      exact PySem.P.repr_of_none ⟨.str _, H, I.tok _, ⟨_, rfl⟩, q⟩
    | bl b =>
      cases (show u = Value.bool b from r1)
      cases hd
      have e : PyData.shown (.bool b) = ((if b then "True" else "False" : String) : Str) := by cases b <;> simp only [PyData.shown] <;> rfl
      rw [e] at q
      cases b <;> exact PySem.P.repr_of_bool ⟨.str _, H, I.tok _, ⟨_, rfl⟩, q⟩
    | int i =>
      obtain ⟨t, rfl⟩ := (show ∃ t, u = Value.int i t from r1)
      cases hd
      have e : PyData.shown (.int i) = ((toString i : String) : Str) := by simp only [PyData.shown]
      have z : i.natAbs.log2 < 1920 := by simpa [PyData.showable] using hs.ok
      rw [e] at q
      exact PySem.P.repr_of_int z ⟨.str _, H, I.tok _, ⟨_, rfl⟩, q⟩
    | str x =>
      obtain ⟨t, rfl⟩ := (show ∃ t, u = Value.str x t from r1)
      cases hd
      have e : PyData.shown (.str x) = reprText x := by simp only [PyData.shown]
      have z := hs.sz
      rw [e] at q z
      exact PySem.P.repr_of_str ⟨.str _, H, I.tok _, ⟨_, rfl⟩, q⟩ z
    | byt _ => cases hd
    | flt _ => cases hd
    | ty _ => cases hd
end

/-! ### slices with a step -/
/-- the places that a slice takes -/
def slIx (n : Nat) (lo hi st : Option Int) : List Nat := sliceRange (sliceBounds lo hi st n).1 (sliceBounds lo hi st n).2.1 (sliceBounds lo hi st n).2.2
def pickV (xs : List V) (lo hi st : Option Int) : List V := (slIx xs.length lo hi st).filterMap (xs[·]?)
theorem vals_pick {xs : List V} {us : List Value} (r : Vals xs us) : ∀ ix : List Nat, Vals (ix.filterMap (xs[·]?)) (ix.filterMap (us[·]?))
  | [] => .nil
  | i :: ix => by
    have ih := vals_pick r ix
    cases e : xs[i]? with
    | none =>
      have e' := r.none_of e
      rw [List.filterMap_cons_none e, List.filterMap_cons_none e']
      exact ih
    | some x =>
      obtain ⟨u, e', ru⟩ := r.get e
      rw [List.filterMap_cons_some e, List.filterMap_cons_some e']
      exact .cons ru ih
def tSl3 (K : PySem.W.Frag) (te : TE) (tl th ts : TO) : TE := fun σ H Q => te σ H fun x H1 => tl σ H1 fun l H2 => th σ H2 fun u H3 => ts σ H3 fun st H4 => ∃ a xs, x = .ref a ∧ SqL K H4 a xs ∧ st ≠ some 0 ∧
  ∀ p, H4 p = none → Q (.ref p) (upd H4 p (.lst (pickV xs l u st)))
section
variable {X : Cx}
theorem pe_slice3 {e : Expr} {te : TE} {lo hi st : Option Expr} {tl th ts : TO} {p2 pos : Pos} (he : PE X e te) (hl : PO X lo tl) (hh : PO X hi th) (hs : PO X st ts)
    (hsub : ∀ ov iv, subscripted (.Slice lo hi st p2) false ov iv = operate [ov, iv] (getItem ov iv) := by intro _ _; with_unfolding_all rfl) : PE X (.Subscript e (.Slice lo hi st p2) pos) (tSl3 X.K te tl th ts) := by
  constructor
  intro pins s σ H Q I h
  refine PyProof.Rows.Subscript_ (thn (he.run pins s σ H _ I h) ?_)
  rintro v s1 ⟨x, H1, I1, r1, q1⟩
  refine wpAny_Slice (thn (hl.run pins s1 σ H1 _ I1 q1) ?_)
  rintro vl s2 ⟨l, H2, I2, pl, q2⟩
  refine thn (hh.run pins s2 σ H2 _ I2 q2) ?_
  rintro vu s3 ⟨u, H3, I3, pu, q3⟩
  refine thn (hs.run pins s3 σ H3 _ I3 q3) ?_
  rintro vs s4 ⟨c, H4, I4, ps, a, xs, ex, hx, h0, q4⟩
  subst ex
  cases r1
  have I5 : Inv X pins σ H4 { s4 with heap := s4.heap.push { cls := .type "slice", data := .fields #[vl, vu, vs] } } := I4.kept (t' := s4.toks) fun b ob q => Heap.get?_push_of_some _ q
  obtain ⟨its, rv, ht, hz⟩ := I5.list hx
  have hlen : its.length = xs.length := rv.length.symm
  show wpAny (model X.prog X.w) X.A (subscriptTail e (.Slice lo hi st p2) (.ref a) (.ref s4.heap.objs.size)) (EP X pins σ Q) X.xe _
  refine tail_any (ops := [.ref a, .ref s4.heap.objs.size]) ht.isList.typeIs PySem.slot_list_getitem.lookup ?_ (hsub _ _)
  refine wpAny_getItem_list_slice ht.isList (Heap.IsSliceOf.new _ vl vu vs) pl pu ps h0 ?_ (by rw [List.size_toArray, hlen]; exact hz)
  have hp : PySem.slicePick its.toArray l u c = ((slIx xs.length l u c).filterMap (its[·]?)).toArray := by
    unfold PySem.slicePick slIx
    rw [List.size_toArray, hlen]
    simp only [List.getElem?_toArray]
  have hn := PySem.slicePick_size_le its.toArray l u c
  rw [hp, List.size_toArray, List.size_toArray, hlen] at hn
  rw [hp]
  refine ⟨.ref _, _, I5.laid (t' := s4.toks) (o := .lst (pickV xs l u c)) (fun b ob q => Heap.get?_push_of_some _ q) (Nat.le_refl _) ?_, rfl, q4 _ (I5.hok.fresh (Nat.le_refl _))⟩
  refine ⟨?_, _, 0, vals_pick rv _, Heap.get?_push_size _ rfl⟩
  have e := (vals_pick rv (slIx xs.length l u c)).length
  show (List.filterMap (fun i => xs[i]?) (slIx xs.length l u c)).length ≤ sizeLine
  rw [e]
  exact Nat.le_trans hn hz
end

/-! ### a call by keywords alone -/
section
variable {X : Cx} {CX : CXT} {k : Nat} {f : Addr} {fd : FuncData} {ps ks : List Str} {sp : Sp} {E : XK} {x : Str} {p pos : Pos} {kws : List Keyword} {tk : TA} {g : List Value → List Value → List Value} {gV : List V → List V → List V}
theorem pe_callK0 (F : FnOk X.prog X.w X.K X.mg X.base CX k f fd ps sp) (hr : Room k X.A) (hg : Gl X x) (hm : X.mg x = some (.ref f)) (hk : PySem.W.keepIn X.K (.ref f) = true) (hb : KBn X.K fd ps 0 ks g gV) (hx : Passes CX X E)
    (hkw : PK X kws tk) (hall : (backToKw pos (keywordEach kws X.env)).all (·.1.isSome) = true := by rfl) (hks : (backToKw pos (keywordEach kws X.env)).filterMap (·.1) = ks := by rfl)
    (hdb : (x == ("__debug__" : Str)) = false := by decide) : PE X (.Call (.Name x p) [] kws pos) (tCallN 0 ks.length sp gV E tNil tk) := by
  constructor
  intro pins s σ H Q I h
  apply wpAny_Call_Name_kw
  refine ld_glob I hg hm ?_ hdb
  have np : ((backTo pos (starEach [] X.env)).any (·.1) || (backToKw pos (keywordEach kws X.env)).any (·.1.isNone)) = false := by
    have z : ∀ l : List (Option Str × Sem Value), l.all (·.1.isSome) = true → l.any (·.1.isNone) = false := by
      intro l hl
      induction l with
      | nil => rfl
      | cons q l ih =>
        simp only [List.all_cons, Bool.and_eq_true] at hl
        simp only [List.any_cons, ih hl.2, Bool.or_false]
        cases e : q.1 with
        | none => rw [e] at hl; exact absurd hl.1 (by decide)
        | some _ => rfl
    rw [z _ hall]; rfl
  refine PySem.W.callWith_KW0 (h₀ := X.base) I.ok.mod.kin hk hall ?_ np
  refine thn (hkw.run pos pins s σ H _ I h) ?_
  rintro ws s1 ⟨zs, H1, I1, rz, _, l2, q⟩
  refine ⟨I1.kIn, ?_⟩
  rw [hks]
  exact run_fnN (us := []) F hr hb hx I1 .nil rz rfl l2 q
end

/-! ### the law's own call -/
/-- the heap that knows of nothing but the script (at a, where it stands apart) -/
def scriptH (own : Bool) (a : Addr) (o : Obj) (ns : List Int) : Hp := fun b => if own = true ∧ b = a then some (.frz o (.lst (ns.map V.int))) else none
theorem scriptH_only (own : Bool) (a : Addr) (o : Obj) (ns : List Int) : Only (scriptH own a o ns) := fun b => by
  unfold scriptH
  split
  · exact Or.inr ⟨_, _, rfl⟩
  · exact Or.inl rfl
theorem scriptH_some {own : Bool} {a b : Addr} {o : Obj} {ns : List Int} {u : HO} (h : scriptH own a o ns b = some u) : own = true ∧ b = a ∧ u = .frz o (.lst (ns.map V.int)) := by
  unfold scriptH at h
  split at h
  · rename_i z; exact ⟨z.1, z.2, (Option.some.inj h).symm⟩
  · cases h
theorem lawG {P : Program} {w : World} {K : PySem.W.Frag} {mg mb : Str → Option Value} {k : Nat} {fa a : Addr} {fd : FuncData} {x : Str} {sp : Sp} {s : Shared} {vs : List Value} {ns : List Int}
    (KX : K.In s.heap) (hm : s.heap.Ns mainGlobals mg) (hb : s.heap.Ns builtinsNs mb) (hbb : ∀ x : Str, x ≠ "__name__" → mb x = bootBuiltins x) (hlim : s.heap.NoLimit) (hg : s.gens = #[])
    (ha : s.heap.get? a = some { cls := .type "list", data := .seq vs.toArray }) (hi : IntsAre vs ns) (hl : ns.length ≤ sizeLine) (hr : Room k callerA)
    (F : ∀ base : Heap, K.In base → base.Ns mainGlobals mg → FnG P w K mg base k fa fd [x] sp) (hbind : ∀ (s : Shared) (u : Value), BindsTo s fd ⟨[u], []⟩ [(x, u)])
    (hsp : ∀ H : Hp, Only H → SqL K H a (ns.map V.int) → sp [.ref a] H (fun v _ => v = .bl true) E0) :
    codeAny (model P w) callerA (.call (.ref fa) ⟨[.ref a], []⟩) (fun r s' => r = .ok (.ret (.bool true)) ∧ OldK s.heap s'.heap ∧ s'.os = s.os ∧ AllBare s'.gens) s := by
  have rv := vals_ints hi
  have lv := hi.length
  -- own: the script is no object of the written part
  have key : ∀ own : Bool, (own = true → K.lookup a = none) → (own = false → ∃ o, K.lookup a = some o) →
      codeAny (model P w) callerA (.call (.ref fa) ⟨[.ref a], []⟩) (fun r s' => r = .ok (.ret (.bool true)) ∧ OldK s.heap s'.heap ∧ s'.os = s.os ∧ AllBare s'.gens) s := by
    intro own h1 h2
    have hO := scriptH_only own a { cls := .type "list", data := .seq vs.toArray } ns
    have hS := fun {b : Addr} {u : HO} => scriptH_some (own := own) (a := a) (b := b) (o := { cls := .type "list", data := .seq vs.toArray }) (ns := ns) (u := u)
    generalize eH : scriptH own a { cls := .type "list", data := .seq vs.toArray } ns = H at hO hS
    have frs0 : ∀ {b : Addr} {o : Obj} {es : Array DictEntry} {n : Nat}, s.heap.get? b = some o → o.data = .dict es n → H b = none := by
      intro b o es n e d
      cases q : H b with
      | none => rfl
      | some u =>
        obtain ⟨_, rfl, _⟩ := hS q
        rw [ha] at e
        cases e
        have d' : Data.seq vs.toArray _ = Data.dict es n := d
        cases d'
    have ns0 : ∀ {b : Addr} {m : Str → Option Value}, s.heap.Ns b m → (hidT s.heap H).Ns b m := by
      rintro b m ⟨o, es, n, e, d, r⟩
      exact ⟨o, es, n, hidT_get e (frs0 e d), d, r⟩
    have K0 : K.In (hidT s.heap H) := by
      intro b o e
      refine hidT_get (KX b o e) ?_
      cases q : H b with
      | none => rfl
      | some u =>
        obtain ⟨z, rfl, _⟩ := hS q
        rw [h1 z] at e
        cases e
    have hok : HOk P w H s.heap := by
      intro b u q
      obtain ⟨_, rfl, rfl⟩ := hS q
      exact ⟨ha, by rw [List.length_map]; exact hl, vs, _, rv, ha⟩
    have M0 : Mod K mg (hidT s.heap H) := by
      refine ⟨K0, ns0 hm, ⟨mb, ns0 hb, hbb⟩, ?_⟩
      obtain ⟨mc, q1, q2⟩ := hlim
      exact ⟨mc, ns0 q1, q2⟩
    have env : Env0 P w K mg (hidT s.heap H) callerA [] s H := by
      refine ⟨rfl, M0, fun b o e => of_hidT e, Nat.le_of_eq (hidT_size _ _), trivial, ?_, hok, .of_eq hg⟩
      intro b hb'
      cases hb'
    have sq : SqL K H a (ns.map V.int) := by
      cases own with
      | true => exact Or.inl (Or.inr ⟨_, by rw [← eH]; exact if_pos ⟨rfl, rfl⟩⟩)
      | false =>
        obtain ⟨o, e⟩ := h2 rfl
        have e' := KX a o e
        rw [ha] at e'
        cases e'
        exact Or.inr ⟨_, vs.toArray, _, e, rfl, rfl, rfl, by rw [List.size_toArray, lv]; exact hl, by simpa using rv⟩
    refine codeAny_mono ((F _ K0 (ns0 hm)).go callerA [] s H [.ref a] ⟨[.ref a], []⟩ [.ref a] _ E0 rfl hr env (hbind s (.ref a)) (.cons rfl .nil) (hsp H hO sq)) ?_
    intro r s' h
    match r, h with
    | .error _, h => exact h.elim
    | .ok .next, h => exact h.elim
    | .ok .brk, h => exact h.elim
    | .ok .cont, h => exact h.elim
    | .ok (.ret u), h =>
      obtain ⟨v, H', os, bare, un, hok', r', q⟩ := h
      cases (show v = .bl true from q)
      cases (show u = Value.bool true from r')
      refine ⟨rfl, OldK.of_keep ?_, os, bare⟩
      intro b o e
      cases q : H b with
      | none => exact un.keep b o e q (fun z => nomatch z) (fun z => nomatch z)
      | some u =>
        obtain ⟨_, rfl, rfl⟩ := hS q
        rw [ha] at e
        cases e
        obtain ⟨e2, _⟩ := hok' b _ (un.frzs b _ _ q)
        exact e2
  cases hk : K.lookup a with
  | some o => exact key false (fun z => Bool.noConfusion z) (fun _ => ⟨o, hk⟩)
  | none => exact key true (fun _ => hk) (fun z => Bool.noConfusion z)
theorem walkG {l : PySem.W.OpenLaw} {n k : Nat} {q : Program} {loose : List Str} {XP : (Str → Option Value) → Heap → Prop} {YP : World → Heap → Prop} {d : DefRec} {K : Params → PySem.W.Frag} {sp : PySem.W.Frag → Sp} {x : Str}
    (hn : l.most = some n) (hn2 : n ≤ sizeLine) (hdf : d.params.defaults = []) (hr : Room k callerA) (hY : ∀ (w : World) (h : Heap), YP w h → (K w.params).In h)
    (F : ∀ (w : World) (mg : Str → Option Value) (fa : Addr) (h : Heap), (K w.params).In h → h.Ns mainGlobals mg → mg d.name = some (.ref fa) →
      ∃ fd : FuncData, (∀ (s : Shared) (u : Value), BindsTo s fd ⟨[u], []⟩ [(x, u)]) ∧
        ∀ base : Heap, (K w.params).In base → base.Ns mainGlobals mg → FnG l.prog w (K w.params) mg base k fa fd [x] (sp (K w.params)))
    (hsp : ∀ (K : PySem.W.Frag) (H : Hp) (a : Addr) (ns : List Int), ns.length ≤ n → (∀ z ∈ ns, Builtin.Int.intBits z ≤ 1048576) → SqL K H a (ns.map V.int) → sp K [.ref a] H (fun v _ => v = .bl true) E0) :
    PySem.W.WalkO q loose XP YP l.row.toRowW d [] (fun f vs => PySem.call f vs) := by
  apply Att.attach_callB hn hdf
  intro w s0 s1 mg mb fa o pm cd doc a vs ns G Y ho hd hcd hmg hobj hints hlen hbits hg
  have KX := hY w _ Y
  obtain ⟨fd, hb, hF⟩ := F w mg fa _ KX G.T.g hmg
  exact lawG KX G.T.g G.T.b G.T.builtins G.T.nolimit hg hobj hints (Nat.le_trans hlen hn2) hr hF hb fun H _ hS => hsp _ H a ns hlen hbits hS
end Rs

namespace Rs
open PySem PySem.Spec PyProof.Rows L2

/-! ### what is known of the heap -/
abbrev Led := List (Addr × HO)
/-- H0: the heap at the entry; M: the objects of it that may have changed; L: what stands now -/
structure Hs (H0 : Hp) (M : List Addr) (H : Hp) (L : Led) : Prop where
  nd : (L.map (·.1)).Nodup
  is : ∀ q ∈ L, H q.1 = some q.2
  old : ∀ b o, H0 b = some o → b ∉ M → H b = some o
  mu : ∀ b ∈ M, H b ≠ none
/-- one entry exchanged -/
inductive Chg (a : Addr) (o o' : HO) : Led → Led → Prop where
  | here {L : Led} : Chg a o o' ((a, o) :: L) ((a, o') :: L)
  | there {q : Addr × HO} {L L' : Led} : Chg a o o' L L' → Chg a o o' (q :: L) (q :: L')
theorem Chg.keys {a : Addr} {o o' : HO} {L L' : Led} (c : Chg a o o' L L') : L'.map (·.1) = L.map (·.1) := by
  induction c with
  | here => rfl
  | there _ ih => simp only [List.map_cons, ih]
theorem Chg.mem {a : Addr} {o o' : HO} {L L' : Led} (c : Chg a o o' L L') : (a, o) ∈ L := by
  induction c with
  | here => exact List.mem_cons_self
  | there _ ih => exact List.mem_cons_of_mem _ ih
theorem Chg.of {a : Addr} {o o' : HO} {L L' : Led} (c : Chg a o o' L L') (nd : (L.map (·.1)).Nodup) : ∀ q ∈ L', q = (a, o') ∨ (q ∈ L ∧ q.1 ≠ a) := by
  induction c with
  | @here L =>
    intro q hq
    rcases List.mem_cons.mp hq with e | hq
    · exact Or.inl e
    · refine Or.inr ⟨List.mem_cons_of_mem _ hq, ?_⟩
      intro e
      simp only [List.map_cons, List.nodup_cons] at nd
      exact nd.1 (e ▸ List.mem_map_of_mem hq)
  | @there p L L' c ih =>
    intro q hq
    simp only [List.map_cons, List.nodup_cons] at nd
    rcases List.mem_cons.mp hq with e | hq
    · subst e
      refine Or.inr ⟨List.mem_cons_self, ?_⟩
      intro e
      exact nd.1 (e ▸ List.mem_map_of_mem (f := (·.1)) c.mem)
    · rcases ih nd.2 q hq with e | ⟨h1, h2⟩
      · exact Or.inl e
      · exact Or.inr ⟨List.mem_cons_of_mem _ h1, h2⟩
section
variable {H0 H H' : Hp} {M : List Addr} {L L' : Led} {a : Addr} {o o' : HO}
theorem Hs.new (S : Hs H0 M H L) (hp : H a = none) (o : HO) : H0 a = none ∧ Hs H0 M (upd H a o) ((a, o) :: L) := by
  have n0 : H0 a = none := by
    cases e : H0 a with
    | none => rfl
    | some u =>
      by_cases hm : a ∈ M
      · exact absurd hp (S.mu a hm)
      · have := S.old a u e hm
        rw [hp] at this
        cases this
  have ne : ∀ q ∈ L, q.1 ≠ a := fun q hq e => by
    have := S.is q hq
    rw [e, hp] at this
    cases this
  refine ⟨n0, ?_, ?_, ?_, ?_⟩
  · simp only [List.map_cons, List.nodup_cons]
    refine ⟨fun hm => ?_, S.nd⟩
    obtain ⟨q, hq, e⟩ := List.mem_map.mp hm
    exact ne q hq e
  · intro q hq
    rcases List.mem_cons.mp hq with e | hq
    · subst e; exact upd_same
    · rw [upd_ne (ne q hq)]; exact S.is q hq
  · intro b u e hm
    have hb : b ≠ a := fun z => by rw [z, n0] at e; cases e
    rw [upd_ne hb]
    exact S.old b u e hm
  · intro b hb
    unfold upd
    split
    · simp
    · exact S.mu b hb
theorem Hs.put (S : Hs H0 M H L) (c : Chg a o o' L L') (hm : H0 a = none ∨ a ∈ M) : Hs H0 M (upd H a o') L' := by
  refine ⟨by rw [c.keys]; exact S.nd, ?_, ?_, ?_⟩
  · intro q hq
    rcases c.of S.nd q hq with e | ⟨h1, h2⟩
    · subst e; exact upd_same
    · rw [upd_ne h2]; exact S.is q h1
  · intro b u e hb
    have ne : b ≠ a := fun z => by
      subst z
      rcases hm with z | z
      · rw [z] at e; cases e
      · exact hb z
    rw [upd_ne ne]
    exact S.old b u e hb
  · intro b hb
    unfold upd
    split
    · simp
    · exact S.mu b hb
/-- behind a call that changed at most the objects of C (each fresh or in M), and left L' -/
theorem Hs.call (S : Hs H0 M H L) {C : List Addr} (k : ∀ b u, H b = some u → b ∉ C → H' b = some u) (hC : ∀ b ∈ C, (H0 b = none ∨ b ∈ M) ∧ H' b ≠ none) (nd : (L'.map (·.1)).Nodup)
    (is : ∀ q ∈ L', H' q.1 = some q.2) : Hs H0 M H' L' := by
  refine ⟨nd, is, ?_, ?_⟩
  · intro b u e hb
    refine k b u (S.old b u e hb) fun hc => ?_
    rcases (hC b hc).1 with z | z
    · rw [z] at e; cases e
    · exact hb z
  · intro b hb
    by_cases hc : b ∈ C
    · exact (hC b hc).2
    · intro z
      cases e : H b with
      | none => exact S.mu b hb e
      | some u =>
        rw [k b u e hc] at z
        cases z
/-- nothing was changed -/
theorem Hs.more (S : Hs H0 M H L) (k : Same H H') : Hs H0 M H' L :=
  S.call (C := []) (fun b u e _ => k b u e) (fun b hb => nomatch hb) S.nd fun q hq => k _ _ (S.is q hq)
/-- nothing was changed, one object is new -/
theorem Hs.more1 (S : Hs H0 M H L) (k : Same H H') (hp : H a = none) (h' : H' a = some o) : H0 a = none ∧ Hs H0 M H' ((a, o) :: L) := by
  obtain ⟨n0, S'⟩ := S.new hp o
  refine ⟨n0, (S.more k).call (C := []) (fun b u e _ => e) (fun b hb => nomatch hb) S'.nd ?_⟩
  intro q hq
  rcases List.mem_cons.mp hq with e | hq
  · subst e; exact h'
  · exact k _ _ (S.is q hq)
/-- one object was changed, to o' -/
theorem Hs.one (S : Hs H0 M H L) (c : Chg a o o' L L') (hm : H0 a = none ∨ a ∈ M) (k : ∀ b u, H b = some u → b ≠ a → H' b = some u) (h' : H' a = some o') : Hs H0 M H' L' := by
  have S' := S.put c hm
  refine S.call (C := [a]) (fun b u e hb => k b u e fun z => hb (by simp [z])) ?_ S'.nd ?_
  · intro b hb
    have e : b = a := by simpa using hb
    subst e
    exact ⟨hm, by rw [h']; simp⟩
  · intro q hq
    rcases c.of S.nd q hq with e | ⟨h1, h2⟩
    · subst e; exact h'
    · exact k _ _ (S.is q h1) h2
/-- one object was changed, one is new -/
theorem Hs.one1 {p : Addr} {u : HO} (S : Hs H0 M H L) (c : Chg a o o' L L') (hm : H0 a = none ∨ a ∈ M) (k : ∀ b u, H b = some u → b ≠ a → H' b = some u) (h' : H' a = some o') (hp : H p = none) (hp' : H' p = some u) : H0 p = none ∧ Hs H0 M H' ((p, u) :: L') := by
  have S' := S.one c hm k h'
  have S2 := S.new hp u
  refine ⟨S2.1, ?_, ?_, S'.old, S'.mu⟩
  · simp only [List.map_cons, List.nodup_cons]
    refine ⟨fun hq => ?_, S'.nd⟩
    rw [c.keys] at hq
    obtain ⟨q, hq, e⟩ := List.mem_map.mp hq
    have := S.is q hq
    rw [e, hp] at this
    cases this
  · intro q hq
    rcases List.mem_cons.mp hq with e | hq
    · subst e; exact hp'
    · exact S'.is q hq
theorem Hs.sub (S : Hs H0 M H L) (h : L'.Sublist L) : Hs H0 M H L' := ⟨S.nd.sublist (h.map _), fun q hq => S.is q (h.subset hq), S.old, S.mu⟩
theorem Hs.start (H : Hp) (M : List Addr) (L : Led) (nd : (L.map (·.1)).Nodup) (is : ∀ q ∈ L, H q.1 = some q.2) (hM : ∀ b ∈ M, H b ≠ none) : Hs H M H L := ⟨nd, is, fun b u e _ => e, hM⟩
theorem Hs.start0 (H : Hp) : Hs H [] H [] := ⟨List.nodup_nil, fun q hq => (nomatch hq), fun b u e _ => e, fun b hb => nomatch hb⟩
theorem Hs.start1 {H : Hp} {a : Addr} {o : HO} (h : H a = some o) (M : List Addr) (hM : M = [] ∨ M = [a]) : Hs H M H [(a, o)] := by
  refine ⟨by simp, fun q hq => ?_, fun b u e _ => e, fun b hb => ?_⟩
  · have e : q = (a, o) := by simpa using hq
    subst e; exact h
  · rcases hM with rfl | rfl
    · cases hb
    · have e : b = a := by simpa using hb
      subst e; rw [h]; simp
theorem Hs.get (S : Hs H0 M H L) (m : (a, o) ∈ L) : H a = some o := S.is _ m
theorem Hs.old1 {d b : Addr} {u : HO} (S : Hs H0 [d] H L) (e : H0 b = some u) (hb : b ≠ d) : H b = some u := S.old b u e (by simpa using hb)
theorem Hs.same (S : Hs H0 [] H L) : Same H0 H := fun b o e => S.old b o e (fun z => nomatch z)
theorem Hs.lst {K : PySem.W.Frag} {xs : List V} (S : Hs H0 M H L) (m : (a, HO.lst xs) ∈ L) : SqL K H a xs := SqL.of (S.is _ m)
theorem Hs.tup {K : PySem.W.Frag} {xs : List V} (S : Hs H0 M H L) (m : (a, HO.tup xs) ∈ L) : SqT K H a xs := SqT.of (S.is _ m)
/-- the script, or what else stands in the written part, at a list -/
theorem Hs.sq {K : PySem.W.Frag} {xs : List V} (S : Hs H0 M H L) (h : SqL K H0 a xs) (hm : a ∉ M) : SqL K H a xs := by
  rcases h with (h | ⟨u, h⟩) | h
  · exact Or.inl (Or.inl (S.old _ _ h hm))
  · exact Or.inl (Or.inr ⟨u, S.old _ _ h hm⟩)
  · exact Or.inr h
end

/-! ### readings, step by step -/
/-- the slots at the entry -/
def stV : List Str → List V → L2.St
  | [], _ => []
  | _ :: N, vs => vs.head? :: stV N vs.tail
theorem start_eq : ∀ (N : List Str) (vs : List V), vs.length ≤ N.length → L2.start N vs = stV N vs
  | [], [], _ => by simp [L2.start, stV]
  | [], v :: vs, h => by simp at h
  | n :: N, [], _ => by
    have ih := start_eq N [] (Nat.zero_le _)
    simp only [stV, List.tail_nil, ← ih]
    simp [L2.start, List.replicate_succ]
  | n :: N, v :: vs, h => by
    have ih := start_eq N vs (by simpa using h)
    simp only [stV, List.tail_cons, ← ih]
    simp [L2.start]
section
variable {σ : L2.St} {H H0 : Hp} {M : List Addr} {L L' : Led} {Q : VK} {v x y : V} {nx : L2.St → Hp → Prop} {rt : VK} {bk ct : L2.St → Hp → Prop} {t u : TS} {te ta tb tc : TE} {g : TG} {tt tu : TT} {r r' : R2} {A B : Prop}
theorem rd_start {t : TS} {D : Ends} {N : List Str} {vs : List V} (h : t D (stV N vs) H) (hl : vs.length ≤ N.length := by exact Nat.le_of_ble_eq_true rfl) : t D (L2.start N vs) H := by rw [start_eq N vs hl]; exact h
theorem rd_seq (h : t ⟨fun σ H => u ⟨nx, rt, bk, ct⟩ σ H, rt, bk, ct⟩ σ H) : tSeq t u ⟨nx, rt, bk, ct⟩ σ H := h
theorem rd_asg (h : te σ H fun x H1 => g x σ H1 nx) : tAsg te g ⟨nx, rt, bk, ct⟩ σ H := h
theorem rd_name {i : Nat} {σ' : L2.St} {N : L2.St → Hp → Prop} (e : σ.set i (some v) = σ') (h : N σ' H) : gName i v σ H N := by subst e; exact h
theorem rd_ret (h : te σ H rt) : tRet te ⟨nx, rt, bk, ct⟩ σ H := h
theorem rd_retN (h : rt .non H) : tRetN ⟨nx, rt, bk, ct⟩ σ H := h
theorem rd_drop (h : te σ H fun _ H1 => nx σ H1) : tDrop te ⟨nx, rt, bk, ct⟩ σ H := h
theorem rd_next (h : nx σ H) : tNext ⟨nx, rt, bk, ct⟩ σ H := h
theorem rd_ifS (h : tt σ H fun b H1 => if b = true then t ⟨nx, rt, bk, ct⟩ σ H1 else u ⟨nx, rt, bk, ct⟩ σ H1) : tIfS tt t u ⟨nx, rt, bk, ct⟩ σ H := h
theorem rd_par {i j : Nat} {ta : TA} (h : ta σ H fun vs H1 => ∃ v w, vs = [v, w] ∧ nx ((σ.set i (some v)).set j (some w)) H1) : tPar i j ta ⟨nx, rt, bk, ct⟩ σ H := h
theorem rd_par3 {i j l : Nat} {ta : TA} (h : ta σ H fun vs H1 => ∃ u v w, vs = [u, v, w] ∧ nx (((σ.set i (some u)).set j (some v)).set l (some w)) H1) : tPar3 i j l ta ⟨nx, rt, bk, ct⟩ σ H := h
theorem rd_two {R : V → V → Prop} (h : R x y) : ∃ v w, [x, y] = [v, w] ∧ R v w := ⟨_, _, rfl, h⟩
theorem rd_three {z : V} {R : V → V → V → Prop} (h : R x y z) : ∃ u v w, [x, y, z] = [u, v, w] ∧ R u v w := ⟨_, _, _, rfl, h⟩
theorem rd_var {i : Nat} (e : σ[i]? = some (some v)) (h : Q v H) : tVar i σ H Q := ⟨v, e, h⟩
theorem rd_c (h : Q v H) : tC v σ H Q := h
theorem rd_op (h : ta σ H fun x H1 => tb σ H1 fun y H2 => r x y H2 Q) : tOp r ta tb σ H Q := h
theorem rd_un {r : V → Hp → VK → Prop} (h : ta σ H fun x H1 => r x H1 Q) : tUn r ta σ H Q := h
theorem rd_I0 {f : Int → Int → V} {i j : Int} (h : Q (f i j) H) : rI0 f (.int i) (.int j) H Q := ⟨i, j, rfl, rfl, h⟩
theorem rd_I {C : Int → Int → Prop} {f : Int → Int → V} {i j : Int} (hc : C i j) (h : Q (f i j) H) : rI C f (.int i) (.int j) H Q := ⟨i, j, rfl, rfl, hc, h⟩
theorem rd_U {f : Int → V} {i : Int} (h : Q (f i) H) : rU f (.int i) H Q := ⟨i, rfl, h⟩
theorem rd_eqI {i j : Int} (h : Q (.bl (decide (i = j))) H) : rEq (.int i) (.int j) H Q := by
  refine ⟨rfl, ?_⟩
  have e : decide (V.int i = V.int j) = decide (i = j) := by simp
  rw [e]; exact h
theorem rd_neI {i j : Int} (h : Q (.bl (decide (¬ i = j))) H) : rNe (.int i) (.int j) H Q := by
  refine ⟨rfl, ?_⟩
  have e : (!decide (V.int i = V.int j)) = decide (¬ i = j) := by simp
  rw [e]; exact h
theorem rd_eqS {i j : Str} (h : Q (.bl (decide (i = j))) H) : rEq (.str i) (.str j) H Q := by
  refine ⟨rfl, ?_⟩
  have e : decide (V.str i = V.str j) = decide (i = j) := by simp
  rw [e]; exact h
theorem rd_neS {i j : Str} (h : Q (.bl (decide (¬ i = j))) H) : rNe (.str i) (.str j) H Q := by
  refine ⟨rfl, ?_⟩
  have e : (!decide (V.str i = V.str j)) = decide (¬ i = j) := by simp
  rw [e]; exact h
theorem rd_eqB {i j : Bool} (h : Q (.bl (decide (i = j))) H) : rEq (.bl i) (.bl j) H Q := by
  refine ⟨rfl, ?_⟩
  have e : decide (V.bl i = V.bl j) = decide (i = j) := by simp
  rw [e]; exact h
theorem rd_test {Q : Bool → Hp → Prop} (h : te σ H fun x H' => ∃ k, x = .bl k ∧ Q k H') : tTest te σ H Q := h
theorem rd_tB {Q : Bool → Hp → Prop} (h : te σ H fun x H' => ∃ k, x = .bl k ∧ Q k H') : tB te σ H Q := h
theorem rd_bl {b : Bool} {R : Bool → Prop} (h : R b) : ∃ k, V.bl b = .bl k ∧ R k := ⟨b, rfl, h⟩
theorem rd_and {Q : Bool → Hp → Prop} (h : tt σ H fun c H1 => if c = true then tu σ H1 Q else Q false H1) : tAnd tt tu σ H Q := h
theorem rd_or {Q : Bool → Hp → Prop} (h : tt σ H fun c H1 => if c = true then Q true H1 else tu σ H1 Q) : tOr tt tu σ H Q := h
theorem rd_not {Q : Bool → Hp → Prop} (h : tt σ H fun c H1 => Q (!c) H1) : tNot tt σ H Q := h
theorem rd_andV (h : ta σ H fun x H1 => ∃ c, x = .bl c ∧ if c = true then tb σ H1 Q else Q (.bl false) H1) : tAndV ta tb σ H Q := h
theorem rd_orV (h : ta σ H fun x H1 => ∃ c, x = .bl c ∧ if c = true then Q (.bl true) H1 else tb σ H1 Q) : tOrV ta tb σ H Q := h
theorem rd_notV (h : ta σ H fun x H1 => ∃ c, x = .bl c ∧ Q (.bl (!c)) H1) : tNotV ta σ H Q := h
theorem rd_if (h : tt σ H fun c H1 => if c = true then ta σ H1 Q else tb σ H1 Q) : tIf tt ta tb σ H Q := h
theorem rd_cons {tr : TA} {Q : List V → Hp → Prop} (h : te σ H fun x H1 => tr σ H1 fun xs H2 => Q (x :: xs) H2) : tCons te tr σ H Q := h
theorem rd_nil {Q : List V → Hp → Prop} (h : Q [] H) : tNil σ H Q := h
/-- what is wanted of a new object -/
def nw (Q : VK) (H : Hp) (o : HO) : Prop := ∀ p, H p = none → Q (.ref p) (upd H p o)
def nwL (Q : VK) (H : Hp) (xs : List V) : Prop := xs.length ≤ sizeLine ∧ nw Q H (.lst xs)
def nwT (Q : VK) (H : Hp) (xs : List V) : Prop := xs.length ≤ sizeLine ∧ nw Q H (.tup xs)
theorem rd_tup {ta : TA} (h : ta σ H fun xs H1 => nwT Q H1 xs) : tTup ta σ H Q := h
theorem rd_lst {ta : TA} (h : ta σ H fun xs H1 => nwL Q H1 xs) : tLst ta σ H Q := h
theorem rd_cb {r : List V → Hp → VK → Prop} {ta : TA} (h : ta σ H fun vs H1 => r vs H1 Q) : tCB r ta σ H Q := h
theorem rd_call {sp : Sp} {dvs : List V} {E : XK} {ta : TA} (h : ta σ H fun vs H1 => sp (vs ++ dvs) H1 Q E) : tCall sp dvs E ta σ H Q := h
theorem rd_call0 {sp : Sp} {E : XK} {ta : TA} (h : ta σ H fun vs H1 => sp vs H1 Q E) : tCall sp [] E ta σ H Q := by
  have e : (fun (vs : List V) H1 => sp (vs ++ []) H1 Q E) = fun vs H1 => sp vs H1 Q E := by funext vs H1; rw [List.append_nil]
  show ta σ H (fun vs H1 => sp (vs ++ []) H1 Q E)
  rw [e]; exact h
theorem rd_callN {n m : Nat} {sp : Sp} {gV : List V → List V → List V} {E : XK} {ta tk : TA} (h : ta σ H fun vs H1 => tk σ H1 fun zs H2 => vs.length = n ∧ zs.length = m ∧ sp (gV vs zs) H2 Q E) : tCallN n m sp gV E ta tk σ H Q := h
theorem rd_chain (h : ta σ H fun x H1 => tb σ H1 fun y H2 => r x y H2 fun z H3 => ∃ k, z = .bl k ∧ (if k = true then tc σ H3 fun w H4 => r' y w H4 Q else Q (.bl false) H3)) : tChain r r' ta tb tc σ H Q := h
theorem rd_bits (h : te σ H fun x H1 => ∃ i, x = .int i ∧ Q (.int (Builtin.Int.intBits i : Nat)) H1) : tBits te σ H Q := h
theorem rd_int1 {i : Int} {R : Int → Prop} (h : R i) : ∃ j, V.int i = .int j ∧ R j := ⟨i, rfl, h⟩
theorem rd_int2 {i j : Int} {R : Int → Int → Prop} (h : R i j) : ∃ i' j', [V.int i, V.int j] = [.int i', .int j'] ∧ R i' j' := ⟨i, j, rfl, h⟩
theorem rd_dget {td ty : TE} (h : td σ H fun x H1 => ty σ H1 fun y H2 => ∃ a v, x = .ref a ∧ DGet H2 a y (some v) ∧ Q v H2) : tDGet td ty σ H Q := h
theorem rd_dput {td ty tv : TE} (h : tv σ H fun v H1 => td σ H1 fun x H2 => ty σ H2 fun y H3 => ∃ a H4, x = .ref a ∧ DPut H3 a y v H4 ∧ nx σ H4) : sDPut td ty tv ⟨nx, rt, bk, ct⟩ σ H := h
theorem rd_slice3 {K : PySem.W.Frag} {tl th ts : TO} (h : te σ H fun x H1 => tl σ H1 fun l H2 => th σ H2 fun u H3 => ts σ H3 fun st H4 => ∃ a xs, x = .ref a ∧ SqL K H4 a xs ∧ st ≠ some 0 ∧ nw Q H4 (.lst (pickV xs l u st))) : tSl3 K te tl th ts σ H Q := h
theorem rd_sl {r : V → Option Int → Option Int → Hp → VK → Prop} {tl th : TO} (h : te σ H fun x H1 => tl σ H1 fun l H2 => th σ H2 fun u H3 => r x l u H3 Q) : tSl r te tl th σ H Q := h
theorem rd_noPart {Q : Option Int → Hp → Prop} (h : Q none H) : tNoPart σ H Q := h
theorem rd_part {Q : Option Int → Hp → Prop} (h : te σ H fun x H1 => ∃ i, x = .int i ∧ Q (some i) H1) : tPart te σ H Q := h
theorem sz {n : Nat} (h : n ≤ 1000000) : n ≤ sizeLine := Nat.le_trans h (by decide)
theorem sz' {n : Nat} (h : n ≤ 1000000) : n < sizeLine := Nat.lt_of_le_of_lt h (by decide)
theorem rd_mod {i j : Int} (hj : 0 < j) (h : ∀ r, r = i % j → 0 ≤ r → r < j → Q (.int r) H) : rI (fun _ j => 0 < j) (fun i j => .int (i % j)) (.int i) (.int j) H Q :=
  ⟨i, j, rfl, rfl, hj, h _ rfl (Int.emod_nonneg _ (by omega)) (Int.emod_lt_of_pos _ hj)⟩
theorem rd_div {i j : Int} (hj : 0 < j) (hb : j < 2 ^ 64) (h : Q (.int (i / j)) H) : rI CDivW (fun i j => .int (i / j)) (.int i) (.int j) H Q :=
  ⟨i, j, rfl, rfl, wide_div (b := 64) hj (by omega) (by decide) (by decide), h⟩
theorem rd_mulL {i j : Int} (h0 : -(2 ^ 64) < i) (h1 : i < 2 ^ 64) (h : Q (.int (i * j)) H) : rI CMul (fun i j => .int (i * j)) (.int i) (.int j) H Q := ⟨i, j, rfl, rfl, .inl ⟨h0, h1⟩, h⟩
theorem rd_mulR {i j : Int} (h0 : -(2 ^ 64) < j) (h1 : j < 2 ^ 64) (h : Q (.int (i * j)) H) : rI CMul (fun i j => .int (i * j)) (.int i) (.int j) H Q := ⟨i, j, rfl, rfl, .inr ⟨h0, h1⟩, h⟩
theorem rd_pow {f : Int → Int → V} {i j : Int} (h0 : 0 ≤ j) (h1 : j ≤ 1000000) (h2 : i.natAbs < 2 ^ 64) (h : Q (f i j) H) : rI CPow f (.int i) (.int j) H Q := ⟨i, j, rfl, rfl, ⟨h0, h1, h2⟩, h⟩
/-! tests -/
theorem rd_dec {p : Prop} [Decidable p] (h1 : p → A) (h2 : ¬ p → B) : if decide p = true then A else B := by
  by_cases h : p
  · rw [if_pos (decide_eq_true h)]; exact h1 h
  · rw [if_neg (by simp [h])]; exact h2 h
theorem rd_decT {p : Prop} [Decidable p] (h : p) (h1 : A) : if decide p = true then A else B := by rw [if_pos (decide_eq_true h)]; exact h1
theorem rd_decF {p : Prop} [Decidable p] (h : ¬ p) (h1 : B) : if decide p = true then A else B := by rw [if_neg (by simp [h])]; exact h1
theorem rd_ite {b : Bool} (h1 : b = true → A) (h2 : b = false → B) : if b = true then A else B := by
  cases b with
  | true => rw [if_pos rfl]; exact h1 rfl
  | false => rw [if_neg Bool.false_ne_true]; exact h2 rfl
theorem rd_iteT (h : A) : if true = true then A else B := by rw [if_pos rfl]; exact h
theorem rd_iteF (h : B) : if false = true then A else B := by rw [if_neg Bool.false_ne_true]; exact h
theorem rd_ndec {p : Prop} [Decidable p] (h1 : ¬ p → A) (h2 : p → B) : if (!decide p) = true then A else B := by
  by_cases h : p
  · rw [if_neg (by simp [h])]; exact h2 h
  · rw [if_pos (by simp [h])]; exact h1 h
theorem rd_ndecT {p : Prop} [Decidable p] (h : p) (h2 : B) : if (!decide p) = true then A else B := by rw [if_neg (by simp [h])]; exact h2
theorem rd_ndecF {p : Prop} [Decidable p] (h : ¬ p) (h1 : A) : if (!decide p) = true then A else B := by rw [if_pos (by simp [h])]; exact h1
theorem rd_nT (h : B) : if (!true) = true then A else B := by rw [if_neg (by decide)]; exact h
theorem rd_nF (h : A) : if (!false) = true then A else B := by rw [if_pos (by decide)]; exact h
/-! with the ledger -/
theorem rd_newL {xs : List V} (S : Hs H0 M H L) (hz : xs.length ≤ sizeLine) (h : ∀ p H', H0 p = none → Hs H0 M H' ((p, .lst xs) :: L) → Q (.ref p) H') : nwL Q H xs :=
  ⟨hz, fun p hp => h p _ (S.new hp (.lst xs)).1 (S.new hp (.lst xs)).2⟩
theorem rd_newT {xs : List V} (S : Hs H0 M H L) (hz : xs.length ≤ sizeLine) (h : ∀ p H', H0 p = none → Hs H0 M H' ((p, .tup xs) :: L) → Q (.ref p) H') : nwT Q H xs :=
  ⟨hz, fun p hp => h p _ (S.new hp (.tup xs)).1 (S.new hp (.tup xs)).2⟩
theorem rd_newO {o : HO} (S : Hs H0 M H L) (h : ∀ p H', H0 p = none → Hs H0 M H' ((p, o) :: L) → Q (.ref p) H') : nw Q H o :=
  fun p hp => h p _ (S.new hp o).1 (S.new hp o).2
theorem rd_ixL {K : PySem.W.Frag} {a : Addr} {xs : List V} {i : Int} (S : Hs H0 M H L) (m : (a, HO.lst xs) ∈ L) (e : atI xs i = some v) (h : Q v H) : rIxL K (.ref a) (.int i) H Q := ⟨a, xs, i, v, rfl, rfl, S.lst m, e, h⟩
theorem atI_any {α : Type} {xs : List α} {i : Int} (h0 : 0 ≤ i) (h1 : i < xs.length) : ∃ v, v ∈ xs ∧ xs[i.toNat]? = some v ∧ atI xs i = some v := by
  have hl : i.toNat < xs.length := by omega
  have e : xs[i.toNat]? = some xs[i.toNat] := by simp [hl]
  refine ⟨xs[i.toNat], List.getElem_mem hl, e, ?_⟩
  have z : ((i.toNat : Nat) : Int) = i := by omega
  have q := atI_nat e
  rw [z] at q
  exact q
theorem rd_ixAny {K : PySem.W.Frag} {a : Addr} {xs : List V} {i : Int} (S : Hs H0 M H L) (m : (a, HO.lst xs) ∈ L) (h0 : 0 ≤ i) (h1 : i < xs.length) (h : ∀ v, v ∈ xs → xs[i.toNat]? = some v → Q v H) : rIxL K (.ref a) (.int i) H Q := by
  obtain ⟨v, hv, e, he⟩ := atI_any h0 h1
  exact ⟨a, xs, i, v, rfl, rfl, S.lst m, he, h v hv e⟩
theorem rd_ixT {K : PySem.W.Frag} {a : Addr} {xs : List V} {i : Int} (S : Hs H0 M H L) (m : (a, HO.tup xs) ∈ L) (e : atI xs i = some v) (h : Q v H) : rIxT K (.ref a) (.int i) H Q := ⟨a, xs, i, v, rfl, rfl, S.tup m, e, h⟩
theorem rd_len {K : PySem.W.Frag} {a : Addr} {xs : List V} (S : Hs H0 M H L) {R : List V → Prop} (m : (a, HO.lst xs) ∈ L) (h : R xs) : ∃ p ys, [V.ref a] = [.ref p] ∧ (SqL K H p ys ∨ SqT K H p ys) ∧ R ys := ⟨a, xs, rfl, Or.inl (S.lst m), h⟩
theorem rd_lenT {K : PySem.W.Frag} {a : Addr} {xs : List V} (S : Hs H0 M H L) {R : List V → Prop} (m : (a, HO.tup xs) ∈ L) (h : R xs) : ∃ p ys, [V.ref a] = [.ref p] ∧ (SqL K H p ys ∨ SqT K H p ys) ∧ R ys := ⟨a, xs, rfl, Or.inr (S.tup m), h⟩
theorem rd_getS {a : Addr} {kvs : List (Key × V)} {k : Str} (S : Hs H0 M H L) (m : (a, HO.dK kvs) ∈ L) (e : valV kvs (.inr k) = some v) {R : V → Prop} (h : R v) : ∃ a' v', V.ref a = .ref a' ∧ DGet H a' (.str k) (some v') ∧ R v' :=
  ⟨a, v, rfl, by rw [← e]; exact DGet.k (k := Sum.inr k) (S.is _ m), h⟩
theorem rd_putS {a : Addr} {kvs kvs' : List (Key × V)} {k : Str} {R : Hp → Prop} (S : Hs H0 M H L) (c : Chg a (.dK kvs) (.dK kvs') L L') (hm : H0 a = none ∨ a ∈ M) (hl : kvs.length < sizeLine) (e : putK kvs (.inr k) v = kvs')
    (h : ∀ H', Hs H0 M H' L' → R H') : ∃ a' H4, V.ref a = .ref a' ∧ DPut H a' (.str k) v H4 ∧ R H4 := by
  subst e
  exact ⟨a, _, rfl, DPut.k (k := Sum.inr k) (S.is _ c.mem) hl, h _ (S.put c hm)⟩
theorem gt_ref {K : PySem.W.Frag} {a : Addr} {xs : List V} {n : Nat} {ts : TGs} {N : L2.St → Hp → Prop} (S : Hs H0 M H L) (m : (a, HO.tup xs) ∈ L) (hn : xs.length = n) (h : ts xs σ H N) : gTup K n ts (.ref a) σ H N := ⟨a, xs, rfl, S.tup m, hn, h⟩
theorem gt_cons {ts : TGs} {w : V} {vs : List V} {N : L2.St → Hp → Prop} (h : g w σ H fun σ' H' => ts vs σ' H' N) : gCons g ts (w :: vs) σ H N := ⟨w, vs, rfl, h⟩
theorem gt_nil {N : L2.St → Hp → Prop} (h : N σ H) : gNil [] σ H N := ⟨rfl, h⟩
end
/-! ### a def as it is called by its name -/
structure Cal (K : PySem.W.Frag) (mg : Str → Option Value) (x : Str) (st : Stmt) (ps : List Str) (f : Addr) (fd : FuncData) : Prop where
  F : Fun K x x st f fd
  b : Binds K fd ps []
  m : mg x = some (.ref f)
end Rs

namespace Rs
open PySem PySem.Spec PyProof.Rows L2

/-! ### kinds of values -/
inductive Kn where
  | int | bool | str | none | list | tup | dict
  deriving DecidableEq
def Kn.nm : Kn → String
  | .int => "int" | .bool => "bool" | .str => "str" | .none => "NoneType" | .list => "list" | .tup => "tuple" | .dict => "dict"
inductive Kin (K : PySem.W.Frag) (H : Hp) : V → Kn → Prop where
  | int (i : Int) : Kin K H (.int i) .int
  | bl (b : Bool) : Kin K H (.bl b) .bool
  | str (x : Str) : Kin K H (.str x) .str
  | non : Kin K H .non .none
  | ref {a : Addr} {k : Kn} (h : TyX K H (.ref a) (.type k.nm)) (n : k = .list ∨ k = .tup ∨ k = .dict) : Kin K H (.ref a) k
section
variable {K : PySem.W.Frag} {H H0 : Hp} {M : List Addr} {L : Led} {x : V} {k : Kn} {Q : VK} {a : Addr}
theorem Kin.ty (h : Kin K H x k) : TyX K H x (.type k.nm) := by
  cases h with
  | int i => exact .base (.int i)
  | bl b => exact .base (.bl b)
  | str x => exact .base (.str x)
  | non => exact .base .non
  | ref h n => exact h
theorem Kin.lst {xs : List V} (h : H a = some (.lst xs)) : Kin K H (.ref a) .list := .ref (.base (.lst h)) (.inl rfl)
theorem Kin.tup {xs : List V} (h : H a = some (.tup xs)) : Kin K H (.ref a) .tup := .ref (.base (.tup h)) (.inr (.inl rfl))
theorem Kin.dK {kvs : List (Key × V)} (h : H a = some (.dK kvs)) : Kin K H (.ref a) .dict := .ref (.base (.dK h)) (.inr (.inr rfl))
theorem kit_int (k : Kn) : kitB k.nm "int" = some (k == .int || k == .bool) := by cases k <;> decide +kernel
theorem kit_bool (k : Kn) : kitB k.nm "bool" = some (k == .bool) := by cases k <;> decide +kernel
theorem kit_list (k : Kn) : kitB k.nm "list" = some (k == .list) := by cases k <;> decide +kernel
theorem kit_tuple (k : Kn) : kitB k.nm "tuple" = some (k == .tup) := by cases k <;> decide +kernel
theorem kit_str (k : Kn) : kitB k.nm "str" = some (k == .str) := by cases k <;> decide +kernel
theorem rd_isi {T : String} {b : Bool} (h : Kin K H x k) (e : kitB k.nm T = some b) (q : Q (.bl b) H) : rIsi K [x, .ty T] H Q := ⟨x, .ty T, .type k.nm, .type T, b, rfl, .ty T, h.ty, kit_ty e, q⟩
end
/-- a def with keyword-only defaults, as it is called by its name -/
structure CalK (K : PySem.W.Frag) (mg : Str → Option Value) (x : Str) (st : Stmt) (f : Addr) (fd : FuncData) : Prop where
  F : Fun K x x st f fd
  m : mg x = some (.ref f)
/-- whether a thing is a whole number from l to m -/
def isWh (x : V) (l m : Int) : Bool := match x with
  | .int t => decide (l ≤ t) && decide (t ≤ m)
  | _ => false
theorem isWh_int (t l m : Int) : isWh (.int t) l m = (decide (l ≤ t) && decide (t ≤ m)) := rfl

/-! ### more readings -/
section
variable {X : Cx}
/-- a module's constant -/
theorem pe_gl {x : Str} {v : V} {pos : Pos} (hg : Gl X x) (h : ∃ u, X.mg x = some u ∧ RelV v u) (hd : (x == ("__debug__" : Str)) = false := by decide) : PE X (.Name x pos) (tC v) := by
  obtain ⟨u, h1, h2⟩ := h
  exact pe_glob hg h1 h2 hd
end
/-- the keys of written pairs -/
def toK : List (V × V) → List (Key × V)
  | [] => []
  | (.int i, v) :: r => (.inl i, v) :: toK r
  | (.str x, v) :: r => (.inr x, v) :: toK r
  | _ :: r => toK r
def dspEnd (Q : VK) (p : Addr) (ps : List (V × V)) (H : Hp) : Prop := H p = some (.dK []) ∧ ∃ kvs : List (Key × V), ps = kvs.map (fun kv => (kV kv.1, kv.2)) ∧ kvs.length ≤ 15 ∧ Q (.ref p) (upd H p (.dK (mergeK [] kvs)))
def forW (J : It) (g : TG) (tb : TS) (D : Ends) (σ : L2.St) (H : Hp) : Prop := ∃ W : Nat → Nat → L2.St → Hp → Prop, (∃ m, W 0 m σ H) ∧ ∀ i m σ H, W i m σ H →
  (J.stop i H ∧ D.nx σ H) ∨ (J.go i H ∧ ∃ N : L2.St → Hp → Prop, (∀ σ' H', N σ' H' → ∃ m', m' < m ∧ W (i + 1) m' σ' H') ∧ ∀ x H', J.yld i H x H' → g x σ H' fun σ2 H2 => tb { D with nx := N, ct := N, bk := D.nx } σ2 H2)
def wl (W : Nat → L2.St → Hp → Prop) (m : Nat) (tw : TS) (nx : L2.St → Hp → Prop) (rt : VK) (σ : L2.St) (H : Hp) : Prop := ∃ N : L2.St → Hp → Prop, (∀ σ' H', N σ' H' → ∃ m', m' < m ∧ W m' σ' H') ∧ tw ⟨N, rt, nx, N⟩ σ H
def rng1 (R : It → Hp → Prop) (vs : List V) (H : Hp) : Prop := ∃ j : Int, vs = [.int j] ∧ -(2 ^ 62) ≤ j ∧ j < 2 ^ 62 ∧ R (Itr 0 j.toNat) H
def rng2 (R : It → Hp → Prop) (vs : List V) (H : Hp) : Prop := ∃ i j : Int, vs = [.int i, .int j] ∧ (-(2 ^ 62) ≤ i ∧ i < 2 ^ 62 ∧ -(2 ^ 62) ≤ j ∧ j < 2 ^ 62) ∧ R (Itr i (j - i).toNat) H
def lstI (K : PySem.W.Frag) (R : It → Hp → Prop) (x : V) (H : Hp) : Prop := ∃ a, x = .ref a ∧ (∃ xs, SqL K H a xs) ∧ R (Itl K a) H
def tupI (K : PySem.W.Frag) (R : It → Hp → Prop) (x : V) (H : Hp) : Prop := ∃ a, x = .ref a ∧ (∃ xs, SqT K H a xs) ∧ R (Itt K a) H
section
variable {σ : L2.St} {H H0 : Hp} {M : List Addr} {L L' : Led} {Q : VK} {v x y : V} {nx : L2.St → Hp → Prop} {rt : VK} {bk ct : L2.St → Hp → Prop} {t u : TS} {te ta tb tc : TE} {g : TG} {tt tu : TT} {tw : TS} {wi : TI}
theorem rd_disp {trs : List (TE × TE)} (S : Hs H0 M H L) (h : ∀ p H', H0 p = none → Hs H0 M H' ((p, .dK []) :: L) → tPairs trs σ H' fun ps H2 => dspEnd Q p ps H2) : tDisp trs σ H Q :=
  fun p hp => h p _ (S.new hp (.dK [])).1 (S.new hp (.dK [])).2
theorem rd_dspEnd {p : Addr} {ps : List (V × V)} {kvs : List (Key × V)} (S : Hs H0 M H L) (c : Chg p (.dK []) (.dK kvs) L L') (hm : H0 p = none ∨ p ∈ M) (e : ps = (toK ps).map fun kv => (kV kv.1, kv.2)) (hl : (toK ps).length ≤ 15)
    (ek : mergeK [] (toK ps) = kvs) (h : ∀ H', Hs H0 M H' L' → Q (.ref p) H') : dspEnd Q p ps H := by
  subst ek
  exact ⟨S.is _ c.mem, toK ps, e, hl, h _ (S.put c hm)⟩
theorem rd_prs {r : List (TE × TE)} {R : List (V × V) → Hp → Prop} (h : ta σ H fun k H1 => tb σ H1 fun v H2 => tPairs r σ H2 fun ps H3 => R ((k, v) :: ps) H3) : tPairs ((ta, tb) :: r) σ H R := h
theorem rd_prs0 {R : List (V × V) → Hp → Prop} (h : R [] H) : tPairs [] σ H R := h
theorem rd_for (h : wi σ H fun J H1 => forW J g tw ⟨nx, rt, bk, ct⟩ σ H1) : tFor wi g tw ⟨nx, rt, bk, ct⟩ σ H := h
theorem rd_rng1 {ta : TA} {R : It → Hp → Prop} (h : ta σ H fun vs H1 => rng1 R vs H1) : iRng1 ta σ H R := h
theorem rd_rng2 {ta : TA} {R : It → Hp → Prop} (h : ta σ H fun vs H1 => rng2 R vs H1) : iRng2 ta σ H R := h
theorem rd_rng1v {R : It → Hp → Prop} {j : Int} (h1 : -(2 ^ 62) ≤ j) (h2 : j < 2 ^ 62) (h : R (Itr 0 j.toNat) H) : rng1 R [.int j] H := ⟨j, rfl, h1, h2, h⟩
theorem rd_rng2v {R : It → Hp → Prop} {i j : Int} (h1 : -(2 ^ 62) ≤ i) (h2 : i < 2 ^ 62) (h3 : -(2 ^ 62) ≤ j) (h4 : j < 2 ^ 62) (h : R (Itr i (j - i).toNat) H) : rng2 R [.int i, .int j] H := ⟨i, j, rfl, ⟨h1, h2, h3, h4⟩, h⟩
theorem rd_iList {K : PySem.W.Frag} {R : It → Hp → Prop} (h : te σ H fun x H1 => lstI K R x H1) : iList K te σ H R := h
theorem rd_iTup {K : PySem.W.Frag} {R : It → Hp → Prop} (h : te σ H fun x H1 => tupI K R x H1) : iTup K te σ H R := h
theorem rd_lstI {K : PySem.W.Frag} {R : It → Hp → Prop} {a : Addr} {xs : List V} (S : Hs H0 M H L) (m : (a, HO.lst xs) ∈ L) (h : R (Itl K a) H) : lstI K R (.ref a) H := ⟨a, rfl, ⟨xs, S.lst m⟩, h⟩
theorem rd_tupI {K : PySem.W.Frag} {R : It → Hp → Prop} {a : Addr} {xs : List V} (S : Hs H0 M H L) (m : (a, HO.tup xs) ∈ L) (h : R (Itt K a) H) : tupI K R (.ref a) H := ⟨a, rfl, ⟨xs, S.tup m⟩, h⟩
/-- over lo, lo + 1, .. -/
theorem fw_range {lo : Int} {n : Nat} (Pv : Nat → L2.St → Hp → Prop) (h0 : Pv 0 σ H) (hs : ∀ i σ H, i < n → Pv i σ H → g (.int (lo + i)) σ H fun σ2 H2 => tw ⟨Pv (i + 1), rt, nx, Pv (i + 1)⟩ σ2 H2) (hd : ∀ σ H, Pv n σ H → nx σ H) :
    forW (Itr lo n) g tw ⟨nx, rt, bk, ct⟩ σ H := for_range Pv h0 hs hd
/-- over a list that stays as it is -/
theorem fw_list {K : PySem.W.Frag} {a : Addr} {xs : List V} (Pv : Nat → L2.St → Hp → Prop) (h0 : Pv 0 σ H) (hl : ∀ i σ H, i ≤ xs.length → Pv i σ H → SqL K H a xs)
    (hs : ∀ i x σ H, xs[i]? = some x → Pv i σ H → g x σ H fun σ2 H2 => tw ⟨Pv (i + 1), rt, nx, Pv (i + 1)⟩ σ2 H2) (hd : ∀ σ H, Pv xs.length σ H → nx σ H) : forW (Itl K a) g tw ⟨nx, rt, bk, ct⟩ σ H := for_list Pv h0 hl hs hd
theorem fw_tup {K : PySem.W.Frag} {a : Addr} {xs : List V} (Pv : Nat → L2.St → Hp → Prop) (h0 : Pv 0 σ H) (hl : ∀ i σ H, i ≤ xs.length → Pv i σ H → SqT K H a xs)
    (hs : ∀ i x σ H, xs[i]? = some x → Pv i σ H → g x σ H fun σ2 H2 => tw ⟨Pv (i + 1), rt, nx, Pv (i + 1)⟩ σ2 H2) (hd : ∀ σ H, Pv xs.length σ H → nx σ H) : forW (Itt K a) g tw ⟨nx, rt, bk, ct⟩ σ H := for_tup Pv h0 hl hs hd
/-- while: W a word with a number that falls -/
theorem rd_while (W : Nat → L2.St → Hp → Prop) (m0 : Nat) (h0 : W m0 σ H) (hs : ∀ m σ H, W m σ H → tt σ H fun b H1 => if b = true then wl W m tw nx rt σ H1 else nx σ H1) : tWhile tt tw ⟨nx, rt, bk, ct⟩ σ H := ⟨W, ⟨m0, h0⟩, hs⟩
theorem rd_wl {W : Nat → L2.St → Hp → Prop} {m : Nat} (h : tw ⟨fun σ' H' => ∃ m', m' < m ∧ W m' σ' H', rt, nx, fun σ' H' => ∃ m', m' < m ∧ W m' σ' H'⟩ σ H) : wl W m tw nx rt σ H := ⟨_, fun _ _ h => h, h⟩
end
end Rs

namespace Rs
open PySem PySem.Spec PyProof.Rows L2

/-! ### plain data: how far it reaches -/
mutual
/-- whole numbers below 10 ^ 12, short texts of small signs, no dicts -/
def tame : PyData → Bool
  | .none | .bool _ => true
  | .int i => decide (i.natAbs < 10 ^ 12)
  | .str x => PyData.strOk x && decide (x.cps.size ≤ 40) && x.cps.toList.all fun c => decide (c < 16 ^ 8)
  | .list xs | .tuple xs => tames xs
  | .dict _ => false
def tames : List PyData → Bool
  | [] => true
  | x :: xs => tame x && tames xs
end
mutual
/-- how many there are in all -/
def cnt : PyData → Nat
  | .list xs | .tuple xs => 1 + cnts xs
  | _ => 1
def cnts : List PyData → Nat
  | [] => 0
  | x :: xs => cnt x + cnts xs
end
mutual
theorem tame_show : ∀ d : PyData, tame d = true → d.showable = true ∧ d.canLay0 = true ∧ d.intsShort 13 = true ∧ d.weight + 1 ≤ 46 * cnt d
  | .none, _ => by simp [PyData.showable, PyData.canLay0, PyData.intsShort, PyData.weight, cnt]
  | .bool _, _ => by simp [PyData.showable, PyData.canLay0, PyData.intsShort, PyData.weight, cnt]
  | .int i, h => by
    have h1 : i.natAbs < 10 ^ 12 := by simpa [tame] using h
    have h2 : i.natAbs.log2 < 40 := by
      by_cases z : i.natAbs = 0
      · rw [z]; decide
      · exact (Nat.log2_lt z).mpr (by omega)
    have h3 := PyData.shown_int_le h1
    refine ⟨by simp [PyData.showable]; omega, by simp [PyData.canLay0], by simp [PyData.intsShort]; omega, ?_⟩
    simp only [PyData.weight, cnt]
    split <;> omega
  | .str x, h => by
    simp only [tame, Bool.and_eq_true, decide_eq_true_eq] at h
    refine ⟨by simp [PyData.showable], by simpa [PyData.canLay0] using h.1.1, by simp [PyData.intsShort], ?_⟩
    simp only [PyData.weight, cnt]
    omega
  | .list xs, h => by
    obtain ⟨h1, h2, h3, h4⟩ := tames_show xs (by simpa [tame] using h)
    refine ⟨by simpa [PyData.showable] using h1, by simpa [PyData.canLay0] using h2, by simpa [PyData.intsShort] using h3, ?_⟩
    simp only [PyData.weight, cnt]
    omega
  | .tuple xs, h => by
    obtain ⟨h1, h2, h3, h4⟩ := tames_show xs (by simpa [tame] using h)
    refine ⟨by simpa [PyData.showable] using h1, by simpa [PyData.canLay0] using h2, by simpa [PyData.intsShort] using h3, ?_⟩
    simp only [PyData.weight, cnt]
    omega
  | .dict _, h => by simp [tame] at h
theorem tames_show : ∀ xs : List PyData, tames xs = true → PyData.showableAll xs = true ∧ PyData.canLayAll0 xs = true ∧ PyData.intsShortAll 13 xs = true ∧ PyData.weightAll xs ≤ 46 * cnts xs
  | [], _ => by simp [PyData.showableAll, PyData.canLayAll0, PyData.intsShortAll, PyData.weightAll, cnts]
  | x :: xs, h => by
    have h' : tame x = true ∧ tames xs = true := by simpa [tames] using h
    obtain ⟨a1, a2, a3, a4⟩ := tame_show x h'.1
    obtain ⟨b1, b2, b3, b4⟩ := tames_show xs h'.2
    simp only [PyData.showableAll, PyData.canLayAll0, PyData.intsShortAll, PyData.weightAll, cnts, a1, a2, a3, b1, b2, b3, Bool.and_self, true_and]
    omega
end
theorem shw_of {d : PyData} (h : tame d = true) (hc : cnt d ≤ 20000) : Shw d := by
  obtain ⟨h1, h2, h3, h4⟩ := tame_show d h
  exact ⟨h1, PyData.shown_fits (B := 13) (by decide) (by decide) (PyData.leavesShort_of_canLay0 13 d h2 h3) (by omega)⟩
theorem shaped_of {d : PyData} (h : tame d = true) (hd : d.depth ≤ 64) : SeqAt.shaped d = true := by
  obtain ⟨_, h2, _, _⟩ := tame_show d h
  unfold SeqAt.shaped
  rw [h2, Bool.true_and]
  exact decide_eq_true hd
/-! ### lists of whole numbers -/
def dI (ns : List Int) : PyData := .list (ns.map .int)
section
variable {K : PySem.W.Frag} {H H0 : Hp} {M : List Addr} {L L' : Led} {Q : VK} {a b : Addr}
theorem dps_ints : ∀ ns : List Int, DpAll K H (ns.map V.int) (ns.map .int)
  | [] => .nil
  | n :: ns => .cons (.int n) (dps_ints ns)
theorem dp_ints {ns : List Int} (h : SqL K H a (ns.map V.int)) : Dp K H (.ref a) (dI ns) := .lst h (dps_ints ns)
theorem depth_ints : ∀ ns : List Int, PyData.depthAll (ns.map .int) = 0
  | [] => by simp [PyData.depthAll]
  | n :: ns => by simp [PyData.depthAll, PyData.depth, depth_ints ns]
theorem depth_dI (ns : List Int) : (dI ns).depth = 1 := by simp [dI, PyData.depth, depth_ints]
theorem canLay_ints : ∀ ns : List Int, PyData.canLayAll0 (ns.map .int) = true
  | [] => by simp [PyData.canLayAll0]
  | n :: ns => by simp [PyData.canLayAll0, PyData.canLay0, canLay_ints ns]
theorem shaped_dI (ns : List Int) : SeqAt.shaped (dI ns) = true := by
  unfold SeqAt.shaped
  rw [depth_dI]
  simp [dI, PyData.canLay0, canLay_ints]
theorem eqv_ints : ∀ ns ms : List Int, PyData.eqvAll (ns.map .int) (ms.map .int) = decide (ns = ms)
  | [], [] => by simp [PyData.eqvAll]
  | [], m :: ms => by simp [PyData.eqvAll]
  | n :: ns, [] => by simp [PyData.eqvAll]
  | n :: ns, m :: ms => by
    simp only [List.map_cons, PyData.eqvAll, PyData.eqv, eqv_ints ns ms, List.cons.injEq, Bool.decide_and]
    rfl
theorem eqv_dI (ns ms : List Int) : PyData.eqv (dI ns) (dI ms) = decide (ns = ms) := by
  simp only [dI, PyData.eqv, eqv_ints]
theorem tames_ints : ∀ ns : List Int, (∀ n ∈ ns, n.natAbs < 10 ^ 12) → tames (ns.map .int) = true
  | [], _ => by simp [tames]
  | n :: ns, h => by
    simp only [List.map_cons, tames, tame, Bool.and_eq_true, decide_eq_true_eq]
    exact ⟨h n List.mem_cons_self, tames_ints ns fun m hm => h m (List.mem_cons_of_mem _ hm)⟩
theorem cnts_ints : ∀ ns : List Int, cnts (ns.map .int) = ns.length
  | [] => by simp [cnts]
  | n :: ns => by simp only [List.map_cons, cnts, cnt, cnts_ints ns, List.length_cons]; omega
theorem shw_dI {ns : List Int} (h : ∀ n ∈ ns, n.natAbs < 10 ^ 12) (hl : ns.length ≤ 10000) : Shw (dI ns) :=
  shw_of (by simp [dI, tame, tames_ints ns h]) (by simp only [dI, cnt, cnts_ints]; omega)
/-- == and != of two lists of whole numbers -/
theorem rd_eqIs {xs ys : List V} {ns ms : List Int} (S : Hs H0 M H L) (m1 : (a, HO.lst xs) ∈ L) (m2 : (b, HO.lst ys) ∈ L) (e1 : xs = ns.map V.int) (e2 : ys = ms.map V.int) (h : Q (.bl (decide (ns = ms))) H) : rEqD K (.ref a) (.ref b) H Q := by
  subst e1 e2
  exact ⟨_, _, dp_ints (S.lst m1), dp_ints (S.lst m2), shaped_dI ns, shaped_dI ms, by rw [eqv_dI]; exact h⟩
theorem rd_neIs {xs ys : List V} {ns ms : List Int} (S : Hs H0 M H L) (m1 : (a, HO.lst xs) ∈ L) (m2 : (b, HO.lst ys) ∈ L) (e1 : xs = ns.map V.int) (e2 : ys = ms.map V.int) (h : Q (.bl (decide (¬ ns = ms))) H) : rNeD K (.ref a) (.ref b) H Q := by
  subst e1 e2
  refine ⟨_, _, dp_ints (S.lst m1), dp_ints (S.lst m2), shaped_dI ns, shaped_dI ms, ?_⟩
  rw [eqv_dI]
  have e : (!decide (ns = ms)) = decide (¬ ns = ms) := by simp
  rw [e]; exact h
theorem rd_reprI {xs : List V} {ns : List Int} (S : Hs H0 M H L) (m : (a, HO.lst xs) ∈ L) (e : xs = ns.map V.int) (hb : ∀ n ∈ ns, n.natAbs < 10 ^ 12) (hl : ns.length ≤ 10000) (h : Q (.str (dI ns).shown) H) : rRepr K [.ref a] H Q := by
  subst e
  exact ⟨.ref a, dI ns, rfl, dp_ints (S.lst m), shw_dI hb hl, by rw [depth_dI]; decide, h⟩
theorem pick_ints (ns : List Int) (lo hi st : Option Int) : ∃ ks : List Int, pickV (ns.map V.int) lo hi st = ks.map V.int ∧ (∀ k ∈ ks, k ∈ ns) := by
  have e : ∀ ix : List Nat, ix.filterMap ((ns.map V.int)[·]?) = (ix.filterMap (ns[·]?)).map V.int := fun ix => by
    induction ix with
    | nil => rfl
    | cons i ix ih =>
      cases h : ns[i]? with
      | none => rw [List.filterMap_cons_none (by rw [List.getElem?_map, h]; rfl), List.filterMap_cons_none h, ih]
      | some z => rw [List.filterMap_cons_some (by rw [List.getElem?_map, h]; rfl), List.filterMap_cons_some h, ih]; rfl
  refine ⟨(slIx (ns.map V.int).length lo hi st).filterMap (ns[·]?), e _, fun k hk => ?_⟩
  obtain ⟨i, _, hi⟩ := List.mem_filterMap.mp hk
  exact List.mem_of_getElem? hi
end
/-- how keywords are put in the parameters' order -/
theorem kb_of {K : PySem.W.Frag} {x qual : Str} {st : Stmt} {f : Addr} {fd : FuncData} {ps ks : List Str} {n : Nat} (F : Fun K x qual st f fd) (ix : List Nat)
    (h : ∀ (kV doc pm : Value) (an : Option Addr) (cdv ct : Value) (us ws : List Value), us.length = n → ws.length = ks.length →
      bindArgs (PySem.W.fnOf x qual (defArgs st) (defBody st) (defScope st) .none kV doc pm an cdv ct) ⟨us, ks.zip ws⟩ = pure (ps.zip (us ++ ix.filterMap (ws[·]?)))) :
    KBn K fd ps n ks (fun us ws => us ++ ix.filterMap (ws[·]?)) (fun us ws => us ++ ix.filterMap (ws[·]?)) := by
  obtain ⟨oc, od, kV, doc, pm, an, cdv, ct, osl, rfl, lk, hcd⟩ := F.ex
  exact ⟨fun s us ws _ h1 h2 => .of_eq (h kV doc pm an cdv ct us ws h1 h2), fun r1 r2 => r1.append (vals_pick r2 ix)⟩
end Rs

namespace Rs
open PySem PySem.Spec PyProof.Rows L2
section
variable {K : PySem.W.Frag} {mg : Str → Option Value} {h : Heap}
theorem ex_calK {x : Str} {st : Stmt} {f : Addr} {oc : Value} {od an : Option Addr} {osl : Array (Option Value)} {kV doc pm cdv ct : Value} (X : K.In h) (G : h.Ns mainGlobals mg) (a : PySem.W.nsIn K mainGlobals x = some (some (.ref f)))
    (l : K.lookup f = some ⟨oc, od, .func (PySem.W.fnOf x x (defArgs st) (defBody st) (defScope st) .none kV doc pm an cdv ct), osl⟩) (c : PySem.W.codeIn K cdv x = true) (k : PySem.W.keepIn K (.ref f) = true) : ∃ f fd, CalK K mg x st f fd :=
  ⟨_, _, fun_mk l c k, PySem.W.mg_of X G a⟩
theorem ex_cal {x : Str} {st : Stmt} {ps : List Str} {f : Addr} {oc : Value} {od an : Option Addr} {osl : Array (Option Value)} {kV doc pm cdv ct : Value} (X : K.In h) (G : h.Ns mainGlobals mg) (a : PySem.W.nsIn K mainGlobals x = some (some (.ref f)))
    (l : K.lookup f = some ⟨oc, od, .func (PySem.W.fnOf x x (defArgs st) (defBody st) (defScope st) .none kV doc pm an cdv ct), osl⟩) (c : PySem.W.codeIn K cdv x = true) (k : PySem.W.keepIn K (.ref f) = true)
    (b : ∀ (kV doc pm : Value) (an : Option Addr) (cdv ct : Value) (us : List Value), us.length = ps.length → bindArgs (PySem.W.fnOf x x (defArgs st) (defBody st) (defScope st) .none kV doc pm an cdv ct) ⟨us, []⟩ = pure (ps.zip us)) : ∃ f fd, Cal K mg x st ps f fd :=
  ⟨_, _, fun_mk l c k, (fun_mk l c k).binds b, PySem.W.mg_of X G a⟩
theorem ex_gl {x : Str} {v : V} {u : Value} (X : K.In h) (G : h.Ns mainGlobals mg) (a : PySem.W.nsIn K mainGlobals x = some (some u)) (r : RelV v u) : ∃ u, mg x = some u ∧ RelV v u := ⟨u, PySem.W.mg_of X G a, r⟩
end
/-- the end, the law's def by its facts -/
theorem walkE {l : PySem.W.OpenLaw} {n k : Nat} {q : Program} {loose : List Str} {XP : (Str → Option Value) → Heap → Prop} {YP : World → Heap → Prop} {d : DefRec} {K : Params → PySem.W.Frag} {sp : PySem.W.Frag → Sp} {st : Stmt} {x : Str}
    (hn : l.most = some n) (hn2 : n ≤ sizeLine) (hdf : d.params.defaults = []) (hr : Room k callerA) (hY : ∀ (w : World) (h : Heap), YP w h → (K w.params).In h) (hx : d.name = "law")
    (hb : ∀ (kV doc pm : Value) (an : Option Addr) (cdv ct u : Value), bindArgs (PySem.W.fnOf "law" "law" (defArgs st) (defBody st) (defScope st) .none kV doc pm an cdv ct) ⟨[u], []⟩ = pure [(x, u)])
    (F : ∀ (w : World) (mg : Str → Option Value) (h : Heap), (K w.params).In h → h.Ns mainGlobals mg →
      ∃ (fa : Addr) (fd : FuncData), Cal (K w.params) mg "law" st [x] fa fd ∧ ∀ base : Heap, FnG l.prog w (K w.params) mg base k fa fd [x] (sp (K w.params)))
    (hsp : ∀ (K : PySem.W.Frag) (H : Hp) (a : Addr) (ns : List Int), ns.length ≤ n → (∀ z ∈ ns, Builtin.Int.intBits z ≤ 1048576) → SqL K H a (ns.map V.int) → sp K [.ref a] H (fun v _ => v = .bl true) E0) :
    PySem.W.WalkO q loose XP YP l.row.toRowW d [] (fun f vs => PySem.call f vs) := by
  refine walkG (x := x) hn hn2 hdf hr hY (fun w mg fa h KX G hmg => ?_) hsp
  obtain ⟨f, fd, C, ok⟩ := F w mg h KX G
  rw [hx] at hmg
  have e := C.m.symm.trans hmg
  cases e
  obtain ⟨oc, od, kV, doc, pm, an, cdv, ct, osl, rfl, lk, hcd⟩ := C.F.ex
  exact ⟨_, fun s u => .of_eq (hb kV doc pm an cdv ct u), fun base _ _ => ok base⟩
end Rs

namespace Rs
open PySem PySem.Spec PyProof.Rows L2

/-- xs[i:j] = another list -/
def gSlc (to : TE) (tl th : L2.St → Hp → (Option Int → Hp → Prop) → Prop) : TG := fun v σ H Q => to σ H fun o H1 => tl σ H1 fun l H2 => th σ H2 fun u H3 => ∃ (a b : Addr) (xs ys : List V) (i j : Int), o = .ref a ∧ v = .ref b ∧ l = some i ∧ u = some j ∧
  H3 a = some (.lst xs) ∧ H3 b = some (.lst ys) ∧ a ≠ b ∧ 0 ≤ i ∧ i ≤ j ∧ j ≤ xs.length ∧ xs.length + ys.length ≤ sizeLine ∧ Q σ (upd H3 a (.lst (xs.take i.toNat ++ ys ++ xs.drop j.toNat)))
theorem pg_slc {X : Cx} {o : Expr} {lo hi : Option Expr} {p2 pos : Pos} {to : TE} {tl th : L2.St → Hp → (Option Int → Hp → Prop) → Prop} (ho : PE X o to) (hl : PO X lo tl) (hh : PO X hi th)
    (ha : ∀ v, assign (.Subscript o (.Slice lo hi none p2) pos) X.env v = (do
      let ov ← holding [v] (eval o X.env)
      let iv ← holding [v, ov] (eval (.Slice lo hi none p2) X.env)
      standAt pos
      holding [v, ov, iv] (setItem ov iv v)
      release [iv, v, ov] []) := by intro _; rfl) : PG X (.Subscript o (.Slice lo hi none p2) pos) (gSlc to tl th) := by
  refine ⟨fun pins s σ H v u Q I r h => ?_⟩
  rw [ha]
  refine wpAny_bind (wpAny_holding (thn (ho.run pins s σ H _ I h) fun ov s1 ⟨x, H1, I1, r1, q1⟩ => ?_))
  refine wpAny_bind (wpAny_holding ?_)
  refine wpAny_Slice (thn (hl.run pins s1 σ H1 _ I1 q1) fun vl s2 ⟨l, H2, I2, pl, q2⟩ => thn (hh.run pins s2 σ H2 _ I2 q2) fun vu s3 ⟨w, H3, I3, pu, q3⟩ => ?_)
  rw [evalPart_none]
  refine wpAny_pure ?_
  have I4 : Inv X pins σ H3 { s3 with heap := s3.heap.push { cls := .type "slice", data := .fields #[vl, vu, .none] } } := I3.kept (t' := s3.toks) fun b ob q => Heap.get?_push_of_some _ q
  obtain ⟨a, b, xs, ys, i, j, rfl, rfl, rfl, rfl, hA, hB, hne, h0, h1, h2, h3, q⟩ := q3
  cases r1
  cases r
  cases pl
  cases pu
  refine wpAny_bind (wpAny_standAt (wpAny_bind (wpAny_holding ?_)))
  refine set_slice I4 hA hB hne (Heap.IsSliceOf.new ..) ⟨_, rfl⟩ ⟨_, rfl⟩ h0 h1 h2 h3 fun s5 I5 => ?_
  exact wpAny_release ⟨σ, _, I5, q⟩

/-! ### classes -/
/-- a method as it stands behind the top -/
structure CalM (K : PySem.W.Frag) (x qual : Str) (st : Stmt) (ps : List Str) (f : Addr) (fd : FuncData) : Prop where
  F : Fun K x qual st f fd
  b : Binds K fd ps []
section
variable {K : PySem.W.Frag} {mg : Str → Option Value} {h : Heap}
theorem ex_calM {C : Addr} {x qual : Str} {st : Stmt} {ps : List Str} {f : Addr} {oc : Value} {od an : Option Addr} {osl : Array (Option Value)} {kV doc pm cdv ct : Value} (a : PySem.W.findIn K (.ref C) x = some (some (.ref f))) (i : PySem.W.isFn K (.ref f) = true)
    (l : K.lookup f = some ⟨oc, od, .func (PySem.W.fnOf x qual (defArgs st) (defBody st) (defScope st) .none kV doc pm an cdv ct), osl⟩) (c : PySem.W.codeIn K cdv qual = true) (k : PySem.W.keepIn K (.ref f) = true)
    (b : ∀ (kV doc pm : Value) (an : Option Addr) (cdv ct : Value) (us : List Value), us.length = ps.length → bindArgs (PySem.W.fnOf x qual (defArgs st) (defBody st) (defScope st) .none kV doc pm an cdv ct) ⟨us, []⟩ = pure (ps.zip us)) :
    ∃ f fd, Meth K C x f ∧ CalM K x qual st ps f fd := ⟨_, _, ⟨a, i, k⟩, fun_mk l c k, (fun_mk l c k).binds b⟩
/-- an __init__ with keyword-only defaults -/
structure CalI (K : PySem.W.Frag) (C : Addr) (qual : Str) (st : Stmt) (kws : List (Str × V)) (f : Addr) (fd : FuncData) : Prop where
  M : Mk K C f
  F : FunD K "__init__" qual (defArgs st) (defBody st) (defScope st) [] kws f fd
theorem ex_calI {C D : Addr} {qual : Str} {st : Stmt} {kws : List (Str × V)} {f : Addr} {oc : Value} {od an : Option Addr} {osl : Array (Option Value)} {doc pm cdv ct : Value} (m : PySem.W.makesIn K C = true) (kc : PySem.W.keepIn K (.ref C) = true)
    (a : PySem.W.findIn K (.ref C) "__init__" = some (some (.ref f))) (i : PySem.W.isFn K (.ref f) = true)
    (l : K.lookup f = some ⟨oc, od, .func (PySem.W.fnOf "__init__" qual (defArgs st) (defBody st) (defScope st) .none (.ref D) doc pm an cdv ct), osl⟩) (c : PySem.W.codeIn K cdv qual = true) (k : PySem.W.keepIn K (.ref f) = true)
    (d : ∀ q ∈ kws, ∃ u, PySem.W.nsIn K D q.1 = some (some u) ∧ RelV q.2 u) : ∃ f fd, CalI K C qual st kws f fd :=
  ⟨_, _, ⟨m, a, i, kc⟩, ⟨⟨oc, od, .none, .ref D, doc, pm, an, cdv, ct, osl, rfl, l, c, Or.inl ⟨rfl, rfl⟩, Or.inr ⟨D, rfl, d⟩⟩, k⟩⟩
end
end Rs

namespace Rs
open PySem PySem.Spec PyProof.Rows L2

/-- the part of a list of whole numbers -/
def cutI (ns : List Int) (lo hi : Option Int) : List Int := (ns.drop (HT.sIx ns.length 0 lo)).take (HT.sIx ns.length ns.length hi - HT.sIx ns.length 0 lo)
theorem cutV_map (ns : List Int) (lo hi : Option Int) : cutV (ns.map V.int) lo hi = (cutI ns lo hi).map V.int := by
  unfold cutV cutI
  rw [List.map_take, List.map_drop, List.length_map]
theorem cutI_le (ns : List Int) (lo hi : Option Int) : (cutI ns lo hi).length ≤ ns.length := by
  unfold cutI
  rw [List.length_take, List.length_drop]
  omega
section
variable {σ : L2.St} {H H0 : Hp} {M : List Addr} {L L' : Led} {Q : VK} {v x y : V} {nx : L2.St → Hp → Prop} {rt : VK} {bk ct : L2.St → Hp → Prop} {t u : TS} {te ta tb tc : TE} {g : TG} {tt tu : TT} {tw : TS} {wi : TI} {K : PySem.W.Frag} {a p : Addr}
/-! attributes -/
theorem rd_fld {f : Str} (h : ta σ H fun x H1 => ∃ a C dx fs v, x = .ref a ∧ H1 a = some (.ins C dx fs) ∧ Cls K C ∧ NoAttr K C f ∧ fs.lookup f = some v ∧ Q v H1) : tFld K ta f σ H Q := h
theorem rd_fldV {f : Str} {C dx : Addr} {fs : List (Str × V)} {R : V → Prop} (S : Hs H0 M H L) (m : (a, HO.ins C dx fs) ∈ L) (c : Cls K C) (n : NoAttr K C f) (e : fs.lookup f = some v) (h : R v) :
    ∃ a' C dx fs v', V.ref a = .ref a' ∧ H a' = some (.ins C dx fs) ∧ Cls K C ∧ NoAttr K C f ∧ fs.lookup f = some v' ∧ R v' := ⟨a, C, dx, fs, v, rfl, S.is _ m, c, n, e, h⟩
theorem rd_sfld {f : Str} {tv : TE} (h : tv σ H fun y H1 => ta σ H1 fun x H2 => ∃ a C dx fs, x = .ref a ∧ H2 a = some (.ins C dx fs) ∧ Cls K C ∧ NoAttr K C f ∧ fs.length < 1000 ∧ nx σ (upd H2 a (.ins C dx (putF f y fs)))) : sFld K ta tv f ⟨nx, rt, bk, ct⟩ σ H := h
theorem rd_sfldV {f : Str} {C dx : Addr} {fs fs' : List (Str × V)} {R : Hp → Prop} (S : Hs H0 M H L) (ch : Chg a (.ins C dx fs) (.ins C dx fs') L L') (hm : H0 a = none ∨ a ∈ M) (c : Cls K C) (n : NoAttr K C f) (hl : fs.length < 1000) (e : putF f y fs = fs') (h : ∀ H', Hs H0 M H' L' → R H') :
    ∃ a' C dx fs, V.ref a = .ref a' ∧ H a' = some (.ins C dx fs) ∧ Cls K C ∧ NoAttr K C f ∧ fs.length < 1000 ∧ R (upd H a' (.ins C dx (putF f y fs))) := by
  subst e
  exact ⟨a, C, dx, fs, rfl, S.is _ ch.mem, c, n, hl, h _ (S.put ch hm)⟩
theorem rd_meth {C : Addr} {m : Str} {sp : Sp} {E : XK} {t : TA} (h : ta σ H fun x H1 => ∃ a dx fs, x = .ref a ∧ H1 a = some (.ins C dx fs) ∧ fs.lookup m = none ∧ t σ H1 fun vs H2 => sp (x :: vs) H2 Q E) : tMeth C m sp [] E ta t σ H Q := by
  have e : ∀ x, (fun (vs : List V) H2 => sp (x :: (vs ++ [])) H2 Q E) = fun vs H2 => sp (x :: vs) H2 Q E := fun x => by funext vs H2; rw [List.append_nil]
  show ta σ H fun x H1 => ∃ a dx fs, x = .ref a ∧ H1 a = some (.ins C dx fs) ∧ fs.lookup m = none ∧ t σ H1 fun vs H2 => sp (x :: (vs ++ [])) H2 Q E
  simp only [List.append_nil]
  exact h
theorem rd_methV {C dx : Addr} {m : Str} {fs : List (Str × V)} {R : Prop} (S : Hs H0 M H L) (hm : (a, HO.ins C dx fs) ∈ L) (e : fs.lookup m = none) (h : R) : ∃ a' dx fs, V.ref a = .ref a' ∧ H a' = some (.ins C dx fs) ∧ fs.lookup m = none ∧ R :=
  ⟨a, dx, fs, rfl, S.is _ hm, e, h⟩
theorem rd_mkK {C : Addr} {n m : Nat} {sp : Sp} {gV : List V → List V → List V} {E : XK} {t tk : TA} (h : t σ H fun vs H1 => tk σ H1 fun zs H2 => vs.length = n ∧ zs.length = m ∧ ∀ x dx, H2 x = none → H2 dx = none → dx ≠ x →
    sp (gV (.ref x :: vs) zs) (upd (upd H2 dx (.own x)) x (.ins C dx [])) (fun v H3 => v = .non ∧ Q (.ref x) H3) E) : tMakeK C n m sp gV E t tk σ H Q := h
theorem rd_mkV {C : Addr} {R : Addr → Hp → Prop} (S : Hs H0 M H L) (h : ∀ x dx H', H0 x = none → Hs H0 M H' ((x, .ins C dx []) :: L) → R x H') : ∀ x dx, H x = none → H dx = none → dx ≠ x → R x (upd (upd H dx (.own x)) x (.ins C dx [])) := by
  intro x dx hx hd ne
  obtain ⟨_, S1⟩ := S.new hd (.own x)
  have hx' : upd H dx (HO.own x) x = none := by rw [upd_ne (Ne.symm ne)]; exact hx
  obtain ⟨n0, S2⟩ := S1.new hx' (.ins C dx [])
  exact h x dx _ n0 (S2.sub (List.Sublist.cons_cons _ (List.Sublist.cons _ (List.Sublist.refl _))))
theorem rd_callL {i : Nat} {f : Addr} {sp : Sp} {E : XK} {t : TA} (e : σ[i]? = some (some (.ref f))) (h : t σ H fun vs H1 => sp vs H1 Q E) : tCallL i f sp [] E t σ H Q := by
  refine ⟨e, ?_⟩
  simp only [List.append_nil]
  exact h
/-! methods of lists -/
theorem rd_bm {T : String} {r : V → List V → Hp → VK → Prop} {t : TA} (h : ta σ H fun x H1 => tyV K T x H1 ∧ t σ H1 fun xs H2 => r x xs H2 Q) : tBM K T r ta t σ H Q := h
theorem rd_bm0 {T : String} {r : V → List V → Hp → VK → Prop} (h : ta σ H fun x H1 => tyV K T x H1 ∧ r x [] H1 Q) : tBM0 K T r ta σ H Q := h
theorem rd_tyL {xs : List V} {R : Prop} (S : Hs H0 M H L) (m : (a, HO.lst xs) ∈ L) (h : R) : tyV K "list" (.ref a) H ∧ R := ⟨Or.inl ⟨rfl, xs, S.lst m⟩, h⟩
theorem rd_app {xs : List V} (S : Hs H0 M H L) (c : Chg a (.lst xs) (.lst (xs ++ [y])) L L') (hm : H0 a = none ∨ a ∈ M) (hl : xs.length < sizeLine) (h : ∀ H', Hs H0 M H' L' → Q .non H') : rAppend (.ref a) [y] H Q :=
  ⟨a, xs, y, rfl, rfl, S.is _ c.mem, hl, h _ (S.put c hm)⟩
/-! calls over lists -/
theorem rd_sumI {xs : List V} {ns : List Int} (S : Hs H0 M H L) (m : (a, HO.lst xs) ∈ L) (e : xs = ns.map V.int) (h : Q (.int ns.sum) H) : rSum K [.ref a] H Q := ⟨a, ns, rfl, by subst e; exact S.lst m, h⟩
theorem rd_slL {xs : List V} {ns : List Int} {lo hi : Option Int} (S : Hs H0 M H L) (m : (a, HO.lst xs) ∈ L) (e : xs = ns.map V.int) (h : ∀ p H', H0 p = none → Hs H0 M H' ((p, .lst ((cutI ns lo hi).map V.int)) :: L) → Q (.ref p) H') : rSlL K (.ref a) lo hi H Q := by
  subst e
  refine ⟨a, _, rfl, S.lst m, ?_⟩
  rw [cutV_map]
  exact rd_newO S h
theorem rd_catL {xs ys : List V} {b : Addr} (S : Hs H0 M H L) (m : (a, HO.lst xs) ∈ L) (m2 : (b, HO.lst ys) ∈ L) (hz : xs.length + ys.length ≤ sizeLine) (h : ∀ p H', H0 p = none → Hs H0 M H' ((p, .lst (xs ++ ys)) :: L) → Q (.ref p) H') : rCat (.ref a) (.ref b) H Q :=
  ⟨a, b, xs, ys, rfl, rfl, S.is _ m, S.is _ m2, hz, rd_newO S h⟩
theorem rd_repL {xs : List V} {k : Int} (S : Hs H0 M H L) (m : (a, HO.lst xs) ∈ L) (h1 : 0 ≤ k) (h2 : k < 2 ^ 63) (hz : xs.length * k.toNat ≤ sizeLine) (h : ∀ p H', H0 p = none → Hs H0 M H' ((p, .lst (List.replicate k.toNat xs).flatten) :: L) → Q (.ref p) H') : rRep (.ref a) (.int k) H Q :=
  ⟨a, k, xs, rfl, rfl, S.is _ m, by omega, h2, hz, rd_newO S h⟩
def revR (K : PySem.W.Frag) (Q : VK) (x : V) (H1 : Hp) : Prop := ∃ a xs, x = .ref a ∧ SqL K H1 a xs ∧ ∀ p, H1 p = none → Q (.ref p) (upd H1 p (.lst xs.reverse))
theorem rd_revL (h : te σ H fun x H1 => revR K Q x H1) : tRevL K te σ H Q := h
theorem rd_revV {xs : List V} (S : Hs H0 M H L) (m : (a, HO.lst xs) ∈ L) (h : ∀ p H', H0 p = none → Hs H0 M H' ((p, .lst xs.reverse) :: L) → Q (.ref p) H') : revR K Q (.ref a) H := ⟨a, xs, rfl, S.lst m, rd_newO S h⟩
theorem rd_isN (h : Q (.bl (decide (x = .non))) H) : (fun x y H Q => y = V.non ∧ Q (.bl (decide (x = .non))) H : R2) x .non H Q := ⟨rfl, h⟩
theorem rd_notN (h : Q (.bl (!decide (x = .non))) H) : (fun x y H Q => y = V.non ∧ Q (.bl (!decide (x = .non))) H : R2) x .non H Q := ⟨rfl, h⟩
/-! targets -/
theorem gt_unl {xs : List V} {n : Nat} {ts : TGs} {N : L2.St → Hp → Prop} (S : Hs H0 M H L) (m : (a, HO.lst xs) ∈ L) (hn : xs.length = n) (h : ts xs σ H N) : gUnl K n ts (.ref a) σ H N := ⟨a, xs, rfl, S.lst m, hn, h⟩
theorem gt_sub {to ti : TE} {ts : TSet} {N : L2.St → Hp → Prop} (h : to σ H fun o H1 => ti σ H1 fun i H2 => ts o i v H2 fun H3 => N σ H3) : gSub to ti ts v σ H N := h
theorem gt_setL {xs : List V} {k : Int} {j : Nat} {N : Hp → Prop} (S : Hs H0 M H L) (c : Chg a (.lst xs) (.lst (xs.set j v)) L L') (hm : H0 a = none ∨ a ∈ M) (e : ixN xs.length k = some j) (h : ∀ H', Hs H0 M H' L' → N H') : rSetL (.ref a) (.int k) v H N :=
  ⟨a, xs, k, j, rfl, rfl, S.is _ c.mem, e, h _ (S.put c hm)⟩
theorem gt_slc {to : TE} {tl th : L2.St → Hp → (Option Int → Hp → Prop) → Prop} {N : L2.St → Hp → Prop} (h : to σ H fun o H1 => tl σ H1 fun l H2 => th σ H2 fun u H3 => ∃ (a b : Addr) (xs ys : List V) (i j : Int), o = .ref a ∧ v = .ref b ∧ l = some i ∧ u = some j ∧
    H3 a = some (.lst xs) ∧ H3 b = some (.lst ys) ∧ a ≠ b ∧ 0 ≤ i ∧ i ≤ j ∧ j ≤ xs.length ∧ xs.length + ys.length ≤ sizeLine ∧ N σ (upd H3 a (.lst (xs.take i.toNat ++ ys ++ xs.drop j.toNat)))) : gSlc to tl th v σ H N := h
theorem gt_slcV {b : Addr} {xs ys zs : List V} {i j : Int} {N : Hp → Prop} (S : Hs H0 M H L) (c : Chg a (.lst xs) (.lst zs) L L') (m : (b, HO.lst ys) ∈ L) (hne : a ≠ b) (hm : H0 a = none ∨ a ∈ M) (h0 : 0 ≤ i) (h1 : i ≤ j) (h2 : j ≤ xs.length) (hz : xs.length + ys.length ≤ sizeLine)
    (e : xs.take i.toNat ++ ys ++ xs.drop j.toNat = zs) (h : ∀ H', Hs H0 M H' L' → N H') : ∃ (a' b' : Addr) (xs ys : List V) (i' j' : Int), V.ref a = .ref a' ∧ V.ref b = .ref b' ∧ some i = some i' ∧ some j = some j' ∧
    H a' = some (.lst xs) ∧ H b' = some (.lst ys) ∧ a' ≠ b' ∧ 0 ≤ i' ∧ i' ≤ j' ∧ j' ≤ xs.length ∧ xs.length + ys.length ≤ sizeLine ∧ N (upd H a' (.lst (xs.take i'.toNat ++ ys ++ xs.drop j'.toNat))) := by
  subst e
  exact ⟨a, b, xs, ys, i, j, rfl, rfl, rfl, rfl, S.is _ c.mem, S.is _ m, hne, h0, h1, h2, hz, h _ (S.put c hm)⟩
/-! a comprehension over a range, all its steps without new objects left behind but the list itself -/
def lcW (J : It) (g : TG) (tt : TT) (te : TE) (vs : List Nat) (σ : L2.St) (H1 : Hp) (Q : VK) : Prop := ∀ D, H1 D = none → ∃ W : Nat → Nat → Hp → Prop, (∃ m, W 0 m (upd H1 D (.lst []))) ∧ ∀ i m H, W i m H →
  (J.stop i H ∧ Q (.ref D) H) ∨ (J.go i H ∧ ∃ Nx : Hp → Prop, (∀ H', Nx H' → ∃ m', m' < m ∧ W (i + 1) m' H') ∧ ∀ x H', J.yld i H x H' → g x (wipe σ vs) H' fun σ2 H2 => wipe σ2 vs = wipe σ vs ∧ tt σ2 H2 fun b H3 =>
    if b = true then te σ2 H3 fun y H4 => ∃ acc, H4 D = some (.lst acc) ∧ acc.length < sizeLine ∧ Nx (upd H4 D (.lst (acc ++ [y]))) else Nx H3)
theorem rd_lc {vs : List Nat} (h : wi σ H fun J H1 => lcW J g tt te vs σ H1 Q) : tLc wi g tt te vs σ H Q := h
def lcSkip (H0 : Hp) (M : List Addr) (L : Led) (R1 : List V → Prop) (D : Addr) (H : Hp) : Prop := H0 D = none ∧ ∃ acc, R1 acc ∧ Hs H0 M H ((D, .lst acc) :: L)
def lcPut (H0 : Hp) (M : List Addr) (L : Led) (R1 : List V → Prop) (D : Addr) (y : V) (H : Hp) : Prop := ∃ acc, H D = some (.lst acc) ∧ acc.length < sizeLine ∧ lcSkip H0 M L R1 D (upd H D (.lst (acc ++ [y])))
theorem rd_lcPut {D : Addr} {acc : List V} {L2 L3 : Led} {R1 : List V → Prop} (S : Hs H0 M H L2) (c : Chg D (.lst acc) (.lst (acc ++ [y])) L2 L3) (n : H0 D = none) (hl : acc.length < sizeLine) (sub : ((D, HO.lst (acc ++ [y])) :: L).Sublist L3) (r : R1 (acc ++ [y])) : lcPut H0 M L R1 D y H :=
  ⟨acc, S.is _ c.mem, hl, n, _, r, (S.put c (Or.inl n)).sub sub⟩
theorem rd_lcSkip {D : Addr} {acc : List V} {L2 : Led} {R1 : List V → Prop} (S : Hs H0 M H L2) (n : H0 D = none) (sub : ((D, HO.lst acc) :: L).Sublist L2) (r : R1 acc) : lcSkip H0 M L R1 D H := ⟨n, _, r, S.sub sub⟩
theorem lcw_range {lo : Int} {n : Nat} {vs : List Nat} (S : Hs H0 M H L) (R : Nat → List V → Prop) (r0 : R 0 [])
    (hs : ∀ D i acc H', i < n → R i acc → H0 D = none → Hs H0 M H' ((D, .lst acc) :: L) → g (.int (lo + i)) (wipe σ vs) H' fun σ2 H2 => wipe σ2 vs = wipe σ vs ∧ tt σ2 H2 fun b H3 => if b = true then te σ2 H3 fun y H4 => lcPut H0 M L (R (i + 1)) D y H4 else lcSkip H0 M L (R (i + 1)) D H3)
    (hd : ∀ D acc H', R n acc → H0 D = none → Hs H0 M H' ((D, .lst acc) :: L) → Q (.ref D) H') : lcW (Itr lo n) g tt te vs σ H Q := by
  intro D hD
  have S1 := S.new hD (.lst [])
  refine lc_range (fun i H' => lcSkip H0 M L (R i) D H') ⟨S1.1, [], r0, S1.2⟩ ?_ ?_
  · rintro i H' hi ⟨n0, acc, r, S'⟩
    exact hs D i acc H' hi r n0 S'
  · rintro H' ⟨n0, acc, r, S'⟩
    exact hd D acc H' r n0 S'
theorem lcw_list {a : Addr} {xs : List V} {vs : List Nat} (S : Hs H0 M H L) (R : Nat → List V → Prop) (r0 : R 0 []) (hl : ∀ H' acc D, Hs H0 M H' ((D, .lst acc) :: L) → SqL K H' a xs)
    (hs : ∀ D i x acc H', xs[i]? = some x → R i acc → H0 D = none → Hs H0 M H' ((D, .lst acc) :: L) → g x (wipe σ vs) H' fun σ2 H2 => wipe σ2 vs = wipe σ vs ∧ tt σ2 H2 fun b H3 => if b = true then te σ2 H3 fun y H4 => lcPut H0 M L (R (i + 1)) D y H4 else lcSkip H0 M L (R (i + 1)) D H3)
    (hd : ∀ D acc H', R xs.length acc → H0 D = none → Hs H0 M H' ((D, .lst acc) :: L) → Q (.ref D) H') : lcW (Itl K a) g tt te vs σ H Q := by
  intro D hD
  have S1 := S.new hD (.lst [])
  refine lc_list (xs := xs) (fun i H' => lcSkip H0 M L (R i) D H') ⟨S1.1, [], r0, S1.2⟩ (fun i H' _ ⟨_, acc, _, S'⟩ => hl H' acc D S') ?_ ?_
  · rintro i x H' hi ⟨n0, acc, r, S'⟩
    exact hs D i x acc H' hi r n0 S'
  · rintro H' ⟨n0, acc, r, S'⟩
    exact hd D acc H' r n0 S'
theorem lcw_tup {a : Addr} {xs : List V} {vs : List Nat} (S : Hs H0 M H L) (R : Nat → List V → Prop) (r0 : R 0 []) (hl : ∀ H' acc D, Hs H0 M H' ((D, .lst acc) :: L) → SqT K H' a xs)
    (hs : ∀ D i x acc H', xs[i]? = some x → R i acc → H0 D = none → Hs H0 M H' ((D, .lst acc) :: L) → g x (wipe σ vs) H' fun σ2 H2 => wipe σ2 vs = wipe σ vs ∧ tt σ2 H2 fun b H3 => if b = true then te σ2 H3 fun y H4 => lcPut H0 M L (R (i + 1)) D y H4 else lcSkip H0 M L (R (i + 1)) D H3)
    (hd : ∀ D acc H', R xs.length acc → H0 D = none → Hs H0 M H' ((D, .lst acc) :: L) → Q (.ref D) H') : lcW (Itt K a) g tt te vs σ H Q := by
  intro D hD
  have S1 := S.new hD (.lst [])
  refine lc_tup (xs := xs) (fun i H' => lcSkip H0 M L (R i) D H') ⟨S1.1, [], r0, S1.2⟩ (fun i H' _ ⟨_, acc, _, S'⟩ => hl H' acc D S') ?_ ?_
  · rintro i x H' hi ⟨n0, acc, r, S'⟩
    exact hs D i x acc H' hi r n0 S'
  · rintro H' ⟨n0, acc, r, S'⟩
    exact hd D acc H' r n0 S'
end
end Rs
namespace Rs
open PySem PySem.Spec PyProof.Rows L2
/-- an expression that the proof never comes to -/
def tNevE : TE := fun _ _ _ => False
theorem pe_nev {X : Cx} {e : Expr} : PE X e tNevE := ⟨fun _ _ _ _ _ _ h => h.elim⟩
end Rs
namespace Rs
open PySem PySem.Spec PyProof.Rows L2
theorem ex_u {K : PySem.W.Frag} {D : Addr} {x : Str} {v : V} {u : Value} (a : PySem.W.nsIn K D x = some (some u)) (r : RelV v u) : ∃ u, PySem.W.nsIn K D x = some (some u) ∧ RelV v u := ⟨u, a, r⟩
end Rs

namespace Rs
open PySem PySem.Spec PyProof.Rows L2
section
variable {H0 H H' : Hp} {M : List Addr} {L L' N : Led} {a p : Addr} {o o' : HO} {K : PySem.W.Frag}
theorem Hs.perm (S : Hs H0 M H L) (h : L'.Perm L) : Hs H0 M H L' := ⟨(h.map (·.1)).nodup_iff.mpr S.nd, fun q hq => S.is q (h.mem_iff.mp hq), S.old, S.mu⟩
/-- the objects of N are new, each another -/
structure NewL (H H' : Hp) (N : Led) : Prop where
  nd : (N.map (·.1)).Nodup
  nw : ∀ q ∈ N, H q.1 = none
  is : ∀ q ∈ N, H' q.1 = some q.2
/-- one object was changed, those of N are new -/
theorem Hs.oneN (S : Hs H0 M H L) (c : Chg a o o' L L') (hm : H0 a = none ∨ a ∈ M) (k : ∀ b u, H b = some u → b ≠ a → H' b = some u) (h' : H' a = some o') (n : NewL H H' N) : (∀ q ∈ N, H0 q.1 = none) ∧ Hs H0 M H' (N ++ L') := by
  have S' := S.one c hm k h'
  refine ⟨fun q hq => (S.new (n.nw q hq) q.2).1, ?_, ?_, S'.old, S'.mu⟩
  · rw [List.map_append, List.nodup_append]
    refine ⟨n.nd, S'.nd, ?_⟩
    intro x hx y hy e
    subst e
    obtain ⟨q, hq, rfl⟩ := List.mem_map.mp hx
    rw [c.keys] at hy
    obtain ⟨r, hr, e⟩ := List.mem_map.mp hy
    have := S.is r hr
    rw [e, n.nw q hq] at this
    cases this
  · intro q hq
    rcases List.mem_append.mp hq with h | h
    · exact n.is q h
    · exact S'.is q h
/-- nothing was changed, those of N are new -/
theorem Hs.moreN (S : Hs H0 M H L) (k : Same H H') (n : NewL H H' N) : (∀ q ∈ N, H0 q.1 = none) ∧ Hs H0 M H' (N ++ L) := by
  have S' := S.more k
  refine ⟨fun q hq => (S.new (n.nw q hq) q.2).1, ?_, ?_, S'.old, S'.mu⟩
  · rw [List.map_append, List.nodup_append]
    refine ⟨n.nd, S'.nd, ?_⟩
    intro x hx y hy e
    subst e
    obtain ⟨q, hq, rfl⟩ := List.mem_map.mp hx
    obtain ⟨r, hr, e⟩ := List.mem_map.mp hy
    have := S.is r hr
    rw [e, n.nw q hq] at this
    cases this
  · intro q hq
    rcases List.mem_append.mp hq with h | h
    · exact n.is q h
    · exact S'.is q h
/-- what a ledger tells of new ones -/
theorem Hs.news (S : Hs H0 M H L) (h : N.Sublist L) (n : ∀ q ∈ N, H0 q.1 = none) : NewL H0 H N := ⟨S.nd.sublist (h.map _), n, fun q hq => S.is q (h.subset hq)⟩
/-- plain data that a ledger holds: refs of tuples of whole numbers -/
def TupL (rs : List V) (T : Led) : Prop := (∀ r ∈ rs, ∃ q ∈ T, r = .ref q.1) ∧ ∀ q ∈ T, ∃ ns : List Int, q.2 = .tup (ns.map V.int)
theorem TupL.nil : TupL [] [] := ⟨fun r h => (nomatch h), fun q h => (nomatch h)⟩
theorem TupL.app {rs rs2 : List V} {T T2 : Led} (h : TupL rs T) (h2 : TupL rs2 T2) : TupL (rs ++ rs2) (T2 ++ T) := by
  refine ⟨fun r hr => ?_, fun q hq => ?_⟩
  · rcases List.mem_append.mp hr with z | z
    · obtain ⟨q, hq, e⟩ := h.1 r z; exact ⟨q, List.mem_append_right _ hq, e⟩
    · obtain ⟨q, hq, e⟩ := h2.1 r z; exact ⟨q, List.mem_append_left _ hq, e⟩
  · rcases List.mem_append.mp hq with z | z
    · exact h2.2 q z
    · exact h.2 q z
theorem TupL.snoc {rs : List V} {T : Led} (h : TupL rs T) (q : Addr) (ns : List Int) : TupL (rs ++ [.ref q]) ((q, .tup (ns.map V.int)) :: T) :=
  h.app (T2 := [(q, .tup (ns.map V.int))]) ⟨fun r hr => ⟨_, List.mem_cons_self, by simpa using hr⟩, fun z hz => ⟨ns, by simp at hz; rw [hz]⟩⟩
theorem dpT {rs : List V} {T : Led} (h : TupL rs T) (is : ∀ q ∈ T, H q.1 = some q.2) : ∃ nss : List (List Int), nss.length = rs.length ∧ DpAll K H rs (nss.map fun ns => .tuple (ns.map .int)) := by
  induction rs with
  | nil => exact ⟨[], rfl, .nil⟩
  | cons r rs ih =>
    obtain ⟨nss, e, d⟩ := ih ⟨fun x hx => h.1 x (List.mem_cons_of_mem _ hx), h.2⟩
    obtain ⟨q, hq, rfl⟩ := h.1 r List.mem_cons_self
    obtain ⟨ns, e2⟩ := h.2 q hq
    have hi := is q hq
    rw [e2] at hi
    exact ⟨ns :: nss, by simp [e], .cons (.tup (SqT.of hi) (dps_ints ns)) d⟩
theorem lay_T : ∀ nss : List (List Int), PyData.canLayAll0 (nss.map fun ns => .tuple (ns.map .int)) = true ∧ PyData.depthAll (nss.map fun ns => .tuple (ns.map .int)) ≤ 1
  | [] => by simp [PyData.canLayAll0, PyData.depthAll]
  | ns :: nss => by
    obtain ⟨a, b⟩ := lay_T nss
    simp only [List.map_cons, PyData.canLayAll0, PyData.canLay0, canLay_ints, a, Bool.and_self, PyData.depthAll, PyData.depth, depth_ints, true_and]
    omega
/-- a list of such tuples: data -/
theorem dpLT {rs : List V} {T : Led} (h : TupL rs T) (S : Hs H0 M H L) (m : (a, HO.lst rs) ∈ L) (sub : ∀ q ∈ T, q ∈ L) : ∃ nss : List (List Int), nss.length = rs.length ∧ Dp K H (.ref a) (.list (nss.map fun ns => .tuple (ns.map .int))) ∧ SeqAt.shaped (.list (nss.map fun ns => .tuple (ns.map .int))) = true := by
  obtain ⟨nss, e, d⟩ := dpT (K := K) (H := H) h fun q hq => S.is q (sub q hq)
  obtain ⟨y, z⟩ := lay_T nss
  refine ⟨nss, e, .lst (S.lst m) d, ?_⟩
  unfold SeqAt.shaped
  have e1 : PyData.canLay0 (.list (nss.map fun ns => .tuple (ns.map .int))) = true := by simp only [PyData.canLay0, y]
  rw [e1, Bool.true_and]
  refine decide_eq_true ?_
  simp only [PyData.depth]
  omega
theorem eqv_nil (xs : List PyData) : PyData.eqv (.list xs) (.list []) = decide (xs.length = 0) := by
  cases xs <;> simp [PyData.eqv, PyData.eqvAll]
/-- == [] and != [] of a list of such tuples -/
theorem rd_eqT0 {Q : VK} {rs : List V} {T : Led} {b : Addr} (h : TupL rs T) (S : Hs H0 M H L) (m : (a, HO.lst rs) ∈ L) (m2 : (b, HO.lst []) ∈ L) (sub : ∀ q ∈ T, q ∈ L) (k : Q (.bl (decide (rs.length = 0))) H) : rEqD K (.ref a) (.ref b) H Q := by
  obtain ⟨nss, e, d, sh⟩ := dpLT (K := K) h S m sub
  refine ⟨_, .list [], d, .lst (S.lst m2) .nil, sh, by decide, ?_⟩
  rw [eqv_nil, List.length_map, e]
  exact k
theorem rd_neT0 {Q : VK} {rs : List V} {T : Led} {b : Addr} (h : TupL rs T) (S : Hs H0 M H L) (m : (a, HO.lst rs) ∈ L) (m2 : (b, HO.lst []) ∈ L) (sub : ∀ q ∈ T, q ∈ L) (k : Q (.bl (!decide (rs.length = 0))) H) : rNeD K (.ref a) (.ref b) H Q := by
  obtain ⟨nss, e, d, sh⟩ := dpLT (K := K) h S m sub
  refine ⟨_, .list [], d, .lst (S.lst m2) .nil, sh, by decide, ?_⟩
  rw [eqv_nil, List.length_map, e]
  exact k
end
end Rs
namespace Rs
open PySem PySem.Spec PyProof.Rows L2
theorem rd_nn {R : Prop} (h : R) : V.non = V.non ∧ R := ⟨rfl, h⟩
end Rs
namespace Rs
open PySem PySem.Spec PyProof.Rows L2
section
variable {σ : L2.St} {H : Hp} {nx : L2.St → Hp → Prop} {rt : VK} {bk ct : L2.St → Hp → Prop} {te : TE}
theorem rd_aug {i : Nat} {v : V} {rd : V → V → Hp → VK → Prop} (e : σ[i]? = some (some v)) (h : te σ H fun y H1 => rd v y H1 fun z H2 => nx (σ.set i (some z)) H2) : tAug i te rd ⟨nx, rt, bk, ct⟩ σ H := ⟨v, e, h⟩
theorem rd_ipI {f : Int → Int → Int} {Q : VK} {i j : Int} (h : Q (.int (f i j)) H) : ipI f (.int i) (.int j) H Q := ⟨i, j, rfl, rfl, h⟩
end
end Rs
namespace Rs
open PySem PySem.Spec PyProof.Rows L2
theorem Hs.made {C x dx : Addr} {H0 H : Hp} {M : List Addr} {L : Led} (S : Hs H0 M H L) (hx : H x = none) (hd : H dx = none) (ne : dx ≠ x) : H0 x = none ∧ Hs H0 M (upd (upd H dx (.own x)) x (.ins C dx [])) ((x, .ins C dx []) :: L) := by
  obtain ⟨_, S1⟩ := S.new hd (.own x)
  have hx' : upd H dx (HO.own x) x = none := by rw [upd_ne (Ne.symm ne)]; exact hx
  obtain ⟨n0, S2⟩ := S1.new hx' (.ins C dx [])
  exact ⟨n0, S2.sub (List.Sublist.cons_cons _ (List.Sublist.cons _ (List.Sublist.refl _)))⟩
end Rs

namespace Rs
open PySem PySem.Spec PyProof.Rows L2

/-! ### sum and max over tuples, with a start, with a default -/
section
variable {prog : Program} {w : World} {A : Around} {s : Shared} {R : Result → Shared → Prop} {E : Value → Shared → Prop}
/-- a walk with one more in front, that is over -/
theorem walk_more {I : Addr} {fp wr : List Addr} {n : Nat} {P : Nat → Value → Prop} {St : Nat → Heap → Prop} (W : Walks prog w A I fp wr n P St) :
    Walks prog w A I fp wr (n + 1) (fun i v => 0 < i ∧ P (i - 1) v) (fun i h => 0 < i ∧ St (i - 1) h) where
  sub := W.sub
  frame := fun i h h' st k => ⟨st.1, W.frame _ h h' st.2 k⟩
  item := fun i s Q E hi st hq => by
    obtain ⟨j, rfl⟩ : ∃ j, i = j + 1 := ⟨i - 1, by have := st.1; omega⟩
    refine W.item j s Q E (by omega) st.2 fun v h' tk p st' k => hq v h' tk ⟨Nat.succ_pos _, p⟩ ⟨Nat.succ_pos _, st'⟩ k
  done := fun s Q E st hq => W.done s Q E st.2 hq
  self := fun i s Q E st hq => W.self _ s Q E st.2 hq
theorem sumK_args (a v : Value) : argsOk "sum" ⟨[a], [(Str.ofString "start", v)]⟩ := by unfold argsOk; kernel_rfl
theorem maxD_args (a v : Value) : argsOk "max" ⟨[a], [(Str.ofString "default", v)]⟩ := by unfold argsOk; kernel_rfl
def shiftV (k : Int) (val : Nat → Int) : Nat → Int
  | 0 => k
  | i + 1 => val i
theorem preSum_shift (k : Int) (val : Nat → Int) : ∀ n, preSum (shiftV k val) (n + 1) = k + preSum val n
  | 0 => by simp [preSum, shiftV]
  | n + 1 => by
    rw [preSum, preSum_shift k val n, preSum]
    simp [shiftV]
    omega
/-- sum(x, start=k) -/
theorem sum_from {x : Value} {k : Int} {tok : Tok} {Q : Value → Shared → Prop}
    (h : wpAny (model prog w) A.in1 (pyIter x) (fun it s₂ => ∃ I fp wr n P St val, it = .ref I ∧ Walks prog w A.in1 I fp wr n P St ∧ St 0 s₂.heap ∧ (∀ b ∈ fp, b < s₂.heap.objs.size) ∧ (∀ i v, P i v → ∃ t, v = .int (val i) t) ∧
      ∀ h' tk t', (∀ b o, b ∉ wr → s₂.heap.get? b = some o → h'.get? b = some o) → Q (.int (k + preSum val n) t') { s₂ with heap := h', toks := tk }) E s) :
    wpAny (model prog w) A (call (.builtin "sum") [x] [(Str.ofString "start", .int k tok)]) Q E s := by
  refine PyProof.Rows.kmk_tree F.kind_sum F.plain_sum F.entry_sum (sumK_args _ _) ?_
  unfold Builtin.«sum»
  simp only [List.length_cons, List.length_nil]
  rw [if_neg (by decide)]
  refine wpAny_bind (wpAny_of_eq (a := [some (.int k tok)]) rfl ?_)
  refine wpAny_bind (wpAny_mono h (fun it s₂ q => ?_) fun _ _ e => e)
  obtain ⟨I, fp, wr, n, P, St, val, rfl, W, st, hfp, hval, hQ⟩ := q
  have hv' : ∀ i v, (0 < i ∧ P (i - 1) v) → ∃ t, v = .int (shiftV k val i) t := fun i v z => by
    obtain ⟨j, rfl⟩ : ∃ j, i = j + 1 := ⟨i - 1, by omega⟩
    exact hval j v z.2
  have hS : s₂.heap.objs.size ∉ fp := fun m => Nat.lt_irrefl _ (hfp _ m)
  show wpAny _ A.in1 (if (_ : Bool) = true then _ else _) _ _ _
  split
  · refine wpAny_bind (wpAny_rule (wpAny_bind (wpAny_mkInt (wpAny_bind (wpAny_pure ?_)))))
    simp only [List.forIn_cons, List.forIn_nil]
    refine wpAny_bind (wpAny_bind (wpAny_bind (wpAny_isInstance (T := "int") (b := false) (typeIs_int _ _ _) PySem.sub_int_str ?_)))
    refine wpAny_pure (wpAny_bind (wpAny_bind (wpAny_isInstance (T := "int") (b := false) (typeIs_int _ _ _) PySem.sub_int_bytes ?_)))
    refine wpAny_pure (wpAny_bind (wpAny_bind (wpAny_isInstance (T := "int") (b := false) (typeIs_int _ _ _) PySem.sub_int_bytearray ?_)))
    refine wpAny_pure (wpAny_pure ?_)
    refine wpAny_bind (wpAny_newObj_type (wpAny_pure ⟨plainId_quiet F.plain_sum_loop _, codeAny_sum_loopG (walk_more W) (shiftV k val) hv' s₂.heap.objs.size hS n 1 _ _ 0 0 (Or.inl rfl) rfl (by omega)
      ⟨Nat.one_pos, W.frame _ _ _ st fun b _ o e => Heap.get?_push_of_some _ e⟩ (by rw [show preSum (shiftV k val) 1 = k by simp [preSum, shiftV]]; exact Heap.get?_push_size _ rfl) fun h' tk t' kp => ?_⟩))
    rw [preSum_shift]
    exact hQ h' tk t' fun b o hb e => kp b o hb (Nat.ne_of_lt (Heap.lt_size e)) (Heap.get?_push_of_some _ e)
  · refine wpAny_bind (wpAny_pure ?_)
    simp only [List.forIn_cons, List.forIn_nil]
    refine wpAny_bind (wpAny_bind (wpAny_bind (wpAny_isInstance (T := "int") (b := false) (typeIs_int _ _ _) PySem.sub_int_str ?_)))
    refine wpAny_pure (wpAny_bind (wpAny_bind (wpAny_isInstance (T := "int") (b := false) (typeIs_int _ _ _) PySem.sub_int_bytes ?_)))
    refine wpAny_pure (wpAny_bind (wpAny_bind (wpAny_isInstance (T := "int") (b := false) (typeIs_int _ _ _) PySem.sub_int_bytearray ?_)))
    refine wpAny_pure (wpAny_pure ?_)
    refine wpAny_bind (wpAny_newObj_type (wpAny_pure ⟨plainId_quiet F.plain_sum_loop _, codeAny_sum_loopG (walk_more W) (shiftV k val) hv' s₂.heap.objs.size hS n 1 _ _ 0 2 (Or.inr rfl) rfl (by omega)
      ⟨Nat.one_pos, W.frame _ _ _ st fun b _ o e => Heap.get?_push_of_some _ e⟩ (by rw [show preSum (shiftV k val) 1 = k by simp [preSum, shiftV]]; exact Heap.get?_push_size _ rfl) fun h' tk t' kp => ?_⟩))
    rw [preSum_shift]
    exact hQ h' tk t' fun b o hb e => kp b o hb (Nat.ne_of_lt (Heap.lt_size e)) (Heap.get?_push_of_some _ e)
/-- max(x, default=d): the loop -/
theorem max_loopD {I : Addr} {fp wr : List Addr} {n : Nat} {P : Nat → Value → Prop} {St : Nat → Heap → Prop} (W : Walks prog w A.in1 I fp wr n P St) (val : Nat → Int) (hval : ∀ i v, P i v → ∃ t, v = .int (val i) t) (T : Addr) (hT : T ∉ fp) (d : Value) :
    ∀ (k i : Nat) (s : Shared) (c : Nat) (best : Option (Int × Tok)), n - i = k → i ≤ n → St i s.heap →
      s.heap.get? T = some { cls := .type "list", dict := none, data := .seq (match best with | none => #[] | some b => #[.int b.1 b.2, .int b.1 b.2]) c, slots := #[] } →
      (∀ v h' tk, (best = none → i = n → v = d) → (best ≠ none ∨ i < n → ∃ m t, v = .int m t ∧ ((∃ b, best = some b ∧ m = b.1) ∨ ∃ j, i ≤ j ∧ j < n ∧ m = val j) ∧ (∀ b, best = some b → b.1 ≤ m) ∧ ∀ j, i ≤ j → j < n → val j ≤ m) →
        (∀ b o, b ∉ wr → b ≠ T → s.heap.get? b = some o → h'.get? b = some o) → R (.ok (.ret v)) { s with heap := h', toks := tk }) →
      codeAny (model prog w) A (.builtin "max.loop" ⟨[.ref I, .none, .ref T], [(Str.ofString "default", d)]⟩) R s := by
  have hTw : T ∉ wr := fun z => hT (W.sub _ z)
  have hname : (toString "max" ++ toString ".loop" : String) = "max.loop" := by decide
  intro k
  induction k with
  | zero =>
    intro i s c best hk hi hst hS hR
    have hin : i = n := by omega
    subst hin
    refine codeAny_builtin F.entry_max_loop ?_
    rw [Around.under_plainId F.plain_max_loop _]
    show wpAny _ A.in1 (seqItems? (.ref T) >>= _) _ _ s
    refine wpAny_bind (wpAny_seqItems hS rfl ?_)
    show wpAny _ A.in1 (tryCatch (pyNext (.ref I)) _ >>= _) _ _ s
    refine wpAny_bind (wpAny_tryCatch (W.done s _ _ hst fun h' tk kp => ?_))
    have hS' := kp T _ hTw hS
    cases best with
    | none =>
      show wpAny _ A.in1 (rule _ >>= _) _ _ _
      refine wpAny_bind (wpAny_rule (wpAny_pure ?_))
      exact hR d h' tk (fun _ _ => rfl) (fun z => by rcases z with z | z; exact absurd rfl z; omega) fun b o hb _ e => kp b o hb e
    | some b =>
      show wpAny _ A.in1 (updateSeq T (fun _ => #[]) >>= _) _ _ _
      refine wpAny_bind ?_
      refine wpAny_updateSeq hS' rfl (wpAny_bind (wpAny_letGo (wpAny_pure ?_)))
      refine hR (.int b.1 b.2) _ tk (fun z => nomatch z) (fun _ => ⟨b.1, b.2, rfl, Or.inl ⟨b, rfl, rfl⟩, fun b' e => by cases e; exact Int.le_refl _, fun j h1 h2 => by omega⟩) fun b o hb hbT e => (Heap.get?_update_other _ _ (Ne.symm hbT)).trans (kp b o hb e)
  | succ k ih =>
    intro i s c best hk hi hst hS hR
    have hlt : i < n := by omega
    refine codeAny_builtin F.entry_max_loop ?_
    rw [Around.under_plainId F.plain_max_loop _]
    show wpAny _ A.in1 (seqItems? (.ref T) >>= _) _ _ s
    refine wpAny_bind (wpAny_seqItems hS rfl ?_)
    show wpAny _ A.in1 (tryCatch (pyNext (.ref I)) _ >>= _) _ _ s
    refine wpAny_bind (wpAny_tryCatch (W.item i s _ _ hlt hst fun v h' tk hP hst' kp => ?_))
    have hS' := kp T _ hTw hS
    obtain ⟨t, rfl⟩ := hval i v hP
    have next : ∀ (b : Int × Tok) (h2 : Heap) (tk2 c2 : Nat), (b.1 = val i ∨ ∃ b0, best = some b0 ∧ b.1 = b0.1) → val i ≤ b.1 → (∀ b0, best = some b0 → b0.1 ≤ b.1) → St (i + 1) h2 →
        h2.get? T = some { cls := .type "list", dict := none, data := .seq #[.int b.1 b.2, .int b.1 b.2] c2, slots := #[] } → (∀ y o, y ∉ wr → y ≠ T → s.heap.get? y = some o → h2.get? y = some o) →
        codeAny (model prog w) A (.builtin "max.loop" ⟨[.ref I, .none, .ref T], [(Str.ofString "default", d)]⟩) R { s with heap := h2, toks := tk2 } := by
      intro b h2 tk2 c2 e1 e2 e3 st2 g2 kp2
      refine ih (i + 1) { s with heap := h2, toks := tk2 } c2 (some b) (by clear e1 e2 e3; omega) hlt st2 g2 fun v h3 tk3 _ z kp3 => ?_
      obtain ⟨m, t3, rfl, z1, z2, z3⟩ := z (Or.inl (by simp))
      have zb := z2 b rfl
      refine hR _ h3 tk3 (fun _ q => by omega) (fun _ => ⟨m, t3, rfl, ?_, fun b0 q => Int.le_trans (e3 b0 q) zb, fun j h1 h2 => ?_⟩) fun y o hy hyT e => kp3 y o hy hyT (kp2 y o hy hyT e)
      · rcases z1 with ⟨b', q1, rfl⟩ | ⟨j, q1, q2, rfl⟩
        · cases q1
          rcases e1 with e1 | ⟨b0, q2, e1⟩
          · exact Or.inr ⟨i, Nat.le_refl _, hlt, e1⟩
          · exact Or.inl ⟨b0, q2, e1⟩
        · exact Or.inr ⟨j, by omega, q2, rfl⟩
      · by_cases q : j = i
        · subst q; omega
        · exact z3 j (by omega) h2
    cases best with
    | none =>
      show wpAny _ A.in1 (updateSeq T (fun _ => #[.int (val i) t, .int (val i) t]) >>= _) _ _ _
      refine wpAny_bind ?_
      refine wpAny_updateSeq hS' rfl ?_
      rw [hname]
      refine wpAny_pure ⟨plainId_quiet F.plain_max_loop _, next (val i, t) _ _ _ (Or.inl rfl) (Int.le_refl _) (fun b0 q => nomatch q) (W.frame _ _ _ hst' fun b hb o e => ?_) (Heap.get?_update_self _ hS' rfl) fun b o hb hbT e => ?_⟩
      · exact (Heap.get?_update_other _ _ (fun z : T = b => hT (z ▸ hb))).trans e
      · exact (Heap.get?_update_other _ _ (Ne.symm hbT)).trans (kp b o hb e)
    | some b =>
      have cmp := CmpOf.ints_gt (prog := prog) (w := w) (A := A.in1) (P := fun (z : Nat) v => ∃ t, v = Value.int (if z = 0 then val i else b.1) t) (fun z => if z = 0 then val i else b.1) (fun _ _ z => z)
      show wpAny _ A.in1 (tryCatch (holding [Value.int (val i) t, Value.int (val i) t] (richCompare .Gt (.int (val i) t) (.int b.1 b.2) >>= _)) _ >>= _) _ _ _
      refine wpAny_bind (wpAny_tryCatch (wpAny_holding (wpAny_bind (cmp 0 1 _ _ _ _ _ ⟨t, rfl⟩ ⟨b.2, rfl⟩ ?_))))
      refine wpAny_bind (wpAny_holding (wpAny_truthy_bool ?_))
      refine wpAny_bind (wpAny_letGo (wpAny_pure ?_))
      simp only [if_true, Nat.one_ne_zero, if_false]
      by_cases q : val i > b.1
      · rw [decide_eq_true q]
        simp only [if_true]
        refine wpAny_bind ?_
        refine wpAny_updateSeq hS' rfl (wpAny_bind (wpAny_letGo ?_))
        rw [hname]
        refine wpAny_pure ⟨plainId_quiet F.plain_max_loop _, next (val i, t) _ _ _ (Or.inl rfl) (Int.le_refl _) (fun b0 z => by cases z; exact Int.le_of_lt q) (W.frame _ _ _ hst' fun y hb o e => ?_) (Heap.get?_update_self _ hS' rfl) fun y o hb hbT e => ?_⟩
        · exact (Heap.get?_update_other _ _ (fun z : T = y => hT (z ▸ hb))).trans e
        · exact (Heap.get?_update_other _ _ (Ne.symm hbT)).trans (kp y o hb e)
      · rw [decide_eq_false q]
        simp only [Bool.false_eq_true, if_false]
        refine wpAny_bind (wpAny_letGo ?_)
        rw [hname]
        exact wpAny_pure ⟨plainId_quiet F.plain_max_loop _, next b _ _ c (Or.inr ⟨b, rfl, rfl⟩) (by omega) (fun b0 z => by cases z; exact Int.le_refl _) hst' hS' fun y o hb _ e => kp y o hb e⟩
/-- max(x, default=d) -/
theorem max_dflt {x d : Value} {Q : Value → Shared → Prop}
    (h : wpAny (model prog w) A.in1 (pyIter x) (fun it s₂ => ∃ I fp wr n P St, ∃ val : Nat → Int, it = .ref I ∧ Walks prog w A.in1 I fp wr n P St ∧ St 0 s₂.heap ∧ (∀ b ∈ fp, b < s₂.heap.objs.size) ∧ (∀ i v, P i v → ∃ t, v = .int (val i) t) ∧
      ∀ v h' tk, (n = 0 → v = d) → (0 < n → ∃ m t, v = .int m t ∧ (∃ j, j < n ∧ m = val j) ∧ ∀ j, j < n → val j ≤ m) → (∀ b o, b ∉ wr → s₂.heap.get? b = some o → h'.get? b = some o) → Q v { s₂ with heap := h', toks := tk }) E s) :
    wpAny (model prog w) A (call (.builtin "max") [x] [(Str.ofString "default", d)]) Q E s := by
  have hname : (toString "max" ++ toString ".loop" : String) = "max.loop" := by decide
  refine PyProof.Rows.kmk_tree F.kind_max F.plain_max F.entry_max (maxD_args _ _) ?_
  show wpAny _ A.in1 (Builtin.Builtins.bindParams "max" ["key", "default"] 0 ⟨[], [(Str.ofString "default", d)]⟩ >>= _) _ _ s
  refine wpAny_bind (wpAny_of_eq (a := [none, some d]) rfl ?_)
  refine wpAny_bind (wpAny_pure ?_)
  refine wpAny_bind (wpAny_mono h (fun it s₂ q => ?_) fun _ _ e => e)
  obtain ⟨I, fp, wr, n, P, St, val, rfl, W, st, hfp, hval, hQ⟩ := q
  refine wpAny_bind (wpAny_newObj_type ?_)
  have hT : s₂.heap.objs.size ∉ fp := fun m => Nat.lt_irrefl _ (hfp _ m)
  rw [hname]
  refine wpAny_pure ⟨plainId_quiet F.plain_max_loop _, max_loopD W val hval s₂.heap.objs.size hT d n 0 _ 0 none (by omega) (Nat.zero_le _) (W.frame _ _ _ st fun b _ o e => Heap.get?_push_of_some _ e) (Heap.get?_push_size _ rfl) fun v h' tk z1 z2 kp => ?_⟩
  refine hQ v h' tk (fun z => z1 rfl z.symm) (fun z => ?_) fun b o hb e => kp b o hb (Nat.ne_of_lt (Heap.lt_size e)) (Heap.get?_push_of_some _ e)
  obtain ⟨m, t, e, y1, _, y3⟩ := z2 (Or.inr z)
  refine ⟨m, t, e, ?_, fun j hj => y3 j (Nat.zero_le _) hj⟩
  rcases y1 with ⟨b, q, _⟩ | ⟨j, _, q, r⟩
  · cases q
  · exact ⟨j, q, r⟩
end
end Rs
namespace Rs
open PySem PySem.Spec PyProof.Rows L2
theorem preSum_take (ns : List Int) : ∀ n, n ≤ ns.length → preSum (fun i => ns.getD i 0) n = (ns.take n).sum
  | 0, _ => by simp [preSum]
  | n + 1, h => by
    rw [preSum, preSum_take ns n (by omega), List.take_succ, List.getElem?_eq_getElem (by omega), List.sum_append]
    simp [List.getD_eq_getElem?_getD, List.getElem?_eq_getElem (show n < ns.length by omega)]
theorem preSum_all (ns : List Int) : preSum (fun i => ns.getD i 0) ns.length = ns.sum := by rw [preSum_take ns _ (Nat.le_refl _), List.take_length]
theorem vals_at {ns : List Int} {us : List Value} (r : Vals (ns.map V.int) us) (i : Nat) (v : Value) (h : us.toArray[i]? = some v) : ∃ t, v = .int (ns.getD i 0) t := by
  rw [List.getElem?_toArray] at h
  obtain ⟨hl, e⟩ := List.getElem?_eq_some_iff.mp h
  have hl2 : i < ns.length := by rw [← r.length, List.length_map] at hl; exact hl
  have e1 : (ns.map V.int)[i]? = some (.int (ns.getD i 0)) := by rw [List.getElem?_map, List.getD_eq_getElem?_getD, List.getElem?_eq_getElem hl2]; rfl
  obtain ⟨u, e2, ru⟩ := r.get e1
  rw [h] at e2
  cases e2
  exact ru
section
variable {prog : Program} {w : World} {A : Around} {s : Shared} {E : Value → Shared → Prop}
/-- iter(l) of a list, of a tuple: a walk over its items -/
theorem walk_list {l : Addr} {its : Array Value} {Q : Value → Shared → Prop} (hh : A.handled = none) (hl : s.heap.IsList l its)
    (h : ∀ s₂ : Shared, s₂ = { s with heap := s.heap.push { cls := .type "list_iterator", data := .fields #[.ref l, .int 0 0] } } → ∀ (St : Nat → Heap → Prop), Walks prog w A s.heap.objs.size [s.heap.objs.size, l] [s.heap.objs.size] its.size (fun i v => its[i]? = some v) St → St 0 s₂.heap →
      (∀ b ∈ [s.heap.objs.size, l], b < s₂.heap.objs.size) → Q (.ref s.heap.objs.size) s₂) : wpAny (model prog w) A (pyIter (.ref l)) Q E s := by
  have hlt : l < s.heap.objs.size := by obtain ⟨_, e, _⟩ := hl; exact Heap.lt_size e
  refine wpAny_pyIter_list hl (h _ rfl _ (Walks.list (A := A) hh _ l (Nat.ne_of_lt hlt) its) ⟨⟨_, Heap.get?_push_size _ rfl, rfl, rfl⟩, hl.push _⟩ ?_)
  intro b hb
  show b < (s.heap.push _).objs.size
  rw [Heap.size_push]
  simp only [List.mem_cons, List.not_mem_nil, or_false] at hb
  rcases hb with rfl | rfl
  · exact Nat.lt_succ_self _
  · exact Nat.lt_succ_of_lt hlt
theorem walk_tup {l : Addr} {its : Array Value} {Q : Value → Shared → Prop} (hh : A.handled = none) (hl : s.heap.IsTuple l its)
    (h : ∀ s₂ : Shared, s₂ = { s with heap := s.heap.push { cls := .type "tuple_iterator", data := .fields #[.ref l, .int 0 0] } } → ∀ (St : Nat → Heap → Prop), Walks prog w A s.heap.objs.size [s.heap.objs.size, l] [s.heap.objs.size] its.size (fun i v => its[i]? = some v) St → St 0 s₂.heap →
      (∀ b ∈ [s.heap.objs.size, l], b < s₂.heap.objs.size) → Q (.ref s.heap.objs.size) s₂) : wpAny (model prog w) A (pyIter (.ref l)) Q E s := by
  have hlt : l < s.heap.objs.size := by obtain ⟨_, e, _⟩ := hl; exact Heap.lt_size e
  refine wpAny_pyIter_tuple hl (h _ rfl _ (Walks.tuple (A := A) hh _ l (Nat.ne_of_lt hlt) its) ⟨⟨_, Heap.get?_push_size _ rfl, rfl, rfl⟩, hl.push _⟩ ?_)
  intro b hb
  show b < (s.heap.push _).objs.size
  rw [Heap.size_push]
  simp only [List.mem_cons, List.not_mem_nil, or_false] at hb
  rcases hb with rfl | rfl
  · exact Nat.lt_succ_self _
  · exact Nat.lt_succ_of_lt hlt
end
section
variable {X : Cx}
/-- what stood, stands -/
theorem it_old {s : Shared} {o : Obj} {h' : Heap} (k : ∀ b u, b ∉ [s.heap.objs.size] → (s.heap.push o).get? b = some u → h'.get? b = some u) : ∀ b u, s.heap.get? b = some u → h'.get? b = some u := fun b u e =>
  k b u (fun z => absurd (Heap.lt_size e) ((List.mem_singleton.mp z) ▸ Nat.lt_irrefl _)) (Heap.get?_push_of_some _ e)
def rSumT (K : PySem.W.Frag) : List V → Hp → VK → Prop := fun vs H Q => ∃ (a : Addr) (ns : List Int), vs = [V.ref a] ∧ SqT K H a (ns.map V.int) ∧ Q (.int ns.sum) H
theorem cr_sumT (hc : X.calm = true) : CallR X (.builtin "sum") (rSumT X.K) := by
  intro pins s σ H vs us Q I r h
  obtain ⟨a, ns, rfl, hs, q⟩ := h
  obtain ⟨its, rv, ht, hz⟩ := I.tuple hs
  rw [Vals.ref1 r]
  obtain ⟨o, e1, e2, n, e3⟩ := id ht
  refine call_sum_walkG (walk_tup (A := X.A.in1) (I.ok.hd hc) ⟨o, e1, e2, n, e3⟩ fun s₂ es St W st hfp => ?_)
  subst es
  refine ⟨_, _, _, _, _, _, fun i => ns.getD i 0, rfl, W, st, hfp, vals_at rv, fun h' tk t' hk => ⟨.int _, H, I.kept (it_old hk), ⟨_, rfl⟩, ?_⟩⟩
  rw [List.size_toArray, ← rv.length, List.length_map, preSum_all]
  exact q
def rSumK (K : PySem.W.Frag) : List V → List V → Hp → VK → Prop := fun vs zs H Q => ∃ (a : Addr) (ns : List Int) (k : Int), vs = [V.ref a] ∧ zs = [V.int k] ∧ SqL K H a (ns.map V.int) ∧ Q (.int (k + ns.sum)) H
theorem cr_sumK (hc : X.calm = true) : CallRK X (.builtin "sum") [Str.ofString "start"] (rSumK X.K) := by
  intro pins s σ H vs zs us ws Q I r rz h
  obtain ⟨a, ns, k, rfl, rfl, hs, q⟩ := h
  obtain ⟨its, rv, ht, hz⟩ := I.list hs
  rw [Vals.ref1 r]
  obtain ⟨u, rfl, t, rfl⟩ := vals1 rz
  refine sum_from (walk_list (A := X.A.in1) (I.ok.hd hc) ht.isList fun s₂ es St W st hfp => ?_)
  subst es
  refine ⟨_, _, _, _, _, _, fun i => ns.getD i 0, rfl, W, st, hfp, vals_at rv, fun h' tk t' hk => ⟨.int _, H, I.kept (it_old hk), ⟨_, rfl⟩, ?_⟩⟩
  rw [List.size_toArray, ← rv.length, List.length_map, preSum_all]
  exact q
def maxD (d : Int) : List Int → Int
  | [] => d
  | x :: xs => xs.foldl max x
theorem fold_max : ∀ (xs : List Int) (x : Int), (xs.foldl max x = x ∨ xs.foldl max x ∈ xs) ∧ x ≤ xs.foldl max x ∧ ∀ y ∈ xs, y ≤ xs.foldl max x
  | [], x => ⟨Or.inl rfl, Int.le_refl _, fun y h => (nomatch h)⟩
  | z :: xs, x => by
    obtain ⟨h1, h2, h3⟩ := fold_max xs (max x z)
    simp only [List.foldl_cons]
    have a1 : x ≤ max x z := by omega
    have a2 : z ≤ max x z := by omega
    refine ⟨?_, by omega, fun y hy => ?_⟩
    · rcases h1 with h1 | h1
      · rw [h1]
        by_cases c : x ≤ z
        · right; rw [show max x z = z by omega]; exact List.mem_cons_self
        · left; omega
      · exact Or.inr (List.mem_cons_of_mem _ h1)
    · rcases List.mem_cons.mp hy with rfl | hy
      · omega
      · exact h3 y hy
theorem maxD_is {d m : Int} {ns : List Int} (h0 : ns ≠ []) (h1 : m ∈ ns) (h2 : ∀ y ∈ ns, y ≤ m) : maxD d ns = m := by
  cases ns with
  | nil => exact absurd rfl h0
  | cons x xs =>
    obtain ⟨a, b, c⟩ := fold_max xs x
    show xs.foldl max x = m
    have z1 : xs.foldl max x ≤ m := by
      rcases a with a | a
      · rw [a]; exact h2 x List.mem_cons_self
      · exact h2 _ (List.mem_cons_of_mem _ a)
    have z2 : m ≤ xs.foldl max x := by
      rcases List.mem_cons.mp h1 with rfl | h
      · exact b
      · exact c m h
    omega
def rMaxDT (K : PySem.W.Frag) : List V → List V → Hp → VK → Prop := fun vs zs H Q => ∃ (a : Addr) (ns : List Int) (d : Int), vs = [V.ref a] ∧ zs = [V.int d] ∧ SqT K H a (ns.map V.int) ∧ Q (.int (maxD d ns)) H
theorem cr_maxDT (hc : X.calm = true) : CallRK X (.builtin "max") [Str.ofString "default"] (rMaxDT X.K) := by
  intro pins s σ H vs zs us ws Q I r rz h
  obtain ⟨a, ns, d, rfl, rfl, hs, q⟩ := h
  obtain ⟨its, rv, ht, hz⟩ := I.tuple hs
  rw [Vals.ref1 r]
  obtain ⟨u, rfl, t, rfl⟩ := vals1 rz
  obtain ⟨o, e1, e2, n, e3⟩ := id ht
  refine max_dflt (walk_tup (A := X.A.in1) (I.ok.hd hc) ⟨o, e1, e2, n, e3⟩ fun s₂ es St W st hfp => ?_)
  subst es
  have hl : its.toArray.size = ns.length := by rw [List.size_toArray, ← rv.length, List.length_map]
  refine ⟨_, _, _, _, _, _, fun i => ns.getD i 0, rfl, W, st, hfp, vals_at rv, fun v h' tk z1 z2 hk => ?_⟩
  rw [hl] at z1 z2
  by_cases h0 : ns = []
  · subst h0
    rw [z1 rfl]
    exact ⟨.int d, H, I.kept (it_old hk), ⟨t, rfl⟩, q⟩
  · have hp : 0 < ns.length := List.length_pos_iff.mpr h0
    obtain ⟨m, t2, rfl, ⟨j, hj, rfl⟩, hm⟩ := z2 hp
    refine ⟨.int _, H, I.kept (it_old hk), ⟨t2, rfl⟩, ?_⟩
    have em : maxD d ns = ns.getD j 0 := by
      refine maxD_is h0 ?_ fun y hy => ?_
      · rw [List.getD_eq_getElem?_getD, List.getElem?_eq_getElem hj]
        exact List.getElem_mem hj
      · obtain ⟨i, hi, rfl⟩ := List.mem_iff_getElem.mp hy
        have z : ns.getD i 0 ≤ ns.getD j 0 := hm i hi
        rw [List.getD_eq_getElem?_getD, List.getElem?_eq_getElem hi] at z
        exact z
    show Q (.int (ns.getD j 0)) H
    rw [← em]
    exact q
end
end Rs
namespace Rs
open PySem PySem.Spec PyProof.Rows L2
/-! ### a tuple's slice with a step -/
def ixT (n : Nat) (lo hi : Option Int) (st : Int) : List Nat := (List.range (Builtin.Slice.slicePlaces (Builtin.Slice.sliceAdjust lo hi st n).1 (Builtin.Slice.sliceAdjust lo hi st n).2 st)).map fun (k : Nat) => ((Builtin.Slice.sliceAdjust lo hi st n).1 + (k : Int) * st).toNat
def pickT (xs : List V) (lo hi : Option Int) (st : Int) : List V := (ixT xs.length lo hi st).filterMap (xs[·]?)
def pickI (ns : List Int) (lo hi : Option Int) (st : Int) : List Int := (ixT ns.length lo hi st).filterMap (ns[·]?)
theorem pickT_map (ns : List Int) (lo hi : Option Int) (st : Int) : pickT (ns.map V.int) lo hi st = (pickI ns lo hi st).map V.int := by
  unfold pickT pickI
  rw [List.length_map]
  generalize ixT ns.length lo hi st = ix
  induction ix with
  | nil => rfl
  | cons i ix ih =>
    cases h : ns[i]? with
    | none => rw [List.filterMap_cons_none (by rw [List.getElem?_map, h]; rfl), List.filterMap_cons_none h, ih]
    | some z => rw [List.filterMap_cons_some (by rw [List.getElem?_map, h]; rfl), List.filterMap_cons_some h, ih]; rfl
section
variable {prog : Program} {w : World} {A : Around} {s : Shared} {E : Value → Shared → Prop}
theorem part_ {v : Value} {o : Option Int} {Q : Option Int → Shared → Prop} (p : IsPart v o) (h : Q o s) : wpAny (model prog w) A (Builtin.Slice.slicePartIndex v) Q E s := HT.slicePart_ p h
theorem stepped {sl : Addr} {vl vu vs : Value} {lo hi : Option Int} {st : Int} {n : Nat} {Q : Int × Int × Nat → Shared → Prop} (hs : s.heap.IsSliceOf sl vl vu vs) (pl : IsPart vl lo) (pu : IsPart vu hi) (ps : IsPart vs (some st)) (h0 : st ≠ 0)
    (h : Q ((Builtin.Slice.sliceAdjust lo hi st n).1, st, Builtin.Slice.slicePlaces (Builtin.Slice.sliceAdjust lo hi st n).1 (Builtin.Slice.sliceAdjust lo hi st n).2 st) s) : wpAny (model prog w) A (Builtin.Slice.sliceApplied (.ref sl) (pure (n : Int))) Q E s := by
  obtain ⟨os, hos, hcs, hds⟩ := id hs
  unfold Builtin.Slice.sliceApplied Builtin.Slice.sliceFields
  refine wpAny_bind (wpAny_bind (wpAny_field hos hds (x := vl) rfl (wpAny_bind (wpAny_field hos hds (x := vu) rfl (wpAny_bind (wpAny_field hos hds (x := vs) rfl (wpAny_pure ?_)))))))
  refine wpAny_bind (part_ ps ?_)
  show wpAny _ _ (if (st == 0) = true then _ else _) _ _ s
  rw [if_neg (by simpa using h0)]
  exact wpAny_bind (part_ pl (wpAny_bind (part_ pu (wpAny_bind (wpAny_pure (wpAny_pure h))))))
theorem getItem_step {t sl : Addr} {items : Array Value} {vl vu vs : Value} {lo hi : Option Int} {st : Int} {Q : Value → Shared → Prop} (ht : IsTup s.heap t items) (hs : s.heap.IsSliceOf sl vl vu vs) (pl : IsPart vl lo) (pu : IsPart vu hi) (ps : IsPart vs (some st))
    (h0 : st ≠ 0) (h1 : st ≠ 1) (hz : ((ixT items.size lo hi st).filterMap (items[·]?)).length ≤ sizeLine)
    (h : Q (.ref s.heap.objs.size) { s with heap := s.heap.push { cls := .type "tuple", data := .seq ((ixT items.size lo hi st).filterMap (items[·]?)).toArray } }) : wpAny (model prog w) A (getItem (.ref t) (.ref sl)) Q E s := by
  obtain ⟨os, hos, hcs, hds⟩ := id hs
  have hT : s.TypeIs (.ref sl) "slice" := ⟨os, hos, hcs⟩
  have hk : sizeOk (.seq ((ixT items.size lo hi st).filterMap (items[·]?)).toArray) := by
    show ((ixT items.size lo hi st).filterMap (items[·]?)).toArray.size ≤ sizeLine
    rw [List.size_toArray]
    exact hz
  have ep : ((List.range (Builtin.Slice.slicePlaces (Builtin.Slice.sliceAdjust lo hi st items.size).1 (Builtin.Slice.sliceAdjust lo hi st items.size).2 st)).filterMap fun (k : Nat) => items[((Builtin.Slice.sliceAdjust lo hi st items.size).1 + (k : Int) * st).toNat]?) = (ixT items.size lo hi st).filterMap (items[·]?) := by
    unfold ixT
    rw [List.filterMap_map]
    rfl
  unfold getItem
  try with_reducible refine wpAny_holding ?_
  first | refine wpAny_bind (wpAny_pure ?_) | skip
  refine wpAny_bind (wpAny_sequenceKey ht.typeIs (by decide) ?_)
  refine wpAny_bind (wpAny_callSpecial?_slot (name := Str.ofString "__getitem__") ht.typeIs PyProof.Rows.slot_tuple_getitem (wpAny_call_entry PyProof.Rows.slot_tuple_getitem ht.typeIs entry_tuple_getitem ?_ (args_tuple_getitem _ _)))
  show wpAny _ _ (Builtin.Tuple.tupleItemsOf (.ref t) >>= _) _ _ s
  refine wpAny_bind (tupleItemsOf_ ht ?_)
  refine wpAny_bind (wpAny_typeOf hT ?_)
  rw [if_pos (by decide)]
  refine wpAny_bind (stepped hs pl pu ps h0 ?_)
  show wpAny _ _ (if (_ && st == 1 && _) = true then _ else _) _ _ s
  rw [if_neg (by
    have e : (st == 1) = false := by simpa using h1
    simp [e])]
  rw [ep]
  first
    | exact wpAny_bind (m := Builtin.Tuple.tupleExact _) (wpAny_newObj_type (wpAny_pure ⟨_, rfl, wpAny_pure h⟩) hk)
    | exact wpAny_bind (m := Builtin.Tuple.tupleExact _) (wpAny_newObj_type (wpAny_bind (wpAny_pure (wpAny_pure ⟨_, rfl, wpAny_pure h⟩))) hk)
    | exact wpAny_bind (wpAny_bind (m := Builtin.Tuple.tupleExact _) (wpAny_newObj_type (wpAny_pure (wpAny_pure ⟨_, rfl, wpAny_pure h⟩)) hk))
    | exact wpAny_bind (wpAny_bind (m := Builtin.Tuple.tupleExact _) (wpAny_newObj_type (wpAny_pure ⟨_, rfl, wpAny_pure h⟩) hk))
end
def tSlT3 (K : PySem.W.Frag) (te : TE) (tl th ts : TO) : TE := fun σ H Q => te σ H fun x H1 => tl σ H1 fun l H2 => th σ H2 fun u H3 => ts σ H3 fun st H4 => ∃ a xs k, x = .ref a ∧ SqT K H4 a xs ∧ st = some k ∧ k ≠ 0 ∧ k ≠ 1 ∧ (pickT xs l u k).length ≤ sizeLine ∧
  ∀ p, H4 p = none → Q (.ref p) (upd H4 p (.tup (pickT xs l u k)))
theorem pe_slT3 {X : Cx} {e : Expr} {te : TE} {lo hi st : Option Expr} {tl th ts : TO} {p2 pos : Pos} (he : PE X e te) (hl : PO X lo tl) (hh : PO X hi th) (hs : PO X st ts)
    (hsub : ∀ ov iv, subscripted (.Slice lo hi st p2) false ov iv = operate [ov, iv] (getItem ov iv) := by intro _ _; with_unfolding_all rfl) : PE X (.Subscript e (.Slice lo hi st p2) pos) (tSlT3 X.K te tl th ts) := by
  constructor
  intro pins s σ H Q I h
  refine PyProof.Rows.Subscript_ (thn (he.run pins s σ H _ I h) ?_)
  rintro v s1 ⟨x, H1, I1, r1, q1⟩
  refine wpAny_Slice (thn (hl.run pins s1 σ H1 _ I1 q1) ?_)
  rintro vl s2 ⟨l, H2, I2, pl, q2⟩
  refine thn (hh.run pins s2 σ H2 _ I2 q2) ?_
  rintro vu s3 ⟨u, H3, I3, pu, q3⟩
  refine thn (hs.run pins s3 σ H3 _ I3 q3) ?_
  rintro vs s4 ⟨c, H4, I4, ps, a, xs, k, ex, hx, ek, h0, h1, hz, q4⟩
  subst ex ek
  cases r1
  have I5 : Inv X pins σ H4 { s4 with heap := s4.heap.push { cls := .type "slice", data := .fields #[vl, vu, vs] } } := I4.kept (t' := s4.toks) fun b ob q => Heap.get?_push_of_some _ q
  obtain ⟨its, rv, ht, hz2⟩ := I5.tuple hx
  have hlen : its.length = xs.length := rv.length.symm
  have ei : ∀ ix : List Nat, ix.filterMap (its.toArray[·]?) = ix.filterMap (its[·]?) := fun ix => by simp only [List.getElem?_toArray]
  have vp := vals_pick rv (ixT xs.length l u k)
  show wpAny (model X.prog X.w) X.A (subscriptTail e (.Slice lo hi st p2) (.ref a) (.ref s4.heap.objs.size)) (EP X pins σ Q) X.xe _
  refine tail_any (ops := [.ref a, .ref s4.heap.objs.size]) ht.typeIs PyProof.Rows.slot_tuple_getitem.lookup ?_ (hsub _ _)
  refine getItem_step ht (Heap.IsSliceOf.new _ vl vu vs) pl pu ps h0 h1 ?_ ?_
  · rw [ei, List.size_toArray, hlen, ← vp.length]
    exact hz
  · rw [ei, show its.toArray.size = xs.length by rw [List.size_toArray, hlen]]
    refine ⟨.ref _, _, I5.laid (t' := s4.toks) (o := .tup (pickT xs l u k)) (fun b ob q => Heap.get?_push_of_some _ q) (Nat.le_refl _) ?_, rfl, q4 _ (I5.hok.fresh (Nat.le_refl _))⟩
    exact ⟨hz, _, vp, IsTup.new _ _⟩
end Rs

namespace Rs
open PySem PySem.Spec PyProof.Rows L2
/-- a def with keyword-only defaults -/
structure CalD (K : PySem.W.Frag) (mg : Str → Option Value) (x : Str) (st : Stmt) (kws : List (Str × V)) (f : Addr) (fd : FuncData) : Prop where
  F : FunD K x x (defArgs st) (defBody st) (defScope st) [] kws f fd
  m : mg x = some (.ref f)
def slR3 (K : PySem.W.Frag) (Q : VK) (x : V) (l u st : Option Int) (H : Hp) : Prop := ∃ a xs k, x = .ref a ∧ SqT K H a xs ∧ st = some k ∧ k ≠ 0 ∧ k ≠ 1 ∧ (pickT xs l u k).length ≤ sizeLine ∧ ∀ p, H p = none → Q (.ref p) (upd H p (.tup (pickT xs l u k)))
section
variable {σ : L2.St} {H H0 : Hp} {M : List Addr} {L L' : Led} {Q : VK} {v x y : V} {nx : L2.St → Hp → Prop} {rt : VK} {bk ct : L2.St → Hp → Prop} {t u : TS} {te ta tb tc : TE} {K : PySem.W.Frag} {a p : Addr}
theorem rd_sumT {xs : List V} {ns : List Int} (S : Hs H0 M H L) (m : (a, HO.tup xs) ∈ L) (e : xs = ns.map V.int) (h : Q (.int ns.sum) H) : rSumT K [.ref a] H Q := ⟨a, ns, rfl, by subst e; exact S.tup m, h⟩
theorem rd_cbk {r : List V → List V → Hp → VK → Prop} {t tk : TA} (h : t σ H fun vs H1 => tk σ H1 fun zs H2 => r vs zs H2 Q) : tCKw r t tk σ H Q := h
theorem rd_sumK {xs : List V} {ns : List Int} {k : Int} (S : Hs H0 M H L) (m : (a, HO.lst xs) ∈ L) (e : xs = ns.map V.int) (h : Q (.int (k + ns.sum)) H) : rSumK K [.ref a] [.int k] H Q := ⟨a, ns, k, rfl, rfl, by subst e; exact S.lst m, h⟩
theorem rd_maxDT {xs : List V} {ns : List Int} {k : Int} (S : Hs H0 M H L) (m : (a, HO.tup xs) ∈ L) (e : xs = ns.map V.int) (h : Q (.int (maxD k ns)) H) : rMaxDT K [.ref a] [.int k] H Q := ⟨a, ns, k, rfl, rfl, by subst e; exact S.tup m, h⟩
theorem rd_slT3 {tl th ts : TO} (h : te σ H fun x H1 => tl σ H1 fun l H2 => th σ H2 fun u H3 => ts σ H3 fun st H4 => slR3 K Q x l u st H4) : tSlT3 K te tl th ts σ H Q := h
theorem rd_slR3 {xs : List V} {ns : List Int} {l u : Option Int} {k : Int} (S : Hs H0 M H L) (m : (a, HO.tup xs) ∈ L) (e : xs = ns.map V.int) (h0 : k ≠ 0) (h1 : k ≠ 1) (hz : (pickI ns l u k).length ≤ sizeLine)
    (h : ∀ p H', H0 p = none → Hs H0 M H' ((p, .tup ((pickI ns l u k).map V.int)) :: L) → Q (.ref p) H') : slR3 K Q (.ref a) l u (some k) H := by
  subst e
  refine ⟨a, _, k, rfl, S.tup m, rfl, h0, h1, ?_, ?_⟩
  · rw [pickT_map, List.length_map]; exact hz
  · rw [pickT_map]; exact rd_newO S h
theorem rd_slTp {xs ys : List V} {lo hi : Option Int} (S : Hs H0 M H L) (m : (a, HO.tup xs) ∈ L) (w : ¬ (HT.sIx xs.length 0 lo = 0 ∧ HT.sIx xs.length xs.length hi = xs.length)) (e : cutV xs lo hi = ys) (h : ∀ p H', H0 p = none → Hs H0 M H' ((p, .tup ys) :: L) → Q (.ref p) H') : rSlT K (.ref a) lo hi H Q := by
  subst e
  exact ⟨a, xs, rfl, S.tup m, w, rd_newO S h⟩
theorem rd_repT {xs : List V} {k : Int} (S : Hs H0 M H L) (m : (a, HO.tup xs) ∈ L) (h0 : xs ≠ []) (h1 : 2 ≤ k) (h2 : k ≤ 1000) (h3 : xs.length ≤ 1000) (h : ∀ p H', H0 p = none → Hs H0 M H' ((p, .tup (List.replicate k.toNat xs).flatten) :: L) → Q (.ref p) H') : rRepT K (.ref a) (.int k) H Q :=
  ⟨a, k, xs, rfl, rfl, S.tup m, h0, h1, h2, h3, rd_newO S h⟩
theorem rd_catT {xs ys : List V} {b : Addr} (S : Hs H0 M H L) (m : (a, HO.tup xs) ∈ L) (m2 : (b, HO.tup ys) ∈ L) (h0 : xs ≠ []) (h1 : ys ≠ []) (hz : xs.length + ys.length ≤ sizeLine) (h : ∀ p H', H0 p = none → Hs H0 M H' ((p, .tup (xs ++ ys)) :: L) → Q (.ref p) H') : rCatT K (.ref a) (.ref b) H Q :=
  ⟨a, b, xs, ys, rfl, rfl, S.tup m, S.tup m2, h0, hz, fun z => absurd z h1, fun _ => rd_newO S h⟩
theorem rd_all {xs : List V} {bs : List Bool} (S : Hs H0 M H L) (m : (a, HO.lst xs) ∈ L) (e : xs = bs.map V.bl) (h : Q (.bl (bs.all id)) H) : rAll K [.ref a] H Q := ⟨a, bs, rfl, by subst e; exact S.lst m, h⟩
theorem rd_int1b {b : Bool} {R : Int → Prop} (h : R (if b then 1 else 0)) : (∃ i, [V.bl b] = [V.int i] ∧ R i) ∨ ∃ k, [V.bl b] = [.bl k] ∧ R (if k then 1 else 0) := Or.inr ⟨b, rfl, h⟩
end
theorem rd_yes {σ : L2.St} {H : Hp} {Q : Bool → Hp → Prop} (h : Q true H) : tYes σ H Q := h
theorem pick_le (ns : List Int) (lo : Option Int) (h : lo = none ∨ lo = some 1) : (pickI ns lo none 2).length ≤ ns.length := by
  unfold pickI
  refine Nat.le_trans (List.length_filterMap_le _ _) ?_
  unfold ixT
  rw [List.length_map, List.length_range]
  rcases h with rfl | rfl
  · simp [Builtin.Slice.sliceAdjust, Builtin.Slice.slicePlaces]
    split <;> omega
  · simp [Builtin.Slice.sliceAdjust, Builtin.Slice.slicePlaces]
    split <;> omega
theorem pick_mem {ns : List Int} {lo hi : Option Int} {k z : Int} (h : z ∈ pickI ns lo hi k) : z ∈ ns := by
  obtain ⟨i, _, hi⟩ := List.mem_filterMap.mp h
  exact List.mem_of_getElem? hi
end Rs

namespace Rs
open PySem PySem.Spec PyProof.Rows L2
section
variable {X : Cx} {CX : CXT} {k n : Nat} {f C : Addr} {fd : FuncData} {ps ks : List Str} {sp : Sp} {E : XK} {m : Str} {p pos apos : Pos} {o : Expr} {kws : List Keyword} {ta : TE} {tk : TA} {g : List Value → List Value → List Value} {gV : List V → List V → List V}
/-- o.m(k = v, ..) -/
def tMethK (C : Addr) (m : Str) (n : Nat) (sp : Sp) (gV : List V → List V → List V) (E : XK) (ta : TE) (tk : TA) : TE := fun σ H Q => ta σ H fun x H1 => ∃ a dx fs, x = .ref a ∧ H1 a = some (.ins C dx fs) ∧ fs.lookup m = none ∧ tk σ H1 fun zs H2 => zs.length = n ∧ sp (gV [x] zs) H2 Q E
theorem pe_methK {pl : Sem Bool} (he : PE X o ta) (c : Cls X.K C) (hm : Meth X.K C m f) (F : FnOk X.prog X.w X.K X.mg X.base CX k f fd ps sp) (hr : Room k X.A) (hb : KBn X.K fd ps 1 ks g gV) (hx : Passes CX X E) (hkw : PK X kws tk)
    (hall : (backToKw pos (keywordEach kws X.env)).all (·.1.isSome) = true := by rfl) (hks : (backToKw pos (keywordEach kws X.env)).filterMap (·.1) = ks := by rfl)
    (ht : eval (.Call (.Attribute o m apos) [] kws pos) X.env = (do
      let ov ← eval o X.env
      standAt apos.atName
      let (f, first) ← holding [ov] (getMethod ov m pl)
      callWith pos f first (backTo pos (starEach [] X.env)) (backToKw pos (keywordEach kws X.env))) := by rfl) :
    PE X (.Call (.Attribute o m apos) [] kws pos) (tMethK C m ks.length sp gV E ta tk) := by
  constructor
  intro pins s σ H Q I h
  refine PySem.W.methodCall_KW (pl := pl) (thn (he.run pins s σ H _ I h) ?_) ht
  rintro u s1 ⟨x, H1, I1, rx, a, dx, fs, ex, ea, l, q⟩
  subst ex
  obtain rfl : u = Value.ref a := rx
  refine getmeth_ok I1 ea c hm l ?_
  have np : ((backTo pos (starEach [] X.env)).any (·.1) || (backToKw pos (keywordEach kws X.env)).any (·.1.isNone)) = false := by
    have z : ∀ l : List (Option Str × Sem Value), l.all (·.1.isSome) = true → l.any (·.1.isNone) = false := by
      intro l hl
      induction l with
      | nil => rfl
      | cons q l ih =>
        simp only [List.all_cons, Bool.and_eq_true] at hl
        simp only [List.any_cons, ih hl.2, Bool.or_false]
        cases e : q.1 with
        | none => rw [e] at hl; exact absurd hl.1 (by decide)
        | some _ => rfl
    rw [z _ hall]; rfl
  refine PySem.W.callWith_KW0 (first := [.ref a]) (h₀ := X.base) I1.ok.mod.kin hm.kp hall ?_ np
  refine thn (hkw.run pos pins s1 σ H1 _ I1 q) ?_
  rintro ws s2 ⟨zs, H2, I2, rz, l2, q2⟩
  refine ⟨I2.kIn, ?_⟩
  rw [hks]
  exact run_fnN (us := [.ref a]) (vs := [.ref a]) F hr hb hx I2 (.cons rfl .nil) rz rfl l2 q2
/-- a def called by a builtin -/
theorem run_in {A : Around} {pins : List (Addr × Obj)} {σ : L2.St} {H : Hp} {s : Shared} {Q : VK} {a : Addr} (F : FnOk X.prog X.w X.K X.mg X.base CX k f fd ["self"] sp) (hr : Room k A) (e0 : Env0 X.prog X.w X.K X.mg X.base A X.stack s H) (hb : Binds X.K fd ["self"] []) (hx : Passes CX X E)
    (I : Inv X pins σ H s) (h : sp [.ref a] H Q E) : wpAny (model X.prog X.w) A (call (.ref f) [.ref a]) (EP X pins σ Q) X.xe s := by
  refine wpAny_call (codeAny_mono (F.run A X.stack s H ⟨[.ref a], []⟩ [.ref a] [.ref a] Q E hr e0 (hb s [.ref a] I.kIn rfl) (.cons rfl .nil) h) fun r s' hq => ?_)
  cases r with
  | error e => exact hx pins σ H s e s' I hq
  | ok fl =>
    cases fl with
    | ret u => exact I.after hq
    | next => exact False.elim hq
    | brk => exact False.elim hq
    | cont => exact False.elim hq
def rLenO (C : Addr) (sp : Sp) (E : XK) : List V → Hp → VK → Prop := fun xs H Q => ∃ a dx fs, xs = [V.ref a] ∧ H a = some (.ins C dx fs) ∧ sp [.ref a] H (fun z H' => ∃ n : Int, z = .int n ∧ 0 ≤ n ∧ n < 2 ^ 63 ∧ Q (.int n) H') E
theorem call_lenO (hs : PySem.W.findIn X.K (.ref C) "__len__" = some (some (.ref f))) (hf : PySem.W.isFn X.K (.ref f) = true) (F : FnOk X.prog X.w X.K X.mg X.base CX k f fd ["self"] sp) (hr : Room (k + 1) X.A) (hb : Binds X.K fd ["self"] []) (hx : Passes CX X E) : CallR X (.builtin "len") (rLenO C sp E) := by
  intro pins s σ H xs us Q I r h
  obtain ⟨a, dx, fs, rfl, ha, q⟩ := h
  rw [Vals.ref1 r]
  obtain ⟨mA, O, _, _, _, _⟩ := ins_get I.hok ha
  obtain ⟨od, J, _⟩ := O.look
  obtain ⟨m, fr⟩ := I.fr
  refine PySem.W.len_K fr I.ok.mod.kin J hs hf (wpAny_mono (run_in F hr.in1 I.env0.in1 hb hx I q) (fun w s' z => ?_) fun _ _ x => x)
  obtain ⟨z', H', I', rz, n, e, h0, h1, qz⟩ := z
  subst e
  obtain ⟨t, rfl⟩ := rz
  exact ⟨⟨h0, h1⟩, .int n, H', I'.tok _, ⟨_, rfl⟩, qz⟩
def rReprO (C : Addr) (sp : Sp) (E : XK) : List V → Hp → VK → Prop := fun xs H Q => ∃ a dx fs, xs = [V.ref a] ∧ H a = some (.ins C dx fs) ∧ sp [.ref a] H (fun z H' => ∃ x : Str, z = .str x ∧ Q (.str x) H') E
theorem call_reprO (hs : PySem.W.findIn X.K (.ref C) "__repr__" = some (some (.ref f))) (hf : PySem.W.isFn X.K (.ref f) = true) (F : FnOk X.prog X.w X.K X.mg X.base CX k f fd ["self"] sp) (hr : Room (k + 1) X.A) (hb : Binds X.K fd ["self"] []) (hx : Passes CX X E) : CallR X (.builtin "repr") (rReprO C sp E) := by
  intro pins s σ H xs us Q I r h
  obtain ⟨a, dx, fs, rfl, ha, q⟩ := h
  rw [Vals.ref1 r]
  obtain ⟨mA, O, _, _, _, _⟩ := ins_get I.hok ha
  obtain ⟨od, J, _⟩ := O.look
  obtain ⟨m, fr⟩ := I.fr
  have hu : X.A.in1.units < cLine := Nat.lt_of_le_of_lt (Nat.le_add_right _ _) hr.in1.units
  refine PySem.W.repr_K hu fr I.ok.mod.kin J hs hf (wpAny_mono (run_in F hr.in1 I.env0.in1 hb hx I q) (fun w s' z => ?_) fun _ _ x => x)
  obtain ⟨z', H', I', rz, x, e, qz⟩ := z
  subst e
  obtain ⟨t, rfl⟩ := rz
  exact ⟨.str x, H', I', ⟨_, rfl⟩, qz⟩
end
end Rs

namespace Rs
open PySem PySem.Spec PyProof.Rows L2
section
variable {H0 H H' : Hp} {M : List Addr} {L L1 L2 L' N : Led} {a p : Addr} {o o' u u' : HO} {K : PySem.W.Frag} {Q : VK}
/-- two objects were changed, those of N are new -/
theorem Hs.twoN (S : Hs H0 M H L) (c1 : Chg a o o' L L1) (c2 : Chg p u u' L1 L2) (ha : H0 a = none ∨ a ∈ M) (hp : H0 p = none ∨ p ∈ M) (ne : a ≠ p) (k : ∀ b w, H b = some w → b ≠ a → b ≠ p → H' b = some w) (e1 : H' a = some o') (e2 : H' p = some u') (n : NewL H H' N) :
    (∀ q ∈ N, H0 q.1 = none) ∧ Hs H0 M H' (N ++ L2) := by
  have S1 := S.put c1 ha
  have S2 := S1.put c2 hp
  have h1 : H a = some o := S.is _ c1.mem
  have h2 : H p ≠ none := by
    have := S1.is _ c2.mem
    rw [upd_ne (Ne.symm ne)] at this
    rw [this]; simp
  refine S2.moreN (fun b w e => ?_) ⟨n.nd, fun q hq => ?_, n.is⟩
  · by_cases hb : b = p
    · subst hb; rw [upd_same] at e; cases e; exact e2
    · rw [upd_ne hb] at e
      by_cases hb2 : b = a
      · subst hb2; rw [upd_same] at e; cases e; exact e1
      · rw [upd_ne hb2] at e
        exact k b w e hb2 hb
  · have z := n.nw q hq
    rw [upd_ne (fun y => h2 (by rw [← y]; exact z)), upd_ne (fun y => by rw [y, h1] at z; cases z)]
    exact z
theorem rd_popAt {xs xs' : List V} {i : Nat} {y : V} (S : Hs H0 M H L) (c : Chg a (.lst xs) (.lst xs') L L') (hm : H0 a = none ∨ a ∈ M) (hk : xs[i]? = some y) (hz : i < 2 ^ 40) (e : xs.eraseIdx i = xs') (h : ∀ H', Hs H0 M H' L' → Q y H') : rPopAt (.ref a) [.int i] H Q := by
  subst e
  have hl : i < xs.length := (List.getElem?_eq_some_iff.mp hk).1
  refine ⟨a, xs, i, i, y, rfl, rfl, S.is _ c.mem, by omega, by omega, ?_, hk, h _ (S.put c hm)⟩
  unfold seqIndex?
  simp
  omega
theorem rd_pop {xs xs' : List V} {y : V} (S : Hs H0 M H L) (c : Chg a (.lst xs) (.lst xs') L L') (hm : H0 a = none ∨ a ∈ M) (e : xs = xs' ++ [y]) (h : ∀ H', Hs H0 M H' L' → Q y H') : rPop (.ref a) [] H Q := by
  subst e
  refine ⟨a, _, y, rfl, rfl, S.is _ c.mem, by simp, ?_⟩
  have e2 : (xs' ++ [y]).dropLast = xs' := by simp
  rw [e2]
  exact h _ (S.put c hm)
theorem rd_clear {xs : List V} (S : Hs H0 M H L) (c : Chg a (.lst xs) (.lst []) L L') (hm : H0 a = none ∨ a ∈ M) (h : ∀ H', Hs H0 M H' L' → Q .non H') : rClear (.ref a) [] H Q := ⟨a, xs, rfl, rfl, S.is _ c.mem, h _ (S.put c hm)⟩
/-- a list of refs of tuples of whole numbers, just these -/
structure TL (rs : List V) (T : Led) (ts : List (List Int)) : Prop where
  rs : rs = T.map fun q => .ref q.1
  ts : T.map (·.2) = ts.map fun t => HO.tup (t.map V.int)
theorem TL.nil : TL [] [] [] := ⟨rfl, rfl⟩
theorem TL.snoc {rs : List V} {T : Led} {ts : List (List Int)} (h : TL rs T ts) (q : Addr) (t : List Int) : TL (rs ++ [V.ref q]) (T ++ [(q, .tup (t.map V.int))]) (ts ++ [t]) := ⟨by simp [h.rs], by simp [h.ts]⟩
theorem TL.len {rs : List V} {T : Led} {ts : List (List Int)} (h : TL rs T ts) : rs.length = ts.length := by
  have := congrArg List.length h.ts
  rw [h.rs]
  simpa using this
def dT (ts : List (List Int)) : PyData := .list (ts.map fun t => .tuple (t.map .int))
theorem dpTL : ∀ {T : Led} {ts : List (List Int)}, T.map (·.2) = (ts.map fun t => HO.tup (t.map V.int)) → (∀ q ∈ T, H q.1 = some q.2) → DpAll K H (T.map fun q => .ref q.1) (ts.map fun t => .tuple (t.map .int))
  | [], [], _, _ => .nil
  | [], t :: ts, h, _ => by simp at h
  | q :: T, [], h, _ => by simp at h
  | q :: T, t :: ts, h, is => by
    simp only [List.map_cons, List.cons.injEq] at h
    have hi := is q List.mem_cons_self
    rw [h.1] at hi
    exact .cons (.tup (SqT.of hi) (dps_ints t)) (dpTL h.2 fun z hz => is z (List.mem_cons_of_mem _ hz))
theorem dp_TL {rs : List V} {T : Led} {ts : List (List Int)} (h : TL rs T ts) (S : Hs H0 M H L) (m : (a, HO.lst rs) ∈ L) (sub : ∀ q ∈ T, q ∈ L) : Dp K H (.ref a) (dT ts) := by
  refine .lst (S.lst m) ?_
  rw [h.rs]
  exact dpTL h.ts fun q hq => S.is q (sub q hq)
theorem tame_T : ∀ {ts : List (List Int)}, (∀ t ∈ ts, ∀ n ∈ t, n.natAbs < 10 ^ 12) → tames (ts.map fun t => .tuple (t.map .int)) = true
  | [], _ => by simp [tames]
  | t :: ts, h => by
    have h1 := tames_ints t (h t List.mem_cons_self)
    have h2 := tame_T (ts := ts) fun z hz => h z (List.mem_cons_of_mem _ hz)
    simp only [List.map_cons, tames, tame, h1, h2, Bool.and_self]
theorem cnt_T : ∀ {ts : List (List Int)}, (∀ t ∈ ts, t.length ≤ 10) → cnts (ts.map fun t => .tuple (t.map .int)) ≤ 11 * ts.length
  | [], _ => by simp [cnts]
  | t :: ts, h => by
    have h1 := h t List.mem_cons_self
    have h2 := cnt_T (ts := ts) fun z hz => h z (List.mem_cons_of_mem _ hz)
    simp only [List.map_cons, cnts, cnt, cnts_ints, List.length_cons]
    omega
theorem shw_T {ts : List (List Int)} (h : ∀ t ∈ ts, t.length ≤ 10 ∧ ∀ n ∈ t, n.natAbs < 10 ^ 12) (hl : ts.length ≤ 1000) : Shw (dT ts) := by
  refine shw_of ?_ ?_
  · simp [dT, tame, tame_T fun t ht => (h t ht).2]
  · have := cnt_T fun t ht => (h t ht).1
    simp only [dT, cnt]
    omega
theorem depth_T (ts : List (List Int)) : (dT ts).depth ≤ 2 := by
  obtain ⟨_, b⟩ := lay_T ts
  simp only [dT, PyData.depth]
  omega
theorem rd_reprT {rs : List V} {T : Led} {ts : List (List Int)} (h : TL rs T ts) (S : Hs H0 M H L) (m : (a, HO.lst rs) ∈ L) (sub : ∀ q ∈ T, q ∈ L) (hb : ∀ t ∈ ts, t.length ≤ 10 ∧ ∀ n ∈ t, n.natAbs < 10 ^ 12) (hl : ts.length ≤ 1000) (k : Q (.str (dT ts).shown) H) : rRepr K [.ref a] H Q :=
  ⟨.ref a, dT ts, rfl, dp_TL h S m sub, shw_T hb hl, Nat.le_trans (depth_T ts) (by decide), k⟩
end
end Rs

namespace Rs
open PySem PySem.Spec PyProof.Rows L2
section
variable {H : Hp} {σ : L2.St} {ts : List TE} {te : TE} {acc : Str} {J : Str → Hp → Prop}
theorem len_app (x y : Str) : (x ++ y).length = x.length + y.length := by
  rw [TL.len_tl, TL.len_tl, TL.len_tl, TL.tl_append, List.length_append]
theorem len_num {n : Int} (h0 : 0 ≤ n) (h : n < 10 ^ 12) : (((toString n : String)) : Str).length ≤ 12 := by
  obtain ⟨k, rfl⟩ : ∃ k : Nat, n = k := ⟨n.toNat, by omega⟩
  have e := TL.tl_num k
  show (Str.ofString (toString (k : Int))).length ≤ 12
  rw [TL.len_tl, e]
  exact TL.numL_len (by decide) (by omega)
theorem rd_jsS {y : Str} (hz : acc.length ≤ 1000) (hy : y.length ≤ 1000) (h : tJs ts (acc ++ y) σ H J) : tJs (tC (.str y) :: ts) acc σ H J := ⟨y, rfl, by rw [len_app]; exact sz (by omega), h⟩
def kF (ts : List TE) (acc : Str) (σ : L2.St) (J : Str → Hp → Prop) : VK := fun x H1 => (∃ y : Str, x = .str y ∧ y.length ≤ sizeLine ∧ ∃ z : Str, V.str y = .str z ∧ (acc ++ z).length ≤ sizeLine ∧ tJs ts (acc ++ z) σ H1 J) ∨
  ∃ i : Int, x = .int i ∧ i.natAbs.log2 < 1920 ∧ ∃ z : Str, V.str (toString i) = .str z ∧ (acc ++ z).length ≤ sizeLine ∧ tJs ts (acc ++ z) σ H1 J
theorem rd_jsF (h : te σ H (kF ts acc σ J)) : tJs (tFmt te :: ts) acc σ H J := h
theorem rd_kFI {n : Int} (h0 : 0 ≤ n) (h1 : n < 10 ^ 12) (hz : acc.length ≤ 1000) (h : tJs ts (acc ++ toString n) σ H J) : kF ts acc σ J (.int n) H := by
  refine Or.inr ⟨n, rfl, ?_, toString n, rfl, ?_, h⟩
  · by_cases e : n.natAbs = 0
    · rw [e]; decide
    · exact (Nat.log2_lt e).2 (Nat.lt_of_lt_of_le (show n.natAbs < 2 ^ 40 by omega) (Nat.pow_le_pow_right (by omega) (by omega)))
  · have := len_num h0 h1
    rw [len_app]
    exact sz (by omega)
theorem rd_jsN (h : J acc H) : tJs [] acc σ H J := h
end
end Rs

namespace Rs
open PySem PySem.Spec PyProof.Rows L2
section
variable {X : Cx}
theorem ix_tupK {K : PySem.W.Frag} (h : X.K = K) : IxR X (rIxT K) := by subst h; exact ix_tup
end
end Rs

namespace Rs
open PySem PySem.Spec PyProof.Rows L2
/-! ### promises by ledgers -/
section
variable {H0 H H' : Hp} {M C : List Addr} {L L' LL F : Led}
/-- what is known behind a call: C the objects that may have changed, L what was known of, L' what is known now -/
theorem Hs.frame (S : Hs H0 M H (L ++ F)) (S' : Hs H C H' L') (hC : ∀ c ∈ C, c ∈ L.map (·.1) ∧ (H0 c = none ∨ c ∈ M)) (hk : ∀ q ∈ L', q.1 ∈ L.map (·.1) ∨ H q.1 = none) : Hs H0 M H' (L' ++ F) := by
  have nd := S.nd
  rw [List.map_append, List.nodup_append] at nd
  obtain ⟨_, nF, dis⟩ := nd
  refine ⟨?_, ?_, ?_, ?_⟩
  · rw [List.map_append, List.nodup_append]
    refine ⟨S'.nd, nF, ?_⟩
    intro x hx y hy e
    subst e
    obtain ⟨q, hq, rfl⟩ := List.mem_map.mp hx
    rcases hk q hq with h | h
    · exact dis _ h _ hy rfl
    · obtain ⟨r, hr, e⟩ := List.mem_map.mp hy
      have := S.is r (List.mem_append_right _ hr)
      rw [e, h] at this
      cases this
  · intro q hq
    rcases List.mem_append.mp hq with h | h
    · exact S'.is q h
    · refine S'.old _ _ (S.is q (List.mem_append_right _ h)) fun hc => ?_
      exact dis _ (hC _ hc).1 _ (List.mem_map_of_mem (f := (·.1)) h) rfl
  · intro b o e hb
    refine S'.old _ _ (S.old b o e hb) fun hc => ?_
    rcases (hC _ hc).2 with z | z
    · rw [z] at e; cases e
    · exact hb z
  · intro b hb
    by_cases hc : b ∈ C
    · exact S'.mu b hc
    · cases e : H b with
      | none => exact absurd e (S.mu b hb)
      | some u => rw [S'.old b u e hc]; simp
theorem Hs.none0 (S : Hs H0 M H L) {a : Addr} (h : H a = none) : H0 a = none := (S.new h (.lst [])).1
end
end Rs
namespace Rs
open PySem PySem.Spec PyProof.Rows L2
abbrev SepR := List V → List Addr → Led → (V → Led → Prop) → Prop
/-- R: the arguments, the objects that may change, what is known ahead, what is promised -/
def Sep (R : SepR) : Sp := fun vs H Q _ => ∃ C L post, R vs C L post ∧ (L.map (·.1)).Nodup ∧ (∀ q ∈ L, H q.1 = some q.2) ∧ (∀ c ∈ C, c ∈ L.map (·.1)) ∧
  ∀ v H' L', post v L' → Hs H C H' L' → (∀ q ∈ L', q.1 ∈ L.map (·.1) ∨ H q.1 = none) → Q v H'
theorem Sep.led {H : Hp} {C : List Addr} {L : Led} (nd : (L.map (·.1)).Nodup) (is : ∀ q ∈ L, H q.1 = some q.2) (hC : ∀ c ∈ C, c ∈ L.map (·.1)) : Hs H C H L := by
  refine Hs.start H C L nd is fun b hb => ?_
  obtain ⟨q, hq, e⟩ := List.mem_map.mp (hC b hb)
  rw [← e, is q hq]; simp
/-- one entry taken out -/
inductive Pick (q : Addr × HO) : Led → Led → Prop where
  | here {L : Led} : Pick q (q :: L) L
  | there {r : Addr × HO} {L L' : Led} : Pick q L L' → Pick q (r :: L) (r :: L')
  | app {N L L' : Led} : Pick q L L' → Pick q (N ++ L) (N ++ L')
theorem Pick.perm {q : Addr × HO} {L L' : Led} (h : Pick q L L') : L.Perm (q :: L') := by
  induction h with
  | here => exact .refl _
  | there _ ih => exact (List.Perm.cons _ ih).trans (.swap _ _ _)
  | app _ ih => exact (List.Perm.append_left _ ih).trans List.perm_middle
/-- several taken out -/
inductive Sel : Led → Led → Led → Prop where
  | nil {L : Led} : Sel [] L L
  | cons {q : Addr × HO} {K L L' F : Led} : Pick q L L' → Sel K L' F → Sel (q :: K) L F
theorem Sel.perm {K L F : Led} (h : Sel K L F) : L.Perm (K ++ F) := by
  induction h with
  | nil => exact .refl _
  | cons p _ ih => exact p.perm.trans (.cons _ ih)
section
variable {H0 H H' : Hp} {M C : List Addr} {L L' LL F : Led} {R : SepR} {vs : List V} {post : V → Led → Prop} {Q : VK} {E : XK}
theorem sep_use (S : Hs H0 M H LL) (r : R vs C L post) (pm : LL.Perm (L ++ F)) (hC : ∀ c ∈ C, c ∈ L.map (·.1) ∧ (H0 c = none ∨ c ∈ M))
    (h : ∀ v H' L', post v L' → (∀ q ∈ L', q.1 ∈ L.map (·.1) ∨ H0 q.1 = none) → Hs H0 M H' (L' ++ F) → Q v H') : Sep R vs H Q E := by
  have S1 := S.perm pm.symm
  refine ⟨C, L, post, r, ?_, fun q hq => S1.is q (List.mem_append_left _ hq), fun c hc => (hC c hc).1, fun v H' L' p S' hk => ?_⟩
  · have := S1.nd
    rw [List.map_append, List.nodup_append] at this
    exact this.1
  · refine h v H' L' p (fun q hq => ?_) (S1.frame S' hC hk)
    rcases hk q hq with z | z
    · exact Or.inl z
    · exact Or.inr (S.none0 z)
/-- what is said of own objects, told of those of a ledger -/
theorem own_of {K : Led} (h : ∀ q ∈ L', q.1 ∈ L.map (·.1) ∨ H0 q.1 = none) (hL : ∀ q ∈ L, H0 q.1 = none ∨ q.1 ∈ M) : ∀ q ∈ L', H0 q.1 = none ∨ q.1 ∈ M := fun q hq => by
  rcases h q hq with z | z
  · obtain ⟨r, hr, e⟩ := List.mem_map.mp z
    rw [← e]; exact hL r hr
  · exact Or.inl z
end
end Rs
namespace Rs
open PySem PySem.Spec PyProof.Rows L2
/-! ### ledgers put in another order, by counting -/
open Classical in
noncomputable def one (a b : Addr × HO) : Nat := if b = a then 1 else 0
noncomputable def cn (a : Addr × HO) : Led → Nat
  | [] => 0
  | b :: L => one a b + cn a L
theorem cn_nil (a : Addr × HO) : cn a [] = 0 := rfl
theorem cn_cons (a b : Addr × HO) (L : Led) : cn a (b :: L) = one a b + cn a L := rfl
theorem cn_app (a : Addr × HO) : ∀ L L' : Led, cn a (L ++ L') = cn a L + cn a L'
  | [], L' => by simp [cn]
  | b :: L, L' => by rw [List.cons_append, cn_cons, cn_cons, cn_app a L L']; omega
theorem one_self (a : Addr × HO) : one a a = 1 := by simp [one]
theorem one_ne {a b : Addr × HO} (h : b ≠ a) : one a b = 0 := by simp [one, h]
theorem cn_pos {a : Addr × HO} : ∀ {L : Led}, 0 < cn a L ↔ a ∈ L
  | [] => by simp [cn]
  | b :: L => by
    rw [cn_cons]
    by_cases h : b = a
    · subst h; rw [one_self]; simp; omega
    · rw [one_ne h]
      have := cn_pos (a := a) (L := L)
      simp [Ne.symm h, this]
theorem cn_le {L : Led} (h : (L.map (·.1)).Nodup) (a : Addr × HO) : cn a L ≤ 1 := by
  induction L with
  | nil => simp [cn]
  | cons b L ih =>
    rw [List.map_cons, List.nodup_cons] at h
    rw [cn_cons]
    by_cases e : b = a
    · subst e
      rw [one_self]
      have : cn b L = 0 := by
        by_cases z : 0 < cn b L
        · exact absurd (List.mem_map_of_mem (f := (·.1)) (cn_pos.mp z)) h.1
        · omega
      omega
    · rw [one_ne e]; have := ih h.2; omega
theorem nodup_re {L L' : Led} (h : (L.map (·.1)).Nodup) (c : ∀ a, cn a L' ≤ cn a L) : (L'.map (·.1)).Nodup := by
  have sub : ∀ q ∈ L', q ∈ L := fun q hq => cn_pos.mp (Nat.lt_of_lt_of_le (cn_pos.mpr hq) (c q))
  have c1 : ∀ a, cn a L' ≤ 1 := fun a => Nat.le_trans (c a) (cn_le h a)
  have inj : ∀ {L : Led}, (L.map (·.1)).Nodup → ∀ q ∈ L, ∀ r ∈ L, q.1 = r.1 → q = r := by
    intro L
    induction L with
    | nil => intro _ q hq; cases hq
    | cons b L ih =>
      intro h q hq r hr e
      rw [List.map_cons, List.nodup_cons] at h
      rcases List.mem_cons.mp hq with rfl | hq'
      · rcases List.mem_cons.mp hr with rfl | hr'
        · rfl
        · exact absurd (by rw [e]; exact List.mem_map_of_mem (f := (·.1)) hr') h.1
      · rcases List.mem_cons.mp hr with rfl | hr'
        · exact absurd (by rw [← e]; exact List.mem_map_of_mem (f := (·.1)) hq') h.1
        · exact ih h.2 q hq' r hr' e
  clear c
  induction L' with
  | nil => simp
  | cons b L' ih =>
    rw [List.map_cons, List.nodup_cons]
    refine ⟨fun hm => ?_, ih (fun q hq => sub q (List.mem_cons_of_mem _ hq)) fun a => ?_⟩
    · obtain ⟨r, hr, e⟩ := List.mem_map.mp hm
      have := inj h _ (sub r (List.mem_cons_of_mem _ hr)) _ (sub b List.mem_cons_self) e
      subst this
      have z := c1 r
      rw [cn_cons, one_self] at z
      have := cn_pos.mpr hr
      omega
    · have := c1 a; rw [cn_cons] at this; omega
theorem Hs.re {H0 H : Hp} {M : List Addr} {L L' : Led} (S : Hs H0 M H L) (c : ∀ a, cn a L' ≤ cn a L) : Hs H0 M H L' :=
  ⟨nodup_re S.nd c, fun q hq => S.is q (cn_pos.mp (Nat.lt_of_lt_of_le (cn_pos.mpr hq) (c q))), S.old, S.mu⟩
section
variable {H0 H H' : Hp} {M C : List Addr} {L L' LL F : Led} {R : SepR} {vs : List V} {post : V → Led → Prop} {Q : VK} {E : XK}
theorem sep_use' (S : Hs H0 M H LL) (r : R vs C L post) (pm : ∀ a, cn a (L ++ F) ≤ cn a LL) (hC : ∀ c ∈ C, c ∈ L.map (·.1) ∧ (H0 c = none ∨ c ∈ M))
    (h : ∀ v H' L', post v L' → (∀ q ∈ L', q.1 ∈ L.map (·.1) ∨ H0 q.1 = none) → Hs H0 M H' (L' ++ F) → Q v H') : Sep R vs H Q E :=
  sep_use (S.re pm) r (.refl _) hC h
end
end Rs
namespace Rs
open PySem PySem.Spec PyProof.Rows L2
theorem Chg.app {a : Addr} {o o' : HO} {L L' : Led} (h : Chg a o o' L L') : ∀ N : Led, Chg a o o' (N ++ L) (N ++ L')
  | [] => h
  | _ :: N => .there (h.app N)
theorem Chg.appR {a : Addr} {o o' : HO} {L L' N : Led} (h : Chg a o o' L L') : Chg a o o' (N ++ L) (N ++ L') := h.app N
theorem Chg.appL {a : Addr} {o o' : HO} {L L' N : Led} (h : Chg a o o' L L') : Chg a o o' (L ++ N) (L' ++ N) := by
  induction h with
  | here => exact .here
  | there _ ih => exact .there ih
end Rs

namespace Rs
open PySem PySem.Spec PyProof.Rows L2
section
variable {σ : L2.St} {H H0 : Hp} {M : List Addr} {L L' : Led} {Q : VK} {v x y : V} {nx : L2.St → Hp → Prop} {rt : VK} {bk ct : L2.St → Hp → Prop} {ta : TA} {g : TG} {tw : TS} {K : PySem.W.Frag}
def enI (K : PySem.W.Frag) (R : It → Hp → Prop) (vs : List V) (H : Hp) : Prop := ∃ a xs, vs = [V.ref a] ∧ SqL K H a xs ∧ R (Ite K a) H
theorem rd_enum {R : It → Hp → Prop} (h : ta σ H fun vs H1 => enI K R vs H1) : iEnum K ta σ H R := h
theorem rd_enI {R : It → Hp → Prop} {a : Addr} {xs : List V} (S : Hs H0 M H L) (m : (a, HO.lst xs) ∈ L) (h : R (Ite K a) H) : enI K R [.ref a] H := ⟨a, xs, rfl, S.lst m, h⟩
/-- over enumerate of a list that stays as it is -/
theorem fw_enum {a : Addr} {xs : List V} (Pv : Nat → L2.St → Hp → Prop) (h0 : Pv 0 σ H) (hl : ∀ i σ H, i ≤ xs.length → Pv i σ H → SqL K H a xs)
    (hs : ∀ i x σ H T, xs[i]? = some x → Pv i σ H → H T = none → g (.ref T) σ (upd H T (.tup [.int (i : Nat), x])) fun σ2 H2 => tw ⟨Pv (i + 1), rt, nx, Pv (i + 1)⟩ σ2 H2) (hd : ∀ σ H, Pv xs.length σ H → nx σ H) : forW (Ite K a) g tw ⟨nx, rt, bk, ct⟩ σ H := by
  refine for_it walk_enum Pv h0 hl ?_ hd
  rintro i x σ H H' hi hp ⟨T, y, z, rfl, hT, rfl, e1, e2⟩
  cases e1
  exact hs i z σ H T e2 hp hT
/-- an own new object, as the rules hand it -/
theorem Hs.newAt (S : Hs H0 M H L) {p : Addr} {o : HO} (hp : H p = none) : H0 p = none ∧ Hs H0 M (upd H p o) ((p, o) :: L) := S.new hp o
theorem rd_methK {C : Addr} {m : Str} {n : Nat} {sp : Sp} {gV : List V → List V → List V} {E : XK} {te : TE} {tk : TA} (h : te σ H fun x H1 => ∃ a dx fs, x = .ref a ∧ H1 a = some (.ins C dx fs) ∧ fs.lookup m = none ∧ tk σ H1 fun zs H2 => zs.length = n ∧ sp (gV [x] zs) H2 Q E) : tMethK C m n sp gV E te tk σ H Q := h
end
end Rs

namespace Rs
open PySem PySem.Spec PyProof.Rows L2
abbrev SepM := List V → List Addr → Led → (V → Led → Led → Prop) → Prop
/-- a promise by ledgers; the new objects told apart -/
def SepN (R : SepM) : Sp := fun vs H Q _ => ∃ C L post, R vs C L post ∧ (L.map (·.1)).Nodup ∧ (∀ q ∈ L, H q.1 = some q.2) ∧ (∀ c ∈ C, c ∈ L.map (·.1)) ∧
  ∀ v H' N L', post v N L' → Hs H C H' (N ++ L') → (∀ q ∈ L', q.1 ∈ L.map (·.1)) → (∀ q ∈ N, H q.1 = none) → Q v H'
section
variable {H0 H H' : Hp} {M C : List Addr} {L L' LL F : Led} {R : SepM} {vs : List V} {post : V → Led → Led → Prop} {Q : VK} {E : XK}
theorem sepn_use (S : Hs H0 M H LL) (r : R vs C L post) (pm : ∀ a, cn a (L ++ F) ≤ cn a LL) (hC : ∀ c ∈ C, c ∈ L.map (·.1) ∧ (H0 c = none ∨ c ∈ M))
    (h : ∀ v H' N L', post v N L' → (∀ q ∈ N, H0 q.1 = none) → Hs H0 M H' (N ++ (L' ++ F)) → Q v H') : SepN R vs H Q E := by
  have S1 := S.re pm
  refine ⟨C, L, post, r, ?_, fun q hq => S1.is q (List.mem_append_left _ hq), fun c hc => (hC c hc).1, fun v H' N L' p S' h1 h2 => ?_⟩
  · have := S1.nd
    rw [List.map_append, List.nodup_append] at this
    exact this.1
  · refine h v H' N L' p (fun q hq => S.none0 (h2 q hq)) ?_
    rw [← List.append_assoc]
    refine S1.frame S' hC fun q hq => ?_
    rcases List.mem_append.mp hq with z | z
    · exact Or.inr (h2 q z)
    · exact Or.inl (h1 q z)
end
end Rs

namespace Rs
open PySem PySem.Spec PyProof.Rows L2
section
variable {H H0 : Hp} {M : List Addr} {L L' : Led} {Q : VK} {a : Addr}
theorem rd_rev {xs : List V} (S : Hs H0 M H L) (c : Chg a (.lst xs) (.lst xs.reverse) L L') (hm : H0 a = none ∨ a ∈ M) (h : ∀ H', Hs H0 M H' L' → Q .non H') : rReverse (.ref a) [] H Q := ⟨a, xs, rfl, rfl, S.is _ c.mem, h _ (S.put c hm)⟩
end
end Rs
namespace Rs
open PySem PySem.Spec PyProof.Rows L2
theorem at_nat {ns : List Int} {i : Nat} (h : i < ns.length) : atI (ns.map V.int) (i : Int) = some (.int (ns.getD i 0)) := by
  have e : ixN (ns.map V.int).length (i : Int) = some i := by
    unfold ixN
    rw [if_pos (by omega)]
    simp [h]
  unfold atI
  rw [e]
  show (ns.map V.int)[i]? = _
  rw [List.getElem?_map, List.getD_eq_getElem?_getD, List.getElem?_eq_getElem h]
  rfl
end Rs

local macro_rules | `(tactic| walk_at "mem") => `(tactic| repeat (with_reducible first | exact List.mem_cons_self | apply List.mem_cons_of_mem))
local macro_rules | `(tactic| walk_at "chg") => `(tactic| repeat (with_reducible first | exact Rs.Chg.here | apply Rs.Chg.there))
local macro_rules | `(tactic| walk_at "chgF") => `(tactic| (intro o'; walk_at "chg"))
local macro_rules | `(tactic| walk_at "own") => `(tactic| first | (apply Or.inl; assumption) | (apply Or.inr; simp))
local macro_rules | `(tactic| walk_at "size") => `(tactic| first | exact Rs.sz (Nat.le_of_ble_eq_true rfl) | (refine Rs.sz ?_; omega) | (refine Rs.sz ?_; simp; done) | (refine Rs.sz ?_; simp; omega))
local macro_rules | `(tactic| walk_at "size1") => `(tactic| first | exact Rs.sz' (Nat.le_of_ble_eq_true rfl) | (refine Rs.sz' ?_; omega) | (refine Rs.sz' ?_; simp; done) | (refine Rs.sz' ?_; simp; omega))
local macro_rules | `(tactic| walk_at "val") => `(tactic| first | assumption | rfl)
local macro_rules | `(tactic| walk_at "put") => `(tactic| first | assumption | rfl)
local macro_rules | `(tactic| walk_at "rd1") => `(tactic| first
  | with_reducible refine Rs.rd_seq ?_
  | with_reducible refine Rs.rd_asg ?_
  | ((with_reducible refine' Rs.rd_var ?e ?_); (case e => rfl))
  | with_reducible refine Rs.rd_c ?_
  | with_reducible refine Rs.rd_op ?_
  | with_reducible refine Rs.rd_I0 ?_
  | with_reducible refine Rs.rd_cons ?_
  | with_reducible refine Rs.rd_nil ?_
  | ((with_reducible refine' Rs.rd_name ?e ?_); (case e => (dsimp only [List.set]; try rfl)))
  | with_reducible refine Rs.rd_ifS ?_
  | with_reducible refine Rs.rd_test ?_
  | with_reducible refine Rs.rd_bl ?_
  | with_reducible refine Rs.rd_ret ?_
  | with_reducible refine Rs.rd_retN ?_
  | with_reducible refine Rs.rd_drop ?_
  | with_reducible refine Rs.rd_next ?_
  | with_reducible refine Rs.rd_eqI ?_
  | with_reducible refine Rs.rd_neI ?_
  | with_reducible refine Rs.rd_eqS ?_
  | with_reducible refine Rs.rd_neS ?_
  | with_reducible refine Rs.rd_eqB ?_
  | with_reducible refine Rs.rd_par ?_
  | with_reducible refine Rs.rd_par3 ?_
  | ((with_reducible refine Rs.rd_two ?_); dsimp only [List.set])
  | ((with_reducible refine Rs.rd_three ?_); dsimp only [List.set])
  | with_reducible refine Rs.rd_un ?_
  | with_reducible refine Rs.rd_U ?_
  | with_reducible refine Rs.rd_tB ?_
  | with_reducible refine Rs.rd_and ?_
  | with_reducible refine Rs.rd_or ?_
  | with_reducible refine Rs.rd_not ?_
  | with_reducible refine Rs.rd_andV ?_
  | with_reducible refine Rs.rd_orV ?_
  | with_reducible refine Rs.rd_notV ?_
  | with_reducible refine Rs.rd_if ?_
  | with_reducible refine Rs.rd_tup ?_
  | with_reducible refine Rs.rd_lst ?_
  | with_reducible refine Rs.rd_cb ?_
  | with_reducible refine Rs.rd_call0 ?_
  | with_reducible refine Rs.rd_call ?_
  | with_reducible refine Rs.rd_callN ?_
  | with_reducible refine Rs.rd_chain ?_
  | with_reducible refine Rs.rd_bits ?_
  | with_reducible refine Rs.rd_int1 ?_
  | with_reducible refine Rs.rd_int2 ?_
  | with_reducible refine Rs.rd_dget ?_
  | with_reducible refine Rs.rd_dput ?_
  | with_reducible refine Rs.rd_slice3 ?_
  | with_reducible refine Rs.rd_sl ?_
  | with_reducible refine Rs.rd_noPart ?_
  | with_reducible refine Rs.rd_part ?_
  | ((with_reducible refine' Rs.rd_mod ?c ?_); (case c => omega); intro r e h0 h1)
  | ((with_reducible refine' Rs.rd_div ?c ?d ?_); (case c => omega); (case d => omega))
  | ((with_reducible refine' Rs.rd_mulL ?c ?d ?_); (case c => omega); (case d => omega))
  | ((with_reducible refine' Rs.rd_mulR ?c ?d ?_); (case c => omega); (case d => omega))
  | ((with_reducible refine' Rs.rd_pow ?c ?d ?f ?_); (case c => omega); (case d => omega); (case f => omega))
  | ((with_reducible refine' Rs.rd_newL (by assumption) ?z ?_); (case z => walk_at "size"); intro p H hp S)
  | ((with_reducible refine' Rs.rd_newT (by assumption) ?z ?_); (case z => walk_at "size"); intro p H hp S)
  | ((with_reducible refine' Rs.rd_newO (by assumption) ?_); intro p H hp S)
  | ((with_reducible refine' Rs.rd_ixL (by assumption) ?m ?e ?_); (case m => (walk_at "mem"; done)); (case e => first | rfl | assumption))
  | ((with_reducible refine' Rs.rd_ixT (by assumption) ?m ?e ?_); (case m => (walk_at "mem"; done)); (case e => first | rfl | assumption))
  | ((with_reducible refine' Rs.rd_len (by assumption) ?m ?_); (case m => (walk_at "mem"; done)))
  | ((with_reducible refine' Rs.rd_lenT (by assumption) ?m ?_); (case m => (walk_at "mem"; done)))
  | ((with_reducible refine' Rs.rd_getS (by assumption) ?m ?e ?_); (case m => (walk_at "mem"; done)); (case e => walk_at "val"))
  | ((with_reducible refine' Rs.rd_putS (by assumption) ?c ?m ?z ?e ?_); (case c => (walk_at "chg"; done)); (case m => walk_at "own"); (case z => walk_at "size1"); (case e => walk_at "put"); intro H S)
  | ((with_reducible refine' Rs.gt_ref (by assumption) ?m ?e ?_); (case m => (walk_at "mem"; done)); (case e => rfl))
  | with_reducible refine Rs.gt_cons ?_
  | with_reducible refine Rs.gt_nil ?_
  | with_reducible refine Rs.rd_for ?_
  | with_reducible refine Rs.rd_rng1 ?_
  | with_reducible refine Rs.rd_rng2 ?_
  | ((with_reducible refine' Rs.rd_rng1v ?c ?d ?_); (case c => omega); (case d => omega))
  | with_reducible refine Rs.rd_iList ?_
  | with_reducible refine Rs.rd_iTup ?_
  | ((with_reducible refine' Rs.rd_lstI (by assumption) ?m ?_); (case m => (walk_at "mem"; done)))
  | ((with_reducible refine' Rs.rd_tupI (by assumption) ?m ?_); (case m => (walk_at "mem"; done)))
  | with_reducible refine Rs.rd_wl ?_
  | ((with_reducible refine' Rs.rd_disp (by assumption) ?_); intro p H hp S)
  | with_reducible refine Rs.rd_prs ?_
  | with_reducible refine Rs.rd_prs0 ?_
  | ((with_reducible refine' Rs.rd_dspEnd (by assumption) ?c ?m ?e ?z ?f ?_); (case c => (walk_at "chg"; done)); (case m => walk_at "own"); (case e => rfl); (case z => exact Nat.le_of_ble_eq_true rfl); (case f => walk_at "put"); intro H S)
  | ((with_reducible refine' Rs.rd_isi (by assumption) ?e ?_); (case e => first | exact Rs.kit_int _ | exact Rs.kit_bool _ | exact Rs.kit_list _ | exact Rs.kit_tuple _ | exact Rs.kit_str _))
  | with_reducible refine Rs.rd_iteT ?_
  | with_reducible refine Rs.rd_nT ?_
  | with_reducible refine Rs.rd_nF ?_
  | with_reducible refine Rs.rd_iteF ?_)
local macro_rules | `(tactic| walk_at "end") => `(tactic| first
  | assumption
  | omega
  | exact Rs.Hs.get (by assumption) (by walk_at "mem"; done)
  | exact Rs.Hs.same (by assumption)
  | (intro b o e hb; exact Rs.Hs.old1 (by assumption) e hb)
  | rfl)
local macro_rules | `(tactic| walk_at "rd") => `(tactic| repeat (walk_at "rd1"))
local macro_rules | `(tactic| walk_at "st") => `(tactic| (refine Rs.rd_start ?_; dsimp only [Rs.stV, List.head?, List.tail]))
local macro_rules | `(tactic| walk_at "noat") => `(tactic| assumption)
local macro_rules | `(tactic| walk_at "cls") => `(tactic| assumption)
local macro_rules | `(tactic| walk_at "fv") => `(tactic| rfl)
local macro_rules | `(tactic| walk_at "sub") => `(tactic| repeat (with_reducible first | exact List.Sublist.refl _ | exact List.nil_sublist _ | apply List.Sublist.cons_cons | apply List.Sublist.cons))
local macro_rules | `(tactic| walk_at "rd1") => `(tactic| first
  | with_reducible refine Rs.rd_fld ?_
  | ((with_reducible refine' Rs.rd_fldV (by assumption) ?m ?c ?n ?e ?_); (case m => (walk_at "mem"; done)); (case c => walk_at "cls"); (case n => walk_at "noat"); (case e => walk_at "fv"))
  | with_reducible refine Rs.rd_sfld ?_
  | ((with_reducible refine' Rs.rd_sfldV (by assumption) ?ch ?o ?c ?n ?z ?e ?_); (case ch => (walk_at "chg"; done)); (case o => walk_at "own"); (case c => walk_at "cls"); (case n => walk_at "noat"); (case z => walk_at "fvz"); (case e => walk_at "fput"); intro H S)
  | with_reducible refine Rs.rd_meth ?_
  | ((with_reducible refine' Rs.rd_methV (by assumption) ?m ?e ?_); (case m => (walk_at "mem"; done)); (case e => walk_at "fv"))
  | with_reducible refine Rs.rd_bm ?_
  | with_reducible refine Rs.rd_bm0 ?_
  | ((with_reducible refine' Rs.rd_tyL (by assumption) ?m ?_); (case m => (walk_at "mem"; done)))
  | ((with_reducible refine' Rs.rd_app (by assumption) ?c ?o ?z ?_); (case c => (walk_at "chg"; done)); (case o => walk_at "own"); (case z => walk_at "size1"); intro H S)
  | ((with_reducible refine' Rs.rd_sumI (by assumption) ?m ?e ?_); (case m => (walk_at "mem"; done)); (case e => rfl))
  | ((with_reducible refine' Rs.rd_slL (by assumption) ?m ?e ?_); (case m => (walk_at "mem"; done)); (case e => rfl); intro p H hp S)
  | ((with_reducible refine' Rs.rd_catL (by assumption) ?m ?n ?z ?_); (case m => (walk_at "mem"; done)); (case n => (walk_at "mem"; done)); (case z => walk_at "size"); intro p H hp S)
  | with_reducible refine Rs.rd_revL ?_
  | ((with_reducible refine' Rs.rd_revV (by assumption) ?m ?_); (case m => (walk_at "mem"; done)); intro p H hp S)
  | with_reducible refine Rs.rd_isN ?_
  | with_reducible refine Rs.rd_notN ?_
  | ((with_reducible refine' Rs.gt_unl (by assumption) ?m ?e ?_); (case m => (walk_at "mem"; done)); (case e => rfl))
  | with_reducible refine Rs.gt_sub ?_
  | with_reducible refine Rs.gt_slc ?_
  | with_reducible refine Rs.rd_lc ?_)
local macro_rules | `(tactic| walk_at "cut") => `(tactic| repeat' (first | walk_at "rd1" | (refine Rs.rd_dec ?_ ?_ <;> intro hc)))
local macro_rules | `(tactic| walk_at "fvz") => `(tactic| exact Nat.le_of_ble_eq_true rfl)
local macro_rules | `(tactic| walk_at "fput") => `(tactic| rfl)
local macro_rules | `(tactic| walk_at "rd1") => `(tactic| with_reducible refine Rs.rd_nn ?_)
local macro_rules | `(tactic| walk_at "rd1") => `(tactic| first
  | ((with_reducible refine' Rs.rd_aug ?e ?_); (case e => rfl))
  | ((with_reducible refine Rs.rd_ipI ?_); dsimp only [List.set]))
local macro_rules | `(tactic| walk_at "lc") => `(tactic| (walk_at "rd"; dsimp only [L2.wipe, List.map, List.set]; refine ⟨rfl, ?_⟩; walk_at "rd"))
local macro_rules | `(tactic| walk_at "rd1") => `(tactic| first
  | ((with_reducible refine' Rs.rd_sumT (by assumption) ?m ?e ?_); (case m => (walk_at "mem"; done)); (case e => rfl))
  | with_reducible refine Rs.rd_cbk ?_
  | ((with_reducible refine' Rs.rd_sumK (by assumption) ?m ?e ?_); (case m => (walk_at "mem"; done)); (case e => rfl))
  | ((with_reducible refine' Rs.rd_maxDT (by assumption) ?m ?e ?_); (case m => (walk_at "mem"; done)); (case e => rfl))
  | with_reducible refine Rs.rd_slT3 ?_)
local macro_rules | `(tactic| walk_at "rd1") => `(tactic| with_reducible refine Rs.rd_yes ?_)
local macro_rules | `(tactic| walk_at "if0") => `(tactic| (first | (show if false = true then _ else _) | skip); walk_at "rd")
local macro_rules | `(tactic| walk_at "if1") => `(tactic| (first | (show if true = true then _ else _) | skip); walk_at "rd")
local macro_rules | `(tactic| walk_at "rd1") => `(tactic| first
  | ((with_reducible refine' Rs.rd_clear (by assumption) ?c ?o ?_); (case c => (walk_at "chg"; done)); (case o => walk_at "own"); intro H S))
local macro_rules | `(tactic| walk_at "led") => `(tactic| (intro a'; simp only [Rs.cn_app, Rs.cn_cons, Rs.cn_nil, List.append_assoc, List.cons_append, List.nil_append, List.reverse_nil, List.map_nil]; omega))
local macro_rules | `(tactic| walk_at "mem1") => `(tactic| (with_reducible first | exact List.mem_cons_self | assumption | (apply List.mem_cons_of_mem; walk_at "mem1") | (apply List.mem_append_right; walk_at "mem1") | (apply List.mem_append_left; walk_at "mem1")))
local macro_rules | `(tactic| walk_at "mem") => `(tactic| walk_at "mem1")
local macro_rules | `(tactic| walk_at "rd1") => `(tactic| first
  | with_reducible refine Rs.rd_enum ?_
  | with_reducible refine Rs.rd_methK ?_
  | ((with_reducible refine' Rs.rd_enI (by assumption) ?m ?_); (case m => (walk_at "mem"; done))))
local macro_rules | `(tactic| walk_at "chg1") => `(tactic| (with_reducible first | exact Rs.Chg.here | (apply Rs.Chg.there; walk_at "chg1") | (apply Rs.Chg.appR; walk_at "chg1") | (apply Rs.Chg.appL; walk_at "chg1")))
local macro_rules | `(tactic| walk_at "chg") => `(tactic| walk_at "chg1")
namespace K33
open PySem L2 Rs
def topS (i : Nat) : Stmt := PySem.Challenge.pw_runsort_k33_stacks_by_lengths.main.body.getD i (.Pass ⟨0, 0, 0, 0⟩)
/-! the draws -/
def drw (l c a : Int) : List (Key × V) := [(.inr "left", .int l), (.inr "cell", .int c), (.inr "at", .int a)]
theorem k_lc : ¬ (("left" : Str) = "cell") := by decide +kernel
theorem k_la : ¬ (("left" : Str) = "at") := by decide +kernel
theorem k_ca : ¬ (("cell" : Str) = "at") := by decide +kernel
theorem k_ne {a b : Str} (h : ¬ a = b) : ¬ ((Sum.inr a : Key) = Sum.inr b) := fun e => h (Sum.inr.inj e)
theorem drw_left (l c a : Int) : valV (drw l c a) (.inr "left") = some (.int l) := valV_pos rfl
theorem drw_cell (l c a : Int) : valV (drw l c a) (.inr "cell") = some (.int c) := (valV_neg (k_ne k_lc)).trans (valV_pos rfl)
theorem drw_at (l c a : Int) : valV (drw l c a) (.inr "at") = some (.int a) := (valV_neg (k_ne k_la)).trans ((valV_neg (k_ne k_ca)).trans (valV_pos rfl))
theorem put_left (l c a x : Int) : putK (drw l c a) (.inr "left") (.int x) = drw x c a := by
  unfold putK drw
  simp [show ¬ (("cell" : Str) = "left") from fun e => k_lc e.symm, show ¬ (("at" : Str) = "left") from fun e => k_la e.symm]
theorem put_at (l c a x : Int) : putK (drw l c a) (.inr "at") (.int x) = drw l c x := by
  unfold putK drw
  simp [k_ca, k_la]
theorem merge_drw (l c a : Int) : mergeK [] (toK [(.str "left", .int l), (.str "cell", .int c), (.str "at", .int a)]) = drw l c a := by
  simp only [toK, mergeK, List.foldl_cons, List.foldl_nil]
  unfold putK drw
  simp [k_lc, k_la, k_ca, show ¬ (("cell" : Str) = "left") from fun e => k_lc e.symm, show ¬ (("at" : Str) = "left") from fun e => k_la e.symm, show ¬ (("at" : Str) = "cell") from fun e => k_ca e.symm]
local macro_rules | `(tactic| walk_at "val") => `(tactic| first | exact drw_left _ _ _ | exact drw_cell _ _ _ | exact drw_at _ _ _)
local macro_rules | `(tactic| walk_at "put") => `(tactic| first | exact put_left _ _ _ _ | exact put_at _ _ _ _ | exact merge_drw _ _ _)
def sp_begun (K : PySem.W.Frag) : Sp := fun vs H Q _ => ∃ (s : Addr) (ns : List Int) (k : Int), vs = [.ref s, .int k] ∧ SqL K H s (ns.map V.int) ∧ 0 ≤ k ∧ k ≤ 100 ∧
  ∀ (d : Addr) (l c : Int) (H' : Hp), H d = none → H' d = some (.dK (drw l c (60 * k))) → Same H H' → Q (.ref d) H'
def sp_take : Sp := fun vs H Q _ => ∃ (d : Addr) (l c a n : Int), vs = [.ref d, .int n] ∧ H d = some (.dK (drw l c a)) ∧ 1 ≤ n ∧ n < 2 ^ 60 ∧ 0 ≤ a ∧ a < 2 ^ 40 ∧
  ∀ (r l' a' : Int) (H' : Hp), H' d = some (.dK (drw l' c a')) → (∀ b o, H b = some o → b ≠ d → H' b = some o) → 0 ≤ r → r < n → a ≤ a' → a' ≤ a + 1 → Q (.int r) H'
def sp_of : Sp := fun vs H Q _ => ∃ (d q : Addr) (l c a : Int) (ns : List Int), vs = [.ref d, .ref q] ∧ H d = some (.dK (drw l c a)) ∧ H q = some (.lst (ns.map V.int)) ∧ 0 < ns.length ∧ ns.length ≤ 1000 ∧ 0 ≤ a ∧ a < 2 ^ 40 ∧
  ∀ (r l' a' : Int) (H' : Hp), H' d = some (.dK (drw l' c a')) → (∀ b o, H b = some o → b ≠ d → H' b = some o) → r ∈ ns → a ≤ a' → a' ≤ a + 1 → Q (.int r) H'
def sp_law (K : PySem.W.Frag) : Sp := fun vs H Q _ => ∃ (a : Addr) (ns : List Int), vs = [.ref a] ∧ SqL K H a (ns.map V.int) ∧ ns.length ≤ 63 ∧ ∀ H', Q (.bl true) H'

def sp_whole : Sp := fun vs H Q _ => ∃ (t l m : Int), vs = [.int t, .int l, .int m] ∧ Q (.bl (decide (l ≤ t) && decide (t ≤ m))) H
def sp_need : Sp := fun vs H Q _ => ∃ (t l m : Int), vs = [.int t, .int l, .int m] ∧ l ≤ t ∧ t ≤ m ∧ Q .non H

def optV : Option Nat → V
  | none => .non
  | some i => .int (i : Nat)
def sp_next : Sp := fun vs H Q _ => ∃ (l : Addr) (ns : List Int), vs = [.ref l] ∧ H l = some (.lst (ns.map V.int)) ∧ Q (optV (nextN ns)) H
def sp_last : Sp := fun vs H Q _ => ∃ (l : Addr) (ns : List Int), vs = [.ref l] ∧ H l = some (.lst (ns.map V.int)) ∧ 1 < ns.length ∧ ∀ i : Nat, lastN ns = some i → Q (.int (i : Nat)) H
def sp_policy : Sp := fun vs H Q _ => vs = [.str "lengths"] ∧ Q .non H
abbrev s_is_whole : Stmt := topS 6
theorem sc_is_whole : FnScope ["thing", "least", "most"] ["thing", "least", "most"] (defScope s_is_whole) := ⟨rfl, rfl, rfl, by decide +kernel, rfl, by decide +kernel, by decide +kernel⟩
abbrev s_need_number : Stmt := topS 9
theorem sc_need_number : FnScope ["thing", "least", "most"] ["thing", "least", "most"] (defScope s_need_number) := ⟨rfl, rfl, rfl, by decide +kernel, rfl, by decide +kernel, by decide +kernel⟩
abbrev s_next_by_lengths : Stmt := topS 11
theorem sc_next_by_lengths : FnScope ["lengths", "many"] ["lengths"] (defScope s_next_by_lengths) := ⟨rfl, rfl, rfl, by decide +kernel, rfl, by decide +kernel, by decide +kernel⟩
abbrev s_pushed_by_lengths : Stmt := topS 12
theorem sc_pushed_by_lengths : FnScope ["stack", "many", "found", "at"] ["stack", "many"] (defScope s_pushed_by_lengths) := ⟨rfl, rfl, rfl, by decide +kernel, rfl, by decide +kernel, by decide +kernel⟩
abbrev s_last_by_lengths : Stmt := topS 14
theorem sc_last_by_lengths : FnScope ["lengths"] ["lengths"] (defScope s_last_by_lengths) := ⟨rfl, rfl, rfl, by decide +kernel, rfl, by decide +kernel, by decide +kernel⟩
abbrev s_need_policy : Stmt := topS 18
theorem sc_need_policy : FnScope ["policy"] ["policy"] (defScope s_need_policy) := ⟨rfl, rfl, rfl, by decide +kernel, rfl, by decide +kernel, by decide +kernel⟩
abbrev s_RunStack___init__ : Stmt := inClass (topS 19) 0
theorem sc_RunStack___init__ : FnScope ["self", "policy", "total"] ["self", "policy", "total"] (defScope s_RunStack___init__) := ⟨rfl, rfl, rfl, by decide +kernel, rfl, by decide +kernel, by decide +kernel⟩
abbrev s_RunStack_merge_near : Stmt := inClass (topS 19) 1
theorem sc_RunStack_merge_near : FnScope ["self", "at", "start", "one", "other"] ["self", "at"] (defScope s_RunStack_merge_near) := ⟨rfl, rfl, rfl, by decide +kernel, rfl, by decide +kernel, by decide +kernel⟩
abbrev s_RunStack_pushed : Stmt := inClass (topS 19) 2
theorem sc_RunStack_pushed : FnScope ["self", "many", "most", "push"] ["self", "many"] (defScope s_RunStack_pushed) := ⟨rfl, rfl, rfl, by decide +kernel, rfl, by decide +kernel, by decide +kernel⟩
abbrev s_RunStack_finished : Stmt := inClass (topS 19) 3
theorem sc_RunStack_finished : FnScope ["self", "last", "found"] ["self"] (defScope s_RunStack_finished) := ⟨rfl, rfl, rfl, by decide +kernel, rfl, by decide +kernel, by decide +kernel⟩
abbrev s_RunStack_lengths_now : Stmt := inClass (topS 19) 4
theorem sc_RunStack_lengths_now : FnScope ["self"] ["self"] (defScope s_RunStack_lengths_now) := ⟨rfl, rfl, rfl, by decide +kernel, rfl, by decide +kernel, by decide +kernel⟩
abbrev s_RunStack_powers_now : Stmt := inClass (topS 19) 5
theorem sc_RunStack_powers_now : FnScope ["self"] ["self"] (defScope s_RunStack_powers_now) := ⟨rfl, rfl, rfl, by decide +kernel, rfl, by decide +kernel, by decide +kernel⟩
abbrev s_RunStack___len__ : Stmt := inClass (topS 19) 9
theorem sc_RunStack___len__ : FnScope ["self"] ["self"] (defScope s_RunStack___len__) := ⟨rfl, rfl, rfl, by decide +kernel, rfl, by decide +kernel, by decide +kernel⟩
abbrev s_RunStack___repr__ : Stmt := inClass (topS 19) 10
theorem sc_RunStack___repr__ : FnScope ["self"] ["self"] (defScope s_RunStack___repr__) := ⟨rfl, rfl, rfl, by decide +kernel, rfl, by decide +kernel, by decide +kernel⟩
abbrev s_l_begun : Stmt := topS 21
theorem sc_l_begun : FnScope ["_law_script", "_law_k", "_law_some", "_law_found", "_law_cell", "_law_left"] ["_law_script", "_law_k"] (defScope s_l_begun) := ⟨rfl, rfl, rfl, by decide +kernel, rfl, by decide +kernel, by decide +kernel⟩
abbrev s_l_take : Stmt := topS 22
theorem sc_l_take : FnScope ["_law_draw", "_law_below", "_law_found", "_law_at", "_law_prime", "_law_mixed"] ["_law_draw", "_law_below"] (defScope s_l_take) := ⟨rfl, rfl, rfl, by decide +kernel, rfl, by decide +kernel, by decide +kernel⟩
abbrev s_l_of : Stmt := topS 23
theorem sc_l_of : FnScope ["_law_draw", "_law_some"] ["_law_draw", "_law_some"] (defScope s_l_of) := ⟨rfl, rfl, rfl, by decide +kernel, rfl, by decide +kernel, by decide +kernel⟩
abbrev s_l_runs : Stmt := topS 24
theorem sc_l_runs : FnScope ["_law_draw", "_law_most_runs", "_law_way", "_law_count", "_law_wide", "_law_found", "_law_room", "_law_falls", "_law_at", "_law_one"] ["_law_draw", "_law_most_runs"] (defScope s_l_runs) := ⟨rfl, rfl, rfl, by decide +kernel, rfl, by decide +kernel, by decide +kernel⟩
abbrev s_l_merge : Stmt := topS 25
theorem sc_l_merge : FnScope ["_law_own", "_law_at", "_law_start", "_law_found"] ["_law_own", "_law_at"] (defScope s_l_merge) := ⟨rfl, rfl, rfl, by decide +kernel, rfl, by decide +kernel, by decide +kernel⟩
abbrev s_l_next : Stmt := topS 26
theorem sc_l_next : FnScope ["_law_own", "_law_tops", "_law_is_over"] ["_law_own"] (defScope s_l_next) := ⟨rfl, rfl, rfl, by decide +kernel, rfl, by decide +kernel, by decide +kernel⟩
abbrev s_l_pushed : Stmt := topS 27
theorem sc_l_pushed : FnScope ["_law_own", "_law_one", "_law_found", "_law_down"] ["_law_own", "_law_one"] (defScope s_l_pushed) := ⟨rfl, rfl, rfl, by decide +kernel, rfl, by decide +kernel, by decide +kernel⟩
abbrev s_l_finished : Stmt := topS 28
theorem sc_l_finished : FnScope ["_law_own", "_law_found", "_law_down"] ["_law_own"] (defScope s_l_finished) := ⟨rfl, rfl, rfl, by decide +kernel, rfl, by decide +kernel, by decide +kernel⟩
abbrev s_l_is_so : Stmt := topS 29
theorem sc_l_is_so : FnScope ["_law_stack", "_law_own", "_law_turn", "_law_lengths", "_law_none"] ["_law_stack", "_law_own"] (defScope s_l_is_so) := ⟨rfl, rfl, rfl, by decide +kernel, rfl, by decide +kernel, by decide +kernel⟩
abbrev s_l_end_right : Stmt := topS 30
theorem sc_l_end_right : FnScope ["_law_stack", "_law_own", "_law_told"] ["_law_stack", "_law_own"] (defScope s_l_end_right) := ⟨rfl, rfl, rfl, by decide +kernel, rfl, by decide +kernel, by decide +kernel⟩
abbrev s_l_right : Stmt := topS 31
theorem sc_l_right : FnScope ["_law_draw", "_law_runs_here", "_law_own", "_law_stack", "_law_stop", "_law_at", "_law_one", "_law_told"] ["_law_draw"] (defScope s_l_right) := ⟨rfl, rfl, rfl, by decide +kernel, rfl, by decide +kernel, by decide +kernel⟩
abbrev s_law : Stmt := topS 32
theorem sc_law : FnScope ["_law_script", "_law_k", "_law_draw", "_law_turn", "_law_one", "_law_ones", "_law_own", "_law_at"] ["_law_script"] (defScope s_law) := ⟨rfl, rfl, rfl, by decide +kernel, rfl, by decide +kernel, by decide +kernel⟩
structure Ad where
  (f_is_whole f_need_number f_next_by_lengths f_pushed_by_lengths f_last_by_lengths f_need_policy C_RunStack f_RunStack___init__ f_RunStack_merge_near f_RunStack_pushed f_RunStack_finished f_RunStack_lengths_now f_RunStack_powers_now f_RunStack___len__ f_RunStack___repr__ f__law_begun f__law_take f__law_of f__law_runs f__law_merge f__law_next f__law_pushed f__law_finished f__law_is_so f__law_end_right f__law_right f_law k_PUSHES k_LASTS : Addr)
  (d_is_whole d_need_number d_next_by_lengths d_pushed_by_lengths d_last_by_lengths d_need_policy d_RunStack___init__ d_RunStack_merge_near d_RunStack_pushed d_RunStack_finished d_RunStack_lengths_now d_RunStack_powers_now d_RunStack___len__ d_RunStack___repr__ d__law_begun d__law_take d__law_of d__law_runs d__law_merge d__law_next d__law_pushed d__law_finished d__law_is_so d__law_end_right d__law_right d_law : FuncData)
  (ke_PUSHES : Array DictEntry) (kn_PUSHES : Nat)
  (ke_LASTS : Array DictEntry) (kn_LASTS : Nat)
structure Txt (K : PySem.W.Frag) (mg : Str → Option Value) (w : World) (A : Ad) : Prop where
  c_is_whole : CalD K mg "is_whole" s_is_whole [("least", .int 0),("most", .int 4096)] A.f_is_whole A.d_is_whole
  c_need_number : Cal K mg "need_number" s_need_number ["thing", "least", "most"] A.f_need_number A.d_need_number
  c_next_by_lengths : Cal K mg "next_by_lengths" s_next_by_lengths ["lengths"] A.f_next_by_lengths A.d_next_by_lengths
  c_pushed_by_lengths : Cal K mg "pushed_by_lengths" s_pushed_by_lengths ["stack", "many"] A.f_pushed_by_lengths A.d_pushed_by_lengths
  c_last_by_lengths : Cal K mg "last_by_lengths" s_last_by_lengths ["lengths"] A.f_last_by_lengths A.d_last_by_lengths
  c_need_policy : Cal K mg "need_policy" s_need_policy ["policy"] A.f_need_policy A.d_need_policy
  m_RunStack : mg "RunStack" = some (.ref A.C_RunStack)
  cl_RunStack : Cls K A.C_RunStack
  na_RunStack_own_policy : NoAttr K A.C_RunStack "own_policy"
  na_RunStack_own_total : NoAttr K A.C_RunStack "own_total"
  na_RunStack_laid_lengths : NoAttr K A.C_RunStack "laid_lengths"
  na_RunStack_laid_powers : NoAttr K A.C_RunStack "laid_powers"
  i_RunStack : CalI K A.C_RunStack "RunStack.__init__" s_RunStack___init__ [("policy", .str "powers"), ("total", .non)] A.f_RunStack___init__ A.d_RunStack___init__
  h_RunStack_merge_near : Meth K A.C_RunStack "merge_near" A.f_RunStack_merge_near
  c_RunStack_merge_near : CalM K "merge_near" "RunStack.merge_near" s_RunStack_merge_near ["self", "at"] A.f_RunStack_merge_near A.d_RunStack_merge_near
  h_RunStack_pushed : Meth K A.C_RunStack "pushed" A.f_RunStack_pushed
  c_RunStack_pushed : CalM K "pushed" "RunStack.pushed" s_RunStack_pushed ["self", "many"] A.f_RunStack_pushed A.d_RunStack_pushed
  h_RunStack_finished : Meth K A.C_RunStack "finished" A.f_RunStack_finished
  c_RunStack_finished : CalM K "finished" "RunStack.finished" s_RunStack_finished ["self"] A.f_RunStack_finished A.d_RunStack_finished
  h_RunStack_lengths_now : Meth K A.C_RunStack "lengths_now" A.f_RunStack_lengths_now
  c_RunStack_lengths_now : CalM K "lengths_now" "RunStack.lengths_now" s_RunStack_lengths_now ["self"] A.f_RunStack_lengths_now A.d_RunStack_lengths_now
  h_RunStack_powers_now : Meth K A.C_RunStack "powers_now" A.f_RunStack_powers_now
  c_RunStack_powers_now : CalM K "powers_now" "RunStack.powers_now" s_RunStack_powers_now ["self"] A.f_RunStack_powers_now A.d_RunStack_powers_now
  h_RunStack___len__ : Meth K A.C_RunStack "__len__" A.f_RunStack___len__
  c_RunStack___len__ : CalM K "__len__" "RunStack.__len__" s_RunStack___len__ ["self"] A.f_RunStack___len__ A.d_RunStack___len__
  h_RunStack___repr__ : Meth K A.C_RunStack "__repr__" A.f_RunStack___repr__
  c_RunStack___repr__ : CalM K "__repr__" "RunStack.__repr__" s_RunStack___repr__ ["self"] A.f_RunStack___repr__ A.d_RunStack___repr__
  c__law_begun : Cal K mg "_law_begun" s_l_begun ["_law_script", "_law_k"] A.f__law_begun A.d__law_begun
  c__law_take : Cal K mg "_law_take" s_l_take ["_law_draw", "_law_below"] A.f__law_take A.d__law_take
  c__law_of : Cal K mg "_law_of" s_l_of ["_law_draw", "_law_some"] A.f__law_of A.d__law_of
  c__law_runs : Cal K mg "_law_runs" s_l_runs ["_law_draw", "_law_most_runs"] A.f__law_runs A.d__law_runs
  c__law_merge : Cal K mg "_law_merge" s_l_merge ["_law_own", "_law_at"] A.f__law_merge A.d__law_merge
  c__law_next : Cal K mg "_law_next" s_l_next ["_law_own"] A.f__law_next A.d__law_next
  c__law_pushed : Cal K mg "_law_pushed" s_l_pushed ["_law_own", "_law_one"] A.f__law_pushed A.d__law_pushed
  c__law_finished : Cal K mg "_law_finished" s_l_finished ["_law_own"] A.f__law_finished A.d__law_finished
  c__law_is_so : Cal K mg "_law_is_so" s_l_is_so ["_law_stack", "_law_own"] A.f__law_is_so A.d__law_is_so
  c__law_end_right : Cal K mg "_law_end_right" s_l_end_right ["_law_stack", "_law_own"] A.f__law_end_right A.d__law_end_right
  c__law_right : Cal K mg "_law_right" s_l_right ["_law_draw"] A.f__law_right A.d__law_right
  c_law : Cal K mg "law" s_law ["_law_script"] A.f_law A.d_law
  g_MOST_THINGS : ∃ u, mg "MOST_THINGS" = some u ∧ RelV (.int 4096) u
  g_PUSHES : ∃ u, mg "PUSHES" = some u ∧ RelV (.ref A.k_PUSHES) u
  d_PUSHES : KDict K w A.k_PUSHES A.ke_PUSHES A.kn_PUSHES
  q_PUSHES_lengths : KDct K w A.k_PUSHES "lengths" (.ref A.f_pushed_by_lengths)
  n_PUSHES_lengths : ∃ u, PySem.W.nsIn K A.k_PUSHES "lengths" = some (some u)
  g_LASTS : ∃ u, mg "LASTS" = some u ∧ RelV (.ref A.k_LASTS) u
  d_LASTS : KDict K w A.k_LASTS A.ke_LASTS A.kn_LASTS
  q_LASTS_lengths : KDct K w A.k_LASTS "lengths" (.ref A.f_last_by_lengths)
  n_LASTS_lengths : ∃ u, PySem.W.nsIn K A.k_LASTS "lengths" = some (some u)
  n_len : mg "len" = none
  n_min : mg "min" = none
  n_max : mg "max" = none
  n_range : mg "range" = none
  n_repr : mg "repr" = none
  n_isinstance : mg "isinstance" = none
  n_int : mg "int" = none
  n_bool : mg "bool" = none
  n_str : mg "str" = none
  n_sum : mg "sum" = none
  n_list : mg "list" = none
  n_enumerate : mg "enumerate" = none
set_option maxHeartbeats 0 in
theorem all_mk {K : PySem.W.Frag} {mg : Str → Option Value} {w : World} {h : Heap} {f_is_whole : Addr} {D_is_whole : Addr} {oc_is_whole doc_is_whole pm_is_whole cd_is_whole ct_is_whole : Value} {od_is_whole an_is_whole : Option Addr} {osl_is_whole : Array (Option Value)} {f_need_number : Addr} {oc_need_number doc_need_number pm_need_number cd_need_number ct_need_number kV_need_number : Value} {od_need_number an_need_number : Option Addr} {osl_need_number : Array (Option Value)} {f_next_by_lengths : Addr} {oc_next_by_lengths doc_next_by_lengths pm_next_by_lengths cd_next_by_lengths ct_next_by_lengths kV_next_by_lengths : Value} {od_next_by_lengths an_next_by_lengths : Option Addr} {osl_next_by_lengths : Array (Option Value)} {f_pushed_by_lengths : Addr} {oc_pushed_by_lengths doc_pushed_by_lengths pm_pushed_by_lengths cd_pushed_by_lengths ct_pushed_by_lengths kV_pushed_by_lengths : Value} {od_pushed_by_lengths an_pushed_by_lengths : Option Addr} {osl_pushed_by_lengths : Array (Option Value)} {f_last_by_lengths : Addr} {oc_last_by_lengths doc_last_by_lengths pm_last_by_lengths cd_last_by_lengths ct_last_by_lengths kV_last_by_lengths : Value} {od_last_by_lengths an_last_by_lengths : Option Addr} {osl_last_by_lengths : Array (Option Value)} {f_need_policy : Addr} {oc_need_policy doc_need_policy pm_need_policy cd_need_policy ct_need_policy kV_need_policy : Value} {od_need_policy an_need_policy : Option Addr} {osl_need_policy : Array (Option Value)} {C_RunStack : Addr} {D_RunStack : Addr} {f_RunStack___init__ : Addr} {oc_RunStack___init__ doc_RunStack___init__ pm_RunStack___init__ cd_RunStack___init__ ct_RunStack___init__ : Value} {od_RunStack___init__ an_RunStack___init__ : Option Addr} {osl_RunStack___init__ : Array (Option Value)} {f_RunStack_merge_near : Addr} {oc_RunStack_merge_near doc_RunStack_merge_near pm_RunStack_merge_near cd_RunStack_merge_near ct_RunStack_merge_near kV_RunStack_merge_near : Value} {od_RunStack_merge_near an_RunStack_merge_near : Option Addr} {osl_RunStack_merge_near : Array (Option Value)} {f_RunStack_pushed : Addr} {oc_RunStack_pushed doc_RunStack_pushed pm_RunStack_pushed cd_RunStack_pushed ct_RunStack_pushed kV_RunStack_pushed : Value} {od_RunStack_pushed an_RunStack_pushed : Option Addr} {osl_RunStack_pushed : Array (Option Value)} {f_RunStack_finished : Addr} {oc_RunStack_finished doc_RunStack_finished pm_RunStack_finished cd_RunStack_finished ct_RunStack_finished kV_RunStack_finished : Value} {od_RunStack_finished an_RunStack_finished : Option Addr} {osl_RunStack_finished : Array (Option Value)} {f_RunStack_lengths_now : Addr} {oc_RunStack_lengths_now doc_RunStack_lengths_now pm_RunStack_lengths_now cd_RunStack_lengths_now ct_RunStack_lengths_now kV_RunStack_lengths_now : Value} {od_RunStack_lengths_now an_RunStack_lengths_now : Option Addr} {osl_RunStack_lengths_now : Array (Option Value)} {f_RunStack_powers_now : Addr} {oc_RunStack_powers_now doc_RunStack_powers_now pm_RunStack_powers_now cd_RunStack_powers_now ct_RunStack_powers_now kV_RunStack_powers_now : Value} {od_RunStack_powers_now an_RunStack_powers_now : Option Addr} {osl_RunStack_powers_now : Array (Option Value)} {f_RunStack___len__ : Addr} {oc_RunStack___len__ doc_RunStack___len__ pm_RunStack___len__ cd_RunStack___len__ ct_RunStack___len__ kV_RunStack___len__ : Value} {od_RunStack___len__ an_RunStack___len__ : Option Addr} {osl_RunStack___len__ : Array (Option Value)} {f_RunStack___repr__ : Addr} {oc_RunStack___repr__ doc_RunStack___repr__ pm_RunStack___repr__ cd_RunStack___repr__ ct_RunStack___repr__ kV_RunStack___repr__ : Value} {od_RunStack___repr__ an_RunStack___repr__ : Option Addr} {osl_RunStack___repr__ : Array (Option Value)} {f__law_begun : Addr} {oc__law_begun doc__law_begun pm__law_begun cd__law_begun ct__law_begun kV__law_begun : Value} {od__law_begun an__law_begun : Option Addr} {osl__law_begun : Array (Option Value)} {f__law_take : Addr} {oc__law_take doc__law_take pm__law_take cd__law_take ct__law_take kV__law_take : Value} {od__law_take an__law_take : Option Addr} {osl__law_take : Array (Option Value)} {f__law_of : Addr} {oc__law_of doc__law_of pm__law_of cd__law_of ct__law_of kV__law_of : Value} {od__law_of an__law_of : Option Addr} {osl__law_of : Array (Option Value)} {f__law_runs : Addr} {oc__law_runs doc__law_runs pm__law_runs cd__law_runs ct__law_runs kV__law_runs : Value} {od__law_runs an__law_runs : Option Addr} {osl__law_runs : Array (Option Value)} {f__law_merge : Addr} {oc__law_merge doc__law_merge pm__law_merge cd__law_merge ct__law_merge kV__law_merge : Value} {od__law_merge an__law_merge : Option Addr} {osl__law_merge : Array (Option Value)} {f__law_next : Addr} {oc__law_next doc__law_next pm__law_next cd__law_next ct__law_next kV__law_next : Value} {od__law_next an__law_next : Option Addr} {osl__law_next : Array (Option Value)} {f__law_pushed : Addr} {oc__law_pushed doc__law_pushed pm__law_pushed cd__law_pushed ct__law_pushed kV__law_pushed : Value} {od__law_pushed an__law_pushed : Option Addr} {osl__law_pushed : Array (Option Value)} {f__law_finished : Addr} {oc__law_finished doc__law_finished pm__law_finished cd__law_finished ct__law_finished kV__law_finished : Value} {od__law_finished an__law_finished : Option Addr} {osl__law_finished : Array (Option Value)} {f__law_is_so : Addr} {oc__law_is_so doc__law_is_so pm__law_is_so cd__law_is_so ct__law_is_so kV__law_is_so : Value} {od__law_is_so an__law_is_so : Option Addr} {osl__law_is_so : Array (Option Value)} {f__law_end_right : Addr} {oc__law_end_right doc__law_end_right pm__law_end_right cd__law_end_right ct__law_end_right kV__law_end_right : Value} {od__law_end_right an__law_end_right : Option Addr} {osl__law_end_right : Array (Option Value)} {f__law_right : Addr} {oc__law_right doc__law_right pm__law_right cd__law_right ct__law_right kV__law_right : Value} {od__law_right an__law_right : Option Addr} {osl__law_right : Array (Option Value)} {f_law : Addr} {oc_law doc_law pm_law cd_law ct_law kV_law : Value} {od_law an_law : Option Addr} {osl_law : Array (Option Value)} {u_MOST_THINGS : Value} {k_PUSHES : Addr} {ke_PUSHES : Array DictEntry} {kn_PUSHES : Nat} {k_LASTS : Addr} {ke_LASTS : Array DictEntry} {kn_LASTS : Nat} (X : K.In h) (G : h.Ns mainGlobals mg)
    (a_is_whole : PySem.W.nsIn K mainGlobals "is_whole" = some (some (.ref f_is_whole)))
    (l_is_whole : K.lookup f_is_whole = some ⟨oc_is_whole, od_is_whole, .func (PySem.W.fnOf "is_whole" "is_whole" (defArgs s_is_whole) (defBody s_is_whole) (defScope s_is_whole) .none (.ref D_is_whole) doc_is_whole pm_is_whole an_is_whole cd_is_whole ct_is_whole), osl_is_whole⟩)
    (e_is_whole : PySem.W.codeIn K cd_is_whole "is_whole" = true)
    (k_is_whole : PySem.W.keepIn K (.ref f_is_whole) = true)
    (dd_is_whole : ∀ q ∈ ([("least", .int 0),("most", .int 4096)] : List (Str × V)), ∃ u, PySem.W.nsIn K D_is_whole q.1 = some (some u) ∧ RelV q.2 u)
    (a_need_number : PySem.W.nsIn K mainGlobals "need_number" = some (some (.ref f_need_number)))
    (l_need_number : K.lookup f_need_number = some ⟨oc_need_number, od_need_number, .func (PySem.W.fnOf "need_number" "need_number" (defArgs s_need_number) (defBody s_need_number) (defScope s_need_number) .none kV_need_number doc_need_number pm_need_number an_need_number cd_need_number ct_need_number), osl_need_number⟩)
    (e_need_number : PySem.W.codeIn K cd_need_number "need_number" = true)
    (k_need_number : PySem.W.keepIn K (.ref f_need_number) = true)
    (a_next_by_lengths : PySem.W.nsIn K mainGlobals "next_by_lengths" = some (some (.ref f_next_by_lengths)))
    (l_next_by_lengths : K.lookup f_next_by_lengths = some ⟨oc_next_by_lengths, od_next_by_lengths, .func (PySem.W.fnOf "next_by_lengths" "next_by_lengths" (defArgs s_next_by_lengths) (defBody s_next_by_lengths) (defScope s_next_by_lengths) .none kV_next_by_lengths doc_next_by_lengths pm_next_by_lengths an_next_by_lengths cd_next_by_lengths ct_next_by_lengths), osl_next_by_lengths⟩)
    (e_next_by_lengths : PySem.W.codeIn K cd_next_by_lengths "next_by_lengths" = true)
    (k_next_by_lengths : PySem.W.keepIn K (.ref f_next_by_lengths) = true)
    (a_pushed_by_lengths : PySem.W.nsIn K mainGlobals "pushed_by_lengths" = some (some (.ref f_pushed_by_lengths)))
    (l_pushed_by_lengths : K.lookup f_pushed_by_lengths = some ⟨oc_pushed_by_lengths, od_pushed_by_lengths, .func (PySem.W.fnOf "pushed_by_lengths" "pushed_by_lengths" (defArgs s_pushed_by_lengths) (defBody s_pushed_by_lengths) (defScope s_pushed_by_lengths) .none kV_pushed_by_lengths doc_pushed_by_lengths pm_pushed_by_lengths an_pushed_by_lengths cd_pushed_by_lengths ct_pushed_by_lengths), osl_pushed_by_lengths⟩)
    (e_pushed_by_lengths : PySem.W.codeIn K cd_pushed_by_lengths "pushed_by_lengths" = true)
    (k_pushed_by_lengths : PySem.W.keepIn K (.ref f_pushed_by_lengths) = true)
    (a_last_by_lengths : PySem.W.nsIn K mainGlobals "last_by_lengths" = some (some (.ref f_last_by_lengths)))
    (l_last_by_lengths : K.lookup f_last_by_lengths = some ⟨oc_last_by_lengths, od_last_by_lengths, .func (PySem.W.fnOf "last_by_lengths" "last_by_lengths" (defArgs s_last_by_lengths) (defBody s_last_by_lengths) (defScope s_last_by_lengths) .none kV_last_by_lengths doc_last_by_lengths pm_last_by_lengths an_last_by_lengths cd_last_by_lengths ct_last_by_lengths), osl_last_by_lengths⟩)
    (e_last_by_lengths : PySem.W.codeIn K cd_last_by_lengths "last_by_lengths" = true)
    (k_last_by_lengths : PySem.W.keepIn K (.ref f_last_by_lengths) = true)
    (a_need_policy : PySem.W.nsIn K mainGlobals "need_policy" = some (some (.ref f_need_policy)))
    (l_need_policy : K.lookup f_need_policy = some ⟨oc_need_policy, od_need_policy, .func (PySem.W.fnOf "need_policy" "need_policy" (defArgs s_need_policy) (defBody s_need_policy) (defScope s_need_policy) .none kV_need_policy doc_need_policy pm_need_policy an_need_policy cd_need_policy ct_need_policy), osl_need_policy⟩)
    (e_need_policy : PySem.W.codeIn K cd_need_policy "need_policy" = true)
    (k_need_policy : PySem.W.keepIn K (.ref f_need_policy) = true)
    (a_RunStack : PySem.W.nsIn K mainGlobals "RunStack" = some (some (.ref C_RunStack)))
    (pg_RunStack : PySem.W.plainGet K C_RunStack Str.empty = true)
    (hd_RunStack : PySem.W.hasDictIn K C_RunStack = true)
    (po_RunStack : PySem.W.plainOver K C_RunStack = true)
    (sa_RunStack : PySem.W.findIn K (.ref C_RunStack) "__setattr__" = some (some (.builtin "object.__setattr__")))
    (mk_RunStack : PySem.W.makesIn K C_RunStack = true)
    (kc_RunStack : PySem.W.keepIn K (.ref C_RunStack) = true)
    (na_RunStack_own_policy : PySem.W.findIn K (.ref C_RunStack) "own_policy" = some none)
    (na_RunStack_own_total : PySem.W.findIn K (.ref C_RunStack) "own_total" = some none)
    (na_RunStack_laid_lengths : PySem.W.findIn K (.ref C_RunStack) "laid_lengths" = some none)
    (na_RunStack_laid_powers : PySem.W.findIn K (.ref C_RunStack) "laid_powers" = some none)
    (a_RunStack___init__ : PySem.W.findIn K (.ref C_RunStack) "__init__" = some (some (.ref f_RunStack___init__)))
    (i_RunStack___init__ : PySem.W.isFn K (.ref f_RunStack___init__) = true)
    (l_RunStack___init__ : K.lookup f_RunStack___init__ = some ⟨oc_RunStack___init__, od_RunStack___init__, .func (PySem.W.fnOf "__init__" "RunStack.__init__" (defArgs s_RunStack___init__) (defBody s_RunStack___init__) (defScope s_RunStack___init__) .none (.ref D_RunStack) doc_RunStack___init__ pm_RunStack___init__ an_RunStack___init__ cd_RunStack___init__ ct_RunStack___init__), osl_RunStack___init__⟩)
    (e_RunStack___init__ : PySem.W.codeIn K cd_RunStack___init__ "RunStack.__init__" = true)
    (k_RunStack___init__ : PySem.W.keepIn K (.ref f_RunStack___init__) = true)
    (dd_RunStack : ∀ q ∈ ([("policy", .str "powers"), ("total", .non)] : List (Str × V)), ∃ u, PySem.W.nsIn K D_RunStack q.1 = some (some u) ∧ RelV q.2 u)
    (a_RunStack_merge_near : PySem.W.findIn K (.ref C_RunStack) "merge_near" = some (some (.ref f_RunStack_merge_near)))
    (i_RunStack_merge_near : PySem.W.isFn K (.ref f_RunStack_merge_near) = true)
    (l_RunStack_merge_near : K.lookup f_RunStack_merge_near = some ⟨oc_RunStack_merge_near, od_RunStack_merge_near, .func (PySem.W.fnOf "merge_near" "RunStack.merge_near" (defArgs s_RunStack_merge_near) (defBody s_RunStack_merge_near) (defScope s_RunStack_merge_near) .none kV_RunStack_merge_near doc_RunStack_merge_near pm_RunStack_merge_near an_RunStack_merge_near cd_RunStack_merge_near ct_RunStack_merge_near), osl_RunStack_merge_near⟩)
    (e_RunStack_merge_near : PySem.W.codeIn K cd_RunStack_merge_near "RunStack.merge_near" = true)
    (k_RunStack_merge_near : PySem.W.keepIn K (.ref f_RunStack_merge_near) = true)
    (a_RunStack_pushed : PySem.W.findIn K (.ref C_RunStack) "pushed" = some (some (.ref f_RunStack_pushed)))
    (i_RunStack_pushed : PySem.W.isFn K (.ref f_RunStack_pushed) = true)
    (l_RunStack_pushed : K.lookup f_RunStack_pushed = some ⟨oc_RunStack_pushed, od_RunStack_pushed, .func (PySem.W.fnOf "pushed" "RunStack.pushed" (defArgs s_RunStack_pushed) (defBody s_RunStack_pushed) (defScope s_RunStack_pushed) .none kV_RunStack_pushed doc_RunStack_pushed pm_RunStack_pushed an_RunStack_pushed cd_RunStack_pushed ct_RunStack_pushed), osl_RunStack_pushed⟩)
    (e_RunStack_pushed : PySem.W.codeIn K cd_RunStack_pushed "RunStack.pushed" = true)
    (k_RunStack_pushed : PySem.W.keepIn K (.ref f_RunStack_pushed) = true)
    (a_RunStack_finished : PySem.W.findIn K (.ref C_RunStack) "finished" = some (some (.ref f_RunStack_finished)))
    (i_RunStack_finished : PySem.W.isFn K (.ref f_RunStack_finished) = true)
    (l_RunStack_finished : K.lookup f_RunStack_finished = some ⟨oc_RunStack_finished, od_RunStack_finished, .func (PySem.W.fnOf "finished" "RunStack.finished" (defArgs s_RunStack_finished) (defBody s_RunStack_finished) (defScope s_RunStack_finished) .none kV_RunStack_finished doc_RunStack_finished pm_RunStack_finished an_RunStack_finished cd_RunStack_finished ct_RunStack_finished), osl_RunStack_finished⟩)
    (e_RunStack_finished : PySem.W.codeIn K cd_RunStack_finished "RunStack.finished" = true)
    (k_RunStack_finished : PySem.W.keepIn K (.ref f_RunStack_finished) = true)
    (a_RunStack_lengths_now : PySem.W.findIn K (.ref C_RunStack) "lengths_now" = some (some (.ref f_RunStack_lengths_now)))
    (i_RunStack_lengths_now : PySem.W.isFn K (.ref f_RunStack_lengths_now) = true)
    (l_RunStack_lengths_now : K.lookup f_RunStack_lengths_now = some ⟨oc_RunStack_lengths_now, od_RunStack_lengths_now, .func (PySem.W.fnOf "lengths_now" "RunStack.lengths_now" (defArgs s_RunStack_lengths_now) (defBody s_RunStack_lengths_now) (defScope s_RunStack_lengths_now) .none kV_RunStack_lengths_now doc_RunStack_lengths_now pm_RunStack_lengths_now an_RunStack_lengths_now cd_RunStack_lengths_now ct_RunStack_lengths_now), osl_RunStack_lengths_now⟩)
    (e_RunStack_lengths_now : PySem.W.codeIn K cd_RunStack_lengths_now "RunStack.lengths_now" = true)
    (k_RunStack_lengths_now : PySem.W.keepIn K (.ref f_RunStack_lengths_now) = true)
    (a_RunStack_powers_now : PySem.W.findIn K (.ref C_RunStack) "powers_now" = some (some (.ref f_RunStack_powers_now)))
    (i_RunStack_powers_now : PySem.W.isFn K (.ref f_RunStack_powers_now) = true)
    (l_RunStack_powers_now : K.lookup f_RunStack_powers_now = some ⟨oc_RunStack_powers_now, od_RunStack_powers_now, .func (PySem.W.fnOf "powers_now" "RunStack.powers_now" (defArgs s_RunStack_powers_now) (defBody s_RunStack_powers_now) (defScope s_RunStack_powers_now) .none kV_RunStack_powers_now doc_RunStack_powers_now pm_RunStack_powers_now an_RunStack_powers_now cd_RunStack_powers_now ct_RunStack_powers_now), osl_RunStack_powers_now⟩)
    (e_RunStack_powers_now : PySem.W.codeIn K cd_RunStack_powers_now "RunStack.powers_now" = true)
    (k_RunStack_powers_now : PySem.W.keepIn K (.ref f_RunStack_powers_now) = true)
    (a_RunStack___len__ : PySem.W.findIn K (.ref C_RunStack) "__len__" = some (some (.ref f_RunStack___len__)))
    (i_RunStack___len__ : PySem.W.isFn K (.ref f_RunStack___len__) = true)
    (l_RunStack___len__ : K.lookup f_RunStack___len__ = some ⟨oc_RunStack___len__, od_RunStack___len__, .func (PySem.W.fnOf "__len__" "RunStack.__len__" (defArgs s_RunStack___len__) (defBody s_RunStack___len__) (defScope s_RunStack___len__) .none kV_RunStack___len__ doc_RunStack___len__ pm_RunStack___len__ an_RunStack___len__ cd_RunStack___len__ ct_RunStack___len__), osl_RunStack___len__⟩)
    (e_RunStack___len__ : PySem.W.codeIn K cd_RunStack___len__ "RunStack.__len__" = true)
    (k_RunStack___len__ : PySem.W.keepIn K (.ref f_RunStack___len__) = true)
    (a_RunStack___repr__ : PySem.W.findIn K (.ref C_RunStack) "__repr__" = some (some (.ref f_RunStack___repr__)))
    (i_RunStack___repr__ : PySem.W.isFn K (.ref f_RunStack___repr__) = true)
    (l_RunStack___repr__ : K.lookup f_RunStack___repr__ = some ⟨oc_RunStack___repr__, od_RunStack___repr__, .func (PySem.W.fnOf "__repr__" "RunStack.__repr__" (defArgs s_RunStack___repr__) (defBody s_RunStack___repr__) (defScope s_RunStack___repr__) .none kV_RunStack___repr__ doc_RunStack___repr__ pm_RunStack___repr__ an_RunStack___repr__ cd_RunStack___repr__ ct_RunStack___repr__), osl_RunStack___repr__⟩)
    (e_RunStack___repr__ : PySem.W.codeIn K cd_RunStack___repr__ "RunStack.__repr__" = true)
    (k_RunStack___repr__ : PySem.W.keepIn K (.ref f_RunStack___repr__) = true)
    (a__law_begun : PySem.W.nsIn K mainGlobals "_law_begun" = some (some (.ref f__law_begun)))
    (l__law_begun : K.lookup f__law_begun = some ⟨oc__law_begun, od__law_begun, .func (PySem.W.fnOf "_law_begun" "_law_begun" (defArgs s_l_begun) (defBody s_l_begun) (defScope s_l_begun) .none kV__law_begun doc__law_begun pm__law_begun an__law_begun cd__law_begun ct__law_begun), osl__law_begun⟩)
    (e__law_begun : PySem.W.codeIn K cd__law_begun "_law_begun" = true)
    (k__law_begun : PySem.W.keepIn K (.ref f__law_begun) = true)
    (a__law_take : PySem.W.nsIn K mainGlobals "_law_take" = some (some (.ref f__law_take)))
    (l__law_take : K.lookup f__law_take = some ⟨oc__law_take, od__law_take, .func (PySem.W.fnOf "_law_take" "_law_take" (defArgs s_l_take) (defBody s_l_take) (defScope s_l_take) .none kV__law_take doc__law_take pm__law_take an__law_take cd__law_take ct__law_take), osl__law_take⟩)
    (e__law_take : PySem.W.codeIn K cd__law_take "_law_take" = true)
    (k__law_take : PySem.W.keepIn K (.ref f__law_take) = true)
    (a__law_of : PySem.W.nsIn K mainGlobals "_law_of" = some (some (.ref f__law_of)))
    (l__law_of : K.lookup f__law_of = some ⟨oc__law_of, od__law_of, .func (PySem.W.fnOf "_law_of" "_law_of" (defArgs s_l_of) (defBody s_l_of) (defScope s_l_of) .none kV__law_of doc__law_of pm__law_of an__law_of cd__law_of ct__law_of), osl__law_of⟩)
    (e__law_of : PySem.W.codeIn K cd__law_of "_law_of" = true)
    (k__law_of : PySem.W.keepIn K (.ref f__law_of) = true)
    (a__law_runs : PySem.W.nsIn K mainGlobals "_law_runs" = some (some (.ref f__law_runs)))
    (l__law_runs : K.lookup f__law_runs = some ⟨oc__law_runs, od__law_runs, .func (PySem.W.fnOf "_law_runs" "_law_runs" (defArgs s_l_runs) (defBody s_l_runs) (defScope s_l_runs) .none kV__law_runs doc__law_runs pm__law_runs an__law_runs cd__law_runs ct__law_runs), osl__law_runs⟩)
    (e__law_runs : PySem.W.codeIn K cd__law_runs "_law_runs" = true)
    (k__law_runs : PySem.W.keepIn K (.ref f__law_runs) = true)
    (a__law_merge : PySem.W.nsIn K mainGlobals "_law_merge" = some (some (.ref f__law_merge)))
    (l__law_merge : K.lookup f__law_merge = some ⟨oc__law_merge, od__law_merge, .func (PySem.W.fnOf "_law_merge" "_law_merge" (defArgs s_l_merge) (defBody s_l_merge) (defScope s_l_merge) .none kV__law_merge doc__law_merge pm__law_merge an__law_merge cd__law_merge ct__law_merge), osl__law_merge⟩)
    (e__law_merge : PySem.W.codeIn K cd__law_merge "_law_merge" = true)
    (k__law_merge : PySem.W.keepIn K (.ref f__law_merge) = true)
    (a__law_next : PySem.W.nsIn K mainGlobals "_law_next" = some (some (.ref f__law_next)))
    (l__law_next : K.lookup f__law_next = some ⟨oc__law_next, od__law_next, .func (PySem.W.fnOf "_law_next" "_law_next" (defArgs s_l_next) (defBody s_l_next) (defScope s_l_next) .none kV__law_next doc__law_next pm__law_next an__law_next cd__law_next ct__law_next), osl__law_next⟩)
    (e__law_next : PySem.W.codeIn K cd__law_next "_law_next" = true)
    (k__law_next : PySem.W.keepIn K (.ref f__law_next) = true)
    (a__law_pushed : PySem.W.nsIn K mainGlobals "_law_pushed" = some (some (.ref f__law_pushed)))
    (l__law_pushed : K.lookup f__law_pushed = some ⟨oc__law_pushed, od__law_pushed, .func (PySem.W.fnOf "_law_pushed" "_law_pushed" (defArgs s_l_pushed) (defBody s_l_pushed) (defScope s_l_pushed) .none kV__law_pushed doc__law_pushed pm__law_pushed an__law_pushed cd__law_pushed ct__law_pushed), osl__law_pushed⟩)
    (e__law_pushed : PySem.W.codeIn K cd__law_pushed "_law_pushed" = true)
    (k__law_pushed : PySem.W.keepIn K (.ref f__law_pushed) = true)
    (a__law_finished : PySem.W.nsIn K mainGlobals "_law_finished" = some (some (.ref f__law_finished)))
    (l__law_finished : K.lookup f__law_finished = some ⟨oc__law_finished, od__law_finished, .func (PySem.W.fnOf "_law_finished" "_law_finished" (defArgs s_l_finished) (defBody s_l_finished) (defScope s_l_finished) .none kV__law_finished doc__law_finished pm__law_finished an__law_finished cd__law_finished ct__law_finished), osl__law_finished⟩)
    (e__law_finished : PySem.W.codeIn K cd__law_finished "_law_finished" = true)
    (k__law_finished : PySem.W.keepIn K (.ref f__law_finished) = true)
    (a__law_is_so : PySem.W.nsIn K mainGlobals "_law_is_so" = some (some (.ref f__law_is_so)))
    (l__law_is_so : K.lookup f__law_is_so = some ⟨oc__law_is_so, od__law_is_so, .func (PySem.W.fnOf "_law_is_so" "_law_is_so" (defArgs s_l_is_so) (defBody s_l_is_so) (defScope s_l_is_so) .none kV__law_is_so doc__law_is_so pm__law_is_so an__law_is_so cd__law_is_so ct__law_is_so), osl__law_is_so⟩)
    (e__law_is_so : PySem.W.codeIn K cd__law_is_so "_law_is_so" = true)
    (k__law_is_so : PySem.W.keepIn K (.ref f__law_is_so) = true)
    (a__law_end_right : PySem.W.nsIn K mainGlobals "_law_end_right" = some (some (.ref f__law_end_right)))
    (l__law_end_right : K.lookup f__law_end_right = some ⟨oc__law_end_right, od__law_end_right, .func (PySem.W.fnOf "_law_end_right" "_law_end_right" (defArgs s_l_end_right) (defBody s_l_end_right) (defScope s_l_end_right) .none kV__law_end_right doc__law_end_right pm__law_end_right an__law_end_right cd__law_end_right ct__law_end_right), osl__law_end_right⟩)
    (e__law_end_right : PySem.W.codeIn K cd__law_end_right "_law_end_right" = true)
    (k__law_end_right : PySem.W.keepIn K (.ref f__law_end_right) = true)
    (a__law_right : PySem.W.nsIn K mainGlobals "_law_right" = some (some (.ref f__law_right)))
    (l__law_right : K.lookup f__law_right = some ⟨oc__law_right, od__law_right, .func (PySem.W.fnOf "_law_right" "_law_right" (defArgs s_l_right) (defBody s_l_right) (defScope s_l_right) .none kV__law_right doc__law_right pm__law_right an__law_right cd__law_right ct__law_right), osl__law_right⟩)
    (e__law_right : PySem.W.codeIn K cd__law_right "_law_right" = true)
    (k__law_right : PySem.W.keepIn K (.ref f__law_right) = true)
    (a_law : PySem.W.nsIn K mainGlobals "law" = some (some (.ref f_law)))
    (l_law : K.lookup f_law = some ⟨oc_law, od_law, .func (PySem.W.fnOf "law" "law" (defArgs s_law) (defBody s_law) (defScope s_law) .none kV_law doc_law pm_law an_law cd_law ct_law), osl_law⟩)
    (e_law : PySem.W.codeIn K cd_law "law" = true)
    (k_law : PySem.W.keepIn K (.ref f_law) = true)
    (g_MOST_THINGS : PySem.W.nsIn K mainGlobals "MOST_THINGS" = some (some u_MOST_THINGS))
    (r_MOST_THINGS : RelV (.int 4096) u_MOST_THINGS)
    (g_PUSHES : PySem.W.nsIn K mainGlobals "PUSHES" = some (some (.ref k_PUSHES)))
    (at_PUSHES : K.lookup k_PUSHES = some ⟨.type "dict", none, .dict ke_PUSHES kn_PUSHES, #[]⟩)
    (lit_PUSHES : PySem.W.KeysLit w.params ke_PUSHES.toList)
    (low_PUSHES : (k_PUSHES == sysModules) = false)
    (q_PUSHES_lengths : PySem.W.nsIn K k_PUSHES "lengths" = some (some (.ref f_pushed_by_lengths)))
    (g_LASTS : PySem.W.nsIn K mainGlobals "LASTS" = some (some (.ref k_LASTS)))
    (at_LASTS : K.lookup k_LASTS = some ⟨.type "dict", none, .dict ke_LASTS kn_LASTS, #[]⟩)
    (lit_LASTS : PySem.W.KeysLit w.params ke_LASTS.toList)
    (low_LASTS : (k_LASTS == sysModules) = false)
    (q_LASTS_lengths : PySem.W.nsIn K k_LASTS "lengths" = some (some (.ref f_last_by_lengths)))
    (z_len : PySem.W.nsIn K mainGlobals "len" = some none)
    (z_min : PySem.W.nsIn K mainGlobals "min" = some none)
    (z_max : PySem.W.nsIn K mainGlobals "max" = some none)
    (z_range : PySem.W.nsIn K mainGlobals "range" = some none)
    (z_repr : PySem.W.nsIn K mainGlobals "repr" = some none)
    (z_isinstance : PySem.W.nsIn K mainGlobals "isinstance" = some none)
    (z_int : PySem.W.nsIn K mainGlobals "int" = some none)
    (z_bool : PySem.W.nsIn K mainGlobals "bool" = some none)
    (z_str : PySem.W.nsIn K mainGlobals "str" = some none)
    (z_sum : PySem.W.nsIn K mainGlobals "sum" = some none)
    (z_list : PySem.W.nsIn K mainGlobals "list" = some none)
    (z_enumerate : PySem.W.nsIn K mainGlobals "enumerate" = some none)
    : ∃ A, Txt K mg w A :=
  ⟨⟨f_is_whole, f_need_number, f_next_by_lengths, f_pushed_by_lengths, f_last_by_lengths, f_need_policy, C_RunStack, f_RunStack___init__, f_RunStack_merge_near, f_RunStack_pushed, f_RunStack_finished, f_RunStack_lengths_now, f_RunStack_powers_now, f_RunStack___len__, f_RunStack___repr__, f__law_begun, f__law_take, f__law_of, f__law_runs, f__law_merge, f__law_next, f__law_pushed, f__law_finished, f__law_is_so, f__law_end_right, f__law_right, f_law, k_PUSHES, k_LASTS, (PySem.W.fnOf "is_whole" "is_whole" (defArgs s_is_whole) (defBody s_is_whole) (defScope s_is_whole) .none (.ref D_is_whole) doc_is_whole pm_is_whole an_is_whole cd_is_whole ct_is_whole), (PySem.W.fnOf "need_number" "need_number" (defArgs s_need_number) (defBody s_need_number) (defScope s_need_number) .none kV_need_number doc_need_number pm_need_number an_need_number cd_need_number ct_need_number), (PySem.W.fnOf "next_by_lengths" "next_by_lengths" (defArgs s_next_by_lengths) (defBody s_next_by_lengths) (defScope s_next_by_lengths) .none kV_next_by_lengths doc_next_by_lengths pm_next_by_lengths an_next_by_lengths cd_next_by_lengths ct_next_by_lengths), (PySem.W.fnOf "pushed_by_lengths" "pushed_by_lengths" (defArgs s_pushed_by_lengths) (defBody s_pushed_by_lengths) (defScope s_pushed_by_lengths) .none kV_pushed_by_lengths doc_pushed_by_lengths pm_pushed_by_lengths an_pushed_by_lengths cd_pushed_by_lengths ct_pushed_by_lengths), (PySem.W.fnOf "last_by_lengths" "last_by_lengths" (defArgs s_last_by_lengths) (defBody s_last_by_lengths) (defScope s_last_by_lengths) .none kV_last_by_lengths doc_last_by_lengths pm_last_by_lengths an_last_by_lengths cd_last_by_lengths ct_last_by_lengths), (PySem.W.fnOf "need_policy" "need_policy" (defArgs s_need_policy) (defBody s_need_policy) (defScope s_need_policy) .none kV_need_policy doc_need_policy pm_need_policy an_need_policy cd_need_policy ct_need_policy), (PySem.W.fnOf "__init__" "RunStack.__init__" (defArgs s_RunStack___init__) (defBody s_RunStack___init__) (defScope s_RunStack___init__) .none (.ref D_RunStack) doc_RunStack___init__ pm_RunStack___init__ an_RunStack___init__ cd_RunStack___init__ ct_RunStack___init__), (PySem.W.fnOf "merge_near" "RunStack.merge_near" (defArgs s_RunStack_merge_near) (defBody s_RunStack_merge_near) (defScope s_RunStack_merge_near) .none kV_RunStack_merge_near doc_RunStack_merge_near pm_RunStack_merge_near an_RunStack_merge_near cd_RunStack_merge_near ct_RunStack_merge_near), (PySem.W.fnOf "pushed" "RunStack.pushed" (defArgs s_RunStack_pushed) (defBody s_RunStack_pushed) (defScope s_RunStack_pushed) .none kV_RunStack_pushed doc_RunStack_pushed pm_RunStack_pushed an_RunStack_pushed cd_RunStack_pushed ct_RunStack_pushed), (PySem.W.fnOf "finished" "RunStack.finished" (defArgs s_RunStack_finished) (defBody s_RunStack_finished) (defScope s_RunStack_finished) .none kV_RunStack_finished doc_RunStack_finished pm_RunStack_finished an_RunStack_finished cd_RunStack_finished ct_RunStack_finished), (PySem.W.fnOf "lengths_now" "RunStack.lengths_now" (defArgs s_RunStack_lengths_now) (defBody s_RunStack_lengths_now) (defScope s_RunStack_lengths_now) .none kV_RunStack_lengths_now doc_RunStack_lengths_now pm_RunStack_lengths_now an_RunStack_lengths_now cd_RunStack_lengths_now ct_RunStack_lengths_now), (PySem.W.fnOf "powers_now" "RunStack.powers_now" (defArgs s_RunStack_powers_now) (defBody s_RunStack_powers_now) (defScope s_RunStack_powers_now) .none kV_RunStack_powers_now doc_RunStack_powers_now pm_RunStack_powers_now an_RunStack_powers_now cd_RunStack_powers_now ct_RunStack_powers_now), (PySem.W.fnOf "__len__" "RunStack.__len__" (defArgs s_RunStack___len__) (defBody s_RunStack___len__) (defScope s_RunStack___len__) .none kV_RunStack___len__ doc_RunStack___len__ pm_RunStack___len__ an_RunStack___len__ cd_RunStack___len__ ct_RunStack___len__), (PySem.W.fnOf "__repr__" "RunStack.__repr__" (defArgs s_RunStack___repr__) (defBody s_RunStack___repr__) (defScope s_RunStack___repr__) .none kV_RunStack___repr__ doc_RunStack___repr__ pm_RunStack___repr__ an_RunStack___repr__ cd_RunStack___repr__ ct_RunStack___repr__), (PySem.W.fnOf "_law_begun" "_law_begun" (defArgs s_l_begun) (defBody s_l_begun) (defScope s_l_begun) .none kV__law_begun doc__law_begun pm__law_begun an__law_begun cd__law_begun ct__law_begun), (PySem.W.fnOf "_law_take" "_law_take" (defArgs s_l_take) (defBody s_l_take) (defScope s_l_take) .none kV__law_take doc__law_take pm__law_take an__law_take cd__law_take ct__law_take), (PySem.W.fnOf "_law_of" "_law_of" (defArgs s_l_of) (defBody s_l_of) (defScope s_l_of) .none kV__law_of doc__law_of pm__law_of an__law_of cd__law_of ct__law_of), (PySem.W.fnOf "_law_runs" "_law_runs" (defArgs s_l_runs) (defBody s_l_runs) (defScope s_l_runs) .none kV__law_runs doc__law_runs pm__law_runs an__law_runs cd__law_runs ct__law_runs), (PySem.W.fnOf "_law_merge" "_law_merge" (defArgs s_l_merge) (defBody s_l_merge) (defScope s_l_merge) .none kV__law_merge doc__law_merge pm__law_merge an__law_merge cd__law_merge ct__law_merge), (PySem.W.fnOf "_law_next" "_law_next" (defArgs s_l_next) (defBody s_l_next) (defScope s_l_next) .none kV__law_next doc__law_next pm__law_next an__law_next cd__law_next ct__law_next), (PySem.W.fnOf "_law_pushed" "_law_pushed" (defArgs s_l_pushed) (defBody s_l_pushed) (defScope s_l_pushed) .none kV__law_pushed doc__law_pushed pm__law_pushed an__law_pushed cd__law_pushed ct__law_pushed), (PySem.W.fnOf "_law_finished" "_law_finished" (defArgs s_l_finished) (defBody s_l_finished) (defScope s_l_finished) .none kV__law_finished doc__law_finished pm__law_finished an__law_finished cd__law_finished ct__law_finished), (PySem.W.fnOf "_law_is_so" "_law_is_so" (defArgs s_l_is_so) (defBody s_l_is_so) (defScope s_l_is_so) .none kV__law_is_so doc__law_is_so pm__law_is_so an__law_is_so cd__law_is_so ct__law_is_so), (PySem.W.fnOf "_law_end_right" "_law_end_right" (defArgs s_l_end_right) (defBody s_l_end_right) (defScope s_l_end_right) .none kV__law_end_right doc__law_end_right pm__law_end_right an__law_end_right cd__law_end_right ct__law_end_right), (PySem.W.fnOf "_law_right" "_law_right" (defArgs s_l_right) (defBody s_l_right) (defScope s_l_right) .none kV__law_right doc__law_right pm__law_right an__law_right cd__law_right ct__law_right), (PySem.W.fnOf "law" "law" (defArgs s_law) (defBody s_law) (defScope s_law) .none kV_law doc_law pm_law an_law cd_law ct_law), ke_PUSHES, kn_PUSHES, ke_LASTS, kn_LASTS⟩,
    { c_is_whole := ⟨⟨⟨_, _, .none, .ref D_is_whole, _, _, _, _, _, _, rfl, l_is_whole, e_is_whole, Or.inl ⟨rfl, rfl⟩, Or.inr ⟨D_is_whole, rfl, dd_is_whole⟩⟩, k_is_whole⟩, PySem.W.mg_of X G a_is_whole⟩
      c_need_number := ⟨fun_mk l_need_number e_need_number k_need_number, (fun_mk (st := s_need_number) l_need_number e_need_number k_need_number).binds (ps := ["thing", "least", "most"]) (fun _ _ _ _ _ _ us hl => match us, hl with | [_, _, _], _ => rfl), PySem.W.mg_of X G a_need_number⟩
      c_next_by_lengths := ⟨fun_mk l_next_by_lengths e_next_by_lengths k_next_by_lengths, (fun_mk (st := s_next_by_lengths) l_next_by_lengths e_next_by_lengths k_next_by_lengths).binds (ps := ["lengths"]) (fun _ _ _ _ _ _ us hl => match us, hl with | [_], _ => rfl), PySem.W.mg_of X G a_next_by_lengths⟩
      c_pushed_by_lengths := ⟨fun_mk l_pushed_by_lengths e_pushed_by_lengths k_pushed_by_lengths, (fun_mk (st := s_pushed_by_lengths) l_pushed_by_lengths e_pushed_by_lengths k_pushed_by_lengths).binds (ps := ["stack", "many"]) (fun _ _ _ _ _ _ us hl => match us, hl with | [_, _], _ => rfl), PySem.W.mg_of X G a_pushed_by_lengths⟩
      c_last_by_lengths := ⟨fun_mk l_last_by_lengths e_last_by_lengths k_last_by_lengths, (fun_mk (st := s_last_by_lengths) l_last_by_lengths e_last_by_lengths k_last_by_lengths).binds (ps := ["lengths"]) (fun _ _ _ _ _ _ us hl => match us, hl with | [_], _ => rfl), PySem.W.mg_of X G a_last_by_lengths⟩
      c_need_policy := ⟨fun_mk l_need_policy e_need_policy k_need_policy, (fun_mk (st := s_need_policy) l_need_policy e_need_policy k_need_policy).binds (ps := ["policy"]) (fun _ _ _ _ _ _ us hl => match us, hl with | [_], _ => rfl), PySem.W.mg_of X G a_need_policy⟩
      m_RunStack := PySem.W.mg_of X G a_RunStack
      cl_RunStack := ⟨pg_RunStack, hd_RunStack, po_RunStack, sa_RunStack⟩
      na_RunStack_own_policy := na_RunStack_own_policy
      na_RunStack_own_total := na_RunStack_own_total
      na_RunStack_laid_lengths := na_RunStack_laid_lengths
      na_RunStack_laid_powers := na_RunStack_laid_powers
      i_RunStack := ⟨⟨mk_RunStack, a_RunStack___init__, i_RunStack___init__, kc_RunStack⟩, ⟨⟨_, _, .none, .ref D_RunStack, _, _, _, _, _, _, rfl, l_RunStack___init__, e_RunStack___init__, Or.inl ⟨rfl, rfl⟩, Or.inr ⟨D_RunStack, rfl, dd_RunStack⟩⟩, k_RunStack___init__⟩⟩
      h_RunStack_merge_near := ⟨a_RunStack_merge_near, i_RunStack_merge_near, k_RunStack_merge_near⟩
      c_RunStack_merge_near := ⟨fun_mk l_RunStack_merge_near e_RunStack_merge_near k_RunStack_merge_near, (fun_mk (st := s_RunStack_merge_near) l_RunStack_merge_near e_RunStack_merge_near k_RunStack_merge_near).binds (ps := ["self", "at"]) (fun _ _ _ _ _ _ us hl => match us, hl with | [_, _], _ => rfl)⟩
      h_RunStack_pushed := ⟨a_RunStack_pushed, i_RunStack_pushed, k_RunStack_pushed⟩
      c_RunStack_pushed := ⟨fun_mk l_RunStack_pushed e_RunStack_pushed k_RunStack_pushed, (fun_mk (st := s_RunStack_pushed) l_RunStack_pushed e_RunStack_pushed k_RunStack_pushed).binds (ps := ["self", "many"]) (fun _ _ _ _ _ _ us hl => match us, hl with | [_, _], _ => rfl)⟩
      h_RunStack_finished := ⟨a_RunStack_finished, i_RunStack_finished, k_RunStack_finished⟩
      c_RunStack_finished := ⟨fun_mk l_RunStack_finished e_RunStack_finished k_RunStack_finished, (fun_mk (st := s_RunStack_finished) l_RunStack_finished e_RunStack_finished k_RunStack_finished).binds (ps := ["self"]) (fun _ _ _ _ _ _ us hl => match us, hl with | [_], _ => rfl)⟩
      h_RunStack_lengths_now := ⟨a_RunStack_lengths_now, i_RunStack_lengths_now, k_RunStack_lengths_now⟩
      c_RunStack_lengths_now := ⟨fun_mk l_RunStack_lengths_now e_RunStack_lengths_now k_RunStack_lengths_now, (fun_mk (st := s_RunStack_lengths_now) l_RunStack_lengths_now e_RunStack_lengths_now k_RunStack_lengths_now).binds (ps := ["self"]) (fun _ _ _ _ _ _ us hl => match us, hl with | [_], _ => rfl)⟩
      h_RunStack_powers_now := ⟨a_RunStack_powers_now, i_RunStack_powers_now, k_RunStack_powers_now⟩
      c_RunStack_powers_now := ⟨fun_mk l_RunStack_powers_now e_RunStack_powers_now k_RunStack_powers_now, (fun_mk (st := s_RunStack_powers_now) l_RunStack_powers_now e_RunStack_powers_now k_RunStack_powers_now).binds (ps := ["self"]) (fun _ _ _ _ _ _ us hl => match us, hl with | [_], _ => rfl)⟩
      h_RunStack___len__ := ⟨a_RunStack___len__, i_RunStack___len__, k_RunStack___len__⟩
      c_RunStack___len__ := ⟨fun_mk l_RunStack___len__ e_RunStack___len__ k_RunStack___len__, (fun_mk (st := s_RunStack___len__) l_RunStack___len__ e_RunStack___len__ k_RunStack___len__).binds (ps := ["self"]) (fun _ _ _ _ _ _ us hl => match us, hl with | [_], _ => rfl)⟩
      h_RunStack___repr__ := ⟨a_RunStack___repr__, i_RunStack___repr__, k_RunStack___repr__⟩
      c_RunStack___repr__ := ⟨fun_mk l_RunStack___repr__ e_RunStack___repr__ k_RunStack___repr__, (fun_mk (st := s_RunStack___repr__) l_RunStack___repr__ e_RunStack___repr__ k_RunStack___repr__).binds (ps := ["self"]) (fun _ _ _ _ _ _ us hl => match us, hl with | [_], _ => rfl)⟩
      c__law_begun := ⟨fun_mk l__law_begun e__law_begun k__law_begun, (fun_mk (st := s_l_begun) l__law_begun e__law_begun k__law_begun).binds (ps := ["_law_script", "_law_k"]) (fun _ _ _ _ _ _ us hl => match us, hl with | [_, _], _ => rfl), PySem.W.mg_of X G a__law_begun⟩
      c__law_take := ⟨fun_mk l__law_take e__law_take k__law_take, (fun_mk (st := s_l_take) l__law_take e__law_take k__law_take).binds (ps := ["_law_draw", "_law_below"]) (fun _ _ _ _ _ _ us hl => match us, hl with | [_, _], _ => rfl), PySem.W.mg_of X G a__law_take⟩
      c__law_of := ⟨fun_mk l__law_of e__law_of k__law_of, (fun_mk (st := s_l_of) l__law_of e__law_of k__law_of).binds (ps := ["_law_draw", "_law_some"]) (fun _ _ _ _ _ _ us hl => match us, hl with | [_, _], _ => rfl), PySem.W.mg_of X G a__law_of⟩
      c__law_runs := ⟨fun_mk l__law_runs e__law_runs k__law_runs, (fun_mk (st := s_l_runs) l__law_runs e__law_runs k__law_runs).binds (ps := ["_law_draw", "_law_most_runs"]) (fun _ _ _ _ _ _ us hl => match us, hl with | [_, _], _ => rfl), PySem.W.mg_of X G a__law_runs⟩
      c__law_merge := ⟨fun_mk l__law_merge e__law_merge k__law_merge, (fun_mk (st := s_l_merge) l__law_merge e__law_merge k__law_merge).binds (ps := ["_law_own", "_law_at"]) (fun _ _ _ _ _ _ us hl => match us, hl with | [_, _], _ => rfl), PySem.W.mg_of X G a__law_merge⟩
      c__law_next := ⟨fun_mk l__law_next e__law_next k__law_next, (fun_mk (st := s_l_next) l__law_next e__law_next k__law_next).binds (ps := ["_law_own"]) (fun _ _ _ _ _ _ us hl => match us, hl with | [_], _ => rfl), PySem.W.mg_of X G a__law_next⟩
      c__law_pushed := ⟨fun_mk l__law_pushed e__law_pushed k__law_pushed, (fun_mk (st := s_l_pushed) l__law_pushed e__law_pushed k__law_pushed).binds (ps := ["_law_own", "_law_one"]) (fun _ _ _ _ _ _ us hl => match us, hl with | [_, _], _ => rfl), PySem.W.mg_of X G a__law_pushed⟩
      c__law_finished := ⟨fun_mk l__law_finished e__law_finished k__law_finished, (fun_mk (st := s_l_finished) l__law_finished e__law_finished k__law_finished).binds (ps := ["_law_own"]) (fun _ _ _ _ _ _ us hl => match us, hl with | [_], _ => rfl), PySem.W.mg_of X G a__law_finished⟩
      c__law_is_so := ⟨fun_mk l__law_is_so e__law_is_so k__law_is_so, (fun_mk (st := s_l_is_so) l__law_is_so e__law_is_so k__law_is_so).binds (ps := ["_law_stack", "_law_own"]) (fun _ _ _ _ _ _ us hl => match us, hl with | [_, _], _ => rfl), PySem.W.mg_of X G a__law_is_so⟩
      c__law_end_right := ⟨fun_mk l__law_end_right e__law_end_right k__law_end_right, (fun_mk (st := s_l_end_right) l__law_end_right e__law_end_right k__law_end_right).binds (ps := ["_law_stack", "_law_own"]) (fun _ _ _ _ _ _ us hl => match us, hl with | [_, _], _ => rfl), PySem.W.mg_of X G a__law_end_right⟩
      c__law_right := ⟨fun_mk l__law_right e__law_right k__law_right, (fun_mk (st := s_l_right) l__law_right e__law_right k__law_right).binds (ps := ["_law_draw"]) (fun _ _ _ _ _ _ us hl => match us, hl with | [_], _ => rfl), PySem.W.mg_of X G a__law_right⟩
      c_law := ⟨fun_mk l_law e_law k_law, (fun_mk (st := s_law) l_law e_law k_law).binds (ps := ["_law_script"]) (fun _ _ _ _ _ _ us hl => match us, hl with | [_], _ => rfl), PySem.W.mg_of X G a_law⟩
      g_MOST_THINGS := ⟨_, PySem.W.mg_of X G g_MOST_THINGS, r_MOST_THINGS⟩
      g_PUSHES := ⟨_, PySem.W.mg_of X G g_PUSHES, rfl⟩
      d_PUSHES := ⟨at_PUSHES, lit_PUSHES, low_PUSHES⟩
      q_PUSHES_lengths := ⟨_, _, _, at_PUSHES, lit_PUSHES, q_PUSHES_lengths, rfl⟩
      n_PUSHES_lengths := ⟨_, q_PUSHES_lengths⟩
      g_LASTS := ⟨_, PySem.W.mg_of X G g_LASTS, rfl⟩
      d_LASTS := ⟨at_LASTS, lit_LASTS, low_LASTS⟩
      q_LASTS_lengths := ⟨_, _, _, at_LASTS, lit_LASTS, q_LASTS_lengths, rfl⟩
      n_LASTS_lengths := ⟨_, q_LASTS_lengths⟩
      n_len := PySem.W.mg_none_of X G z_len
      n_min := PySem.W.mg_none_of X G z_min
      n_max := PySem.W.mg_none_of X G z_max
      n_range := PySem.W.mg_none_of X G z_range
      n_repr := PySem.W.mg_none_of X G z_repr
      n_isinstance := PySem.W.mg_none_of X G z_isinstance
      n_int := PySem.W.mg_none_of X G z_int
      n_bool := PySem.W.mg_none_of X G z_bool
      n_str := PySem.W.mg_none_of X G z_str
      n_sum := PySem.W.mg_none_of X G z_sum
      n_list := PySem.W.mg_none_of X G z_list
      n_enumerate := PySem.W.mg_none_of X G z_enumerate }⟩

section
variable {P : Program} {w : World} {K : PySem.W.Frag} {mg : Str → Option Value} {base : Heap} {A : Ad} {H H0 : Hp} {MM : List Addr} {L L' F : Led} {Q : VK} {E : XK}
theorem ok_is_whole (T : Txt K mg w A) : FnOk P w K mg base CX0 1 A.f_is_whole A.d_is_whole ["thing", "least", "most"] sp_whole := by
  refine T.c_is_whole.F.ok sc_is_whole (fun vs H Q E h => ?_) (fun cdv Ar outer s H vs Q E hr h => ?_)
  · obtain ⟨t, l, m, rfl, _⟩ := h; rfl
  · obtain ⟨t, l, m, rfl, k⟩ := h
    refine ⟨_, (pss_one (ps_ret (pe_and (pe_callB call_isi (by rfl) T.n_isinstance PyProof.Rows.boot_isinstance (pa_cons (pv 0) (pa_cons (pe_bltn (v := .ty "int") rfl T.n_int PyProof.Rows.boot_int rfl) pa_nil))) (pe_and (pe_not (pe_callB call_isi (by rfl) T.n_isinstance PyProof.Rows.boot_isinstance (pa_cons (pv 0) (pa_cons (pe_bltn (v := .ty "bool") rfl T.n_bool PyProof.Rows.boot_bool rfl) pa_nil)))) (pe_one (pe_chain op_le op_le (pv 1) (pv 0) (pv 2))))))), ?_⟩
    walk_at "st"
    have ki := Kin.int (K := K) (H := H) t
    walk_at "rd"
    refine rd_isi ki (kit_int _) ?_
    walk_at "rd"
    show if true = true then _ else _
    walk_at "rd"
    refine rd_isi ki (kit_bool _) ?_
    walk_at "rd"
    show if true = true then _ else _
    walk_at "rd"
    refine rd_dec ?_ ?_ <;> intro h1
    · walk_at "rd"
      rw [decide_eq_true h1, Bool.true_and] at k
      exact k
    · rw [decide_eq_false h1, Bool.false_and] at k
      exact k
theorem kb_lm (T : Txt K mg w A) : ∃ mv : List Value, KBn K A.d_is_whole ["thing", "least", "most"] 1 ["least", "most"] (fun us ws => us ++ ws ++ mv) (fun vs zs => vs ++ zs ++ []) := by
  refine T.c_is_whole.F.kbinds0 1 ["least", "most"] [] (fun us mv ws => us ++ ws ++ mv) (by simp) (by simp) (fun r1 r2 r3 => (r1.append r3).append r2) ?_
  intro D doc pm an cdv ct us mv ws h1 h2 h3
  match us, h1, mv, h2, ws, h3 with
  | [u], _, [], _, [y, z], _ => rfl
theorem kb_1 (T : Txt K mg w A) : ∃ ds : List Value, Vals [V.int 0, V.int 4096] ds ∧ Binds K A.d_is_whole ["thing", "least", "most"] ds := by
  refine T.c_is_whole.F.binds0 1 (by simp) (by simp) ?_
  intro D doc pm an cdv ct us ks h1 h2
  match us, h1, ks, h2 with
  | [u], _, [m, n], _ => exact ⟨_, _, _, _, _, _, rfl, rfl, _, _, _, _, _, _, rfl, rfl, rfl⟩
theorem ok_need_number (T : Txt K mg w A) : FnOk P w K mg base CX0 2 A.f_need_number A.d_need_number ["thing", "least", "most"] sp_need := by
  have G_is_whole : FnOk P w K mg base CX0 1 A.f_is_whole A.d_is_whole ["thing", "least", "most"] sp_whole := ok_is_whole T
  obtain ⟨mv, kb_is_whole_least_most⟩ := kb_lm T
  refine T.c_need_number.F.ok sc_need_number (fun vs H Q E h => ?_) (fun cdv Ar outer s H vs Q E hr h => ?_)
  · obtain ⟨t, l, m, rfl, _⟩ := h; rfl
  · obtain ⟨t, l, m, rfl, h1, h2, k⟩ := h
    refine ⟨_, (pss_one (ps_if (pt_not (pt_val (pe_callN G_is_whole (hr.mono (by decide)) rfl T.c_is_whole.m T.c_is_whole.F.kp kb_is_whole_least_most pass0 (pa_cons (pv 0) pa_nil) (pk_cons (pv 1) (pk_cons (pv 2) pk_nil)))))
        (pss_one ps_never)
        pss_nil)), ?_⟩
    walk_at "st"
    walk_at "rd"
    refine ⟨rfl, rfl, t, l, m, rfl, ?_⟩
    rw [decide_eq_true h1, decide_eq_true h2]
    walk_at "rd"
    show if false = true then _ else _
    walk_at "rd"
    exact k

local macro_rules | `(tactic| walk_at "put") => `(tactic| first | exact put_left _ _ _ _ | exact put_at _ _ _ _ | exact merge_drw _ _ _)
local macro_rules | `(tactic| walk_at "val") => `(tactic| first | exact drw_left _ _ _ | exact drw_cell _ _ _ | exact drw_at _ _ _)
theorem ok_take (T : Txt K mg w A) : FnOk P w K mg base CX0 1 A.f__law_take A.d__law_take ["_law_draw", "_law_below"] sp_take := by
  refine T.c__law_take.F.ok sc_l_take (fun vs H Q E h => ?_) (fun cdv Ar outer s H vs Q E hr h => ?_)
  · obtain ⟨d, l, c, a, n, rfl, _⟩ := h; rfl
  · obtain ⟨d, l, c, a, n, rfl, hd, hn1, hn2, ha1, ha2, k⟩ := h
    have hu := hu_of hr
    refine ⟨_, (pss_cons (ps_if (pt_cmpR op_gt (pe_dget hu (pv 0) pe_str (fun _ _ => rfl)) pe_int (nomark _))
        (pss_cons (ps_set (i := 2) sc_l_take.nd rfl (Or.inl rfl) (pe_op op_mod (pe_dget hu (pv 0) pe_str (fun _ _ => rfl)) (pv 1)))
        (pss_cons (ps_dput hu (pv 0) pe_str (pe_op op_fdivW (pe_dget hu (pv 0) pe_str (fun _ _ => rfl)) (pv 1)) rfl)
        (pss_one (ps_ret (pv 2)))))
        pss_nil)
      (pss_cons (ps_set (i := 3) sc_l_take.nd rfl (Or.inl rfl) (pe_op op_add (pe_dget hu (pv 0) pe_str (fun _ _ => rfl)) pe_int))
      (pss_cons (ps_dput hu (pv 0) pe_str (pv 3) rfl)
      (pss_cons (ps_set (i := 4) sc_l_take.nd rfl (Or.inl rfl) (pe_ix ix_list (pe_lst (pa_cons pe_int (pa_cons pe_int (pa_cons pe_int (pa_cons pe_int (pa_cons pe_int pa_nil)))))) (pe_op op_mod (pv 3) pe_int) (fun _ _ => rfl)))
      (pss_cons (ps_set (i := 5) sc_l_take.nd rfl (Or.inl rfl) (pe_op op_mod (pe_op op_mul (pe_op op_add (pe_op op_add (pe_op op_add (pe_op op_mod (pe_dget hu (pv 0) pe_str (fun _ _ => rfl)) (pv 4)) (pe_op op_mul (pe_op op_mul pe_int (pv 3)) (pv 3))) (pe_op op_mul pe_int (pv 3))) pe_int) pe_int) (pv 4)))
      (pss_one (ps_ret (pe_op op_mod (pe_op op_mod (pe_op op_mul (pv 5) (pe_op op_add (pe_op op_mod (pv 5) pe_int) pe_int)) pe_int) (pv 1))))))))), ?_⟩
    have S := Hs.start1 hd [d] (.inr rfl)
    walk_at "st"
    walk_at "rd"
    refine rd_dec ?_ ?_ <;> intro hb
    · walk_at "rd"
      apply k
      all_goals walk_at "end"
    · walk_at "rd"
      refine rd_ixAny (by assumption) (by walk_at "mem") (by assumption) (by simpa using (by assumption)) fun v hv _ => ?_
      obtain ⟨q, rfl, hq1, hq2⟩ : ∃ q, v = V.int q ∧ 0 < q ∧ q < 2 ^ 31 := by
        simp only [List.mem_cons, List.not_mem_nil, or_false] at hv
        rcases hv with rfl | rfl | rfl | rfl | rfl <;> exact ⟨_, rfl, by decide, by decide⟩
      walk_at "rd"
      apply k
      all_goals walk_at "end"
theorem ok_of (T : Txt K mg w A) : FnOk P w K mg base CX0 2 A.f__law_of A.d__law_of ["_law_draw", "_law_some"] sp_of := by
  have G__law_take : FnOk P w K mg base CX0 1 A.f__law_take A.d__law_take ["_law_draw", "_law_below"] sp_take := ok_take T
  refine T.c__law_of.F.ok sc_l_of (fun vs H Q E h => ?_) (fun cdv Ar outer s H vs Q E hr h => ?_)
  · obtain ⟨d, q, l, c, a, ns, rfl, _⟩ := h; rfl
  · obtain ⟨d, q, l, c, a, ns, rfl, hd, hq, hn1, hn2, ha1, ha2, k⟩ := h
    refine ⟨_, (pss_one (ps_ret (pe_ix ix_list (pv 1) (pe_call G__law_take (hr.mono (by decide)) rfl T.c__law_take.m T.c__law_take.F.kp T.c__law_take.b .nil pass0 (pa_cons (pv 0) (pa_cons (pe_callB call_len_seq (by rfl) T.n_len PySem.boot_len (pa_cons (pv 1) pa_nil)) pa_nil))) (fun _ _ => rfl)))), ?_⟩
    have S := Hs.start1 hq [] (.inl rfl)
    walk_at "st"
    walk_at "rd"
    refine ⟨d, l, c, a, _, rfl, hd, ?_, ?_, ha1, ha2, fun r l' a' H' h4 h5 h0 h1 h2 h3 => ?_⟩
    · simp; omega
    · simp; omega
    · have dq : q ≠ d := ne_of hq hd (by intro z; cases z)
      have hq' := h5 q _ hq dq
      obtain ⟨v, hv, e, he⟩ := atI_any h0 h1
      refine ⟨q, _, r, v, rfl, rfl, SqL.of hq', he, ?_⟩
      obtain ⟨x, hx, rfl⟩ := List.mem_map.mp hv
      exact k x l' a' H' h4 h5 hx h2 h3
theorem ok_begun (T : Txt K mg w A) : FnOk P w K mg base CX0 1 A.f__law_begun A.d__law_begun ["_law_script", "_law_k"] (sp_begun K) := by
  refine T.c__law_begun.F.ok sc_l_begun (fun vs H Q E h => ?_) (fun cdv Ar outer s H vs Q E hr h => ?_)
  · obtain ⟨x, ns, kk, rfl, _⟩ := h; rfl
  · obtain ⟨x, ns, kk, rfl, hs, hk1, hk2, k⟩ := h
    refine ⟨_, (pss_cons (ps_par (i := 2) (j := 3) rfl sc_l_begun.nd rfl rfl (by decide) rfl rfl (pa_cons (pe_slice3 (pv 0) (po_some (pv 1)) po_none (po_some pe_int)) (pa_cons pe_int pa_nil)) (by rfl))
      (pss_cons (ps_for PassesOwn.never rfl (pi_list (pv 2)) (pg_name (i := 4) sc_l_begun.nd rfl (Or.inl rfl))
        (pss_one (ps_set (i := 3) sc_l_begun.nd rfl (Or.inl rfl) (pe_op op_add (pe_op op_mul (pv 3) pe_int) (pv 4)))))
      (pss_cons (ps_set (i := 5) sc_l_begun.nd rfl (Or.inl rfl) (pe_ifExp (PW.pt (pw_and (pt_cmpR (op_neD hr.units) (pv 2) (pe_lst pa_nil) (nomark _)) (pw_and1 (pt_cmpR op_ge (pe_ix ix_list (pv 2) pe_int (fun _ _ => rfl)) (pe_op op_pow pe_int pe_int) (nomark _))))) (pe_ix ix_list (pv 2) pe_int (fun _ _ => rfl)) pe_int))
      (pss_one (ps_ret (pe_disp (pps_cons pe_str (pv 5) (pps_cons pe_str (pv 3) (pps_cons pe_str (pe_op op_mul pe_int (pv 1)) pps_nil))) (by rfl) (by rfl) (fun z => by cases z) (by decide))))))), ?_⟩
    have S := Hs.start0 H
    walk_at "st"
    walk_at "rd"
    refine ⟨x, _, rfl, S.sq hs (fun z => nomatch z), by simp, ?_⟩
    walk_at "rd"
    rename_i p H1 hp S1
    obtain ⟨ks, ek, _⟩ := pick_ints ns (some kk) none (some 7)
    rw [ek] at S1
    refine fw_list (xs := ks.map V.int) (fun i σ H' => ∃ (f : Int) (o : Option V), σ = [some (.ref x), some (.int kk), some (.ref p), some (.int f), o, none] ∧ Hs H [] H' [(p, .lst (ks.map V.int))]) ⟨7, none, rfl, by assumption⟩ (fun i σ H' _ h => by
      obtain ⟨f, o, _, S⟩ := h
      exact S.lst (by walk_at "mem")) ?_ ?_
    · rintro i y σ H' hi ⟨f, o, rfl, S⟩
      obtain ⟨z, _, rfl⟩ := List.mem_map.mp (List.mem_of_getElem? hi)
      walk_at "rd"
      exact ⟨_, _, rfl, S⟩
    · rintro σ H' ⟨f, o, rfl, S⟩
      walk_at "rd"
      refine rd_neIs (ns := ks) (ms := []) (by assumption) (by walk_at "mem") (by walk_at "mem") (by rfl) (by rfl) ?_
      walk_at "rd"
      refine rd_dec ?_ ?_ <;> intro hc
      · walk_at "rd"
        obtain ⟨z, zs, rfl⟩ : ∃ z zs, ks = z :: zs := by
          cases ks with
          | nil => exact absurd rfl hc
          | cons z zs => exact ⟨z, zs, rfl⟩
        have e0 : atI ((z :: zs).map V.int) 0 = some (V.int z) := atI_nat (j := 0) rfl
        walk_at "rd"
        refine rd_dec ?_ ?_ <;> intro hd <;> walk_at "rd"
        · apply k
          all_goals walk_at "end"
        · apply k
          all_goals walk_at "end"
      · walk_at "rd"
        apply k
        all_goals walk_at "end"

theorem ok_policy (T : Txt K mg w A) : FnOk P w K mg base CX0 1 A.f_need_policy A.d_need_policy ["policy"] sp_policy := by
  refine T.c_need_policy.F.ok sc_need_policy (fun vs H Q E h => ?_) (fun cdv Ar outer s H vs Q E hr h => ?_)
  · obtain ⟨rfl, _⟩ := h; rfl
  · obtain ⟨rfl, k⟩ := h
    refine ⟨_, (pss_one (ps_if (PW.pt (pw_or (pt_not (pt_val (pe_callB call_isi (by rfl) T.n_isinstance PyProof.Rows.boot_isinstance (pa_cons (pv 0) (pa_cons (pe_bltn (v := .ty "str") rfl T.n_str PyProof.Rows.boot_str rfl) pa_nil))))) (pw_or1 (pt_cmpR (op_notIn_kd T.d_PUSHES) (pv 0) (pe_gl rfl T.g_PUSHES) (by rfl)))))
        (pss_one ps_never)
        pss_nil)), ?_⟩
    walk_at "st"
    walk_at "rd"
    refine rd_isi (.str _) (kit_str _) ?_
    walk_at "rd"
    walk_at "if0"
    obtain ⟨u, hu⟩ := T.n_PUSHES_lengths
    refine ⟨_, _, rfl, rfl, hu, ?_⟩
    walk_at "rd"
    walk_at "if0"
    exact k
theorem atI_bk {ns : List Int} {k : Nat} (h0 : 0 < k) (h : k ≤ ns.length) : atI (ns.map V.int) (-(k : Int)) = some (.int (bk ns k)) := by
  have h1 : ns.length - k < ns.length := by omega
  have e : ixN (ns.map V.int).length (-(k : Int)) = some (ns.length - k) := by
    unfold ixN
    rw [if_neg (by omega), if_pos (by simp; omega), List.length_map]
    congr 1
    omega
  unfold atI
  rw [e]
  show (ns.map V.int)[ns.length - k]? = _
  rw [List.getElem?_map]
  unfold bk
  rw [List.getD_eq_getElem?_getD, List.getElem?_eq_getElem h1]
  rfl
theorem ix1 {ns : List Int} (h : 1 ≤ ns.length) : atI (ns.map V.int) (-1) = some (.int (bk ns 1)) := atI_bk (k := 1) (by decide) h
theorem ix2 {ns : List Int} (h : 2 ≤ ns.length) : atI (ns.map V.int) (-2) = some (.int (bk ns 2)) := atI_bk (k := 2) (by decide) h
theorem ix3 {ns : List Int} (h : 3 ≤ ns.length) : atI (ns.map V.int) (-3) = some (.int (bk ns 3)) := atI_bk (k := 3) (by decide) h
theorem ix4 {ns : List Int} (h : 4 ≤ ns.length) : atI (ns.map V.int) (-4) = some (.int (bk ns 4)) := atI_bk (k := 4) (by decide) h
local macro_rules | `(tactic| walk_at "rd1") => `(tactic| ((with_reducible refine' Rs.rd_ixL (by assumption) ?m ?e ?_); (case m => (walk_at "mem"; done)); (case e => first | exact K33.ix1 (by omega) | exact K33.ix2 (by omega) | exact K33.ix3 (by omega) | exact K33.ix4 (by omega))))
theorem ok_next (T : Txt K mg w A) : FnOk P w K mg base CX0 1 A.f_next_by_lengths A.d_next_by_lengths ["lengths"] sp_next := by
  refine T.c_next_by_lengths.F.ok sc_next_by_lengths (fun vs H Q E h => ?_) (fun cdv Ar outer s H vs Q E hr h => ?_)
  · obtain ⟨l, ns, rfl, _⟩ := h; rfl
  · obtain ⟨l, ns, rfl, hl, k⟩ := h
    refine ⟨_, (pss_cons (ps_set (i := 1) sc_next_by_lengths.nd rfl (Or.inl rfl) (pe_callB call_len_seq (by rfl) T.n_len PySem.boot_len (pa_cons (pv 0) pa_nil)))
      (pss_cons (ps_if (PW.pt (pw_or (PW.pt (pw_and (pt_cmpR op_gt (pv 1) pe_int (nomark _)) (pw_and1 (pt_cmpR op_le (pe_ix ix_list (pv 0) (pe_un un_neg pe_int) (fun _ _ => rfl)) (pe_op op_add (pe_ix ix_list (pv 0) (pe_un un_neg pe_int) (fun _ _ => rfl)) (pe_ix ix_list (pv 0) (pe_un un_neg pe_int) (fun _ _ => rfl))) (nomark _))))) (pw_or1 (PW.pt (pw_and (pt_cmpR op_gt (pv 1) pe_int (nomark _)) (pw_and1 (pt_cmpR op_le (pe_ix ix_list (pv 0) (pe_un un_neg pe_int) (fun _ _ => rfl)) (pe_op op_add (pe_ix ix_list (pv 0) (pe_un un_neg pe_int) (fun _ _ => rfl)) (pe_ix ix_list (pv 0) (pe_un un_neg pe_int) (fun _ _ => rfl))) (nomark _))))))))
        (pss_one (ps_ret (pe_ifExp (pt_cmpR op_lt (pe_ix ix_list (pv 0) (pe_un un_neg pe_int) (fun _ _ => rfl)) (pe_ix ix_list (pv 0) (pe_un un_neg pe_int) (fun _ _ => rfl)) (nomark _)) (pe_op op_sub (pv 1) pe_int) (pe_op op_sub (pv 1) pe_int))))
        pss_nil)
      (pss_one (ps_ret (pe_ifExp (PW.pt (pw_and (pt_cmpR op_gt (pv 1) pe_int (nomark _)) (pw_and1 (pt_cmpR op_le (pe_ix ix_list (pv 0) (pe_un un_neg pe_int) (fun _ _ => rfl)) (pe_ix ix_list (pv 0) (pe_un un_neg pe_int) (fun _ _ => rfl)) (nomark _))))) (pe_op op_sub (pv 1) pe_int) pe_non))))), ?_⟩
    have S := Hs.start1 hl [] (.inl rfl)
    have k1 : ∀ (r : Option Nat) (v : V), nextN ns = r → optV r = v → Q v H := fun r v e e2 => e2 ▸ e ▸ k
    clear k
    walk_at "st"
    walk_at "rd"
    rw [List.length_map]
    walk_at "cut"
    all_goals first
      | exact k1 none _ (by unfold nextN; split <;> (try split) <;> first | rfl | (exfalso; omega)) rfl
      | exact k1 (some (ns.length - 2)) _ (by unfold nextN; split <;> (try split) <;> first | rfl | (exfalso; omega)) (by show V.int _ = V.int _; congr 1; omega)
      | exact k1 (some (ns.length - 3)) _ (by unfold nextN; split <;> (try split) <;> first | rfl | (exfalso; omega)) (by show V.int _ = V.int _; congr 1; omega)
theorem ok_last (T : Txt K mg w A) : FnOk P w K mg base CX0 1 A.f_last_by_lengths A.d_last_by_lengths ["lengths"] sp_last := by
  refine T.c_last_by_lengths.F.ok sc_last_by_lengths (fun vs H Q E h => ?_) (fun cdv Ar outer s H vs Q E hr h => ?_)
  · obtain ⟨l, ns, rfl, _⟩ := h; rfl
  · obtain ⟨l, ns, rfl, hl, h1, k⟩ := h
    refine ⟨_, (pss_one (ps_ret (pe_ifExp (PW.pt (pw_and (pt_cmpR op_gt (pe_callB call_len_seq (by rfl) T.n_len PySem.boot_len (pa_cons (pv 0) pa_nil)) pe_int (nomark _)) (pw_and1 (pt_cmpR op_lt (pe_ix ix_list (pv 0) (pe_un un_neg pe_int) (fun _ _ => rfl)) (pe_ix ix_list (pv 0) (pe_un un_neg pe_int) (fun _ _ => rfl)) (nomark _))))) (pe_op op_sub (pe_callB call_len_seq (by rfl) T.n_len PySem.boot_len (pa_cons (pv 0) pa_nil)) pe_int) (pe_op op_sub (pe_callB call_len_seq (by rfl) T.n_len PySem.boot_len (pa_cons (pv 0) pa_nil)) pe_int)))), ?_⟩
    have S := Hs.start1 hl [] (.inl rfl)
    have k1 : ∀ (i : Nat) (v : V), lastN ns = some i → V.int (i : Nat) = v → Q v H := fun r v e e2 => e2 ▸ k r e
    clear k
    walk_at "st"
    walk_at "rd"
    rw [List.length_map]
    walk_at "cut"
    all_goals (try rw [List.length_map])
    all_goals first
      | exact k1 (ns.length - 2) _ (by unfold lastN; rw [if_pos h1]; congr 1; split <;> first | rfl | (exfalso; omega)) (by congr 1; omega)
      | exact k1 (ns.length - 3) _ (by unfold lastN; rw [if_pos h1]; congr 1; split <;> first | rfl | (exfalso; omega)) (by congr 1; omega)
end
end K33

namespace K33
open PySem L2 Rs
def flds (l p : Addr) : List (Str × V) := [("own_policy", .str "lengths"), ("own_total", .non), ("laid_lengths", .ref l), ("laid_powers", .ref p)]
theorem fl_policy (l p : Addr) : (flds l p).lookup ("own_policy" : Str) = some (.str "lengths") := by rfl
theorem fl_total (l p : Addr) : (flds l p).lookup ("own_total" : Str) = some .non := by rfl
theorem fl_lengths (l p : Addr) : (flds l p).lookup ("laid_lengths" : Str) = some (.ref l) := by rfl
theorem fl_powers (l p : Addr) : (flds l p).lookup ("laid_powers" : Str) = some (.ref p) := by rfl
theorem fl_near (l p : Addr) : (flds l p).lookup ("merge_near" : Str) = none := by rfl
theorem fl_pushed (l p : Addr) : (flds l p).lookup ("pushed" : Str) = none := by rfl
theorem fl_finished (l p : Addr) : (flds l p).lookup ("finished" : Str) = none := by rfl
theorem fl_ln (l p : Addr) : (flds l p).lookup ("lengths_now" : Str) = none := by rfl
theorem fl_pn (l p : Addr) : (flds l p).lookup ("powers_now" : Str) = none := by rfl
theorem fl_put (l p : Addr) : putF "laid_powers" (.ref p) (putF "laid_lengths" (.ref l) (putF "own_total" .non (putF "own_policy" (.str "lengths") []))) = flds l p := by rfl
local macro_rules | `(tactic| walk_at "fv") => `(tactic| first | exact K33.fl_policy _ _ | exact K33.fl_total _ _ | exact K33.fl_lengths _ _ | exact K33.fl_powers _ _ | exact K33.fl_near _ _ | exact K33.fl_pushed _ _ | exact K33.fl_finished _ _ | exact K33.fl_ln _ _ | exact K33.fl_pn _ _)
theorem cut2 {ns : List Int} {i : Nat} (h : i + 2 ≤ ns.length) : cutI ns (some (i : Int)) (some ((i : Int) + 2)) = [ns.getD i 0, ns.getD (i + 1) 0] := by
  unfold cutI
  have e1 : HT.sIx ns.length 0 (some (i : Int)) = i := by
    unfold HT.sIx
    simp
    split <;> omega
  have e2 : HT.sIx ns.length ns.length (some ((i : Int) + 2)) = i + 2 := by
    unfold HT.sIx
    simp
    split <;> omega
  rw [e1, e2, show i + 2 - i = 2 by omega]
  have d1 : ns.drop i = ns.getD i 0 :: ns.drop (i + 1) := by
    rw [List.drop_eq_getElem_cons (by omega), List.getD_eq_getElem?_getD, List.getElem?_eq_getElem (by omega)]; rfl
  have d2 : ns.drop (i + 1) = ns.getD (i + 1) 0 :: ns.drop (i + 2) := by
    rw [List.drop_eq_getElem_cons (by omega), List.getD_eq_getElem?_getD, List.getElem?_eq_getElem (by omega)]; rfl
  rw [d1, d2]
  rfl
theorem cut0 {ns : List Int} {i : Nat} (h : i + 2 ≤ ns.length) : cutI ns none (some (i : Int)) = ns.take i := by
  unfold cutI
  have e1 : HT.sIx ns.length ns.length (some (i : Int)) = i := by
    unfold HT.sIx
    simp
    split <;> omega
  rw [e1, HT.sIx_none]
  simp
abbrev SL (C x dx l p : Addr) (ns : List Int) : Led := [(x, .ins C dx (flds l p)), (l, .lst (ns.map V.int)), (p, .lst [])]
/-! the promises -/
def R_init (C : Addr) : SepM := fun vs Ch L post => ∃ x dx, vs = [.ref x, .str "lengths", .non] ∧ L = [(x, .ins C dx [])] ∧ Ch = [x] ∧ post = fun v N L' => v = .non ∧ ∃ l p, N = [(p, .lst []), (l, .lst [])] ∧ L' = [(x, .ins C dx (flds l p))]
def R_near (C : Addr) : SepM := fun vs Ch L post => ∃ x dx l p ns, ∃ i : Nat, vs = [.ref x, .int i] ∧ L = SL C x dx l p ns ∧ Ch = [l] ∧ i + 2 ≤ ns.length ∧ ns.length ≤ 4096 ∧
  post = fun v N L' => ∃ q, v = .ref q ∧ N = [(q, .tup ((tri ns i).map V.int))] ∧ L' = SL C x dx l p (mergedL ns i)
def R_push (C : Addr) : SepM := fun vs Ch L post => ∃ x dx l p ns m, vs = [.ref x, .int m] ∧ L = SL C x dx l p ns ∧ Ch = [l] ∧ (∀ z ∈ ns, 1 ≤ z) ∧ 1 ≤ m ∧ ns.sum + m ≤ 4096 ∧
  post = fun v N L' => ∃ f fs T ts ns', v = .ref f ∧ N = (f, .lst fs) :: T ∧ TL fs T ts ∧ Run nextN (ns ++ [m]) ns' ts ∧ L' = SL C x dx l p ns'
def R_fin (C : Addr) : SepM := fun vs Ch L post => ∃ x dx l p ns, vs = [.ref x] ∧ L = SL C x dx l p ns ∧ Ch = [l] ∧ (∀ z ∈ ns, 1 ≤ z) ∧ ns.sum ≤ 4096 ∧
  post = fun v N L' => ∃ f fs T ts ns', v = .ref f ∧ N = (f, .lst fs) :: T ∧ TL fs T ts ∧ Run lastN ns ns' ts ∧ L' = SL C x dx l p ns'
def R_now (C : Addr) (b : Bool) : SepM := fun vs Ch L post => ∃ x dx l p ns, vs = [.ref x] ∧ L = SL C x dx l p ns ∧ Ch = [] ∧ post = fun v N L' => ∃ f, v = .ref f ∧ N = [(f, .lst (if b then ns.map V.int else []))] ∧ L' = L
def R_len (C : Addr) : SepM := fun vs Ch L post => ∃ x dx l p ns, vs = [.ref x] ∧ L = SL C x dx l p ns ∧ Ch = [] ∧ post = fun v N L' => v = .int (ns.length : Nat) ∧ N = [] ∧ L' = L
def tRep (n s : Int) : Str := (((((Str.empty ++ "RunStack(") ++ toString n) ++ ", ") ++ toString s) ++ ")" : Str)
def R_repr (C : Addr) : SepM := fun vs Ch L post => ∃ x dx l p ns, vs = [.ref x] ∧ L = SL C x dx l p ns ∧ Ch = [] ∧ (∀ z ∈ ns, 1 ≤ z) ∧ ns.sum ≤ 4096 ∧ post = fun v N L' => v = .str (tRep (ns.length : Nat) ns.sum) ∧ N = [] ∧ L' = L
section
variable {P : Program} {w : World} {K : PySem.W.Frag} {mg : Str → Option Value} {base : Heap} {A : Ad} {H H0 : Hp} {MM : List Addr} {L L' F : Led} {Q : VK} {E : XK}
local macro_rules | `(tactic| walk_at "keys") => `(tactic| (intro q hq; simp only [List.mem_cons, List.not_mem_nil, or_false] at hq; rcases hq with h | h | h <;> (subst h; simp)))
theorem ok_init (T : Txt K mg w A) : FnOk P w K mg base CX0 2 A.f_RunStack___init__ A.d_RunStack___init__ ["self", "policy", "total"] (SepN (R_init A.C_RunStack)) := by
  have G_need_policy : FnOk P w K mg base CX0 1 A.f_need_policy A.d_need_policy ["policy"] sp_policy := ok_policy T
  have hC := T.cl_RunStack
  have n1 := T.na_RunStack_own_policy
  have n2 := T.na_RunStack_own_total
  have n3 := T.na_RunStack_laid_lengths
  have n4 := T.na_RunStack_laid_powers
  refine T.i_RunStack.F.ok sc_RunStack___init__ (fun vs H Q E h => ?_) (fun cdv Ar outer s H vs Q E hr h => ?_)
  · obtain ⟨_, _, _, ⟨x, dx, rfl, _⟩, _⟩ := h; rfl
  · obtain ⟨Ch, L, post, ⟨x, dx, rfl, rfl, rfl, rfl⟩, nd, is, hc, k⟩ := h
    refine ⟨_, (pss_cons (ps_expr (pe_call G_need_policy (hr.mono (by decide)) rfl T.c_need_policy.m T.c_need_policy.F.kp T.c_need_policy.b .nil pass0 (pa_cons (pv 1) pa_nil)))
      (pss_cons (ps_if (PW.pt (pw_or (PW.pt (pw_and (pt_cmpR op_eq (pv 1) pe_str (nomark _)) (pw_and1 (pt_cmpR op_notN (pv 2) pe_non (nomark _))))) (pw_or1 (PW.pt (pw_and (pt_cmpR op_eq (pv 1) pe_str (nomark _)) (pw_and1 (pt_not (pt_val pe_nev))))))))
        (pss_one ps_never)
        pss_nil)
      (pss_cons (ps_fld (pv 0) (pv 1) rfl)
      (pss_cons (ps_fld (pv 0) (pv 2) rfl)
      (pss_cons (ps_fld (pv 0) (pe_lst pa_nil) rfl)
      (pss_one (ps_fld (pv 0) (pe_lst pa_nil) rfl))))))), ?_⟩
    have S := Sep.led nd is hc
    walk_at "st"
    walk_at "rd"
    refine ⟨rfl, ?_⟩
    walk_at "rd"
    refine rd_decT rfl ?_
    walk_at "rd"
    walk_at "if0"
    refine rd_decF (by decide +kernel) ?_
    walk_at "rd"
    rename_i S4
    rw [fl_put] at S4
    refine k _ _ [_, _] [_] ⟨rfl, _, _, rfl, rfl⟩ S4 (by simp) ?_
    intro q hq
    simp only [List.mem_cons, List.not_mem_nil, or_false] at hq
    rcases hq with rfl | rfl <;> assumption
theorem ok_near (T : Txt K mg w A) : FnOk P w K mg base CX0 1 A.f_RunStack_merge_near A.d_RunStack_merge_near ["self", "at"] (SepN (R_near A.C_RunStack)) := by
  have hC := T.cl_RunStack
  have n1 := T.na_RunStack_own_policy
  have n2 := T.na_RunStack_own_total
  have n3 := T.na_RunStack_laid_lengths
  have n4 := T.na_RunStack_laid_powers
  refine T.c_RunStack_merge_near.F.ok sc_RunStack_merge_near (fun vs H Q E h => ?_) (fun cdv Ar outer s H vs Q E hr h => ?_)
  · obtain ⟨_, _, _, ⟨_, _, _, _, _, _, rfl, _⟩, _⟩ := h; rfl
  · obtain ⟨Ch, L, post, ⟨x, dx, l, p, ns, i, rfl, rfl, rfl, hi, hn, rfl⟩, nd, is, hc, k⟩ := h
    refine ⟨_, (pss_cons (ps_set (i := 2) sc_RunStack_merge_near.nd rfl (Or.inl rfl) (pe_callB (cr_sum rfl) (by rfl) T.n_sum PyProof.Rows.boot_sum (pa_cons (pe_slice sl_list (pe_fld (pv 0) rfl) po_none (po_some (pv 1))) pa_nil)))
      (pss_cons (ps_asg (pe_slice sl_list (pe_fld (pv 0) rfl) (po_some (pv 1)) (po_some (pe_op op_add (pv 1) pe_int))) (pg_unl rfl (pgs_cons (pg_name (i := 3) sc_RunStack_merge_near.nd rfl (Or.inl rfl)) (pgs_cons (pg_name (i := 4) sc_RunStack_merge_near.nd rfl (Or.inl rfl)) pgs_nil))))
      (pss_cons (ps_asg (pe_lst (pa_cons (pe_op op_add (pv 3) (pv 4)) pa_nil)) (pg_slc (pe_fld (pv 0) rfl) (po_some (pv 1)) (po_some (pe_op op_add (pv 1) pe_int))))
      (pss_cons (ps_if (pt_cmpR (op_neD hr.units) (pe_fld (pv 0) rfl) (pe_lst pa_nil) (nomark _))
        (pss_one (ps_expr (pe_bm PySem.F.plainAttrs_list PySem.F.slot_list_pop PySem.F.type_list_pop mt_popAt (pe_fld (pv 0) rfl) (pa_cons (pv 1) pa_nil))))
        pss_nil)
      (pss_one (ps_ret (pe_tup (pa_cons (pv 2) (pa_cons (pe_op op_add (pv 2) (pv 3)) (pa_cons (pe_op op_add (pe_op op_add (pv 2) (pv 3)) (pv 4)) pa_nil)))))))))), ?_⟩
    have S := Sep.led nd is hc
    walk_at "st"
    walk_at "rd"
    have e2 : cutI ns (some (i : Int)) (some ((i : Int) + 2)) = [ns.getD i 0, ns.getD (i + 1) 0] := cut2 hi
    rename_i S4
    rw [e2] at S4
    simp only [List.map_cons, List.map_nil] at S4
    walk_at "rd"
    have hl : H l ≠ none := by rw [is (l, HO.lst (ns.map V.int)) (by simp)]; simp
    refine gt_slcV (zs := (mergedL ns i).map V.int) (by assumption) (by walk_at "chg") (by walk_at "mem") (fun e => hl (by rw [e]; assumption)) (by walk_at "own") (by omega) (by omega) ?_ ?_ ?_ fun H5 S5 => ?_
    · simp; omega
    · refine Rs.sz ?_; simp; omega
    · have e3 : ((i : Int)).toNat = i := by omega
      have e4 : ((i : Int) + 2).toNat = i + 2 := by omega
      rw [e3, e4]
      simp [mergedL]
    clear S4
    walk_at "rd"
    refine rd_neIs (ns := []) (ms := []) (by assumption) (by walk_at "mem") (by walk_at "mem") (by rfl) (by rfl) ?_
    walk_at "rd"
    refine rd_decF (by simp) ?_
    walk_at "rd"
    rename_i q H6 hq S6
    rw [cut0 hi] at S6
    replace S6 : Hs H [l] H6 ((q, .tup ((tri ns i).map V.int)) :: _) := S6
    refine k _ _ [_] (SL A.C_RunStack x dx l p (mergedL ns i)) ⟨q, rfl, rfl, rfl⟩ (S6.re (by walk_at "led")) (by walk_at "keys") (by simpa using hq)
theorem use_next {l : Addr} {ns : List Int} (S : Hs H0 MM H L) (m : (l, HO.lst (ns.map V.int)) ∈ L) (k : Q (optV (nextN ns)) H) : sp_next [.ref l] H Q E := ⟨l, ns, rfl, S.is _ m, k⟩
theorem use_near {C x dx l p : Addr} {ns : List Int} {i : Nat} (S : Hs H0 MM H L) (pm : ∀ a, cn a (SL C x dx l p ns ++ F) ≤ cn a L) (own : H0 l = none ∨ l ∈ MM) (hi : i + 2 ≤ ns.length) (hn : ns.length ≤ 4096)
    (h : ∀ (q : Addr) (H' : Hp), H0 q = none → Hs H0 MM H' ((q, .tup ((tri ns i).map V.int)) :: (SL C x dx l p (mergedL ns i) ++ F)) → Q (.ref q) H') : SepN (R_near C) [.ref x, .int i] H Q E :=
  sepn_use S ⟨x, dx, l, p, ns, i, rfl, rfl, rfl, hi, hn, rfl⟩ pm (fun c hc => by
    simp only [List.mem_cons, List.not_mem_nil, or_false] at hc
    subst hc
    exact ⟨by simp, own⟩) fun v H' N L' ⟨q, e1, e2, e3⟩ hN S' => by subst e1 e2 e3; exact h q H' (hN _ List.mem_cons_self) S'
theorem ok_pushby (T : Txt K mg w A) : FnOk P w K mg base CX0 2 A.f_pushed_by_lengths A.d_pushed_by_lengths ["stack", "many"] (SepN (R_push A.C_RunStack)) := by
  have G_next_by_lengths : FnOk P w K mg base CX0 1 A.f_next_by_lengths A.d_next_by_lengths ["lengths"] sp_next := ok_next T
  have G_RunStack_merge_near : FnOk P w K mg base CX0 1 A.f_RunStack_merge_near A.d_RunStack_merge_near ["self", "at"] (SepN (R_near A.C_RunStack)) := ok_near T
  have hC := T.cl_RunStack
  have n1 := T.na_RunStack_own_policy
  have n2 := T.na_RunStack_own_total
  have n3 := T.na_RunStack_laid_lengths
  have n4 := T.na_RunStack_laid_powers
  refine T.c_pushed_by_lengths.F.ok sc_pushed_by_lengths (fun vs H Q E h => ?_) (fun cdv Ar outer s H vs Q E hr h => ?_)
  · obtain ⟨_, _, _, ⟨_, _, _, _, _, _, rfl, _⟩, _⟩ := h; rfl
  · obtain ⟨Ch, L, post, ⟨x, dx, l, p, ns, m, rfl, rfl, rfl, h1, hm, hs, rfl⟩, nd, is, hc, k⟩ := h
    refine ⟨_, (pss_cons (ps_expr (pe_bm PySem.F.plainAttrs_list PySem.F.slot_list_append PySem.F.type_list_append mt_append (pe_fld (pv 0) rfl) (pa_cons (pv 1) pa_nil)))
      (pss_cons (ps_set (i := 2) sc_pushed_by_lengths.nd rfl (Or.inl rfl) (pe_lst pa_nil))
      (pss_cons (ps_set (i := 3) sc_pushed_by_lengths.nd rfl (Or.inl rfl) (pe_call G_next_by_lengths (hr.mono (by decide)) rfl T.c_next_by_lengths.m T.c_next_by_lengths.F.kp T.c_next_by_lengths.b .nil pass0 (pa_cons (pe_fld (pv 0) rfl) pa_nil)))
      (pss_cons (ps_while PassesOwn.never (pt_cmpR op_notN (pv 3) pe_non (nomark _))
        (pss_cons (ps_expr (pe_bm PySem.F.plainAttrs_list PySem.F.slot_list_append PySem.F.type_list_append mt_append (pv 2) (pa_cons (pe_meth (pv 0) T.cl_RunStack T.h_RunStack_merge_near G_RunStack_merge_near (hr.mono (by decide)) T.c_RunStack_merge_near.b .nil pass0 (pa_cons (pv 3) pa_nil)) pa_nil)))
        (pss_one (ps_set (i := 3) sc_pushed_by_lengths.nd rfl (Or.inl rfl) (pe_call G_next_by_lengths (hr.mono (by decide)) rfl T.c_next_by_lengths.m T.c_next_by_lengths.F.kp T.c_next_by_lengths.b .nil pass0 (pa_cons (pe_fld (pv 0) rfl) pa_nil))))))
      (pss_one (ps_ret (pv 2))))))), ?_⟩
    have S := Sep.led nd is hc
    have hl := len_sum h1
    have hz : ns.length + 1 ≤ 5000 := by omega
    walk_at "st"
    walk_at "rd"
    rename_i f H1 hf S1
    have e : ns.map V.int ++ [V.int m] = (ns ++ [m]).map V.int := by simp
    rw [e] at S1
    refine use_next (by assumption) (by walk_at "mem") ?_
    walk_at "rd"
    refine rd_while (fun n σ H' => ∃ (rs : List V) (T : Led) (ts : List (List Int)) (ns' : List Int), σ = [some (.ref x), some (.int m), some (.ref f), some (optV (nextN ns'))] ∧ Hs H [l] H' ((f, .lst rs) :: (SL A.C_RunStack x dx l p ns' ++ T)) ∧ TL rs T ts ∧
      (∀ q ∈ T, H q.1 = none) ∧ n = ns'.length ∧ rs.length + ns'.length = ns.length + 1 ∧ ∀ a us, Run nextN ns' a us → Run nextN (ns ++ [m]) a (ts ++ us)) _
      ⟨[], [], [], ns ++ [m], rfl, S1.re (by walk_at "led"), TL.nil, fun q h => (nomatch h), rfl, by simp, fun a us h => h⟩ ?_
    rintro n σ H' ⟨rs, T', ts, ns', rfl, S, ht, hT, rfl, b3, b4⟩
    cases en : nextN ns' with
    | none =>
      walk_at "rd"
      walk_at "if0"
      have r := b4 _ _ (.done en)
      rw [List.append_nil] at r
      refine k _ _ ((f, .lst rs) :: T') (SL A.C_RunStack x dx l p ns') ⟨f, rs, T', ts, ns', rfl, rfl, ht, r, rfl⟩ (S.re (by walk_at "led")) (by walk_at "keys") ?_
      intro q hq
      rcases List.mem_cons.mp hq with rfl | hq
      · exact hf
      · exact hT q hq
    | some i =>
      have hi := nextN_le en
      walk_at "rd"
      walk_at "if1"
      refine use_near (dx := dx) (l := l) (p := p) (ns := ns') (F := (f, .lst rs) :: T') S (by walk_at "led") (by walk_at "own") hi (by omega) fun q H2 hq S2 => ?_
      have hz2 : rs.length ≤ 5000 := by omega
      walk_at "rd"
      refine use_next (by assumption) (by walk_at "mem") ?_
      walk_at "rd"
      rename_i S3
      have hml := merged_len hi
      refine ⟨_, ?_, rs ++ [V.ref q], T' ++ [(q, .tup ((tri ns' i).map V.int))], ts ++ [tri ns' i], mergedL ns' i, rfl, S3.re (by walk_at "led"), ht.snoc q _, ?_, rfl, ?_, ?_⟩
      · omega
      · intro z hz
        rcases List.mem_append.mp hz with hz | hz
        · exact hT z hz
        · simp at hz; rw [hz]; exact hq
      · simp; omega
      · intro a us h
        rw [List.append_assoc]
        exact b4 _ _ (.step en h)
theorem ok_pushed (T : Txt K mg w A) : FnOk P w K mg base CX0 3 A.f_RunStack_pushed A.d_RunStack_pushed ["self", "many"] (SepN (R_push A.C_RunStack)) := by
  have G_pushed_by_lengths : FnOk P w K mg base CX0 2 A.f_pushed_by_lengths A.d_pushed_by_lengths ["stack", "many"] (SepN (R_push A.C_RunStack)) := ok_pushby T
  have G_need_number : FnOk P w K mg base CX0 2 A.f_need_number A.d_need_number ["thing", "least", "most"] sp_need := ok_need_number T
  have hC := T.cl_RunStack
  have n1 := T.na_RunStack_own_policy
  have n2 := T.na_RunStack_own_total
  have n3 := T.na_RunStack_laid_lengths
  have n4 := T.na_RunStack_laid_powers
  refine T.c_RunStack_pushed.F.ok sc_RunStack_pushed (fun vs H Q E h => ?_) (fun cdv Ar outer s H vs Q E hr h => ?_)
  · obtain ⟨_, _, _, ⟨_, _, _, _, _, _, rfl, _⟩, _⟩ := h; rfl
  · obtain ⟨Ch, L, post, ⟨x, dx, l, p, ns, m, rfl, rfl, rfl, h1, hm, hs, rfl⟩, nd, is, hc, k⟩ := h
    refine ⟨_, (pss_cons (ps_set (i := 2) sc_RunStack_pushed.nd rfl (Or.inl rfl) (pe_ifExp (pt_cmpR op_isN (pe_fld (pv 0) rfl) pe_non (nomark _)) (pe_gl rfl T.g_MOST_THINGS) (pe_fld (pv 0) rfl)))
      (pss_cons (ps_expr (pe_call G_need_number (hr.mono (by decide)) rfl T.c_need_number.m T.c_need_number.F.kp T.c_need_number.b .nil pass0 (pa_cons (pv 1) (pa_cons pe_int (pa_cons (pe_op op_sub (pv 2) (pe_callB (cr_sum rfl) (by rfl) T.n_sum PyProof.Rows.boot_sum (pa_cons (pe_fld (pv 0) rfl) pa_nil))) pa_nil)))))
      (pss_cons (ps_set (i := 3) sc_RunStack_pushed.nd rfl (Or.inl rfl) (pe_ix ix_kdict (pe_gl rfl T.g_PUSHES) (pe_fld (pv 0) rfl) (fun _ _ => rfl)))
      (pss_one (ps_ret (pe_callL (i := 3) G_pushed_by_lengths (hr.mono (by decide)) rfl (Or.inl rfl) T.c_pushed_by_lengths.F.kp T.c_pushed_by_lengths.b .nil pass0 (pa_cons (pv 0) (pa_cons (pv 1) pa_nil)))))))), ?_⟩
    have S := Sep.led nd is hc
    walk_at "st"
    walk_at "rd"
    walk_at "if1"
    refine ⟨m, 1, 4096 - ns.sum, rfl, hm, by omega, ?_⟩
    walk_at "rd"
    refine ⟨_, _, _, rfl, rfl, T.q_PUSHES_lengths, ?_⟩
    walk_at "rd"
    refine rd_callL rfl ?_
    walk_at "rd"
    exact ⟨_, _, _, ⟨x, dx, l, p, ns, m, rfl, rfl, rfl, h1, hm, hs, rfl⟩, nd, is, hc, k⟩
theorem ok_finished (T : Txt K mg w A) : FnOk P w K mg base CX0 2 A.f_RunStack_finished A.d_RunStack_finished ["self"] (SepN (R_fin A.C_RunStack)) := by
  have G_last_by_lengths : FnOk P w K mg base CX0 1 A.f_last_by_lengths A.d_last_by_lengths ["lengths"] sp_last := ok_last T
  have G_RunStack_merge_near : FnOk P w K mg base CX0 1 A.f_RunStack_merge_near A.d_RunStack_merge_near ["self", "at"] (SepN (R_near A.C_RunStack)) := ok_near T
  have hC := T.cl_RunStack
  have n1 := T.na_RunStack_own_policy
  have n2 := T.na_RunStack_own_total
  have n3 := T.na_RunStack_laid_lengths
  have n4 := T.na_RunStack_laid_powers
  refine T.c_RunStack_finished.F.ok sc_RunStack_finished (fun vs H Q E h => ?_) (fun cdv Ar outer s H vs Q E hr h => ?_)
  · obtain ⟨_, _, _, ⟨_, _, _, _, _, rfl, _⟩, _⟩ := h; rfl
  · obtain ⟨Ch, L, post, ⟨x, dx, l, p, ns, rfl, rfl, rfl, h1, hs, rfl⟩, nd, is, hc, k⟩ := h
    refine ⟨_, (pss_cons (ps_par (i := 1) (j := 2) rfl sc_RunStack_finished.nd rfl rfl (by decide) rfl rfl (pa_cons (pe_ix ix_kdict (pe_gl rfl T.g_LASTS) (pe_fld (pv 0) rfl) (fun _ _ => rfl)) (pa_cons (pe_lst pa_nil) pa_nil)) (by rfl))
      (pss_cons (ps_while PassesOwn.never (pt_cmpR op_gt (pe_callB call_len_seq (by rfl) T.n_len PySem.boot_len (pa_cons (pe_fld (pv 0) rfl) pa_nil)) pe_int (nomark _))
        (pss_one (ps_expr (pe_bm PySem.F.plainAttrs_list PySem.F.slot_list_append PySem.F.type_list_append mt_append (pv 2) (pa_cons (pe_meth (pv 0) T.cl_RunStack T.h_RunStack_merge_near G_RunStack_merge_near (hr.mono (by decide)) T.c_RunStack_merge_near.b .nil pass0 (pa_cons (pe_callL (i := 1) G_last_by_lengths (hr.mono (by decide)) rfl (Or.inl rfl) T.c_last_by_lengths.F.kp T.c_last_by_lengths.b .nil pass0 (pa_cons (pe_fld (pv 0) rfl) pa_nil)) pa_nil)) pa_nil)))))
      (pss_one (ps_ret (pv 2))))), ?_⟩
    have S := Sep.led nd is hc
    have hl := len_sum h1
    walk_at "st"
    walk_at "rd"
    refine ⟨_, _, _, rfl, rfl, T.q_LASTS_lengths, ?_⟩
    walk_at "rd"
    rename_i f H1 hf S1
    refine rd_while (fun n σ H' => ∃ (rs : List V) (T : Led) (ts : List (List Int)) (ns' : List Int), σ = [some (.ref x), some (.ref A.f_last_by_lengths), some (.ref f)] ∧ Hs H [l] H' ((f, .lst rs) :: (SL A.C_RunStack x dx l p ns' ++ T)) ∧ TL rs T ts ∧
      (∀ q ∈ T, H q.1 = none) ∧ n = ns'.length ∧ rs.length + ns'.length = ns.length ∧ ∀ a us, Run lastN ns' a us → Run lastN ns a (ts ++ us)) _
      ⟨[], [], [], ns, rfl, S1.re (by walk_at "led"), TL.nil, fun q h => (nomatch h), rfl, by simp, fun a us h => h⟩ ?_
    rintro n σ H' ⟨rs, T', ts, ns', rfl, S, ht, hT, rfl, b3, b4⟩
    clear S1
    walk_at "rd"
    rw [List.length_map]
    refine rd_dec ?_ ?_ <;> intro hc
    · obtain ⟨i, en⟩ : ∃ i, lastN ns' = some i := by unfold lastN; rw [if_pos (by omega)]; exact ⟨_, rfl⟩
      have hi := lastN_le en
      walk_at "rd"
      refine rd_callL rfl ?_
      walk_at "rd"
      refine ⟨l, ns', rfl, S.is (l, HO.lst (ns'.map V.int)) (by walk_at "mem"), by omega, fun j ej => ?_⟩
      rw [en] at ej
      cases ej
      walk_at "rd"
      refine use_near (dx := dx) (l := l) (p := p) (ns := ns') (F := (f, .lst rs) :: T') S (by walk_at "led") (by walk_at "own") hi (by omega) fun q H2 hq S2 => ?_
      have hz2 : rs.length ≤ 5000 := by omega
      walk_at "rd"
      rename_i S3
      have hml := merged_len hi
      refine ⟨_, ?_, rs ++ [V.ref q], T' ++ [(q, .tup ((tri ns' i).map V.int))], ts ++ [tri ns' i], mergedL ns' i, rfl, S3.re (by walk_at "led"), ht.snoc q _, ?_, rfl, ?_, ?_⟩
      · omega
      · intro z hz
        rcases List.mem_append.mp hz with hz | hz
        · exact hT z hz
        · simp at hz; rw [hz]; exact hq
      · simp; omega
      · intro a us h
        rw [List.append_assoc]
        exact b4 _ _ (.step en h)
    · have en : lastN ns' = none := by unfold lastN; rw [if_neg (by omega)]
      walk_at "rd"
      have r := b4 _ _ (.done en)
      rw [List.append_nil] at r
      refine k _ _ ((f, .lst rs) :: T') (SL A.C_RunStack x dx l p ns') ⟨f, rs, T', ts, ns', rfl, rfl, ht, r, rfl⟩ (S.re (by walk_at "led")) (by walk_at "keys") ?_
      intro q hq
      rcases List.mem_cons.mp hq with rfl | hq
      · exact hf
      · exact hT q hq
end
end K33

namespace K33
open PySem L2 Rs
local macro_rules | `(tactic| walk_at "fv") => `(tactic| first | exact K33.fl_policy _ _ | exact K33.fl_total _ _ | exact K33.fl_lengths _ _ | exact K33.fl_powers _ _ | exact K33.fl_near _ _ | exact K33.fl_pushed _ _ | exact K33.fl_finished _ _ | exact K33.fl_ln _ _ | exact K33.fl_pn _ _)
local macro_rules | `(tactic| walk_at "rd1") => `(tactic| ((with_reducible refine' Rs.rd_ixL (by assumption) ?m ?e ?_); (case m => (walk_at "mem"; done)); (case e => first | exact K33.ix1 (by omega) | exact K33.ix2 (by omega) | exact K33.ix3 (by omega) | exact K33.ix4 (by omega))))
/-! the law's own -/
def downN (ns : List Int) : Int := match nextN ns with
  | none => 0
  | some i => (ns.length : Int) - 1 - i
def R_lmerge : SepM := fun vs Ch L post => ∃ o ns, ∃ i : Nat, vs = [.ref o, .int i] ∧ L = [(o, .lst (ns.map V.int))] ∧ Ch = [o] ∧ i + 2 ≤ ns.length ∧ ns.length ≤ 4096 ∧
  post = fun v N L' => ∃ q, v = .ref q ∧ N = [(q, .tup ((tri ns i).map V.int))] ∧ L' = [(o, .lst ((mergedL ns i).map V.int))]
def R_lnext : SepM := fun vs Ch L post => ∃ o ns, vs = [.ref o] ∧ L = [(o, .lst (ns.map V.int))] ∧ Ch = [] ∧ post = fun v N L' => v = .int (downN ns) ∧ N = [] ∧ L' = L
def R_lpush : SepM := fun vs Ch L post => ∃ o ns m, vs = [.ref o, .int m] ∧ L = [(o, .lst (ns.map V.int))] ∧ Ch = [o] ∧ ns.length + 1 ≤ 4096 ∧
  post = fun v N L' => ∃ f fs T ts ns', v = .ref f ∧ N = (f, .lst fs) :: T ∧ TL fs T ts ∧ Run nextN (ns ++ [m]) ns' ts ∧ L' = [(o, .lst (ns'.map V.int))]
def R_lfin : SepM := fun vs Ch L post => ∃ o ns, vs = [.ref o] ∧ L = [(o, .lst (ns.map V.int))] ∧ Ch = [o] ∧ ns.length ≤ 4096 ∧
  post = fun v N L' => ∃ f fs T ts ns', v = .ref f ∧ N = (f, .lst fs) :: T ∧ TL fs T ts ∧ Run lastN ns ns' ts ∧ L' = [(o, .lst (ns'.map V.int))]
section
variable {P : Program} {w : World} {K : PySem.W.Frag} {mg : Str → Option Value} {base : Heap} {A : Ad} {H H0 : Hp} {MM : List Addr} {L L' F : Led} {Q : VK} {E : XK}
local macro_rules | `(tactic| walk_at "keys") => `(tactic| (intro q hq; simp only [List.mem_cons, List.not_mem_nil, or_false] at hq; first | (subst hq; simp; done) | (rcases hq with h | h | h <;> (subst h; simp))))
theorem ok_ln (T : Txt K mg w A) : FnOk P w K mg base CX0 1 A.f_RunStack_lengths_now A.d_RunStack_lengths_now ["self"] (SepN (R_now A.C_RunStack true)) := by
  have hC := T.cl_RunStack
  have n3 := T.na_RunStack_laid_lengths
  refine T.c_RunStack_lengths_now.F.ok sc_RunStack_lengths_now (fun vs H Q E h => ?_) (fun cdv Ar outer s H vs Q E hr h => ?_)
  · obtain ⟨_, _, _, ⟨_, _, _, _, _, rfl, _⟩, _⟩ := h; rfl
  · obtain ⟨Ch, L, post, ⟨x, dx, l, p, ns, rfl, rfl, rfl, rfl⟩, nd, is, hc, k⟩ := h
    refine ⟨_, (pss_one (ps_ret (pe_callTy call_list_of (by rfl) T.n_list (by decide +kernel) (pa_cons (pe_fld (pv 0) rfl) pa_nil)))), ?_⟩
    have S := Sep.led nd is hc
    walk_at "st"
    walk_at "rd"
    intro t ht
    obtain ⟨h0, S1⟩ := S.new ht (.lst (ns.map V.int))
    exact k _ _ [_] _ ⟨t, rfl, rfl, rfl⟩ S1 (by walk_at "keys") (by simpa using h0)
theorem ok_pn (T : Txt K mg w A) : FnOk P w K mg base CX0 1 A.f_RunStack_powers_now A.d_RunStack_powers_now ["self"] (SepN (R_now A.C_RunStack false)) := by
  have hC := T.cl_RunStack
  have n4 := T.na_RunStack_laid_powers
  refine T.c_RunStack_powers_now.F.ok sc_RunStack_powers_now (fun vs H Q E h => ?_) (fun cdv Ar outer s H vs Q E hr h => ?_)
  · obtain ⟨_, _, _, ⟨_, _, _, _, _, rfl, _⟩, _⟩ := h; rfl
  · obtain ⟨Ch, L, post, ⟨x, dx, l, p, ns, rfl, rfl, rfl, rfl⟩, nd, is, hc, k⟩ := h
    refine ⟨_, (pss_one (ps_ret (pe_callTy call_list_of (by rfl) T.n_list (by decide +kernel) (pa_cons (pe_fld (pv 0) rfl) pa_nil)))), ?_⟩
    have S := Sep.led nd is hc
    walk_at "st"
    walk_at "rd"
    intro t ht
    obtain ⟨h0, S1⟩ := S.new ht (.lst [])
    exact k _ _ [_] _ ⟨t, rfl, rfl, rfl⟩ S1 (by walk_at "keys") (by simpa using h0)
theorem ok_len (T : Txt K mg w A) : FnOk P w K mg base CX0 1 A.f_RunStack___len__ A.d_RunStack___len__ ["self"] (SepN (R_len A.C_RunStack)) := by
  have hC := T.cl_RunStack
  have n3 := T.na_RunStack_laid_lengths
  refine T.c_RunStack___len__.F.ok sc_RunStack___len__ (fun vs H Q E h => ?_) (fun cdv Ar outer s H vs Q E hr h => ?_)
  · obtain ⟨_, _, _, ⟨_, _, _, _, _, rfl, _⟩, _⟩ := h; rfl
  · obtain ⟨Ch, L, post, ⟨x, dx, l, p, ns, rfl, rfl, rfl, rfl⟩, nd, is, hc, k⟩ := h
    refine ⟨_, (pss_one (ps_ret (pe_callB call_len_seq (by rfl) T.n_len PySem.boot_len (pa_cons (pe_fld (pv 0) rfl) pa_nil)))), ?_⟩
    have S := Sep.led nd is hc
    walk_at "st"
    walk_at "rd"
    rw [List.length_map]
    exact k _ _ [] _ ⟨rfl, rfl, rfl⟩ S (by walk_at "keys") (fun q h => nomatch h)
theorem ok_repr (T : Txt K mg w A) : FnOk P w K mg base CX0 1 A.f_RunStack___repr__ A.d_RunStack___repr__ ["self"] (SepN (R_repr A.C_RunStack)) := by
  have hC := T.cl_RunStack
  have n3 := T.na_RunStack_laid_lengths
  refine T.c_RunStack___repr__.F.ok sc_RunStack___repr__ (fun vs H Q E h => ?_) (fun cdv Ar outer s H vs Q E hr h => ?_)
  · obtain ⟨_, _, _, ⟨_, _, _, _, _, rfl, _⟩, _⟩ := h; rfl
  · obtain ⟨Ch, L, post, ⟨x, dx, l, p, ns, rfl, rfl, rfl, h1, hs, rfl⟩, nd, is, hc, k⟩ := h
    refine ⟨_, (pss_one (ps_ret (pe_joined (.cons pe_str (.cons (pe_fmt (pe_callB call_len_seq (by rfl) T.n_len PySem.boot_len (pa_cons (pe_fld (pv 0) rfl) pa_nil))) (.cons pe_str (.cons (pe_fmt (pe_callB (cr_sum rfl) (by rfl) T.n_sum PyProof.Rows.boot_sum (pa_cons (pe_fld (pv 0) rfl) pa_nil))) (.cons pe_str .nil)))))))), ?_⟩
    have S := Sep.led nd is hc
    have hn := len_sum h1
    have h0 := sum_nn h1
    walk_at "st"
    walk_at "rd"
    have i1 := len_num (n := (ns.length : Nat)) (by omega) (by omega)
    have i2 := len_num (n := ns.sum) (by omega) (by omega)
    have z0 : Str.empty.length = 0 := by decide
    have z1 : ("RunStack(" : Str).length = 9 := by decide
    have z2 : (", " : Str).length = 2 := by decide
    refine rd_jsS (by omega) (by omega) ?_
    refine rd_jsF ?_
    walk_at "rd"
    have e : ((ns.map V.int).length : Int) = (ns.length : Nat) := by simp
    rw [e]
    refine rd_kFI (by omega) (by omega) (by rw [len_app]; omega) ?_
    refine rd_jsS (by rw [len_app, len_app]; omega) (by omega) ?_
    refine rd_jsF ?_
    walk_at "rd"
    refine rd_kFI (by omega) (by omega) (by rw [len_app, len_app, len_app]; omega) ?_
    refine rd_jsS (by rw [len_app, len_app, len_app, len_app]; omega) (by decide) ?_
    refine rd_jsN ?_
    exact k _ _ [] _ ⟨rfl, rfl, rfl⟩ S (by walk_at "keys") (fun q h => nomatch h)
theorem ok_lmerge (T : Txt K mg w A) : FnOk P w K mg base CX0 1 A.f__law_merge A.d__law_merge ["_law_own", "_law_at"] (SepN R_lmerge) := by
  refine T.c__law_merge.F.ok sc_l_merge (fun vs H Q E h => ?_) (fun cdv Ar outer s H vs Q E hr h => ?_)
  · obtain ⟨_, _, _, ⟨_, _, _, rfl, _⟩, _⟩ := h; rfl
  · obtain ⟨Ch, L, post, ⟨o, ns, i, rfl, rfl, rfl, hi, hn, rfl⟩, nd, is, hc, k⟩ := h
    refine ⟨_, (pss_cons (ps_set (i := 2) sc_l_merge.nd rfl (Or.inl rfl) (pe_callB (cr_sum rfl) (by rfl) T.n_sum PyProof.Rows.boot_sum (pa_cons (pe_slice sl_list (pv 0) po_none (po_some (pv 1))) pa_nil)))
      (pss_cons (ps_set (i := 3) sc_l_merge.nd rfl (Or.inl rfl) (pe_tup (pa_cons (pv 2) (pa_cons (pe_op op_add (pv 2) (pe_ix ix_list (pv 0) (pv 1) (fun _ _ => rfl))) (pa_cons (pe_op op_add (pe_op op_add (pv 2) (pe_ix ix_list (pv 0) (pv 1) (fun _ _ => rfl))) (pe_ix ix_list (pv 0) (pe_op op_add (pv 1) pe_int) (fun _ _ => rfl))) pa_nil)))))
      (pss_cons (ps_asg (pe_lst (pa_cons (pe_op op_add (pe_ix ix_list (pv 0) (pv 1) (fun _ _ => rfl)) (pe_ix ix_list (pv 0) (pe_op op_add (pv 1) pe_int) (fun _ _ => rfl))) pa_nil)) (pg_slc (pv 0) (po_some (pv 1)) (po_some (pe_op op_add (pv 1) pe_int))))
      (pss_one (ps_ret (pv 3)))))), ?_⟩
    have S := Sep.led nd is hc
    have a0 : atI (ns.map V.int) (i : Int) = some (.int (ns.getD i 0)) := at_nat (by omega)
    have a1 : atI (ns.map V.int) ((i : Int) + 1) = some (.int (ns.getD (i + 1) 0)) := at_nat (i := i + 1) (by omega)
    have hl : H o ≠ none := by rw [is (o, HO.lst (ns.map V.int)) (by simp)]; simp
    walk_at "st"
    walk_at "rd"
    refine gt_slcV (zs := (mergedL ns i).map V.int) (by assumption) (by walk_at "chg") (by walk_at "mem") (fun e => hl (by rw [e]; assumption)) (by walk_at "own") (by omega) (by omega) ?_ ?_ ?_ fun H5 S5 => ?_
    · simp; omega
    · refine Rs.sz ?_; simp; omega
    · have e3 : ((i : Int)).toNat = i := by omega
      have e4 : ((i : Int) + 2).toNat = i + 2 := by omega
      rw [e3, e4]
      simp [mergedL]
    walk_at "rd"
    rw [cut0 hi] at S5
    have S6 : Hs H [o] H5 (_ :: (_, .tup ((tri ns i).map V.int)) :: _) := S5
    exact k _ _ [_] [(o, .lst ((mergedL ns i).map V.int))] ⟨_, rfl, rfl, rfl⟩ (S6.re (by walk_at "led")) (by walk_at "keys") (fun q hq => by simp only [List.mem_cons, List.not_mem_nil, or_false] at hq; rw [hq]; assumption)
def topI (ns : List Int) : List Int := ns.reverse.take 4
theorem top_len (ns : List Int) : (topI ns).length = min 4 ns.length := by simp [topI]
theorem top_at {ns : List Int} {k : Nat} (h4 : k < 4) (h : k < ns.length) : atI ((topI ns).map V.int) (k : Int) = some (.int (bk ns (k + 1))) := by
  rw [at_nat (by rw [top_len]; omega)]
  congr 2
  unfold topI bk
  rw [List.getD_eq_getElem?_getD, List.getElem?_take_of_lt h4, List.getElem?_reverse h, List.getD_eq_getElem?_getD]
  congr 2
  omega
theorem tp0 {ns : List Int} (h : 0 < ns.length) : atI ((topI ns).map V.int) 0 = some (.int (bk ns 1)) := top_at (k := 0) (by decide) h
theorem tp1 {ns : List Int} (h : 1 < ns.length) : atI ((topI ns).map V.int) 1 = some (.int (bk ns 2)) := top_at (k := 1) (by decide) h
theorem tp2 {ns : List Int} (h : 2 < ns.length) : atI ((topI ns).map V.int) 2 = some (.int (bk ns 3)) := top_at (k := 2) (by decide) h
theorem tp3 {ns : List Int} (h : 3 < ns.length) : atI ((topI ns).map V.int) 3 = some (.int (bk ns 4)) := top_at (k := 3) (by decide) h
local macro_rules | `(tactic| walk_at "rd1") => `(tactic| ((with_reducible refine' Rs.rd_ixL (by assumption) ?m ?e ?_); (case m => (walk_at "mem"; done)); (case e => first | exact K33.tp0 (by omega) | exact K33.tp1 (by omega) | exact K33.tp2 (by omega) | exact K33.tp3 (by omega))))
theorem cut4 (ns : List Int) : cutI ns.reverse none (some 4) = topI ns := by
  unfold cutI topI
  rw [show (4 : Int) = ((4 : Nat) : Int) from rfl, HT.sIx_nat, HT.sIx_none]
  by_cases h : 4 ≤ ns.reverse.length
  · rw [Nat.min_eq_left h]; simp
  · rw [Nat.min_eq_right (by omega), List.take_of_length_le (by simp), List.take_of_length_le (by simp at h ⊢; omega)]; simp
abbrev over (ns : List Int) : Prop := (2 < ns.length ∧ bk ns 3 ≤ bk ns 2 + bk ns 1) ∨ (3 < ns.length ∧ bk ns 4 ≤ bk ns 3 + bk ns 2)
theorem dn_2 {ns : List Int} (h : over ns) (h2 : bk ns 3 < bk ns 1) : downN ns = 2 := by
  have : nextN ns = some (ns.length - 3) := by unfold nextN; unfold over at h; rw [if_pos h, if_pos h2]
  unfold downN; rw [this]; unfold over at h; simp only; omega
theorem dn_1 {ns : List Int} (h : over ns) (h2 : ¬ bk ns 3 < bk ns 1) : downN ns = 1 := by
  have : nextN ns = some (ns.length - 2) := by unfold nextN; unfold over at h; rw [if_pos h, if_neg h2]
  unfold downN; rw [this]; unfold over at h; simp only; omega
theorem dn_b {ns : List Int} (h : ¬ over ns) (h2 : 1 < ns.length ∧ bk ns 2 ≤ bk ns 1) : downN ns = 1 := by
  have : nextN ns = some (ns.length - 2) := by unfold nextN; unfold over at h; rw [if_neg h, if_pos h2]
  unfold downN; rw [this]; simp only; omega
theorem dn_0 {ns : List Int} (h : ¬ over ns) (h2 : ¬ (1 < ns.length ∧ bk ns 2 ≤ bk ns 1)) : downN ns = 0 := by
  have : nextN ns = none := by unfold nextN; unfold over at h; rw [if_neg h, if_neg h2]
  unfold downN; rw [this]
local macro_rules | `(tactic| walk_at "rd1") => `(tactic| with_reducible refine Rs.rd_int1b ?_)
theorem ok_lnext (T : Txt K mg w A) : FnOk P w K mg base CX0 1 A.f__law_next A.d__law_next ["_law_own"] (SepN R_lnext) := by
  refine T.c__law_next.F.ok sc_l_next (fun vs H Q E h => ?_) (fun cdv Ar outer s H vs Q E hr h => ?_)
  · obtain ⟨_, _, _, ⟨_, _, rfl, _⟩, _⟩ := h; rfl
  · obtain ⟨Ch, L, post, ⟨o, ns, rfl, rfl, rfl, rfl⟩, nd, is, hc, k⟩ := h
    refine ⟨_, (pss_cons (ps_set (i := 1) sc_l_next.nd rfl (Or.inl rfl) (pe_slice sl_list (pe_revL (pv 0)) po_none (po_some pe_int)))
      (pss_cons (ps_set (i := 2) sc_l_next.nd rfl (Or.inl rfl) (pe_and (pe_cmpR op_gt (pe_callB call_len_seq (by rfl) T.n_len PySem.boot_len (pa_cons (pv 1) pa_nil)) pe_int (nomark _)) (pe_one (pe_cmpR op_le (pe_ix ix_list (pv 1) pe_int (fun _ _ => rfl)) (pe_op op_add (pe_ix ix_list (pv 1) pe_int (fun _ _ => rfl)) (pe_ix ix_list (pv 1) pe_int (fun _ _ => rfl))) (nomark _)))))
      (pss_cons (ps_set (i := 2) sc_l_next.nd rfl (Or.inl rfl) (pe_or (pv 2) (pe_one (pe_and (pe_cmpR op_gt (pe_callB call_len_seq (by rfl) T.n_len PySem.boot_len (pa_cons (pv 1) pa_nil)) pe_int (nomark _)) (pe_one (pe_cmpR op_le (pe_ix ix_list (pv 1) pe_int (fun _ _ => rfl)) (pe_op op_add (pe_ix ix_list (pv 1) pe_int (fun _ _ => rfl)) (pe_ix ix_list (pv 1) pe_int (fun _ _ => rfl))) (nomark _)))))))
      (pss_cons (ps_if (pt_val (pv 2))
        (pss_one (ps_ret (pe_ifExp (pt_cmpR op_lt (pe_ix ix_list (pv 1) pe_int (fun _ _ => rfl)) (pe_ix ix_list (pv 1) pe_int (fun _ _ => rfl)) (nomark _)) pe_int pe_int)))
        pss_nil)
      (pss_one (ps_ret (pe_callTy call_int1 (by rfl) T.n_int (by decide +kernel) (pa_cons (pe_and (pe_cmpR op_gt (pe_callB call_len_seq (by rfl) T.n_len PySem.boot_len (pa_cons (pv 1) pa_nil)) pe_int (nomark _)) (pe_one (pe_cmpR op_le (pe_ix ix_list (pv 1) pe_int (fun _ _ => rfl)) (pe_ix ix_list (pv 1) pe_int (fun _ _ => rfl)) (nomark _)))) pa_nil)))))))), ?_⟩
    have S := Sep.led nd is hc
    walk_at "st"
    walk_at "rd"
    rename_i S1
    rw [← List.map_reverse] at S1
    walk_at "rd"
    rename_i S2
    rw [cut4] at S2
    clear S1 S
    have hl := top_len ns
    have hl2 : ((topI ns).map V.int).length = min 4 ns.length := by simp [hl]
    have hl3 : ((cutI ns.reverse none (some 4)).map V.int).length = min 4 ns.length := by rw [cut4]; exact hl2
    have k1 : ∀ d : Int, downN ns = d → Q (.int d) _ := fun d e => k _ _ [] _ ⟨by rw [e], rfl, rfl⟩ (S2.re (by walk_at "led")) (fun q hq => List.mem_map_of_mem (f := (·.1)) hq) (fun q h => nomatch h)
    clear k
    walk_at "cut"
    all_goals first
      | exact k1 2 (dn_2 (by unfold over; omega) (by omega))
      | exact k1 1 (dn_1 (by unfold over; omega) (by omega))
      | exact k1 1 (dn_b (by unfold over; omega) (by omega))
      | exact k1 0 (dn_0 (by unfold over; omega) (by omega))
      | (refine k1 _ ?_; split <;> rename_i z <;> simp at z <;> first | exact dn_b (by unfold over; omega) (by omega) | exact dn_0 (by unfold over; omega) (by omega))
      | (exfalso; omega)
end
end K33

namespace K33
open PySem L2 Rs
local macro_rules | `(tactic| walk_at "rd1") => `(tactic| ((with_reducible refine' Rs.rd_ixL (by assumption) ?m ?e ?_); (case m => (walk_at "mem"; done)); (case e => first | exact K33.ix1 (by omega) | exact K33.ix2 (by omega) | exact K33.ix3 (by omega) | exact K33.ix4 (by omega))))
section
variable {P : Program} {w : World} {K : PySem.W.Frag} {mg : Str → Option Value} {base : Heap} {A : Ad} {H H0 : Hp} {MM : List Addr} {L L' F : Led} {Q : VK} {E : XK}
local macro_rules | `(tactic| walk_at "keys") => `(tactic| (intro q hq; simp only [List.mem_cons, List.not_mem_nil, or_false] at hq; first | (subst hq; simp; done) | (rcases hq with h | h | h <;> (subst h; simp))))
theorem use_lmerge {o : Addr} {ns : List Int} {i : Nat} {j : Int} (S : Hs H0 MM H L) (pm : ∀ a, cn a ([(o, HO.lst (ns.map V.int))] ++ F) ≤ cn a L) (own : H0 o = none ∨ o ∈ MM) (hj : j = i) (hi : i + 2 ≤ ns.length) (hn : ns.length ≤ 4096)
    (h : ∀ (q : Addr) (H' : Hp), H0 q = none → Hs H0 MM H' ((q, .tup ((tri ns i).map V.int)) :: ((o, .lst ((mergedL ns i).map V.int)) :: F)) → Q (.ref q) H') : SepN R_lmerge [.ref o, .int j] H Q E := by
  subst hj
  exact sepn_use S ⟨o, ns, i, rfl, rfl, rfl, hi, hn, rfl⟩ pm (fun c hc => by
    simp only [List.mem_cons, List.not_mem_nil, or_false] at hc
    subst hc
    exact ⟨by simp, own⟩) fun v H' N L' ⟨q, e1, e2, e3⟩ hN S' => by subst e1 e2 e3; exact h q H' (hN _ List.mem_cons_self) S'
theorem use_lnext {o : Addr} {ns : List Int} (S : Hs H0 MM H L) (pm : ∀ a, cn a ([(o, HO.lst (ns.map V.int))] ++ F) ≤ cn a L) (h : ∀ (H' : Hp), Hs H0 MM H' ((o, .lst (ns.map V.int)) :: F) → Q (.int (downN ns)) H') : SepN R_lnext [.ref o] H Q E :=
  sepn_use S ⟨o, ns, rfl, rfl, rfl, rfl⟩ pm (fun c hc => nomatch hc) fun v H' N L' ⟨e1, e2, e3⟩ hN S' => by subst e1 e2 e3; exact h H' S'
theorem down_some {ns : List Int} {i : Nat} (h : nextN ns = some i) : downN ns = (ns.length : Int) - 1 - i ∧ 0 < downN ns := by
  have := nextN_le h
  have e : downN ns = (ns.length : Int) - 1 - i := by unfold downN; rw [h]
  exact ⟨e, by omega⟩
theorem down_none {ns : List Int} (h : nextN ns = none) : downN ns = 0 := by unfold downN; rw [h]
theorem ok_lpush (T : Txt K mg w A) : FnOk P w K mg base CX0 2 A.f__law_pushed A.d__law_pushed ["_law_own", "_law_one"] (SepN R_lpush) := by
  have G__law_next : FnOk P w K mg base CX0 1 A.f__law_next A.d__law_next ["_law_own"] (SepN R_lnext) := ok_lnext T
  have G__law_merge : FnOk P w K mg base CX0 1 A.f__law_merge A.d__law_merge ["_law_own", "_law_at"] (SepN R_lmerge) := ok_lmerge T
  refine T.c__law_pushed.F.ok sc_l_pushed (fun vs H Q E h => ?_) (fun cdv Ar outer s H vs Q E hr h => ?_)
  · obtain ⟨_, _, _, ⟨_, _, _, rfl, _⟩, _⟩ := h; rfl
  · obtain ⟨Ch, L, post, ⟨o, ns, m, rfl, rfl, rfl, hn, rfl⟩, nd, is, hc, k⟩ := h
    refine ⟨_, (pss_cons (ps_expr (pe_bm PySem.F.plainAttrs_list PySem.F.slot_list_append PySem.F.type_list_append mt_append (pv 0) (pa_cons (pv 1) pa_nil)))
      (pss_cons (ps_par (i := 2) (j := 3) rfl sc_l_pushed.nd rfl rfl (by decide) rfl rfl (pa_cons (pe_lst pa_nil) (pa_cons (pe_call G__law_next (hr.mono (by decide)) rfl T.c__law_next.m T.c__law_next.F.kp T.c__law_next.b .nil pass0 (pa_cons (pv 0) pa_nil)) pa_nil)) (by rfl))
      (pss_cons (ps_while PassesOwn.never (pt_cmpR op_gt (pv 3) pe_int (nomark _))
        (pss_cons (ps_expr (pe_bm PySem.F.plainAttrs_list PySem.F.slot_list_append PySem.F.type_list_append mt_append (pv 2) (pa_cons (pe_call G__law_merge (hr.mono (by decide)) rfl T.c__law_merge.m T.c__law_merge.F.kp T.c__law_merge.b .nil pass0 (pa_cons (pv 0) (pa_cons (pe_op op_sub (pe_op op_sub (pe_callB call_len_seq (by rfl) T.n_len PySem.boot_len (pa_cons (pv 0) pa_nil)) pe_int) (pv 3)) pa_nil))) pa_nil)))
        (pss_one (ps_set (i := 3) sc_l_pushed.nd rfl (Or.inl rfl) (pe_call G__law_next (hr.mono (by decide)) rfl T.c__law_next.m T.c__law_next.F.kp T.c__law_next.b .nil pass0 (pa_cons (pv 0) pa_nil))))))
      (pss_one (ps_ret (pv 2)))))), ?_⟩
    have S := Sep.led nd is hc
    have hz : ns.length ≤ 5000 := by omega
    walk_at "st"
    walk_at "rd"
    rename_i f H1 hf S1
    have e : ns.map V.int ++ [V.int m] = (ns ++ [m]).map V.int := by simp
    rw [e] at S1
    refine use_lnext (ns := ns ++ [m]) (F := [(f, .lst [])]) S1 (by walk_at "led") fun H2 S2 => ?_
    walk_at "rd"
    refine rd_while (fun n σ H' => ∃ (rs : List V) (T : Led) (ts : List (List Int)) (ns' : List Int), σ = [some (.ref o), some (.int m), some (.ref f), some (.int (downN ns'))] ∧ Hs H [o] H' ((f, .lst rs) :: (o, .lst (ns'.map V.int)) :: T) ∧ TL rs T ts ∧
      (∀ q ∈ T, H q.1 = none) ∧ n = ns'.length ∧ rs.length + ns'.length = ns.length + 1 ∧ ∀ a us, Run nextN ns' a us → Run nextN (ns ++ [m]) a (ts ++ us)) _
      ⟨[], [], [], ns ++ [m], rfl, S2.re (by walk_at "led"), TL.nil, fun q h => (nomatch h), rfl, by simp, fun a us h => h⟩ ?_
    rintro n σ H' ⟨rs, T', ts, ns', rfl, S, ht, hT, rfl, b3, b4⟩
    clear S1 S2
    walk_at "rd"
    cases en : nextN ns' with
    | none =>
      refine rd_decF (by rw [down_none en]; omega) ?_
      walk_at "rd"
      have r := b4 _ _ (.done en)
      rw [List.append_nil] at r
      refine k _ _ ((f, .lst rs) :: T') [(o, .lst (ns'.map V.int))] ⟨f, rs, T', ts, ns', rfl, rfl, ht, r, rfl⟩ (S.re (by walk_at "led")) (by walk_at "keys") ?_
      intro q hq
      rcases List.mem_cons.mp hq with rfl | hq
      · exact hf
      · exact hT q hq
    | some i =>
      have hi := nextN_le en
      obtain ⟨ed, hd⟩ := down_some en
      refine rd_decT hd ?_
      walk_at "rd"
      refine use_lmerge (i := i) (ns := ns') (F := (f, .lst rs) :: T') S (by walk_at "led") (by walk_at "own") (by rw [List.length_map, ed]; omega) hi (by omega) fun q H2 hq S2 => ?_
      have hz2 : rs.length ≤ 5000 := by omega
      walk_at "rd"
      rename_i S3
      refine use_lnext (ns := mergedL ns' i) (F := (f, .lst (rs ++ [V.ref q])) :: (T' ++ [(q, .tup ((tri ns' i).map V.int))])) S3 (by walk_at "led") fun H4 S4 => ?_
      have hml := merged_len hi
      walk_at "rd"
      refine ⟨_, ?_, rs ++ [V.ref q], T' ++ [(q, .tup ((tri ns' i).map V.int))], ts ++ [tri ns' i], mergedL ns' i, rfl, S4.re (by walk_at "led"), ht.snoc q _, ?_, rfl, ?_, ?_⟩
      · omega
      · intro z hz
        rcases List.mem_append.mp hz with hz | hz
        · exact hT z hz
        · simp at hz; rw [hz]; exact hq
      · simp; omega
      · intro a us h
        rw [List.append_assoc]
        exact b4 _ _ (.step en h)
theorem ok_lfin (T : Txt K mg w A) : FnOk P w K mg base CX0 2 A.f__law_finished A.d__law_finished ["_law_own"] (SepN R_lfin) := by
  have G__law_merge : FnOk P w K mg base CX0 1 A.f__law_merge A.d__law_merge ["_law_own", "_law_at"] (SepN R_lmerge) := ok_lmerge T
  refine T.c__law_finished.F.ok sc_l_finished (fun vs H Q E h => ?_) (fun cdv Ar outer s H vs Q E hr h => ?_)
  · obtain ⟨_, _, _, ⟨_, _, rfl, _⟩, _⟩ := h; rfl
  · obtain ⟨Ch, L, post, ⟨o, ns, rfl, rfl, rfl, hn, rfl⟩, nd, is, hc, k⟩ := h
    refine ⟨_, (pss_cons (ps_set (i := 1) sc_l_finished.nd rfl (Or.inl rfl) (pe_lst pa_nil))
      (pss_cons (ps_while PassesOwn.never (pt_cmpR op_gt (pe_callB call_len_seq (by rfl) T.n_len PySem.boot_len (pa_cons (pv 0) pa_nil)) pe_int (nomark _))
        (pss_cons (ps_set (i := 2) sc_l_finished.nd rfl (Or.inl rfl) (pe_ifExp (PW.pt (pw_and (pt_cmpR op_gt (pe_callB call_len_seq (by rfl) T.n_len PySem.boot_len (pa_cons (pv 0) pa_nil)) pe_int (nomark _)) (pw_and1 (pt_cmpR op_lt (pe_ix ix_list (pv 0) (pe_un un_neg pe_int) (fun _ _ => rfl)) (pe_ix ix_list (pv 0) (pe_un un_neg pe_int) (fun _ _ => rfl)) (nomark _))))) pe_int pe_int))
        (pss_one (ps_expr (pe_bm PySem.F.plainAttrs_list PySem.F.slot_list_append PySem.F.type_list_append mt_append (pv 1) (pa_cons (pe_call G__law_merge (hr.mono (by decide)) rfl T.c__law_merge.m T.c__law_merge.F.kp T.c__law_merge.b .nil pass0 (pa_cons (pv 0) (pa_cons (pe_op op_sub (pe_op op_sub (pe_callB call_len_seq (by rfl) T.n_len PySem.boot_len (pa_cons (pv 0) pa_nil)) pe_int) (pv 2)) pa_nil))) pa_nil))))))
      (pss_one (ps_ret (pv 1))))), ?_⟩
    have S := Sep.led nd is hc
    walk_at "st"
    walk_at "rd"
    rename_i f H1 hf S1
    refine rd_while (fun n σ H' => ∃ (x3 : Option V) (rs : List V) (T : Led) (ts : List (List Int)) (ns' : List Int), σ = [some (.ref o), some (.ref f), x3] ∧ Hs H [o] H' ((f, .lst rs) :: (o, .lst (ns'.map V.int)) :: T) ∧ TL rs T ts ∧
      (∀ q ∈ T, H q.1 = none) ∧ n = ns'.length ∧ rs.length + ns'.length = ns.length ∧ ∀ a us, Run lastN ns' a us → Run lastN ns a (ts ++ us)) _
      ⟨_, [], [], [], ns, rfl, S1.re (by walk_at "led"), TL.nil, fun q h => (nomatch h), rfl, by simp, fun a us h => h⟩ ?_
    rintro n σ H' ⟨x3, rs, T', ts, ns', rfl, S, ht, hT, rfl, b3, b4⟩
    clear S1
    walk_at "rd"
    rw [List.length_map]
    refine rd_dec ?_ ?_ <;> intro hc
    · obtain ⟨i, en⟩ : ∃ i, lastN ns' = some i := by unfold lastN; rw [if_pos (by omega)]; exact ⟨_, rfl⟩
      have hi := lastN_le en
      have hz2 : rs.length ≤ 5000 := by omega
      have hml := merged_len hi
      have hm2 : (ns'.map V.int).length = ns'.length := by simp
      walk_at "cut"
      all_goals (refine use_lmerge (i := i) (ns := ns') (F := (f, .lst rs) :: T') S (by walk_at "led") (by walk_at "own") (by
        unfold lastN at en
        rw [if_pos (by omega)] at en
        try rw [List.length_map]
        split at en <;> cases en <;> omega) hi (by omega) fun q H2 hq S2 => ?_)
      all_goals (walk_at "rd")
      all_goals (rename_i S3)
      all_goals (refine ⟨_, ?_, _, rs ++ [V.ref q], T' ++ [(q, .tup ((tri ns' i).map V.int))], ts ++ [tri ns' i], mergedL ns' i, rfl, S3.re (by walk_at "led"), ht.snoc q _, ?_, rfl, ?_, ?_⟩)
      all_goals first
        | omega
        | (simp; omega)
        | (intro z hz
           rcases List.mem_append.mp hz with hz | hz
           · exact hT z hz
           · simp at hz; rw [hz]; exact hq)
        | (intro a us h
           rw [List.append_assoc]
           exact b4 _ _ (.step en h))
    · have en : lastN ns' = none := by unfold lastN; rw [if_neg (by omega)]
      walk_at "rd"
      have r := b4 _ _ (.done en)
      rw [List.append_nil] at r
      refine k _ _ ((f, .lst rs) :: T') [(o, .lst (ns'.map V.int))] ⟨f, rs, T', ts, ns', rfl, rfl, ht, r, rfl⟩ (S.re (by walk_at "led")) (by walk_at "keys") ?_
      intro q hq
      rcases List.mem_cons.mp hq with rfl | hq
      · exact hf
      · exact hT q hq
end
end K33

namespace K33
open PySem L2 Rs
local macro_rules | `(tactic| walk_at "fv") => `(tactic| first | exact K33.fl_policy _ _ | exact K33.fl_total _ _ | exact K33.fl_lengths _ _ | exact K33.fl_powers _ _ | exact K33.fl_near _ _ | exact K33.fl_pushed _ _ | exact K33.fl_finished _ _ | exact K33.fl_ln _ _ | exact K33.fl_pn _ _)
abbrev SO (C x dx l p o : Addr) (ns : List Int) : Led := SL C x dx l p ns ++ [(o, .lst (ns.map V.int))]
def R_so (C : Addr) : SepM := fun vs Ch L post => ∃ x dx l p o ns, vs = [.ref x, .ref o] ∧ L = SO C x dx l p o ns ∧ Ch = [] ∧ (∀ z ∈ ns, 1 ≤ z) ∧ ns.sum ≤ 4096 ∧ post = fun v N L' => v = .bl true ∧ N = [] ∧ L' = L
def R_end (C : Addr) : SepM := fun vs Ch L post => ∃ x dx l p o ns, vs = [.ref x, .ref o] ∧ L = SO C x dx l p o ns ∧ Ch = [l, o] ∧ (∀ z ∈ ns, 1 ≤ z) ∧ ns.sum ≤ 4096 ∧ ns.length ≤ 900 ∧
  post = fun v N L' => v = .bl true ∧ N = [] ∧ ∃ ns' ts, Run lastN ns ns' ts ∧ L' = SO C x dx l p o ns'
theorem dI_nil : (dI []).shown = "[]" := by decide +kernel
section
variable {P : Program} {w : World} {K : PySem.W.Frag} {mg : Str → Option Value} {base : Heap} {A : Ad} {H H0 : Hp} {MM : List Addr} {L L' F : Led} {Q : VK} {E : XK}
local macro_rules | `(tactic| walk_at "rd1") => `(tactic| ((with_reducible refine' Rs.rd_rev (by assumption) ?c ?o ?_); (case c => (walk_at "chg"; done)); (case o => walk_at "own"); intro H S))
theorem use_now {C x dx l p : Addr} {b : Bool} {ns : List Int} (S : Hs H0 MM H L) (pm : ∀ a, cn a (SL C x dx l p ns ++ F) ≤ cn a L)
    (h : ∀ (f : Addr) (H' : Hp), H0 f = none → Hs H0 MM H' ((f, .lst (if b then ns.map V.int else [])) :: (SL C x dx l p ns ++ F)) → Q (.ref f) H') : SepN (R_now C b) [.ref x] H Q E :=
  sepn_use S ⟨x, dx, l, p, ns, rfl, rfl, rfl, rfl⟩ pm (fun c hc => nomatch hc) fun v H' N L' ⟨f, e1, e2, e3⟩ hN S' => by subst e1 e2 e3; exact h f H' (hN _ List.mem_cons_self) S'
theorem use_len {C x dx l p : Addr} {ns : List Int} (S : Hs H0 MM H L) (pm : ∀ a, cn a (SL C x dx l p ns ++ F) ≤ cn a L)
    (h : ∀ (H' : Hp), Hs H0 MM H' (SL C x dx l p ns ++ F) → Q (.int (ns.length : Nat)) H') : SepN (R_len C) [.ref x] H Q E :=
  sepn_use S ⟨x, dx, l, p, ns, rfl, rfl, rfl, rfl⟩ pm (fun c hc => nomatch hc) fun v H' N L' ⟨e1, e2, e3⟩ hN S' => by subst e1 e2 e3; exact h H' S'
theorem use_repr {C x dx l p : Addr} {ns : List Int} (S : Hs H0 MM H L) (h1 : ∀ z ∈ ns, 1 ≤ z) (hs : ns.sum ≤ 4096) (pm : ∀ a, cn a (SL C x dx l p ns ++ F) ≤ cn a L)
    (h : ∀ (H' : Hp), Hs H0 MM H' (SL C x dx l p ns ++ F) → Q (.str (tRep (ns.length : Nat) ns.sum)) H') : SepN (R_repr C) [.ref x] H Q E :=
  sepn_use S ⟨x, dx, l, p, ns, rfl, rfl, rfl, h1, hs, rfl⟩ pm (fun c hc => nomatch hc) fun v H' N L' ⟨e1, e2, e3⟩ hN S' => by subst e1 e2 e3; exact h H' S'
theorem ok_so (T : Txt K mg w A) : FnG P w K mg base 3 A.f__law_is_so A.d__law_is_so ["_law_stack", "_law_own"] (SepN (R_so A.C_RunStack)) := by
  have G_RunStack_lengths_now : FnOk P w K mg base CX0 1 A.f_RunStack_lengths_now A.d_RunStack_lengths_now ["self"] (SepN (R_now A.C_RunStack true)) := ok_ln T
  have G_RunStack_powers_now : FnOk P w K mg base CX0 1 A.f_RunStack_powers_now A.d_RunStack_powers_now ["self"] (SepN (R_now A.C_RunStack false)) := ok_pn T
  have G_RunStack___len__ : FnOk P w K mg base CX0 1 A.f_RunStack___len__ A.d_RunStack___len__ ["self"] (SepN (R_len A.C_RunStack)) := ok_len T
  have G_RunStack___repr__ : FnOk P w K mg base CX0 1 A.f_RunStack___repr__ A.d_RunStack___repr__ ["self"] (SepN (R_repr A.C_RunStack)) := ok_repr T
  refine defG T.c__law_is_so.F sc_l_is_so (fun vs H Q E h => ?_) (fun cdv Ar outer s H vs Q E cl hr h => ?_)
  · obtain ⟨_, _, _, ⟨_, _, _, _, _, _, rfl, _⟩, _⟩ := h; rfl
  · obtain ⟨Ch, L, post, ⟨x, dx, l, p, o, ns, rfl, rfl, rfl, h1, hs, rfl⟩, nd, is, hC, k⟩ := h
    refine ⟨_, (pss_cons (ps_for PassesOwn.never rfl (pi_range1 rfl T.n_range (pa_cons pe_int pa_nil)) (pg_name (i := 2) sc_l_is_so.nd rfl (Or.inl rfl))
        (pss_cons (ps_par (i := 3) (j := 4) rfl sc_l_is_so.nd rfl rfl (by decide) rfl rfl (pa_cons (pe_meth0 (pv 0) T.cl_RunStack T.h_RunStack_lengths_now G_RunStack_lengths_now (hr.mono (by decide)) T.c_RunStack_lengths_now.b .nil pass0) (pa_cons (pe_meth0 (pv 0) T.cl_RunStack T.h_RunStack_powers_now G_RunStack_powers_now (hr.mono (by decide)) T.c_RunStack_powers_now.b .nil pass0) pa_nil)) (by rfl))
        (pss_cons (ps_if (PW.pt (pw_or (pt_cmpR op_ne (pe_callB (call_repr cl hr) (by rfl) T.n_repr PyProof.Rows.boot_repr (pa_cons (pv 3) pa_nil)) (pe_callB (call_repr cl hr) (by rfl) T.n_repr PyProof.Rows.boot_repr (pa_cons (pv 1) pa_nil)) (nomark _)) (pw_or1 (pt_cmpR op_ne (pe_callB (call_repr cl hr) (by rfl) T.n_repr PyProof.Rows.boot_repr (pa_cons (pv 4) pa_nil)) pe_str (nomark _)))))
          (pss_one (ps_ret pe_bl))
          pss_nil)
        (pss_cons (ps_expr (pe_bm PySem.F.plainAttrs_list PySem.F.slot_list_append PySem.F.type_list_append mt_append (pv 3) (pa_cons pe_int pa_nil)))
        (pss_cons (ps_expr (pe_bm0 PySem.F.plainAttrs_list PySem.F.slot_list_reverse PySem.F.type_list_reverse mt_reverse (pv 3)))
        (pss_one (ps_expr (pe_bm PySem.F.plainAttrs_list PySem.F.slot_list_append PySem.F.type_list_append mt_append (pv 4) (pa_cons pe_int pa_nil)))))))))
      (pss_one (ps_ret (pe_and (pe_cmpR op_eq (pe_callB (call_lenO T.h_RunStack___len__.at_ T.h_RunStack___len__.fn G_RunStack___len__ (hr.mono (by decide)) T.c_RunStack___len__.b pass0) (by rfl) T.n_len PySem.boot_len (pa_cons (pv 0) pa_nil)) (pe_callB call_len_seq (by rfl) T.n_len PySem.boot_len (pa_cons (pv 1) pa_nil)) (nomark _)) (pe_one (pe_cmpR op_eq (pe_callB (call_reprO T.h_RunStack___repr__.at_ T.h_RunStack___repr__.fn G_RunStack___repr__ (hr.mono (by decide)) T.c_RunStack___repr__.b pass0) (by rfl) T.n_repr PyProof.Rows.boot_repr (pa_cons (pv 0) pa_nil)) (pe_joined (.cons pe_str (.cons (pe_fmt (pe_callB call_len_seq (by rfl) T.n_len PySem.boot_len (pa_cons (pv 1) pa_nil))) (.cons pe_str (.cons (pe_fmt (pe_callB (cr_sum rfl) (by rfl) T.n_sum PyProof.Rows.boot_sum (pa_cons (pv 1) pa_nil))) (.cons pe_str .nil)))))) (nomark _))))))), ?_⟩
    have S := Sep.led nd is hC
    have hn := len_sum h1
    have h0 := sum_nn h1
    have hb : ∀ z ∈ ns, z.natAbs < 10 ^ 12 := fun z hz => by have := h1 z hz; have := le_sum h1 z hz; omega
    walk_at "st"
    walk_at "rd"
    refine fw_range (fun i σ H' => ∃ o1 o2 o3, σ = [some (.ref x), some (.ref o), o1, o2, o3] ∧ Hs H [] H' (SO A.C_RunStack x dx l p o ns)) ⟨_, _, _, rfl, S⟩ ?_ ?_
    · rintro i σ H1 hi ⟨o1, o2, o3, rfl, S⟩
      walk_at "rd"
      refine use_now (dx := dx) (l := l) (p := p) (ns := ns) (F := [(o, .lst (ns.map V.int))]) S (by walk_at "led") fun f1 H2 hf1 S2 => ?_
      simp only [if_true] at S2
      walk_at "rd"
      refine use_now (dx := dx) (l := l) (p := p) (ns := ns) (F := [(f1, .lst (ns.map V.int)), (o, .lst (ns.map V.int))]) S2 (by walk_at "led") fun f2 H3 hf2 S3 => ?_
      simp only [Bool.false_eq_true, if_false] at S3
      clear S S2
      walk_at "rd"
      refine rd_reprI (ns := ns) S3 (by walk_at "mem") rfl hb (by omega) ?_
      walk_at "rd"
      refine rd_reprI (ns := ns) S3 (by walk_at "mem") rfl hb (by omega) ?_
      walk_at "rd"
      refine rd_decF (by simp) ?_
      walk_at "rd"
      refine rd_reprI (xs := []) (ns := []) S3 (by walk_at "mem") rfl (fun z hz => nomatch hz) (by simp) ?_
      walk_at "rd"
      refine rd_decF (by rw [dI_nil]; simp) ?_
      have hz3 : ns.length ≤ 5000 := by omega
      walk_at "rd"
      rename_i S8
      exact ⟨_, _, _, rfl, S8.re (by walk_at "led")⟩
    · rintro σ H1 ⟨o1, o2, o3, rfl, S⟩
      walk_at "rd"
      refine ⟨x, dx, _, rfl, S.is (x, HO.ins A.C_RunStack dx (flds l p)) (by walk_at "mem"), ?_⟩
      refine use_len (dx := dx) (l := l) (p := p) (ns := ns) (F := [(o, .lst (ns.map V.int))]) S (by walk_at "led") fun H2 S2 => ?_
      refine ⟨_, rfl, by omega, by omega, ?_⟩
      walk_at "rd"
      refine rd_decT (by simp) ?_
      walk_at "rd"
      refine ⟨x, dx, _, rfl, S2.is (x, HO.ins A.C_RunStack dx (flds l p)) (by walk_at "mem"), ?_⟩
      refine use_repr (dx := dx) (l := l) (p := p) (ns := ns) (F := [(o, .lst (ns.map V.int))]) S2 h1 hs (by walk_at "led") fun H3 S3 => ?_
      refine ⟨_, rfl, ?_⟩
      clear S S2
      have i1 := len_num (n := (ns.length : Nat)) (by omega) (by omega)
      have i2 := len_num (n := ns.sum) (by omega) (by omega)
      have z0 : Str.empty.length = 0 := by decide
      have z1 : ("RunStack(" : Str).length = 9 := by decide
      have z2 : (", " : Str).length = 2 := by decide
      have z3 : (")" : Str).length = 1 := by decide
      refine rd_jsS (by omega) (by omega) ?_
      refine rd_jsF ?_
      walk_at "rd"
      rw [List.length_map]
      refine rd_kFI (by omega) (by omega) (by rw [len_app]; omega) ?_
      refine rd_jsS (by rw [len_app, len_app]; omega) (by omega) ?_
      refine rd_jsF ?_
      walk_at "rd"
      refine rd_kFI (by omega) (by omega) (by rw [len_app, len_app, len_app]; omega) ?_
      refine rd_jsS (by rw [len_app, len_app, len_app, len_app]; omega) (by omega) ?_
      refine rd_jsN ?_
      walk_at "rd"
      have e9 : decide (tRep (ns.length : Nat) ns.sum = (((((Str.empty ++ "RunStack(") ++ toString ((ns.length : Nat) : Int)) ++ ", ") ++ toString ns.sum) ++ ")" : Str)) = true := decide_eq_true rfl
      rw [e9]
      exact k _ _ [] _ ⟨rfl, rfl, rfl⟩ S3 (fun q hq => List.mem_map_of_mem (f := (·.1)) hq) (fun q h => nomatch h)
end
end K33

namespace K33
open PySem L2 Rs
local macro_rules | `(tactic| walk_at "fv") => `(tactic| first | exact K33.fl_policy _ _ | exact K33.fl_total _ _ | exact K33.fl_lengths _ _ | exact K33.fl_powers _ _ | exact K33.fl_near _ _ | exact K33.fl_pushed _ _ | exact K33.fl_finished _ _ | exact K33.fl_ln _ _ | exact K33.fl_pn _ _)
theorem tl_tup {rs : List V} {T : Led} {ts : List (List Int)} (h : TL rs T ts) {q : Addr × HO} (m : q ∈ T) : ∃ t : List Int, q.2 = .tup (t.map V.int) := by
  have : q.2 ∈ T.map (·.2) := List.mem_map.mpr ⟨q, m, rfl⟩
  rw [h.ts] at this
  obtain ⟨t, _, e⟩ := List.mem_map.mp this
  exact ⟨t, e.symm⟩
theorem tupl_of {rs : List V} {T : Led} {ts : List (List Int)} (h : TL rs T ts) : TupL rs T := by
  refine ⟨fun r hr => ?_, fun q hq => tl_tup h hq⟩
  rw [h.rs] at hr
  obtain ⟨q, hq, e⟩ := List.mem_map.mp hr
  exact ⟨q, hq, e.symm⟩
section
variable {P : Program} {w : World} {K : PySem.W.Frag} {mg : Str → Option Value} {base : Heap} {A : Ad} {H H0 : Hp} {MM : List Addr} {L L' F : Led} {Q : VK} {E : XK}
theorem use_so {C x dx l p o : Addr} {ns : List Int} (S : Hs H0 MM H L) (h1 : ∀ z ∈ ns, 1 ≤ z) (hs : ns.sum ≤ 4096) (pm : ∀ a, cn a (SO C x dx l p o ns ++ F) ≤ cn a L)
    (h : ∀ (H' : Hp), Hs H0 MM H' (SO C x dx l p o ns ++ F) → Q (.bl true) H') : SepN (R_so C) [.ref x, .ref o] H Q E :=
  sepn_use S ⟨x, dx, l, p, o, ns, rfl, rfl, rfl, h1, hs, rfl⟩ pm (fun c hc => nomatch hc) fun v H' N L' ⟨e1, e2, e3⟩ hN S' => by subst e1 e2 e3; exact h H' S'
theorem use_fin {C x dx l p : Addr} {ns : List Int} (S : Hs H0 MM H L) (h1 : ∀ z ∈ ns, 1 ≤ z) (hs : ns.sum ≤ 4096) (own : H0 l = none ∨ l ∈ MM) (pm : ∀ a, cn a (SL C x dx l p ns ++ F) ≤ cn a L)
    (h : ∀ (f : Addr) (fs : List V) (T : Led) (ts : List (List Int)) (ns' : List Int) (H' : Hp), H0 f = none → (∀ q ∈ T, H0 q.1 = none) → TL fs T ts → Run lastN ns ns' ts → Hs H0 MM H' ((f, .lst fs) :: (T ++ (SL C x dx l p ns' ++ F))) → Q (.ref f) H') : SepN (R_fin C) [.ref x] H Q E :=
  sepn_use S ⟨x, dx, l, p, ns, rfl, rfl, rfl, h1, hs, rfl⟩ pm (fun c hc => by
    simp only [List.mem_cons, List.not_mem_nil, or_false] at hc
    subst hc
    exact ⟨by simp, own⟩) fun v H' N L' ⟨f, fs, T, ts, ns', e1, e2, tl, r, e3⟩ hN S' => by
      subst e1 e2 e3
      exact h f fs T ts ns' H' (hN _ List.mem_cons_self) (fun q hq => hN q (List.mem_cons_of_mem _ hq)) tl r S'
theorem use_lfin {o : Addr} {ns : List Int} (S : Hs H0 MM H L) (hn : ns.length ≤ 4096) (own : H0 o = none ∨ o ∈ MM) (pm : ∀ a, cn a ([(o, HO.lst (ns.map V.int))] ++ F) ≤ cn a L)
    (h : ∀ (f : Addr) (fs : List V) (T : Led) (ts : List (List Int)) (ns' : List Int) (H' : Hp), H0 f = none → (∀ q ∈ T, H0 q.1 = none) → TL fs T ts → Run lastN ns ns' ts → Hs H0 MM H' ((f, .lst fs) :: (T ++ ((o, .lst (ns'.map V.int)) :: F))) → Q (.ref f) H') : SepN R_lfin [.ref o] H Q E :=
  sepn_use S ⟨o, ns, rfl, rfl, rfl, hn, rfl⟩ pm (fun c hc => by
    simp only [List.mem_cons, List.not_mem_nil, or_false] at hc
    subst hc
    exact ⟨by simp, own⟩) fun v H' N L' ⟨f, fs, T, ts, ns', e1, e2, tl, r, e3⟩ hN S' => by
      subst e1 e2 e3
      exact h f fs T ts ns' H' (hN _ List.mem_cons_self) (fun q hq => hN q (List.mem_cons_of_mem _ hq)) tl r S'
theorem ok_end (T : Txt K mg w A) : FnG P w K mg base 4 A.f__law_end_right A.d__law_end_right ["_law_stack", "_law_own"] (SepN (R_end A.C_RunStack)) := by
  have G__law_finished : FnOk P w K mg base CX0 2 A.f__law_finished A.d__law_finished ["_law_own"] (SepN R_lfin) := ok_lfin T
  have G_RunStack_finished : FnOk P w K mg base CX0 2 A.f_RunStack_finished A.d_RunStack_finished ["self"] (SepN (R_fin A.C_RunStack)) := ok_finished T
  have G__law_is_so : FnG P w K mg base 3 A.f__law_is_so A.d__law_is_so ["_law_stack", "_law_own"] (SepN (R_so A.C_RunStack)) := ok_so T
  refine defG T.c__law_end_right.F sc_l_end_right (fun vs H Q E h => ?_) (fun cdv Ar outer s H vs Q E cl hr h => ?_)
  · obtain ⟨_, _, _, ⟨_, _, _, _, _, _, rfl, _⟩, _⟩ := h; rfl
  · obtain ⟨Ch, L, post, ⟨x, dx, l, p, o, ns, rfl, rfl, rfl, h1, hs, hn9, rfl⟩, nd, is, hC, k⟩ := h
    refine ⟨_, (pss_cons (ps_set (i := 2) sc_l_end_right.nd rfl (Or.inl rfl) (pe_meth0 (pv 0) T.cl_RunStack T.h_RunStack_finished G_RunStack_finished (hr.mono (by decide)) T.c_RunStack_finished.b .nil pass0))
      (pss_cons (ps_if (pt_cmpR op_ne (pe_callB (call_repr cl hr) (by rfl) T.n_repr PyProof.Rows.boot_repr (pa_cons (pv 2) pa_nil)) (pe_callB (call_repr cl hr) (by rfl) T.n_repr PyProof.Rows.boot_repr (pa_cons (pe_call G__law_finished (hr.mono (by decide)) rfl T.c__law_finished.m T.c__law_finished.F.kp T.c__law_finished.b .nil pass0 (pa_cons (pv 1) pa_nil)) pa_nil)) (nomark _))
        (pss_one (ps_ret pe_bl))
        pss_nil)
      (pss_cons (ps_expr (pe_bm PySem.F.plainAttrs_list PySem.F.slot_list_append PySem.F.type_list_append mt_append (pv 2) (pa_cons (pe_tup (pa_cons pe_int (pa_cons pe_int (pa_cons pe_int pa_nil)))) pa_nil)))
      (pss_one (ps_ret (pe_and (pe_cmpR (op_eqD hr.units) (pe_meth0 (pv 0) T.cl_RunStack T.h_RunStack_finished G_RunStack_finished (hr.mono (by decide)) T.c_RunStack_finished.b .nil pass0) (pe_lst pa_nil) (nomark _)) (pe_one (pe_callG G__law_is_so cl (hr.mono (by decide)) rfl T.c__law_is_so.m T.c__law_is_so.F.kp T.c__law_is_so.b .nil (pa_cons (pv 0) (pa_cons (pv 1) pa_nil)))))))))), ?_⟩
    have S := Sep.led nd is hC
    have hn := len_sum h1
    walk_at "st"
    walk_at "rd"
    refine use_fin (dx := dx) (l := l) (p := p) (ns := ns) (F := [(o, .lst (ns.map V.int))]) S h1 hs (by walk_at "own") (by walk_at "led") fun f fs Tf ts ns1 H1 hf hTf tl r S1 => ?_
    clear S
    obtain ⟨r1, r2, r3, r4, r5⟩ := r.ok lastN_le h1 hs
    walk_at "rd"
    refine rd_reprT tl S1 (by walk_at "mem") (fun q hq => by simp [hq]) r4 (by omega) ?_
    walk_at "rd"
    refine use_lfin (ns := ns) (F := (f, .lst fs) :: (Tf ++ SL A.C_RunStack x dx l p ns1)) S1 (by omega) (by walk_at "own") (by walk_at "led") fun g gs Tg us ns2 H2 hg hTg tl2 rr S2 => ?_
    obtain ⟨rfl, rfl⟩ := rr.det r
    clear S1
    walk_at "rd"
    refine rd_reprT tl2 S2 (by walk_at "mem") (fun q hq => by simp [hq]) r4 (by omega) ?_
    walk_at "rd"
    refine rd_decF (by simp) ?_
    have hfs : fs.length ≤ 5000 := by rw [tl.len]; omega
    have S3 : Hs H [l, o] H2 ((f, .lst fs) :: (SO A.C_RunStack x dx l p o ns2)) := S2.re (by walk_at "led")
    clear S2
    walk_at "rd"
    rename_i S5
    refine use_fin (dx := dx) (l := l) (p := p) (ns := ns2) (F := [(o, .lst (ns2.map V.int))]) S5 r2 (by omega) (by walk_at "own") (by walk_at "led") fun f2 fs2 Tf2 ts2 ns3 H6 hf2 hTf2 tl3 rr3 S6 => ?_
    clear S5 S3
    obtain ⟨rfl, rfl⟩ := rr3.det (.done r5)
    walk_at "rd"
    rename_i S9
    have ez : fs2 = [] := List.eq_nil_of_length_eq_zero (by rw [tl3.len]; rfl)
    refine rd_eqT0 (tupl_of tl3) S9 (by walk_at "mem") (by walk_at "mem") (fun q hq => by simp [hq]) ?_
    rw [ez]
    walk_at "rd"
    walk_at "if1"
    refine use_so (dx := dx) (l := l) (p := p) (ns := ns3) (F := []) S9 r2 (by omega) (by walk_at "led") fun H7 S10 => ?_
    refine k _ _ [] _ ⟨rfl, rfl, ns3, us, r, rfl⟩ (S10.re (by walk_at "led")) ?_ (fun q h => nomatch h)
    intro q hq
    simp only [SO, SL, List.cons_append, List.nil_append, List.mem_cons, List.not_mem_nil, or_false] at hq
    rcases hq with h | h | h | h <;> (subst h; simp)
end
end K33

namespace K33
open PySem L2 Rs
section
variable {P : Program} {w : World} {K : PySem.W.Frag} {mg : Str → Option Value} {base : Heap} {A : Ad} {H H0 : Hp} {MM : List Addr} {L L' F : Led} {Q : VK} {E : XK}
local macro_rules | `(tactic| walk_at "val") => `(tactic| first | exact drw_left _ _ _ | exact drw_cell _ _ _ | exact drw_at _ _ _)
local macro_rules | `(tactic| walk_at "put") => `(tactic| first | exact put_left _ _ _ _ | exact put_at _ _ _ _ | exact merge_drw _ _ _)
theorem use_take {d : Addr} {l c a n : Int} {F : HO → Led} (S : Hs H0 MM H L) (ch : ∀ o', Chg d (.dK (drw l c a)) o' L (F o')) (own : H0 d = none ∨ d ∈ MM) (h1 : 1 ≤ n) (h2 : n < 2 ^ 60) (h3 : 0 ≤ a) (h4 : a < 2 ^ 40)
    (h : ∀ (r l' a' : Int) (H' : Hp), Hs H0 MM H' (F (.dK (drw l' c a'))) → 0 ≤ r → r < n → a ≤ a' → a' ≤ a + 1 → Q (.int r) H') : sp_take [.ref d, .int n] H Q E :=
  ⟨d, l, c, a, n, rfl, S.is _ (ch (.dK [])).mem, h1, h2, h3, h4, fun r l' a' H' e k b1 b2 b3 b4 => h r l' a' H' (S.one (ch _) own k e) b1 b2 b3 b4⟩
theorem use_of {d q : Addr} {l c a : Int} {xs : List V} {ns : List Int} {F : HO → Led} (S : Hs H0 MM H L) (ch : ∀ o', Chg d (.dK (drw l c a)) o' L (F o')) (own : H0 d = none ∨ d ∈ MM) (m : (q, HO.lst xs) ∈ L) (e : xs = ns.map V.int) (h1 : 0 < ns.length) (h2 : ns.length ≤ 1000) (h3 : 0 ≤ a) (h4 : a < 2 ^ 40)
    (h : ∀ (r l' a' : Int) (H' : Hp), Hs H0 MM H' (F (.dK (drw l' c a'))) → r ∈ ns → a ≤ a' → a' ≤ a + 1 → Q (.int r) H') : sp_of [.ref d, .ref q] H Q E := by
  subst e
  exact ⟨d, q, l, c, a, ns, rfl, S.is _ (ch (.dK [])).mem, S.is _ m, h1, h2, h3, h4, fun r l' a' H' e k b1 b2 b3 => h r l' a' H' (S.one (ch _) own k e) b1 b2 b3⟩
local macro_rules | `(tactic| walk_at "rd1") => `(tactic| ((with_reducible refine' use_take (by assumption) ?c ?o ?b1 ?b2 ?b3 ?b4 ?_); (case c => walk_at "chgF"); (case o => walk_at "own"); (case b1 => omega); (case b2 => omega); (case b3 => omega); (case b4 => omega); intro r l a H S h0 h1 h2 h3))
def sp_runs : Sp := fun vs H Q _ => ∃ (d : Addr) (l c a mx : Int), vs = [.ref d, .int mx] ∧ 0 ≤ mx ∧ mx ≤ 100 ∧ H d = some (.dK (drw l c a)) ∧ 0 ≤ a ∧ a < 2 ^ 30 ∧
  ∀ (f : Addr) (ns : List Int) (l' a' : Int) (H' : Hp), H f = none → H' f = some (.lst (ns.map V.int)) → H' d = some (.dK (drw l' c a')) → (∀ b o, H b = some o → b ≠ d → H' b = some o) → a ≤ a' → a' ≤ a + 300 → (∀ z ∈ ns, 1 ≤ z) → ns.sum ≤ 4096 → ns.length ≤ mx → Q (.ref f) H'
theorem snoc_int (ns : List Int) (x : Int) : ns.map V.int ++ [V.int x] = (ns ++ [x]).map V.int := by simp
set_option hygiene false in
local macro_rules | `(tactic| walk_at "leafB") => `(tactic| (refine ⟨_, _, ns, _, _, _, rfl, Hs.sub (by assumption) (by walk_at "sub"; done), ?_, ?_, b3, ?_, ?_, ?_⟩ <;> omega))
set_option hygiene false in
local macro_rules | `(tactic| walk_at "leafA") => `(tactic| (rename_i S9; rw [snoc_int] at S9; refine ⟨_, _, ns ++ [_], _, _, _, rfl, S9.sub (by walk_at "sub"; done), ?_, ?_, ?_, ?_, ?_, ?_⟩ <;> first | omega | (simp; omega) | (intro z hz; rcases List.mem_append.mp hz with y | y; exact b3 z y; rw [List.mem_singleton] at y; first | omega | (have h9 := Int.mul_nonneg (a := wide) (by omega) (by assumption); omega) | (subst y; split <;> omega))))
theorem fall_at (r : Int) (h0 : 0 ≤ r) (h1 : r < 13) : ∃ v : Int, atI ([1, 2, 4, 7, 12, 20, 33, 54, 88, 143, 232, 376, 609].map V.int) r = some (.int v) := by
  obtain ⟨n, rfl⟩ : ∃ n : Nat, r = n := ⟨r.toNat, by omega⟩
  match n, h1 with
  | 0, _ | 1, _ | 2, _ | 3, _ | 4, _ | 5, _ | 6, _ | 7, _ | 8, _ | 9, _ | 10, _ | 11, _ | 12, _ => exact ⟨_, rfl⟩
  | n + 13, h => omega
set_option hygiene false in
local macro_rules | `(tactic| walk_at "fall0") => `(tactic| (rename_i r9 e9 h90 h91; obtain ⟨v9, hv9⟩ := fall_at r9 h90 h91; refine rd_ixL (by assumption) (by walk_at "mem") hv9 ?_; walk_at "rd"))
theorem use_runs {d : Addr} {l c a mx : Int} {F : HO → Led} (S : Hs H0 MM H L) (ch : ∀ o', Chg d (.dK (drw l c a)) o' L (F o')) (own : H0 d = none ∨ d ∈ MM) (hm0 : 0 ≤ mx) (hm1 : mx ≤ 100) (h3 : 0 ≤ a) (h4 : a < 2 ^ 30)
    (h : ∀ (f : Addr) (ns : List Int) (l' a' : Int) (H' : Hp), H0 f = none → Hs H0 MM H' ((f, .lst (ns.map V.int)) :: F (.dK (drw l' c a'))) → a ≤ a' → a' ≤ a + 300 → (∀ z ∈ ns, 1 ≤ z) → ns.sum ≤ 4096 → ns.length ≤ mx → Q (.ref f) H') : sp_runs [.ref d, .int mx] H Q E :=
  ⟨d, l, c, a, mx, rfl, hm0, hm1, S.is _ (ch (.dK [])).mem, h3, h4, fun f ns l' a' H' hf e1 e2 k b1 b2 b3 b4 b5 => by
    obtain ⟨h0, S'⟩ := S.one1 (ch _) own k e2 hf e1
    exact h f ns l' a' H' h0 S' b1 b2 b3 b4 b5⟩
theorem ok_runs (T : Txt K mg w A) : FnOk P w K mg base CX0 3 A.f__law_runs A.d__law_runs ["_law_draw", "_law_most_runs"] sp_runs := by
  have G__law_take : FnOk P w K mg base CX0 1 A.f__law_take A.d__law_take ["_law_draw", "_law_below"] sp_take := ok_take T
  have G__law_of : FnOk P w K mg base CX0 2 A.f__law_of A.d__law_of ["_law_draw", "_law_some"] sp_of := ok_of T
  refine T.c__law_runs.F.ok sc_l_runs (fun vs H Q E h => ?_) (fun cdv Ar outer s H vs Q E hr h => ?_)
  · obtain ⟨d, l, c, a, mx, rfl, _⟩ := h; rfl
  · obtain ⟨d, l, c, a, mx, rfl, hmx0, hmx1, hd, ha0, ha1, k⟩ := h
    refine ⟨_, (pss_cons (ps_par3 (i := 2) (j := 3) (l := 4) rfl sc_l_runs.nd rfl rfl rfl (by decide) (by decide) (by decide) rfl rfl rfl (pa_cons (pe_call G__law_take (hr.mono (by decide)) rfl T.c__law_take.m T.c__law_take.F.kp T.c__law_take.b .nil pass0 (pa_cons (pv 0) (pa_cons pe_int pa_nil))) (pa_cons (pe_call G__law_take (hr.mono (by decide)) rfl T.c__law_take.m T.c__law_take.F.kp T.c__law_take.b .nil pass0 (pa_cons (pv 0) (pa_cons (pe_op op_add (pv 1) pe_int) pa_nil))) (pa_cons (pe_call G__law_of (hr.mono (by decide)) rfl T.c__law_of.m T.c__law_of.F.kp T.c__law_of.b .nil pass0 (pa_cons (pv 0) (pa_cons (pe_lst (pa_cons pe_int (pa_cons pe_int (pa_cons pe_int (pa_cons pe_int (pa_cons pe_int (pa_cons pe_int pa_nil))))))) pa_nil))) pa_nil))) (by rfl))
      (pss_cons (ps_par3 (i := 5) (j := 6) (l := 7) rfl sc_l_runs.nd rfl rfl rfl (by decide) (by decide) (by decide) rfl rfl rfl (pa_cons (pe_lst pa_nil) (pa_cons pe_int (pa_cons (pe_lst (pa_cons pe_int (pa_cons pe_int (pa_cons pe_int (pa_cons pe_int (pa_cons pe_int (pa_cons pe_int (pa_cons pe_int (pa_cons pe_int (pa_cons pe_int (pa_cons pe_int (pa_cons pe_int (pa_cons pe_int (pa_cons pe_int pa_nil)))))))))))))) pa_nil))) (by rfl))
      (pss_cons (ps_for PassesOwn.never rfl (pi_range1 rfl T.n_range (pa_cons (pv 3) pa_nil)) (pg_name (i := 8) sc_l_runs.nd rfl (Or.inl rfl))
        (pss_cons (ps_set (i := 9) sc_l_runs.nd rfl (Or.inl rfl) (pe_op op_add pe_int (pe_call G__law_take (hr.mono (by decide)) rfl T.c__law_take.m T.c__law_take.F.kp T.c__law_take.b .nil pass0 (pa_cons (pv 0) (pa_cons (pv 4) pa_nil)))))
        (pss_cons (ps_if (pt_cmpR op_eq (pv 2) pe_int (nomark _))
          (pss_one (ps_set (i := 9) sc_l_runs.nd rfl (Or.inl rfl) pe_int))
          pss_nil)
        (pss_cons (ps_if (pt_cmpR op_eq (pv 2) pe_int (nomark _))
          (pss_one (ps_set (i := 9) sc_l_runs.nd rfl (Or.inl rfl) (pe_op op_add pe_int (pv 8))))
          pss_nil)
        (pss_cons (ps_if (pt_cmpR op_eq (pv 2) pe_int (nomark _))
          (pss_one (ps_set (i := 9) sc_l_runs.nd rfl (Or.inl rfl) (pe_op op_sub (pv 3) (pv 8))))
          pss_nil)
        (pss_cons (ps_if (PW.pt (pw_or (pt_cmpR op_eq (pv 2) pe_int (nomark _)) (pw_or1 (pt_cmpR op_eq (pv 2) pe_int (nomark _)))))
          (pss_one (ps_set (i := 9) sc_l_runs.nd rfl (Or.inl rfl) (pe_callB (call_max2 rfl) (by rfl) T.n_max PyProof.Rows.boot_max (pa_cons pe_int (pa_cons (pe_op op_sub (pe_op op_add (pe_ix ix_list (pv 7) (pe_op op_mod (pe_op op_sub (pe_op op_sub (pv 3) pe_int) (pv 8)) pe_int) (fun _ _ => rfl)) (pe_call G__law_take (hr.mono (by decide)) rfl T.c__law_take.m T.c__law_take.F.kp T.c__law_take.b .nil pass0 (pa_cons (pv 0) (pa_cons pe_int pa_nil)))) pe_int) pa_nil)))))
          pss_nil)
        (pss_cons (ps_if (pt_cmpR op_eq (pv 2) pe_int (nomark _))
          (pss_one (ps_set (i := 9) sc_l_runs.nd rfl (Or.inl rfl) (pe_op op_add pe_int (pe_op op_mul (pv 4) (pe_op op_mod (pv 8) pe_int)))))
          pss_nil)
        (pss_one (ps_if (pt_cmpR op_le (pv 9) (pv 6) (nomark _))
          (pss_cons (ps_expr (pe_bm PySem.F.plainAttrs_list PySem.F.slot_list_append PySem.F.type_list_append mt_append (pv 5) (pa_cons (pv 9) pa_nil)))
          (pss_one (ps_set (i := 6) sc_l_runs.nd rfl (Or.inl rfl) (pe_op op_sub (pv 6) (pv 9)))))
          pss_nil)))))))))
      (pss_one (ps_ret (pv 5)))))), ?_⟩
    have S : Hs H [d] H [(d, .dK (drw l c a))] := Hs.start H [d] _ (by simp) (by simpa using hd) (by simp [hd])
    walk_at "st"
    walk_at "rd"
    refine' use_of (by assumption) (by walk_at "chgF") (by walk_at "own") (ns := [2, 3, 6, 40, 170, 900]) (by walk_at "mem") (by rfl) (by simp) (by simp) (by omega) (by omega) _
    intro wide l3 a3 H3 S3 hw ha3 ha4
    have hw2 : 2 ≤ wide ∧ wide ≤ 900 := by
      simp only [List.mem_cons, List.not_mem_nil, or_false] at hw
      omega
    walk_at "rd"
    rename_i way l1 a1 H4 S4 h0 h1 h2 h3 cnt l2 a2 H5 S5 g0 g1 g2 g3 p6 H6 hp6 S6 f Hf hf Sf falls Hl hfl Sl
    have Sl2 : Hs H [d] Hl [(falls, .lst [.int 1, .int 2, .int 4, .int 7, .int 12, .int 20, .int 33, .int 54, .int 88, .int 143, .int 232, .int 376, .int 609]), (f, .lst []), (d, .dK (drw l3 c a3))] := Sl.sub (by walk_at "sub")
    refine fw_range (fun i σ H' => ∃ (o1 o2 : Option V) (ns : List Int) (room l' a' : Int), σ = [some (.ref d), some (.int mx), some (.int way), some (.int cnt), some (.int wide), some (.ref f), some (.int room), some (.ref falls), o1, o2] ∧
      Hs H [d] H' [(falls, .lst ([1, 2, 4, 7, 12, 20, 33, 54, 88, 143, 232, 376, 609].map V.int)), (f, .lst (ns.map V.int)), (d, .dK (drw l' c a'))] ∧ a ≤ a' ∧ a' ≤ a3 + 2 * i ∧ (∀ z ∈ ns, 1 ≤ z) ∧ room = 4096 - ns.sum ∧ 0 ≤ room ∧ ns.length ≤ i)
      ⟨none, none, [], 4096, l3, a3, rfl, Sl2, by omega, by omega, by simp, by simp, by omega, by simp⟩ ?_ ?_
    · clear Sl2 Sl Sf S6 S5 S4 S3 S
      rintro i σ H' hi ⟨o1, o2, ns, room, l', a', rfl, S, b1, b2, b3, b4, b5, b6⟩
      have hns : ns.length ≤ 100 := by omega
      repeat' (first | walk_at "rd1" | (refine rd_dec ?_ ?_ <;> intro hc <;> try (exfalso; omega)))
      all_goals first
        | walk_at "leafB"
        | walk_at "leafA"
        | skip
      all_goals (walk_at "fall0")
      all_goals (refine rd_dec ?_ ?_ <;> intro hc)
      all_goals (try (exfalso; omega))
      all_goals (walk_at "rd")
      all_goals (refine rd_dec ?_ ?_ <;> intro hc)
      all_goals (walk_at "rd")
      all_goals first
        | walk_at "leafB"
        | walk_at "leafA"
    · rintro σ H' ⟨o1, o2, ns, room, l', a', rfl, S, b1, b2, b3, b4, b5, b6⟩
      walk_at "rd"
      refine k f ns l' a' _ hf (S.get (by walk_at "mem")) (S.get (by walk_at "mem")) (fun b o e hb => S.old1 e hb) b1 (by omega) b3 (by omega) (by omega)

end
end K33

namespace K33
open PySem L2 Rs
local macro_rules | `(tactic| walk_at "fv") => `(tactic| first | exact K33.fl_policy _ _ | exact K33.fl_total _ _ | exact K33.fl_lengths _ _ | exact K33.fl_powers _ _ | exact K33.fl_near _ _ | exact K33.fl_pushed _ _ | exact K33.fl_finished _ _ | exact K33.fl_ln _ _ | exact K33.fl_pn _ _)
def sp_right : Sp := fun vs H Q _ => ∃ (d : Addr) (l c a : Int), vs = [.ref d] ∧ H d = some (.dK (drw l c a)) ∧ 0 ≤ a ∧ a < 2 ^ 20 ∧
  ∀ (l' a' : Int) (H' : Hp), H' d = some (.dK (drw l' c a')) → (∀ b o, H b = some o → b ≠ d → H' b = some o) → a ≤ a' → a' ≤ a + 400 → Q (.bl true) H'
theorem take_sum {ns : List Int} {i : Nat} {x : Int} (h : ns[i]? = some x) (hp : ∀ z ∈ ns, 1 ≤ z) : (ns.take (i + 1)).sum = (ns.take i).sum + x ∧ (ns.take i).sum + x ≤ ns.sum := by
  rw [List.take_add_one, h]
  have e := congrArg List.sum (List.take_append_drop (i + 1) ns)
  rw [List.sum_append, List.take_add_one, h, List.sum_append] at e
  simp at e
  have : 0 ≤ (ns.drop (i + 1)).sum := sum_nn fun z hz => hp z (List.mem_of_mem_drop hz)
  simp
  omega
section
variable {P : Program} {w : World} {K : PySem.W.Frag} {mg : Str → Option Value} {base : Heap} {A : Ad} {H H0 : Hp} {MM : List Addr} {L L' F : Led} {Q : VK} {E : XK}
local macro_rules | `(tactic| walk_at "rd1") => `(tactic| ((with_reducible refine' K33.use_take (by assumption) ?c ?o ?b1 ?b2 ?b3 ?b4 ?_); (case c => walk_at "chgF"); (case o => walk_at "own"); (case b1 => omega); (case b2 => omega); (case b3 => omega); (case b4 => omega); intro r l a H S h0 h1 h2 h3))
theorem use_push {C x dx l p : Addr} {ns : List Int} {m : Int} (S : Hs H0 MM H L) (h1 : ∀ z ∈ ns, 1 ≤ z) (hm : 1 ≤ m) (hs : ns.sum + m ≤ 4096) (own : H0 l = none ∨ l ∈ MM) (pm : ∀ a, cn a (SL C x dx l p ns ++ F) ≤ cn a L)
    (h : ∀ (f : Addr) (fs : List V) (T : Led) (ts : List (List Int)) (ns' : List Int) (H' : Hp), H0 f = none → (∀ q ∈ T, H0 q.1 = none) → TL fs T ts → Run nextN (ns ++ [m]) ns' ts → Hs H0 MM H' ((f, .lst fs) :: (T ++ (SL C x dx l p ns' ++ F))) → Q (.ref f) H') : SepN (R_push C) [.ref x, .int m] H Q E :=
  sepn_use S ⟨x, dx, l, p, ns, m, rfl, rfl, rfl, h1, hm, hs, rfl⟩ pm (fun c hc => by
    simp only [List.mem_cons, List.not_mem_nil, or_false] at hc
    subst hc
    exact ⟨by simp, own⟩) fun v H' N L' ⟨f, fs, T, ts, ns', e1, e2, tl, r, e3⟩ hN S' => by
      subst e1 e2 e3
      exact h f fs T ts ns' H' (hN _ List.mem_cons_self) (fun q hq => hN q (List.mem_cons_of_mem _ hq)) tl r S'
theorem use_lpush {o : Addr} {ns : List Int} {m : Int} (S : Hs H0 MM H L) (hn : ns.length + 1 ≤ 4096) (own : H0 o = none ∨ o ∈ MM) (pm : ∀ a, cn a ([(o, HO.lst (ns.map V.int))] ++ F) ≤ cn a L)
    (h : ∀ (f : Addr) (fs : List V) (T : Led) (ts : List (List Int)) (ns' : List Int) (H' : Hp), H0 f = none → (∀ q ∈ T, H0 q.1 = none) → TL fs T ts → Run nextN (ns ++ [m]) ns' ts → Hs H0 MM H' ((f, .lst fs) :: (T ++ ((o, .lst (ns'.map V.int)) :: F))) → Q (.ref f) H') : SepN R_lpush [.ref o, .int m] H Q E :=
  sepn_use S ⟨o, ns, m, rfl, rfl, rfl, hn, rfl⟩ pm (fun c hc => by
    simp only [List.mem_cons, List.not_mem_nil, or_false] at hc
    subst hc
    exact ⟨by simp, own⟩) fun v H' N L' ⟨f, fs, T, ts, ns', e1, e2, tl, r, e3⟩ hN S' => by
      subst e1 e2 e3
      exact h f fs T ts ns' H' (hN _ List.mem_cons_self) (fun q hq => hN q (List.mem_cons_of_mem _ hq)) tl r S'
theorem use_end {C x dx l p o : Addr} {ns : List Int} (S : Hs H0 MM H L) (h1 : ∀ z ∈ ns, 1 ≤ z) (hs : ns.sum ≤ 4096) (hn : ns.length ≤ 900) (o1 : H0 l = none ∨ l ∈ MM) (o2 : H0 o = none ∨ o ∈ MM) (pm : ∀ a, cn a (SO C x dx l p o ns ++ F) ≤ cn a L)
    (h : ∀ (ns' : List Int) (ts : List (List Int)) (H' : Hp), Run lastN ns ns' ts → Hs H0 MM H' (SO C x dx l p o ns' ++ F) → Q (.bl true) H') : SepN (R_end C) [.ref x, .ref o] H Q E :=
  sepn_use S ⟨x, dx, l, p, o, ns, rfl, rfl, rfl, h1, hs, hn, rfl⟩ pm (fun c hc => by
    simp only [List.mem_cons, List.not_mem_nil, or_false] at hc
    rcases hc with rfl | rfl
    · exact ⟨by simp, o1⟩
    · exact ⟨by simp, o2⟩) fun v H' N L' ⟨e1, e2, ns', ts, r, e3⟩ hN S' => by subst e1 e2 e3; exact h ns' ts H' r S'
theorem use_init {C x dx : Addr} (S : Hs H0 MM H L) (own : H0 x = none ∨ x ∈ MM) (pm : ∀ a, cn a ([(x, HO.ins C dx [])] ++ F) ≤ cn a L)
    (h : ∀ (l p : Addr) (H' : Hp), H0 l = none → H0 p = none → Hs H0 MM H' (SL C x dx l p [] ++ F) → Q .non H') : SepN (R_init C) [.ref x, .str "lengths", .non] H Q E :=
  sepn_use S ⟨x, dx, rfl, rfl, rfl, rfl⟩ pm (fun c hc => by
    simp only [List.mem_cons, List.not_mem_nil, or_false] at hc
    subst hc
    exact ⟨by simp, own⟩) fun v H' N L' ⟨e1, l, p, e2, e3⟩ hN S' => by
      subst e1 e2 e3
      exact h l p H' (hN (l, .lst []) (by simp)) (hN (p, .lst []) (by simp)) (S'.re (by walk_at "led"))
theorem kb_init1 (T : Txt K mg w A) : ∃ mv : List Value, KBn K A.d_RunStack___init__ ["self", "policy", "total"] 1 ["policy"] (fun us ws => us ++ ws ++ mv) (fun vs zs => vs ++ zs ++ [.non]) := by
  refine T.i_RunStack.F.kbinds0 1 ["policy"] [("total", .non)] (fun us mv ws => us ++ ws ++ mv) (by simp) (by simp) (fun r1 r2 r3 => (r1.append r3).append r2) ?_
  intro D doc pm an cdv ct us mv ws h1 h2 h3
  match us, h1, mv, h2, ws, h3 with
  | [u], _, [m], _, [z], _ => exact ⟨_, _, _, _, _, _, rfl, rfl, rfl⟩
theorem kb_init2 (T : Txt K mg w A) : ∃ mv : List Value, KBn K A.d_RunStack___init__ ["self", "policy", "total"] 1 ["total", "policy"] (fun us ws => us ++ [1, 0].filterMap (ws[·]?) ++ mv) (fun vs zs => vs ++ [1, 0].filterMap (zs[·]?) ++ []) := by
  refine T.i_RunStack.F.kbinds0 1 ["total", "policy"] [] (fun us mv ws => us ++ [1, 0].filterMap (ws[·]?) ++ mv) (by simp) (by simp) (fun r1 r2 r3 => (r1.append (vals_pick r3 _)).append r2) ?_
  intro D doc pm an cdv ct us mv ws h1 h2 h3
  match us, h1, mv, h2, ws, h3 with
  | [u], _, [], _, [y, z], _ => rfl
theorem kb_pushed1 (T : Txt K mg w A) : KBn K A.d_RunStack_pushed ["self", "many"] 1 ["many"] (fun us ws => us ++ [0].filterMap (ws[·]?)) (fun us ws => us ++ [0].filterMap (ws[·]?)) :=
  kb_of T.c_RunStack_pushed.F _ fun _ _ _ _ _ _ us ws h1 h2 => match us, h1, ws, h2 with | [_], _, [_], _ => rfl
theorem run_pos {ns ns' : List Int} {m : Int} {ts : List (List Int)} (r : Run nextN (ns ++ [m]) ns' ts) (h1 : ∀ z ∈ ns, 1 ≤ z) (hm : 1 ≤ m) (hs : ns.sum + m ≤ 4096) :
    ns'.sum = ns.sum + m ∧ (∀ z ∈ ns', 1 ≤ z) ∧ ts.length + ns'.length = ns.length + 1 ∧ (∀ t ∈ ts, t.length ≤ 10 ∧ ∀ n ∈ t, n.natAbs < 10 ^ 12) := by
  obtain ⟨r1, r2, r3, r4, r5⟩ := r.ok nextN_le (fun z hz => by
    rcases List.mem_append.mp hz with h | h
    · exact h1 z h
    · simp at h; omega) (by simp; omega)
  refine ⟨by simpa using r1, r2, by simpa using r3, r4⟩
set_option hygiene false in
local macro_rules | `(tactic| walk_at "rest2") => `(tactic| (
      refine use_push (dx := dx) (l := l) (p := p) (ns := ms) (F := [(o, .lst (ms.map V.int)), (f, HO.lst (List.map V.int ns)), (d, HO.dK (drw l9 c a9))]) S1 p1 hm1 (by omega) (.inl hl) (by walk_at "led") fun g gs Tg us ms2 H2 hg hTg tl r S2 => ?_
      obtain ⟨r1, r2, r3, r4⟩ := run_pos r p1 hm1 (by omega)
      walk_at "rd"
      refine rd_reprT tl S2 (by walk_at "mem") (fun q hq => by simp [hq]) r4 (by omega) ?_
      walk_at "rd"
      refine use_lpush (ns := ms) (F := (g, .lst gs) :: (Tg ++ (SL A.C_RunStack x dx l p ms2 ++ [(f, HO.lst (List.map V.int ns)), (d, HO.dK (drw l9 c a9))]))) S2 (by omega) (.inl ho) (by walk_at "led") fun g2 gs2 Tg2 us2 ms3 H3 hg2 hTg2 tl2 rr S3 => ?_
      obtain ⟨rfl, rfl⟩ := rr.det r
      walk_at "rd"
      refine rd_reprT tl2 S3 (by walk_at "mem") (fun q hq => by simp [hq]) r4 (by omega) ?_
      walk_at "rd"
      refine rd_decF (by simp) ?_
      walk_at "rd"
      refine use_so (dx := dx) (l := l) (p := p) (ns := ms3) (F := [(g, .lst gs), (f, HO.lst (List.map V.int ns)), (d, HO.dK (drw l9 c a9))]) S3 r2 (by omega) (by walk_at "led") fun H4 S4 => ?_
      have hgs : gs.length ≤ 2000 := by rw [tl.len]; omega
      clear S1 S2 S3
      walk_at "rd"
      rename_i S5
      exact ⟨_, _, _, ms3, rfl, S5.re (by walk_at "led"), r2, by omega, by omega⟩))
set_option hygiene false in
local macro_rules | `(tactic| walk_at "rest") => `(tactic| (refine rd_dec ?_ ?_ <;> intro hc2 <;> walk_at "rd" <;> (try refine ⟨rfl, ?_⟩) <;> walk_at "rest2"))
theorem ok_right (T : Txt K mg w A) : FnG P w K mg base 6 A.f__law_right A.d__law_right ["_law_draw"] sp_right := by
  have G__law_take : FnOk P w K mg base CX0 1 A.f__law_take A.d__law_take ["_law_draw", "_law_below"] sp_take := ok_take T
  have G__law_runs : FnOk P w K mg base CX0 3 A.f__law_runs A.d__law_runs ["_law_draw", "_law_most_runs"] sp_runs := ok_runs T
  have G__law_pushed : FnOk P w K mg base CX0 2 A.f__law_pushed A.d__law_pushed ["_law_own", "_law_one"] (SepN R_lpush) := ok_lpush T
  have G_RunStack_pushed : FnOk P w K mg base CX0 3 A.f_RunStack_pushed A.d_RunStack_pushed ["self", "many"] (SepN (R_push A.C_RunStack)) := ok_pushed T
  have G_RunStack_init : FnOk P w K mg base CX0 2 A.f_RunStack___init__ A.d_RunStack___init__ ["self", "policy", "total"] (SepN (R_init A.C_RunStack)) := ok_init T
  have G__law_is_so : FnG P w K mg base 3 A.f__law_is_so A.d__law_is_so ["_law_stack", "_law_own"] (SepN (R_so A.C_RunStack)) := ok_so T
  have G__law_end_right : FnG P w K mg base 4 A.f__law_end_right A.d__law_end_right ["_law_stack", "_law_own"] (SepN (R_end A.C_RunStack)) := ok_end T
  obtain ⟨mv1, kb_RunStack_init_policy⟩ := kb_init1 T
  have kb_RunStack_pushed := kb_pushed1 T
  refine defG T.c__law_right.F sc_l_right (fun vs H Q E h => ?_) (fun cdv Ar outer s H vs Q E cl hr h => ?_)
  · obtain ⟨d, l, c, a, rfl, _⟩ := h; rfl
  · obtain ⟨d, l0, c, a0, rfl, hd, ha0, ha1, k⟩ := h
    refine ⟨_, (pss_cons (ps_par3 (i := 1) (j := 2) (l := 3) rfl sc_l_right.nd rfl rfl rfl (by decide) (by decide) (by decide) rfl rfl rfl (pa_cons (pe_call G__law_runs (hr.mono (by decide)) rfl T.c__law_runs.m T.c__law_runs.F.kp T.c__law_runs.b .nil pass0 (pa_cons (pv 0) (pa_cons pe_int pa_nil))) (pa_cons (pe_lst pa_nil) (pa_cons (pe_makeK0 T.i_RunStack.M G_RunStack_init (hr.mono (by decide)) rfl T.m_RunStack kb_RunStack_init_policy pass0 (pk_cons pe_str pk_nil)) pa_nil))) (by rfl))
      (pss_cons (ps_set (i := 4) sc_l_right.nd rfl (Or.inl rfl) (pe_call G__law_take (hr.mono (by decide)) rfl T.c__law_take.m T.c__law_take.F.kp T.c__law_take.b .nil pass0 (pa_cons (pv 0) (pa_cons (pe_op op_add (pe_callB call_len_seq (by rfl) T.n_len PySem.boot_len (pa_cons (pv 1) pa_nil)) pe_int) pa_nil))))
      (pss_cons (ps_for PassesOwn.never rfl (pi_enum (by rfl) T.n_enumerate (pa_cons (pv 1) pa_nil)) (pg_tup rfl (pgs_cons (pg_name (i := 5) sc_l_right.nd rfl (Or.inl rfl)) (pgs_cons (pg_name (i := 6) sc_l_right.nd rfl (Or.inl rfl)) pgs_nil)))
        (pss_cons (ps_if (PW.pt (pw_and (pt_cmpR op_eq (pv 5) (pv 4) (nomark _)) (pw_and1 (pt_not (pt_val (pe_callG G__law_end_right cl (hr.mono (by decide)) rfl T.c__law_end_right.m T.c__law_end_right.F.kp T.c__law_end_right.b .nil (pa_cons (pv 3) (pa_cons (pv 2) pa_nil))))))))
          (pss_one (ps_ret pe_bl))
          pss_nil)
        (pss_cons (ps_set (i := 7) sc_l_right.nd rfl (Or.inl rfl) (pe_ifExp (pt_cmpR op_eq (pe_op op_mod (pv 5) pe_int) pe_int (nomark _)) (pe_meth (pv 3) T.cl_RunStack T.h_RunStack_pushed G_RunStack_pushed (hr.mono (by decide)) T.c_RunStack_pushed.b .nil pass0 (pa_cons (pv 6) pa_nil)) (pe_methK (pv 3) T.cl_RunStack T.h_RunStack_pushed G_RunStack_pushed (hr.mono (by decide)) kb_RunStack_pushed pass0 (pk_cons (pv 6) pk_nil))))
        (pss_cons (ps_if (PW.pt (pw_or (pt_cmpR op_ne (pe_callB (call_repr cl hr) (by rfl) T.n_repr PyProof.Rows.boot_repr (pa_cons (pv 7) pa_nil)) (pe_callB (call_repr cl hr) (by rfl) T.n_repr PyProof.Rows.boot_repr (pa_cons (pe_call G__law_pushed (hr.mono (by decide)) rfl T.c__law_pushed.m T.c__law_pushed.F.kp T.c__law_pushed.b .nil pass0 (pa_cons (pv 2) (pa_cons (pv 6) pa_nil))) pa_nil)) (nomark _)) (pw_or1 (pt_not (pt_val (pe_callG G__law_is_so cl (hr.mono (by decide)) rfl T.c__law_is_so.m T.c__law_is_so.F.kp T.c__law_is_so.b .nil (pa_cons (pv 3) (pa_cons (pv 2) pa_nil))))))))
          (pss_one (ps_ret pe_bl))
          pss_nil)
        (pss_one (ps_expr (pe_bm PySem.F.plainAttrs_list PySem.F.slot_list_append PySem.F.type_list_append mt_append (pv 7) (pa_cons (pe_tup (pa_cons pe_int (pa_cons pe_int (pa_cons pe_int pa_nil)))) pa_nil))))))))
      (pss_one (ps_ret (pe_callG G__law_end_right cl (hr.mono (by decide)) rfl T.c__law_end_right.m T.c__law_end_right.F.kp T.c__law_end_right.b .nil (pa_cons (pv 3) (pa_cons (pv 2) pa_nil)))))))), ?_⟩
    have S : Hs H [d] H [(d, .dK (drw l0 c a0))] := Hs.start H [d] _ (by simp) (by simpa using hd) (by simp [hd])
    walk_at "st"
    walk_at "rd"
    refine use_runs S (by walk_at "chgF") (by walk_at "own") (by omega) (by omega) ha0 (by omega) fun f ns l1 a1 H1 hf S1 b1 b2 b3 b4 b5 => ?_
    clear S
    walk_at "rd"
    rename_i o H2 ho S2
    refine rd_mkK ?_
    walk_at "rd"
    refine ⟨rfl, rfl, fun x dx hx hdx nex => ?_⟩
    obtain ⟨hx0, S7⟩ := S2.made (C := A.C_RunStack) hx hdx nex
    clear S1 S2
    refine use_init (dx := dx) (F := [(o, .lst []), (f, HO.lst (List.map V.int ns)), (d, HO.dK (drw l1 c a1))]) S7 (by walk_at "own") (by walk_at "led") fun l p H6 hl hp S8 => ?_
    refine ⟨rfl, ?_⟩
    clear S7
    walk_at "rd"
    rw [List.length_map]
    walk_at "rd"
    rename_i stop l9 a9 H9 S9 h90 h91 h92 h93
    refine fw_enum (xs := ns.map V.int) (fun i σ H' => ∃ (o6 o7 o8 : Option V) (ms : List Int), σ = [some (.ref d), some (.ref f), some (.ref o), some (.ref x), some (.int stop), o6, o7, o8] ∧
        Hs H [d] H' (SO A.C_RunStack x dx l p o ms ++ [(f, HO.lst (List.map V.int ns)), (d, HO.dK (drw l9 c a9))]) ∧ (∀ z ∈ ms, 1 ≤ z) ∧ ms.sum = (ns.take i).sum ∧ ms.length ≤ i) ⟨_, _, _, [], rfl, S9.re (by walk_at "led"), fun z h => (nomatch h), by simp, by simp⟩ ?_ ?_ ?_
    · rintro i σ H' hi ⟨o6, o7, o8, ms, rfl, S, _⟩
      exact S.lst (by walk_at "mem")
    · rintro i xi σ H' t hi ⟨o6, o7, o8, ms, rfl, S, p1, p2, p3⟩ ht
      obtain ⟨ht0, S1⟩ := S.newAt (o := .tup [.int (i : Nat), xi]) ht
      rw [List.getElem?_map] at hi
      obtain ⟨m, hm, rfl⟩ : ∃ m, ns[i]? = some m ∧ xi = V.int m := by
        cases e : ns[i]? with
        | none => rw [e] at hi; cases hi
        | some m => rw [e] at hi; exact ⟨m, rfl, by cases hi; rfl⟩
      have hm1 : 1 ≤ m := b3 m (List.mem_of_getElem? hm)
      obtain ⟨ts1, ts2⟩ := take_sum hm b3
      have hi40 : i < 40 := by have := (List.getElem?_eq_some_iff.mp hm).1; omega
      clear S S9 S8
      walk_at "rd"
      refine rd_dec ?_ ?_ <;> intro hc
      · walk_at "rd"
        refine use_end (dx := dx) (l := l) (p := p) (ns := ms) (F := [(f, HO.lst (List.map V.int ns)), (d, HO.dK (drw l9 c a9))]) S1 p1 (by omega) (by omega) (.inl hl) (.inl ho) (by walk_at "led") fun ms2 us H2 r S2 => ?_
        obtain ⟨r1, r2, r3, r4, r5⟩ := r.ok lastN_le p1 (by omega)
        have p1 := r2
        have p2 : ms2.sum = (ns.take i).sum := by omega
        have p3 : ms2.length ≤ i := by omega
        clear S1
        have S1 := S2
        clear S2 r
        generalize ms2 = ms at *
        walk_at "rd"
        walk_at "rest"
      · replace S1 := S1.re (L' := SO A.C_RunStack x dx l p o ms ++ [(f, HO.lst (List.map V.int ns)), (d, HO.dK (drw l9 c a9))]) (by walk_at "led")
        walk_at "rd"
        walk_at "rest"
    · rintro σ H' ⟨o6, o7, o8, ms, rfl, S, p1, p2, p3⟩
      walk_at "rd"
      refine use_end (dx := dx) (l := l) (p := p) (ns := ms) (F := [(f, HO.lst (List.map V.int ns)), (d, HO.dK (drw l9 c a9))]) S p1 (by rw [p2, List.length_map, List.take_length]; exact b4) (by rw [List.length_map] at p3; omega) (.inl hl) (.inl ho) (by walk_at "led") fun ms2 us H2 r S2 => ?_
      exact k l9 a9 H2 (S2.get (by walk_at "mem")) (fun b o e hb => S2.old1 e hb) (by omega) (by omega)
end
end K33

namespace K33
open PySem L2 Rs
local macro_rules | `(tactic| walk_at "fv") => `(tactic| first | exact K33.fl_policy _ _ | exact K33.fl_total _ _ | exact K33.fl_lengths _ _ | exact K33.fl_powers _ _ | exact K33.fl_near _ _ | exact K33.fl_pushed _ _ | exact K33.fl_finished _ _ | exact K33.fl_ln _ _ | exact K33.fl_pn _ _)
theorem eqv_T : ∀ ts : List (List Int), PyData.eqvAll (ts.map fun t => .tuple (t.map .int)) (ts.map fun t => .tuple (t.map .int)) = true
  | [] => by simp [PyData.eqvAll]
  | t :: ts => by simp only [List.map_cons, PyData.eqvAll, PyData.eqv, eqv_ints, eqv_T ts, decide_true, Bool.and_self]
theorem shaped_T (ts : List (List Int)) : SeqAt.shaped (dT ts) = true := by
  obtain ⟨y, z⟩ := lay_T ts
  unfold SeqAt.shaped
  have e1 : PyData.canLay0 (dT ts) = true := by simp only [dT, PyData.canLay0, y]
  rw [e1, Bool.true_and]
  refine decide_eq_true ?_
  have := depth_T ts
  omega
theorem n_one : nextN ([] ++ [4096]) = none := by decide
theorem l_one : lastN [4096] = none := by decide
section
variable {P : Program} {w : World} {K : PySem.W.Frag} {mg : Str → Option Value} {base : Heap} {A : Ad} {H H0 : Hp} {MM : List Addr} {L L' F : Led} {Q : VK} {E : XK}
theorem rd_neTs {a b : Addr} {rs qs : List V} {T U : Led} {ts : List (List Int)} (h : TL rs T ts) (h2 : TL qs U ts) (S : Hs H0 MM H L) (m : (a, HO.lst rs) ∈ L) (m2 : (b, HO.lst qs) ∈ L) (sub : ∀ q ∈ T, q ∈ L) (sub2 : ∀ q ∈ U, q ∈ L) (k : Q (.bl false) H) : rNeD K (.ref a) (.ref b) H Q := by
  refine ⟨_, _, dp_TL h S m sub, dp_TL h2 S m2 sub2, shaped_T ts, shaped_T ts, ?_⟩
  have e : PyData.eqv (dT ts) (dT ts) = true := by simp only [dT, PyData.eqv, eqv_T]
  rw [e]; exact k
theorem rd_eqTs {a b : Addr} {rs qs : List V} {T U : Led} {ts : List (List Int)} (h : TL rs T ts) (h2 : TL qs U ts) (S : Hs H0 MM H L) (m : (a, HO.lst rs) ∈ L) (m2 : (b, HO.lst qs) ∈ L) (sub : ∀ q ∈ T, q ∈ L) (sub2 : ∀ q ∈ U, q ∈ L) (k : Q (.bl true) H) : rEqD K (.ref a) (.ref b) H Q := by
  refine ⟨_, _, dp_TL h S m sub, dp_TL h2 S m2 sub2, shaped_T ts, shaped_T ts, ?_⟩
  have e : PyData.eqv (dT ts) (dT ts) = true := by simp only [dT, PyData.eqv, eqv_T]
  rw [e]; exact k
theorem use_right {d : Addr} {l c a : Int} {F : HO → Led} (S : Hs H0 MM H L) (ch : ∀ o', Chg d (.dK (drw l c a)) o' L (F o')) (own : H0 d = none ∨ d ∈ MM) (h3 : 0 ≤ a) (h4 : a < 2 ^ 20)
    (h : ∀ (l' a' : Int) (H' : Hp), Hs H0 MM H' (F (.dK (drw l' c a'))) → a ≤ a' → a' ≤ a + 400 → Q (.bl true) H') : sp_right [.ref d] H Q E :=
  ⟨d, l, c, a, rfl, S.is _ (ch (.dK [])).mem, h3, h4, fun l' a' H' e k b1 b2 => h l' a' H' (S.one (ch _) own k e) b1 b2⟩
theorem ok_law (T : Txt K mg w A) : FnG P w K mg base 7 A.f_law A.d_law ["_law_script"] (sp_law K) := by
  have G__law_begun : FnOk P w K mg base CX0 1 A.f__law_begun A.d__law_begun ["_law_script", "_law_k"] (sp_begun K) := ok_begun T
  have G__law_right : FnG P w K mg base 6 A.f__law_right A.d__law_right ["_law_draw"] sp_right := ok_right T
  have G__law_pushed : FnOk P w K mg base CX0 2 A.f__law_pushed A.d__law_pushed ["_law_own", "_law_one"] (SepN R_lpush) := ok_lpush T
  have G__law_finished : FnOk P w K mg base CX0 2 A.f__law_finished A.d__law_finished ["_law_own"] (SepN R_lfin) := ok_lfin T
  have G_RunStack_pushed : FnOk P w K mg base CX0 3 A.f_RunStack_pushed A.d_RunStack_pushed ["self", "many"] (SepN (R_push A.C_RunStack)) := ok_pushed T
  have G_RunStack_finished : FnOk P w K mg base CX0 2 A.f_RunStack_finished A.d_RunStack_finished ["self"] (SepN (R_fin A.C_RunStack)) := ok_finished T
  have G_RunStack_lengths_now : FnOk P w K mg base CX0 1 A.f_RunStack_lengths_now A.d_RunStack_lengths_now ["self"] (SepN (R_now A.C_RunStack true)) := ok_ln T
  have G_RunStack_init : FnOk P w K mg base CX0 2 A.f_RunStack___init__ A.d_RunStack___init__ ["self", "policy", "total"] (SepN (R_init A.C_RunStack)) := ok_init T
  obtain ⟨mv1, kb_RunStack_init_policy⟩ := kb_init1 T
  obtain ⟨mv2, kb_RunStack_init_total_policy⟩ := kb_init2 T
  refine defG T.c_law.F sc_law (fun vs H Q E h => ?_) (fun cdv Ar outer s H vs Q E cl hr h => ?_)
  · obtain ⟨a, ns, rfl, _⟩ := h; rfl
  · obtain ⟨a, ns, rfl, hs, hn, k⟩ := h
    refine ⟨_, (pss_cons (ps_for PassesOwn.never rfl (pi_range1 rfl T.n_range (pa_cons (pe_op op_add pe_int (pe_callB (call_min2 rfl) (by rfl) T.n_min PyProof.Rows.boot_min (pa_cons pe_int (pa_cons (pe_callB call_len_seq (by rfl) T.n_len PySem.boot_len (pa_cons (pv 0) pa_nil)) pa_nil)))) pa_nil)) (pg_name (i := 1) sc_law.nd rfl (Or.inl rfl))
        (pss_cons (ps_set (i := 2) sc_law.nd rfl (Or.inl rfl) (pe_call G__law_begun (hr.mono (by decide)) rfl T.c__law_begun.m T.c__law_begun.F.kp T.c__law_begun.b .nil pass0 (pa_cons (pv 0) (pa_cons (pv 1) pa_nil))))
        (pss_one (ps_for PassesOwn.never rfl (pi_range1 rfl T.n_range (pa_cons pe_int pa_nil)) (pg_name (i := 3) sc_law.nd rfl (Or.inl rfl))
          (pss_one (ps_if (pt_not (pt_val (pe_callG G__law_right cl (hr.mono (by decide)) rfl T.c__law_right.m T.c__law_right.F.kp T.c__law_right.b .nil (pa_cons (pv 2) pa_nil))))
            (pss_one (ps_ret pe_bl))
            pss_nil))))))
      (pss_cons (ps_par (i := 4) (j := 5) rfl sc_law.nd rfl rfl (by decide) rfl rfl (pa_cons (pe_makeK0 T.i_RunStack.M G_RunStack_init (hr.mono (by decide)) rfl T.m_RunStack kb_RunStack_init_total_policy pass0 (pk_cons pe_non (pk_cons pe_str pk_nil))) (pa_cons (pe_makeK0 T.i_RunStack.M G_RunStack_init (hr.mono (by decide)) rfl T.m_RunStack kb_RunStack_init_policy pass0 (pk_cons pe_str pk_nil)) pa_nil)) (by rfl))
      (pss_cons (ps_if (PW.pt (pw_or (pt_cmpR (op_neD hr.units) (pe_meth (pv 4) T.cl_RunStack T.h_RunStack_pushed G_RunStack_pushed (hr.mono (by decide)) T.c_RunStack_pushed.b .nil pass0 (pa_cons pe_int pa_nil)) (pe_lst pa_nil) (nomark _)) (pw_or (pt_cmpR (op_neD hr.units) (pe_meth0 (pv 4) T.cl_RunStack T.h_RunStack_lengths_now G_RunStack_lengths_now (hr.mono (by decide)) T.c_RunStack_lengths_now.b .nil pass0) (pe_lst (pa_cons pe_int pa_nil)) (nomark _)) (pw_or1 (pt_cmpR (op_neD hr.units) (pe_meth0 (pv 4) T.cl_RunStack T.h_RunStack_finished G_RunStack_finished (hr.mono (by decide)) T.c_RunStack_finished.b .nil pass0) (pe_lst pa_nil) (nomark _))))))
        (pss_one (ps_ret pe_bl))
        pss_nil)
      (pss_cons (ps_set (i := 6) sc_law.nd rfl (Or.inl rfl) (pe_lst pa_nil))
      (pss_cons (ps_for PassesOwn.never rfl (pi_range1 rfl T.n_range (pa_cons pe_int pa_nil)) (pg_name (i := 7) sc_law.nd rfl (Or.inl rfl))
        (pss_one (ps_if (pt_cmpR (op_neD hr.units) (pe_meth (pv 5) T.cl_RunStack T.h_RunStack_pushed G_RunStack_pushed (hr.mono (by decide)) T.c_RunStack_pushed.b .nil pass0 (pa_cons pe_int pa_nil)) (pe_call G__law_pushed (hr.mono (by decide)) rfl T.c__law_pushed.m T.c__law_pushed.F.kp T.c__law_pushed.b .nil pass0 (pa_cons (pv 6) (pa_cons pe_int pa_nil))) (nomark _))
          (pss_one (ps_ret pe_bl))
          pss_nil)))
      (pss_one (ps_ret (pe_and (pe_cmpR (op_eqD hr.units) (pe_meth0 (pv 5) T.cl_RunStack T.h_RunStack_finished G_RunStack_finished (hr.mono (by decide)) T.c_RunStack_finished.b .nil pass0) (pe_call G__law_finished (hr.mono (by decide)) rfl T.c__law_finished.m T.c__law_finished.F.kp T.c__law_finished.b .nil pass0 (pa_cons (pv 6) pa_nil)) (nomark _)) (pe_one (pe_cmpR (op_eqD hr.units) (pe_meth0 (pv 5) T.cl_RunStack T.h_RunStack_lengths_now G_RunStack_lengths_now (hr.mono (by decide)) T.c_RunStack_lengths_now.b .nil pass0) (pe_lst (pa_cons pe_int pa_nil)) (nomark _))))))))))), ?_⟩
    have S := Hs.start0 H
    walk_at "st"
    walk_at "rd"
    refine ⟨a, _, rfl, Or.inl (S.sq hs (by simp)), ?_⟩
    walk_at "rd"
    rw [List.length_map]
    refine fw_range (fun _ σ H' => ∃ x1 x2 x3 x4 x5 x6 x7, σ = [some (.ref a), x1, x2, x3, x4, x5, x6, x7] ∧ Hs H [] H' []) ⟨_, _, _, _, _, _, _, rfl, S⟩ ?_ ?_
    · rintro i σ H1 hi ⟨x1, x2, x3, x4, x5, x6, x7, rfl, S⟩
      have hk : (i : Int) ≤ 10 := by split at hi <;> omega
      walk_at "rd"
      refine ⟨a, ns, _, rfl, S.sq hs (by simp), by omega, by omega, fun d l c H2 hd hd' hsm => ?_⟩
      obtain ⟨hd0, S2⟩ := S.more1 hsm hd hd'
      clear S
      walk_at "rd"
      refine fw_range (fun j σ H' => ∃ (x3 : Option V) (l' a' : Int), σ = [some (.ref a), some (.int (0 + (i : Nat))), some (.ref d), x3, x4, x5, x6, x7] ∧ 0 ≤ a' ∧ a' ≤ 60 * 10 + 400 * j ∧ Hs H [] H' [(d, .dK (drw l' c a'))]) ⟨_, _, _, rfl, by omega, by omega, S2⟩ ?_ ?_
      · rintro j σ H1 hj ⟨x3, l', a', rfl, h0, h1, S⟩
        have hj' : j < 2 := hj
        walk_at "rd"
        refine use_right S (by walk_at "chgF") (by walk_at "own") h0 (by omega) fun l9 a9 H3 S3 b1 b2 => ?_
        walk_at "rd"
        exact ⟨_, _, _, rfl, by omega, by omega, S3⟩
      · rintro σ H1 ⟨x3, l', a', rfl, h0, h1, S⟩
        exact ⟨_, _, _, _, _, _, _, rfl, S.sub (by walk_at "sub")⟩
    · rintro σ H1 ⟨x1, x2, x3, x4, x5, x6, x7, rfl, S⟩
      walk_at "rd"
      refine rd_mkK ?_
      walk_at "rd"
      refine ⟨rfl, rfl, fun x dx hx hdx nex => ?_⟩
      obtain ⟨hx0, S7⟩ := S.made (C := A.C_RunStack) hx hdx nex
      clear S
      refine use_init (dx := dx) (F := []) S7 (by walk_at "own") (by walk_at "led") fun l p H6 hl hp S8 => ?_
      refine ⟨rfl, ?_⟩
      clear S7
      walk_at "rd"
      refine rd_mkK ?_
      walk_at "rd"
      refine ⟨rfl, rfl, fun y dy hy hdy ney => ?_⟩
      obtain ⟨hy0, S9⟩ := S8.made (C := A.C_RunStack) hy hdy ney
      clear S8
      refine use_init (dx := dy) (F := SL A.C_RunStack x dx l p []) S9 (by walk_at "own") (by walk_at "led") fun l2 p2 H7 hl2 hp2 S10 => ?_
      refine ⟨rfl, ?_⟩
      clear S9
      walk_at "rd"
      refine use_push (dx := dx) (l := l) (p := p) (ns := []) (m := 4096) (F := SL A.C_RunStack y dy l2 p2 []) S10 (fun z h => nomatch h) (by decide) (by decide) (.inl hl) (by walk_at "led") fun f fs Tf ts n1 H8 hf hTf tl r S11 => ?_
      clear S10
      obtain ⟨rfl, rfl⟩ := r.det (.done n_one)
      have ez : fs = [] := List.eq_nil_of_length_eq_zero (by rw [tl.len]; rfl)
      walk_at "rd"
      rename_i e1 H9 he1 S12
      refine rd_neT0 (tupl_of tl) S12 (by walk_at "mem") (by walk_at "mem") (fun q hq => by simp [hq]) ?_
      rw [ez]
      walk_at "rd"
      walk_at "if0"
      refine use_now (dx := dx) (l := l) (p := p) (ns := [4096]) (F := SL A.C_RunStack y dy l2 p2 []) S12 (by walk_at "led") fun f2 H10 hf2 S13 => ?_
      simp only [if_true] at S13
      clear S11 S12
      walk_at "rd"
      rename_i e2 H11 he2 S14
      refine rd_neIs (ns := [4096]) (ms := [4096]) S14 (by walk_at "mem") (by walk_at "mem") (by rfl) (by rfl) ?_
      walk_at "rd"
      refine rd_decF (by simp) ?_
      walk_at "rd"
      refine use_fin (dx := dx) (l := l) (p := p) (ns := [4096]) (F := SL A.C_RunStack y dy l2 p2 []) S14 (by simp) (by simp) (.inl hl) (by walk_at "led") fun f3 fs3 Tf3 ts3 n3 H12 hf3 hTf3 tl3 r3 S15 => ?_
      clear S13 S14
      obtain ⟨rfl, rfl⟩ := r3.det (.done l_one)
      have ez3 : fs3 = [] := List.eq_nil_of_length_eq_zero (by rw [tl3.len]; rfl)
      walk_at "rd"
      rename_i e3 H13 he3 S16
      refine rd_neT0 (tupl_of tl3) S16 (by walk_at "mem") (by walk_at "mem") (fun q hq => by simp [hq]) ?_
      rw [ez3]
      walk_at "rd"
      walk_at "if0"
      rename_i o H14 ho S17
      refine fw_range (fun i σ H' => ∃ (x7 : Option V) (ms : List Int), σ = [some (.ref a), x1, x2, x3, some (.ref x), some (.ref y), some (.ref o), x7] ∧ Hs H [] H' (SO A.C_RunStack y dy l2 p2 o ms) ∧ (∀ z ∈ ms, 1 ≤ z) ∧ ms.sum = 64 * (i : Int) ∧ ms.length ≤ i) ⟨_, [], rfl, S17.re (by walk_at "led"), fun z h => (nomatch h), by simp, by simp⟩ ?_ ?_
      · rintro i σ H' hi ⟨x7, ms, rfl, S, p1, p2', p3⟩
        have hi64 : i < 64 := hi
        clear S15 S16 S17
        walk_at "rd"
        refine use_push (dx := dy) (l := l2) (p := p2) (ns := ms) (m := 64) (F := [(o, .lst (ms.map V.int))]) S p1 (by decide) (by omega) (.inl hl2) (by walk_at "led") fun g gs Tg us ms2 H2 hg hTg tl4 r4 S2 => ?_
        obtain ⟨r1, r2, r3', r5⟩ := run_pos r4 p1 (by decide) (by omega)
        walk_at "rd"
        refine use_lpush (ns := ms) (m := 64) (F := (g, .lst gs) :: (Tg ++ SL A.C_RunStack y dy l2 p2 ms2)) S2 (by omega) (.inl ho) (by walk_at "led") fun g2 gs2 Tg2 us2 ms3 H3 hg2 hTg2 tl5 rr S3 => ?_
        obtain ⟨rfl, rfl⟩ := rr.det r4
        walk_at "rd"
        refine rd_neTs tl4 tl5 S3 (by walk_at "mem") (by walk_at "mem") (fun q hq => by simp [hq]) (fun q hq => by simp [hq]) ?_
        walk_at "rd"
        walk_at "if0"
        exact ⟨_, ms3, rfl, S3.re (by walk_at "led"), r2, by omega, by omega⟩
      · rintro σ H' ⟨x7, ms, rfl, S, p1, p2', p3⟩
        clear S15 S16 S17
        have hs64 : ms.sum = 4096 := by rw [p2']; rfl
        have hl64 : ms.length ≤ 64 := p3
        walk_at "rd"
        refine use_fin (dx := dy) (l := l2) (p := p2) (ns := ms) (F := [(o, .lst (ms.map V.int))]) S p1 (by omega) (.inl hl2) (by walk_at "led") fun g gs Tg us ms2 H2 hg hTg tl4 r4 S2 => ?_
        obtain ⟨r1, r2, r3', r5, r6⟩ := r4.ok lastN_le p1 (by omega)
        walk_at "rd"
        refine use_lfin (ns := ms) (F := (g, .lst gs) :: (Tg ++ SL A.C_RunStack y dy l2 p2 ms2)) S2 (by omega) (.inl ho) (by walk_at "led") fun g2 gs2 Tg2 us2 ms3 H3 hg2 hTg2 tl5 rr S3 => ?_
        obtain ⟨rfl, rfl⟩ := rr.det r4
        walk_at "rd"
        refine rd_eqTs tl4 tl5 S3 (by walk_at "mem") (by walk_at "mem") (fun q hq => by simp [hq]) (fun q hq => by simp [hq]) ?_
        walk_at "rd"
        walk_at "if1"
        refine use_now (dx := dy) (l := l2) (p := p2) (ns := ms3) (F := []) S3 (by walk_at "led") fun f9 H9 hf9 S9 => ?_
        simp only [if_true] at S9
        clear S S2 S3
        walk_at "rd"
        rename_i S10
        obtain rfl : ms3 = [4096] := by
          have hl1 : ms3.length ≤ 1 := by
            unfold lastN at r6
            split at r6
            · cases r6
            · omega
          match ms3, hl1 with
          | [], _ => simp at r1; omega
          | [z], _ => simp at r1; simp; omega
        refine rd_eqIs (ns := [4096]) (ms := [4096]) S10 (by walk_at "mem") (by walk_at "mem") (by rfl) (by rfl) ?_
        rw [decide_eq_true rfl]
        exact k _
theorem end_law (K : PySem.W.Frag) (H : Hp) (a : Addr) (ns : List Int) (hn : ns.length ≤ 63) (_ : ∀ z ∈ ns, Builtin.Int.intBits z ≤ 1048576) (h : SqL K H a (ns.map V.int)) : sp_law K [.ref a] H (fun v _ => v = .bl true) E0 :=
  ⟨a, ns, rfl, h, hn, fun _ => rfl⟩
end
end K33

namespace K33
end K33
open PySem PySem.W PyProof.Rows
set_option maxRecDepth 100000 in
set_option maxHeartbeats 0 in
theorem PySem.Challenge.cw_runsort_k33_stacks_by_lengths_holds : PySem.Challenge.rw_runsort_k33_stacks_by_lengths.Holds := by
  w_on; o_law; k_head; (case hw => w_witness2)
  k_fill
  refine Rs.walkE (n := 63) (k := 7) (st := K33.s_law) (x := "_law_script") (sp := K33.sp_law) rfl (by decide) rfl ⟨rfl, by decide, by decide⟩ (fun w h Y => PySem.W.kIn_of Y) rfl (fun _ _ _ _ _ _ _ => rfl) ?F K33.end_law
  case F =>
    intro w mg h KX G
    obtain ⟨A, T⟩ : ∃ A, K33.Txt _ mg w A := by
      refine' K33.all_mk (w := w) KX G ?a_is_whole ?l_is_whole ?e_is_whole ?k_is_whole ?dd_is_whole ?a_need_number ?l_need_number ?e_need_number ?k_need_number ?a_next_by_lengths ?l_next_by_lengths ?e_next_by_lengths ?k_next_by_lengths ?a_pushed_by_lengths ?l_pushed_by_lengths ?e_pushed_by_lengths ?k_pushed_by_lengths ?a_last_by_lengths ?l_last_by_lengths ?e_last_by_lengths ?k_last_by_lengths ?a_need_policy ?l_need_policy ?e_need_policy ?k_need_policy ?a_RunStack ?pg_RunStack ?hd_RunStack ?po_RunStack ?sa_RunStack ?mk_RunStack ?kc_RunStack ?na_RunStack_own_policy ?na_RunStack_own_total ?na_RunStack_laid_lengths ?na_RunStack_laid_powers ?a_RunStack___init__ ?i_RunStack___init__ ?l_RunStack___init__ ?e_RunStack___init__ ?k_RunStack___init__ ?dd_RunStack ?a_RunStack_merge_near ?i_RunStack_merge_near ?l_RunStack_merge_near ?e_RunStack_merge_near ?k_RunStack_merge_near ?a_RunStack_pushed ?i_RunStack_pushed ?l_RunStack_pushed ?e_RunStack_pushed ?k_RunStack_pushed ?a_RunStack_finished ?i_RunStack_finished ?l_RunStack_finished ?e_RunStack_finished ?k_RunStack_finished ?a_RunStack_lengths_now ?i_RunStack_lengths_now ?l_RunStack_lengths_now ?e_RunStack_lengths_now ?k_RunStack_lengths_now ?a_RunStack_powers_now ?i_RunStack_powers_now ?l_RunStack_powers_now ?e_RunStack_powers_now ?k_RunStack_powers_now ?a_RunStack___len__ ?i_RunStack___len__ ?l_RunStack___len__ ?e_RunStack___len__ ?k_RunStack___len__ ?a_RunStack___repr__ ?i_RunStack___repr__ ?l_RunStack___repr__ ?e_RunStack___repr__ ?k_RunStack___repr__ ?a__law_begun ?l__law_begun ?e__law_begun ?k__law_begun ?a__law_take ?l__law_take ?e__law_take ?k__law_take ?a__law_of ?l__law_of ?e__law_of ?k__law_of ?a__law_runs ?l__law_runs ?e__law_runs ?k__law_runs ?a__law_merge ?l__law_merge ?e__law_merge ?k__law_merge ?a__law_next ?l__law_next ?e__law_next ?k__law_next ?a__law_pushed ?l__law_pushed ?e__law_pushed ?k__law_pushed ?a__law_finished ?l__law_finished ?e__law_finished ?k__law_finished ?a__law_is_so ?l__law_is_so ?e__law_is_so ?k__law_is_so ?a__law_end_right ?l__law_end_right ?e__law_end_right ?k__law_end_right ?a__law_right ?l__law_right ?e__law_right ?k__law_right ?a_law ?l_law ?e_law ?k_law ?g_MOST_THINGS ?r_MOST_THINGS ?g_PUSHES ?at_PUSHES ?lit_PUSHES ?low_PUSHES ?q_PUSHES_lengths ?g_LASTS ?at_LASTS ?lit_LASTS ?low_LASTS ?q_LASTS_lengths ?z_len ?z_min ?z_max ?z_range ?z_repr ?z_isinstance ?z_int ?z_bool ?z_str ?z_sum ?z_list ?z_enumerate
      (case a_is_whole => k_is)
      (case l_is_whole => k_is)
      (case e_is_whole => k_is)
      (case k_is_whole => k_is)
      (case dd_is_whole => (intro q hq; simp only [List.mem_cons, List.not_mem_nil, or_false] at hq; rcases hq with rfl | rfl <;> (dsimp only; refine' Rs.ex_u ?_ ?_; rotate_left; k_is; first | exact ⟨_, rfl⟩ | exact rfl)))
      (case a_need_number => k_is)
      (case l_need_number => k_is)
      (case e_need_number => k_is)
      (case k_need_number => k_is)
      (case a_next_by_lengths => k_is)
      (case l_next_by_lengths => k_is)
      (case e_next_by_lengths => k_is)
      (case k_next_by_lengths => k_is)
      (case a_pushed_by_lengths => k_is)
      (case l_pushed_by_lengths => k_is)
      (case e_pushed_by_lengths => k_is)
      (case k_pushed_by_lengths => k_is)
      (case a_last_by_lengths => k_is)
      (case l_last_by_lengths => k_is)
      (case e_last_by_lengths => k_is)
      (case k_last_by_lengths => k_is)
      (case a_need_policy => k_is)
      (case l_need_policy => k_is)
      (case e_need_policy => k_is)
      (case k_need_policy => k_is)
      (case a_RunStack => k_is)
      (case pg_RunStack => k_is)
      (case hd_RunStack => k_is)
      (case po_RunStack => k_is)
      (case sa_RunStack => k_is)
      (case mk_RunStack => k_is)
      (case kc_RunStack => k_is)
      (case na_RunStack_own_policy => k_is)
      (case na_RunStack_own_total => k_is)
      (case na_RunStack_laid_lengths => k_is)
      (case na_RunStack_laid_powers => k_is)
      (case a_RunStack___init__ => k_is)
      (case i_RunStack___init__ => k_is)
      (case l_RunStack___init__ => k_is)
      (case e_RunStack___init__ => k_is)
      (case k_RunStack___init__ => k_is)
      (case dd_RunStack => (intro q hq; simp only [List.mem_cons, List.not_mem_nil, or_false] at hq; rcases hq with rfl | rfl <;> (dsimp only; refine' Rs.ex_u ?_ ?_; rotate_left; k_is; first | exact ⟨_, rfl⟩ | exact rfl)))
      (case a_RunStack_merge_near => k_is)
      (case i_RunStack_merge_near => k_is)
      (case l_RunStack_merge_near => k_is)
      (case e_RunStack_merge_near => k_is)
      (case k_RunStack_merge_near => k_is)
      (case a_RunStack_pushed => k_is)
      (case i_RunStack_pushed => k_is)
      (case l_RunStack_pushed => k_is)
      (case e_RunStack_pushed => k_is)
      (case k_RunStack_pushed => k_is)
      (case a_RunStack_finished => k_is)
      (case i_RunStack_finished => k_is)
      (case l_RunStack_finished => k_is)
      (case e_RunStack_finished => k_is)
      (case k_RunStack_finished => k_is)
      (case a_RunStack_lengths_now => k_is)
      (case i_RunStack_lengths_now => k_is)
      (case l_RunStack_lengths_now => k_is)
      (case e_RunStack_lengths_now => k_is)
      (case k_RunStack_lengths_now => k_is)
      (case a_RunStack_powers_now => k_is)
      (case i_RunStack_powers_now => k_is)
      (case l_RunStack_powers_now => k_is)
      (case e_RunStack_powers_now => k_is)
      (case k_RunStack_powers_now => k_is)
      (case a_RunStack___len__ => k_is)
      (case i_RunStack___len__ => k_is)
      (case l_RunStack___len__ => k_is)
      (case e_RunStack___len__ => k_is)
      (case k_RunStack___len__ => k_is)
      (case a_RunStack___repr__ => k_is)
      (case i_RunStack___repr__ => k_is)
      (case l_RunStack___repr__ => k_is)
      (case e_RunStack___repr__ => k_is)
      (case k_RunStack___repr__ => k_is)
      (case a__law_begun => k_is)
      (case l__law_begun => k_is)
      (case e__law_begun => k_is)
      (case k__law_begun => k_is)
      (case a__law_take => k_is)
      (case l__law_take => k_is)
      (case e__law_take => k_is)
      (case k__law_take => k_is)
      (case a__law_of => k_is)
      (case l__law_of => k_is)
      (case e__law_of => k_is)
      (case k__law_of => k_is)
      (case a__law_runs => k_is)
      (case l__law_runs => k_is)
      (case e__law_runs => k_is)
      (case k__law_runs => k_is)
      (case a__law_merge => k_is)
      (case l__law_merge => k_is)
      (case e__law_merge => k_is)
      (case k__law_merge => k_is)
      (case a__law_next => k_is)
      (case l__law_next => k_is)
      (case e__law_next => k_is)
      (case k__law_next => k_is)
      (case a__law_pushed => k_is)
      (case l__law_pushed => k_is)
      (case e__law_pushed => k_is)
      (case k__law_pushed => k_is)
      (case a__law_finished => k_is)
      (case l__law_finished => k_is)
      (case e__law_finished => k_is)
      (case k__law_finished => k_is)
      (case a__law_is_so => k_is)
      (case l__law_is_so => k_is)
      (case e__law_is_so => k_is)
      (case k__law_is_so => k_is)
      (case a__law_end_right => k_is)
      (case l__law_end_right => k_is)
      (case e__law_end_right => k_is)
      (case k__law_end_right => k_is)
      (case a__law_right => k_is)
      (case l__law_right => k_is)
      (case e__law_right => k_is)
      (case k__law_right => k_is)
      (case a_law => k_is)
      (case l_law => k_is)
      (case e_law => k_is)
      (case k_law => k_is)
      (case g_MOST_THINGS => k_is)
      (case r_MOST_THINGS => first | exact ⟨_, rfl⟩ | exact rfl)
      (case g_PUSHES => k_is)
      (case at_PUSHES => k_is)
      (case lit_PUSHES => exact ⟨⟨_, _, rfl, rfl⟩, ⟨_, _, rfl, rfl⟩, trivial⟩)
      (case low_PUSHES => rfl)
      (case q_PUSHES_lengths => k_is)
      (case g_LASTS => k_is)
      (case at_LASTS => k_is)
      (case lit_LASTS => exact ⟨⟨_, _, rfl, rfl⟩, ⟨_, _, rfl, rfl⟩, trivial⟩)
      (case low_LASTS => rfl)
      (case q_LASTS_lengths => k_is)
      (case z_len => k_is)
      (case z_min => k_is)
      (case z_max => k_is)
      (case z_range => k_is)
      (case z_repr => k_is)
      (case z_isinstance => k_is)
      (case z_int => k_is)
      (case z_bool => k_is)
      (case z_str => k_is)
      (case z_sum => k_is)
      (case z_list => k_is)
      (case z_enumerate => k_is)
    exact ⟨_, _, T.c_law, fun base => K33.ok_law T⟩
