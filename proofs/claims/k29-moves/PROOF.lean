import PyProof.Rows.All
import Wide.All
import OpenK.AllK
import Wide.FinOn
import HandS.ForMost
import HandS.EndBits
import HandS.Defaults
import HandS.WideBits
import HandS.Style
import HandS.IsInst
import HandS.NoneIn
import HandS.More
import HandS.MakeKwOnly
import HandS.CallLocal
import HandS.SortKw
import HandS.TupMul
import HandS.TupAny
import KE.DataMinMax
import KE.KMinKey
import HandS.FStr
import HandS.SlotsOwn
import HandS.Codes
import HandS.Walk
import HandS.ExcInit
import HandS.ExcField
import HandS.ExcIs
import HandS.ExcOwn
import HandS.Lambda
import HandS.TryMany
import KE.KExcInit
import KE.KExcIs
import PyProof.Rows.RuleDivmod
import HandS.EndTab
import KE.KNestM
import HandS.WordsExc
import HandS.Conv
import HandS.SetFor
import PyProof.Rows.IntBool
import PyProof.StrReplace2
import HandS.DeepEq
import PyProof.Rows.SeqMore
import PyProof.Draws
import PyProof.EnumMake
import PyProof.TupleIter
import PyProof.ListStr
import HandS.Flow
import KE.KExcLine
import KE.RegKTryMore
import PySem.Challenge.RW_runsort_k29_moves_forth_and_back
set_option Elab.async false
set_option maxRecDepth 100000
set_option maxHeartbeats 4000000
/-! K29m: rows mixed of two, and parted again -/
namespace K29
def mix {α : Type} : List Nat → List α → List α → List α
  | [], _, _ => []
  | n :: r, B, A => B.take n ++ mix r A (B.drop n)
def spl {α : Type} : List Nat → List α → List α × List α
  | [], _ => ([], [])
  | n :: r, W => (W.take n ++ (spl r (W.drop n)).2, (spl r (W.drop n)).1)
/-- how many of the one, of the other -/
def ssum : List Nat → Nat × Nat
  | [] => (0, 0)
  | n :: r => (n + (ssum r).2, (ssum r).1)
section
variable {α : Type}
theorem spl_mix : ∀ (pk : List Nat) (B A X Y Z : List α), B.length = (ssum pk).1 → A.length = (ssum pk).2 → spl pk (mix pk (B ++ X) (A ++ Y) ++ Z) = (B, A)
  | [], B, A, X, Y, Z, hb, ha => by
    simp only [ssum, List.length_eq_zero_iff] at hb ha
    subst hb ha
    rfl
  | n :: r, B, A, X, Y, Z, hb, ha => by
    simp only [ssum] at hb ha
    have h1 : n ≤ B.length := by omega
    have e1 : (B ++ X).take n = B.take n := List.take_append_of_le_length h1
    have e2 : (B ++ X).drop n = B.drop n ++ X := List.drop_append_of_le_length h1
    have h2 : (B.take n).length = n := by rw [List.length_take]; omega
    have h3 : (B.drop n).length = (ssum r).2 := by rw [List.length_drop]; omega
    simp only [mix, spl, e1, e2, List.append_assoc]
    rw [List.take_left' h2, List.drop_left' h2, spl_mix r A (B.drop n) Y X Z ha h3, List.take_append_drop]
theorem mix_spl : ∀ (pk : List Nat) (W X Y : List α), (ssum pk).1 + (ssum pk).2 ≤ W.length → mix pk ((spl pk W).1 ++ X) ((spl pk W).2 ++ Y) = W.take ((ssum pk).1 + (ssum pk).2)
  | [], W, X, Y, h => by simp [mix, ssum]
  | n :: r, W, X, Y, h => by
    simp only [ssum] at h
    have h2 : (W.take n).length = n := by rw [List.length_take]; omega
    have h3 : (ssum r).1 + (ssum r).2 ≤ (W.drop n).length := by rw [List.length_drop]; omega
    simp only [mix, spl, ssum, List.append_assoc]
    rw [List.take_left' h2, List.drop_left' h2, mix_spl r (W.drop n) Y X h3, ← List.take_add]
    congr 1
    omega
theorem mix_len : ∀ (pk : List Nat) (B A : List α), (ssum pk).1 ≤ B.length → (ssum pk).2 ≤ A.length → (mix pk B A).length = (ssum pk).1 + (ssum pk).2
  | [], _, _, _, _ => rfl
  | n :: r, B, A, hb, ha => by
    simp only [ssum] at hb ha
    simp only [mix, ssum, List.length_append, List.length_take]
    rw [mix_len r A (B.drop n) ha (by rw [List.length_drop]; omega)]
    omega
theorem spl_len : ∀ (pk : List Nat) (W : List α), (ssum pk).1 + (ssum pk).2 ≤ W.length → (spl pk W).1.length = (ssum pk).1 ∧ (spl pk W).2.length = (ssum pk).2
  | [], _, _ => ⟨rfl, rfl⟩
  | n :: r, W, h => by
    simp only [ssum] at h
    obtain ⟨h1, h2⟩ := spl_len r (W.drop n) (by rw [List.length_drop]; omega)
    show (W.take n ++ (spl r (W.drop n)).2).length = n + (ssum r).2 ∧ (spl r (W.drop n)).1.length = (ssum r).1
    exact ⟨by rw [List.length_append, List.length_take, h2]; omega, h1⟩
theorem mix_app : ∀ (pk : List Nat) (B A X Y : List α), (ssum pk).1 ≤ B.length → (ssum pk).2 ≤ A.length → mix pk (B ++ X) (A ++ Y) = mix pk B A
  | [], _, _, _, _, _, _ => rfl
  | n :: r, B, A, X, Y, hb, ha => by
    simp only [ssum] at hb ha
    have h1 : n ≤ B.length := by omega
    have e1 : (B ++ X).take n = B.take n := List.take_append_of_le_length h1
    have e2 : (B ++ X).drop n = B.drop n ++ X := List.drop_append_of_le_length h1
    simp only [mix, e1, e2]
    rw [mix_app r A (B.drop n) Y X ha (by rw [List.length_drop]; omega)]
theorem spl_app : ∀ (pk : List Nat) (W Z : List α), (ssum pk).1 + (ssum pk).2 ≤ W.length → spl pk (W ++ Z) = spl pk W
  | [], _, _, _ => rfl
  | n :: r, W, Z, h => by
    simp only [ssum] at h
    have h1 : n ≤ W.length := by omega
    have e1 : (W ++ Z).take n = W.take n := List.take_append_of_le_length h1
    have e2 : (W ++ Z).drop n = W.drop n ++ Z := List.drop_append_of_le_length h1
    simp only [spl, e1, e2]
    rw [spl_app r (W.drop n) Z (by rw [List.length_drop]; omega)]
theorem mix_mem : ∀ (pk : List Nat) (B A : List α) (x : α), x ∈ mix pk B A → x ∈ B ∨ x ∈ A
  | [], _, _, _, h => nomatch h
  | n :: r, B, A, x, h => by
    simp only [mix] at h
    rcases List.mem_append.mp h with h | h
    · exact .inl (List.mem_of_mem_take h)
    · rcases mix_mem r A (B.drop n) x h with h | h
      · exact .inr h
      · exact .inl (List.mem_of_mem_drop h)
theorem spl_mem : ∀ (pk : List Nat) (W : List α) (x : α), x ∈ (spl pk W).1 ∨ x ∈ (spl pk W).2 → x ∈ W
  | [], _, _, h => by rcases h with h | h <;> exact nomatch h
  | n :: r, W, x, h => by
    simp only [spl] at h
    rcases h with h | h
    · rcases List.mem_append.mp h with h | h
      · exact List.mem_of_mem_take h
      · exact List.mem_of_mem_drop (spl_mem r (W.drop n) x (.inr h))
    · exact List.mem_of_mem_drop (spl_mem r (W.drop n) x (.inl h))
/-- a row moved forth: f things stay in front, from m on the second ones, from e on what stays behind -/
def fwd (pk : List Nat) (f m e : Nat) (xs : List α) : List α := xs.take f ++ mix pk (xs.drop m) (xs.drop f) ++ xs.drop e
def bck (pk : List Nat) (f e : Nat) (xs : List α) : List α := xs.take f ++ ((spl pk (xs.drop f)).2 ++ (spl pk (xs.drop f)).1) ++ xs.drop e
/-- picks and places that fit so many things -/
structure Fit (pk : List Nat) (f m e n : Nat) : Prop where
  fm : f ≤ m
  me : m ≤ e
  en : e ≤ n
  s1 : (ssum pk).1 = e - m
  s2 : (ssum pk).2 = m - f
variable {pk : List Nat} {f m e : Nat} {xs : List α}
theorem fwd_len (h : Fit pk f m e xs.length) : (fwd pk f m e xs).length = xs.length := by
  obtain ⟨h1, h2, h3, h4, h5⟩ := h
  unfold fwd
  rw [List.length_append, List.length_append, mix_len pk _ _ (by rw [List.length_drop]; omega) (by rw [List.length_drop]; omega), List.length_take, List.length_drop, h4, h5]
  omega
theorem bck_len (h : Fit pk f m e xs.length) : (bck pk f e xs).length = xs.length := by
  obtain ⟨h1, h2, h3, h4, h5⟩ := h
  obtain ⟨k1, k2⟩ := spl_len pk (xs.drop f) (by rw [List.length_drop]; omega)
  unfold bck
  rw [List.length_append, List.length_append, List.length_append, k1, k2, List.length_take, List.length_drop, h4, h5]
  omega
theorem parts (h : Fit pk f m e xs.length) : ∃ F A B C : List α, xs = F ++ (A ++ (B ++ C)) ∧ F.length = f ∧ A.length = m - f ∧ B.length = e - m := by
  obtain ⟨h1, h2, h3, h4, h5⟩ := h
  refine ⟨xs.take f, (xs.drop f).take (m - f), ((xs.drop f).drop (m - f)).take (e - m), ((xs.drop f).drop (m - f)).drop (e - m), ?_, ?_, ?_, ?_⟩
  · rw [List.take_append_drop, List.take_append_drop, List.take_append_drop]
  · rw [List.length_take]; omega
  · rw [List.length_take, List.length_drop]; omega
  · rw [List.length_take, List.length_drop, List.length_drop]; omega
theorem bck_fwd (h : Fit pk f m e xs.length) : bck pk f e (fwd pk f m e xs) = xs := by
  obtain ⟨F, A, B, C, rfl, hF, hA, hB⟩ := parts h
  obtain ⟨h1, h2, h3, h4, h5⟩ := h
  have d1 : (F ++ (A ++ (B ++ C))).drop f = A ++ (B ++ C) := List.drop_left' hF
  have d2 : (F ++ (A ++ (B ++ C))).drop m = B ++ C := by
    rw [show m = f + (m - f) by omega, ← List.drop_drop, d1, List.drop_left' hA]
  have d3 : (F ++ (A ++ (B ++ C))).drop e = C := by
    rw [show e = m + (e - m) by omega, ← List.drop_drop, d2, List.drop_left' hB]
  have t1 : (F ++ (A ++ (B ++ C))).take f = F := List.take_left' hF
  have lm : (mix pk (B ++ C) (A ++ (B ++ C))).length = e - f := by
    rw [mix_len pk _ _ (by rw [List.length_append]; omega) (by rw [List.length_append]; omega)]; omega
  have e1 : fwd pk f m e (F ++ (A ++ (B ++ C))) = F ++ (mix pk (B ++ C) (A ++ (B ++ C)) ++ C) := by
    unfold fwd
    rw [d1, d2, d3, t1, List.append_assoc]
  rw [e1]
  unfold bck
  rw [List.take_left' hF, List.drop_left' hF, spl_mix pk B A C (B ++ C) C (by omega) (by omega)]
  rw [show e = f + (e - f) by omega, ← List.drop_drop, List.drop_left' hF, List.drop_left' lm]
  simp only [List.append_assoc]
theorem fwd_bck (h : Fit pk f m e xs.length) : fwd pk f m e (bck pk f e xs) = xs := by
  obtain ⟨h1, h2, h3, h4, h5⟩ := h
  have hF : (xs.take f).length = f := by rw [List.length_take]; omega
  have hs : (ssum pk).1 + (ssum pk).2 ≤ (xs.drop f).length := by rw [List.length_drop]; omega
  obtain ⟨k1, k2⟩ := spl_len pk (xs.drop f) hs
  generalize hP : (spl pk (xs.drop f)).1 = P at k1
  generalize hQ : (spl pk (xs.drop f)).2 = Q at k2
  have e1 : bck pk f e xs = xs.take f ++ (Q ++ (P ++ xs.drop e)) := by
    unfold bck
    rw [hP, hQ]
    simp only [List.append_assoc]
  rw [e1]
  have d1 : (xs.take f ++ (Q ++ (P ++ xs.drop e))).drop f = Q ++ (P ++ xs.drop e) := List.drop_left' hF
  have d2 : (xs.take f ++ (Q ++ (P ++ xs.drop e))).drop m = P ++ xs.drop e := by
    rw [show m = f + (m - f) by omega, ← List.drop_drop, d1, List.drop_left' (by omega)]
  have d3 : (xs.take f ++ (Q ++ (P ++ xs.drop e))).drop e = xs.drop e := by
    rw [show (xs.take f ++ (Q ++ (P ++ xs.drop e))).drop e = ((xs.take f ++ (Q ++ (P ++ xs.drop e))).drop m).drop (e - m) by rw [List.drop_drop]; congr 1; omega, d2, List.drop_left' (by omega)]
  unfold fwd
  rw [d1, d2, d3, List.take_left' hF]
  have e2 : mix pk (P ++ xs.drop e) (Q ++ (P ++ xs.drop e)) = (xs.drop f).take ((ssum pk).1 + (ssum pk).2) := by
    rw [← hP, ← hQ]
    exact mix_spl pk (xs.drop f) _ _ hs
  rw [e2, show xs.drop e = (xs.drop f).drop ((ssum pk).1 + (ssum pk).2) by rw [List.drop_drop]; congr 1; omega, List.append_assoc, List.take_append_drop, List.take_append_drop]
theorem fwd_mem {x : α} (h : x ∈ fwd pk f m e xs) : x ∈ xs := by
  unfold fwd at h
  rcases List.mem_append.mp h with h | h
  · rcases List.mem_append.mp h with h | h
    · exact List.mem_of_mem_take h
    · rcases mix_mem pk _ _ x h with h | h <;> exact List.mem_of_mem_drop h
  · exact List.mem_of_mem_drop h
theorem bck_mem {x : α} (h : x ∈ bck pk f e xs) : x ∈ xs := by
  unfold bck at h
  rcases List.mem_append.mp h with h | h
  · rcases List.mem_append.mp h with h | h
    · exact List.mem_of_mem_take h
    · exact List.mem_of_mem_drop (spl_mem pk _ x (by rcases List.mem_append.mp h with h | h; exact .inr h; exact .inl h))
  · exact List.mem_of_mem_drop h
end
end K29

namespace Rs
open PySem PySem.Spec PyProof.Rows L2

/-! ### a promise that is kept while no text of a container is under way -/
def Clr (A : Around) : Prop := A.guards = some []
theorem Clr.deep {A : Around} (c : Clr A) (e : Env) : Clr (A.deeper e) := c

structure FnG (P : Program) (w : World) (K : PySem.W.Frag) (mg : Str → Option Value) (base : Heap) (k : Nat) (f : Addr) (fd : FuncData) (ps : List Str) (sp : Sp) : Prop where
  many : ∀ vs H Q E, sp vs H Q E → vs.length = ps.length
  go : ∀ (A : Around) (o : List Env) (s : Shared) (H : Hp) (us : List Value) (a : Args) (vs : List V) (Q : VK) (E : XK), Clr A → Room k A → Env0 P w K mg base A o s H →
    BindsTo s fd a (ps.zip us) → Vals vs us → sp vs H Q E → codeAny (model P w) A (.call (.ref f) a) (CR CX0 o P w H s Q E) s
theorem FnG.up {P : Program} {w : World} {K : PySem.W.Frag} {mg : Str → Option Value} {base : Heap} {j k : Nat} {f : Addr} {fd : FuncData} {ps : List Str} {sp : Sp}
    (F : FnG P w K mg base j f fd ps sp) (h : j ≤ k) : FnG P w K mg base k f fd ps sp :=
  ⟨F.many, fun A o s H us a vs Q E c r => F.go A o s H us a vs Q E c (r.mono h)⟩
theorem FnG.of {P : Program} {w : World} {K : PySem.W.Frag} {mg : Str → Option Value} {base : Heap} {k : Nat} {f : Addr} {fd : FuncData} {ps : List Str} {sp : Sp}
    (F : FnOk P w K mg base CX0 k f fd ps sp) : FnG P w K mg base k f fd ps sp :=
  ⟨F.len, fun A o s H us a vs Q E _ r e b v h => F.run A o s H a us vs Q E r e b v h⟩

section
variable {P : Program} {w : World} {K : PySem.W.Frag} {mg : Str → Option Value} {base : Heap}
/-- a def by its body, as FnG -/
theorem defG {x qual : Str} {st : Stmt} {f : Addr} {fd : FuncData} {N ps : List Str} {k : Nat} {sp : Sp} (F : Fun K x qual st f fd) (S : FnScope N ps (defScope st))
    (many : ∀ vs H Q E, sp vs H Q E → vs.length = ps.length)
    (body : ∀ (cdv : Value) (A : Around) (o : List Env) (s : Shared) (H : Hp) (vs : List V) (Q : VK) (E : XK), Clr A →
      Room k (A.deeper (envOfC qual (defScope st) s.heap.objs.size f cdv)) → sp vs H Q E →
      ∃ t, PSs (cxOf CX0 P w K mg base N qual (defScope st) f cdv A o s H E).nox (defBody st) t ∧ t { nx := fun _ H' => Q .non H', rt := Q } (start N vs) H) :
    FnG P w K mg base (k + 1) f fd ps sp := by
  obtain ⟨oc, od, kV, doc, pm, an, cdv, ct, osl, rfl, lk, hcd⟩ := F.ex
  refine ⟨many, ?_⟩
  intro A o s H us a vs Q E c r e0 hb rv hsp
  obtain ⟨t, ht, hq⟩ := body cdv A o s H vs Q E c (r.deeper _) hsp
  have inK : ∀ b ob, K.lookup b = some ob → s.heap.get? b = some ob := fun b ob e => (e0.bs b ob (e0.mod.kin b ob e)).1
  have noL : s.heap.NoLimit := e0.mod.nolimit.keeps fun b ob e => (e0.bs b ob e).1
  refine codeAny_call_function r.depth (inK _ _ lk) rfl S.co S.gen rfl (PySem.W.codeRec_of inK hcd) (hb _ _ _ _ ?_)
  refine wpAny_newFunctionEnv_cells S.kind ?_ ?_
  · rintro ⟨n, v⟩ hy
    rcases S.par n (List.of_mem_zip hy).1 with q | q
    · exact Or.inl q
    · exact Or.inr ⟨q, PySem.W.cellsFrom_some _ _ _ (Or.inl q)⟩
  · intro env he s1 x1
    subst he
    refine ⟨noL.keeps x1.toInCall.keep, codeAny_func ?_⟩
    have J := inv_start (CX := CX0) (mg := mg) (E := E) (qual := qual) S r.hd e0 (many _ _ _ _ hsp) rv x1
    refine wpAny_mono (ht.nox.run [] s1 _ H _ J hq) ?_ ?_
    · intro fl s2 h2
      cases fl with
      | next => obtain ⟨_, H2, J2, q2⟩ := h2; exact ⟨V.non, H2, J2.os, J2.bare, J2.base, J2.hok, rfl, q2⟩
      | ret u => obtain ⟨v, _, H2, J2, r2, q2⟩ := h2; exact ⟨v, H2, J2.os, J2.bare, J2.base, J2.hok, r2, q2⟩
      | brk => obtain ⟨_, _, _, q2⟩ := h2; exact q2.elim
      | cont => obtain ⟨_, _, _, q2⟩ := h2; exact q2.elim
    · intro e s2 h2; exact h2
end

section
variable {X : Cx} {k : Nat} {f : Addr} {fd : FuncData} {ps : List Str} {sp : Sp} {dvs : List V} {ds : List Value} {x : Str} {p pos : Pos} {e : Expr} {es : List Expr} {t : TA}
theorem goG {pins : List (Addr × Obj)} {σ : L2.St} {H : Hp} {s : Shared} {Q : VK} {us : List Value} {vs : List V} (F : FnG X.prog X.w X.K X.mg X.base k f fd ps sp) (c : Clr X.A) (hr : Room k X.A)
    (hb : Binds X.K fd ps ds) (hd : Vals dvs ds) (I : Inv X pins σ H s) (r : Vals vs us) (h : sp (vs ++ dvs) H Q E0) : wpAny (model X.prog X.w) X.A (call (.ref f) us) (EP X pins σ Q) X.xe s := by
  have r2 := r.append hd
  have hl : (us ++ ds).length = ps.length := r2.length.symm.trans (F.many _ _ _ _ h)
  apply wpAny_call
  refine codeAny_mono (F.go X.A X.stack s H (us ++ ds) ⟨us, []⟩ (vs ++ dvs) Q E0 c hr I.env0 (hb s us I.kIn hl) r2 h) ?_
  intro q s2 h2
  match q, h2 with
  | .error _, h2 => exact h2.elim
  | .ok (.ret _), h2 => exact I.after h2
  | .ok .next, h2 => exact h2.elim
  | .ok .brk, h2 => exact h2.elim
  | .ok .cont, h2 => exact h2.elim
/-- f(e, ..) of such a def -/
theorem pe_callG (F : FnG X.prog X.w X.K X.mg X.base k f fd ps sp) (c : Clr X.A) (hr : Room k X.A) (hg : Gl X x) (hm : X.mg x = some (.ref f)) (hk : PySem.W.keepIn X.K (.ref f) = true)
    (hb : Binds X.K fd ps ds) (hd : Vals dvs ds) (ha : PA X (e :: es) t) (hdb : (x == ("__debug__" : Str)) = false := by decide)
    (he : starEach (e :: es) X.env = (false, eval e X.env) :: starEach es X.env := by rfl) (hpl : (backTo pos (starEach es X.env)).any (·.1) = false := by rfl) :
    PE X (.Call (.Name x p) (e :: es) [] pos) (tCall sp dvs E0 t) := by
  constructor
  intro pins s σ H Q I h
  apply wpAny_Call_Name_kw
  refine ld_glob I hg hm ?_ hdb
  refine PySem.W.callWith_K (h₀ := X.base) I.ok.mod.kin hk ?_ he hpl
  refine thn (ha.run pos pins s σ H _ I h) ?_
  rintro us s1 ⟨vs, H1, I1, r, q⟩
  exact ⟨I1.kIn, goG F c hr hb hd I1 r q⟩
theorem pe_callG0 (F : FnG X.prog X.w X.K X.mg X.base k f fd ps sp) (c : Clr X.A) (hr : Room k X.A) (hg : Gl X x) (hm : X.mg x = some (.ref f)) (hk : PySem.W.keepIn X.K (.ref f) = true)
    (hb : Binds X.K fd ps ds) (hd : Vals dvs ds) (hdb : (x == ("__debug__" : Str)) = false := by decide) : PE X (.Call (.Name x p) [] [] pos) (tCall sp dvs E0 tNil) := by
  constructor
  intro pins s σ H Q I h
  apply wpAny_Call_Name_kw
  refine ld_glob I hg hm ?_ hdb
  exact PySem.W.callWith_K0 I.kIn hk (goG (us := []) F c hr hb hd I .nil h)
end

/-! ### repr of data -/
/-- data that can be shown -/
structure Shw (d : PyData) : Prop where
  ok : d.showable = true
  sz : d.shown.length ≤ sizeLine
def rRepr (K : PySem.W.Frag) : List V → Hp → VK → Prop := fun xs H Q => ∃ x d, xs = [x] ∧ Dp K H x d ∧ Shw d ∧ d.depth ≤ 50 ∧ Q (.str d.shown) H
mutual
theorem dp_noDict {K : PySem.W.Frag} {H : Hp} : ∀ (d : PyData) (v : V), Dp K H v d → d.hasDict = false
  | .none, _, _ => by simp only [PyData.hasDict]
  | .bool _, _, _ => by simp only [PyData.hasDict]
  | .int _, _, _ => by simp only [PyData.hasDict]
  | .str _, _, _ => by simp only [PyData.hasDict]
  | .list ds, _, h => by
    cases h with
    | lst _ ha => simp only [PyData.hasDict]; exact dps_noDict ds _ ha
  | .tuple ds, _, h => by
    cases h with
    | tup _ ha => simp only [PyData.hasDict]; exact dps_noDict ds _ ha
  | .dict _, _, h => by cases h
theorem dps_noDict {K : PySem.W.Frag} {H : Hp} : ∀ (ds : List PyData) (vs : List V), DpAll K H vs ds → PyData.hasDictAll ds = false
  | [], _, _ => by simp only [PyData.hasDictAll]
  | d :: ds, _, h => by
    cases h with
    | cons h1 h2 => simp only [PyData.hasDictAll, dp_noDict d _ h1, dps_noDict ds _ h2, Bool.or_self]
end
section
variable {X : Cx}
theorem call_repr {k : Nat} (c : Clr X.A) (hr : Room k X.A) : CallR X (.builtin "repr") (rRepr X.K) := by
  intro pins s σ H xs us Q I r h
  obtain ⟨x, d, rfl, hd, hs, hdp, q⟩ := h
  cases r with
  | cons r1 r2 =>
    cases r2
    rename_i u
    have nd := dp_noDict d x hd
    obtain ⟨as, rd⟩ := Dp.reads I d x u hd r1
    have fin : ∀ h' t tk, (∀ b o, s.heap.get? b = some o → h'.get? b = some o) → EP X pins σ Q (.str d.shown t) { s with heap := h', toks := tk } :=
      fun h' t tk kp => ⟨.str d.shown, H, I.kept kp, ⟨t, rfl⟩, q⟩
    have un := hr.units
    have room : X.A.units + (d.depth + 1) < cLine := by omega
    cases x with
    | ref a =>
      cases (show u = Value.ref a from r1)
      exact repr_of_reads' (s := s) rd hs.ok (PyData.noDict_hsm nd) c room (fun _ _ e => e) fin hs.sz
    | non =>
      cases (show u = Value.none from r1)
      cases hd
      have e : PyData.shown .none = ("None" : Str) := by simp only [PyData.shown]
      rw [e] at q
      exact PySem.P.repr_of_none ⟨.str _, H, I.tok _, ⟨_, rfl⟩, q⟩
    | bl b =>
      cases (show u = Value.bool b from r1)
      cases hd
      have e : PyData.shown (.bool b) = ((if b then "True" else "False" : String) : Str) := by cases b <;> simp only [PyData.shown] <;> rfl
      rw [e] at q
      cases b <;> exact PySem.P.repr_of_bool ⟨.str _, H, I.tok _, ⟨_, rfl⟩, q⟩
    | int i =>
      obtain ⟨t, rfl⟩ := (show ∃ t, u = Value.int i t from r1)
      cases hd
      have e : PyData.shown (.int i) = ((toString i : String) : Str) := by simp only [PyData.shown]
      have z : i.natAbs.log2 < 1920 := by simpa [PyData.showable] using hs.ok
      rw [e] at q
      exact PySem.P.repr_of_int z ⟨.str _, H, I.tok _, ⟨_, rfl⟩, q⟩
    | str x =>
      obtain ⟨t, rfl⟩ := (show ∃ t, u = Value.str x t from r1)
      cases hd
      have e : PyData.shown (.str x) = reprText x := by simp only [PyData.shown]
      have z := hs.sz
      rw [e] at q z
      exact PySem.P.repr_of_str ⟨.str _, H, I.tok _, ⟨_, rfl⟩, q⟩ z
    | byt _ => cases hd
    | flt _ => cases hd
    | ty _ => cases hd
end

/-! ### slices with a step -/
/-- the places that a slice takes -/
def slIx (n : Nat) (lo hi st : Option Int) : List Nat := sliceRange (sliceBounds lo hi st n).1 (sliceBounds lo hi st n).2.1 (sliceBounds lo hi st n).2.2
def pickV (xs : List V) (lo hi st : Option Int) : List V := (slIx xs.length lo hi st).filterMap (xs[·]?)
theorem vals_pick {xs : List V} {us : List Value} (r : Vals xs us) : ∀ ix : List Nat, Vals (ix.filterMap (xs[·]?)) (ix.filterMap (us[·]?))
  | [] => .nil
  | i :: ix => by
    have ih := vals_pick r ix
    cases e : xs[i]? with
    | none =>
      have e' := r.none_of e
      rw [List.filterMap_cons_none e, List.filterMap_cons_none e']
      exact ih
    | some x =>
      obtain ⟨u, e', ru⟩ := r.get e
      rw [List.filterMap_cons_some e, List.filterMap_cons_some e']
      exact .cons ru ih
def tSl3 (K : PySem.W.Frag) (te : TE) (tl th ts : TO) : TE := fun σ H Q => te σ H fun x H1 => tl σ H1 fun l H2 => th σ H2 fun u H3 => ts σ H3 fun st H4 => ∃ a xs, x = .ref a ∧ SqL K H4 a xs ∧ st ≠ some 0 ∧
  ∀ p, H4 p = none → Q (.ref p) (upd H4 p (.lst (pickV xs l u st)))
section
variable {X : Cx}
theorem pe_slice3 {e : Expr} {te : TE} {lo hi st : Option Expr} {tl th ts : TO} {p2 pos : Pos} (he : PE X e te) (hl : PO X lo tl) (hh : PO X hi th) (hs : PO X st ts)
    (hsub : ∀ ov iv, subscripted (.Slice lo hi st p2) false ov iv = operate [ov, iv] (getItem ov iv) := by intro _ _; with_unfolding_all rfl) : PE X (.Subscript e (.Slice lo hi st p2) pos) (tSl3 X.K te tl th ts) := by
  constructor
  intro pins s σ H Q I h
  refine PyProof.Rows.Subscript_ (thn (he.run pins s σ H _ I h) ?_)
  rintro v s1 ⟨x, H1, I1, r1, q1⟩
  refine wpAny_Slice (thn (hl.run pins s1 σ H1 _ I1 q1) ?_)
  rintro vl s2 ⟨l, H2, I2, pl, q2⟩
  refine thn (hh.run pins s2 σ H2 _ I2 q2) ?_
  rintro vu s3 ⟨u, H3, I3, pu, q3⟩
  refine thn (hs.run pins s3 σ H3 _ I3 q3) ?_
  rintro vs s4 ⟨c, H4, I4, ps, a, xs, ex, hx, h0, q4⟩
  subst ex
  cases r1
  have I5 : Inv X pins σ H4 { s4 with heap := s4.heap.push { cls := .type "slice", data := .fields #[vl, vu, vs] } } := I4.kept (t' := s4.toks) fun b ob q => Heap.get?_push_of_some _ q
  obtain ⟨its, rv, ht, hz⟩ := I5.list hx
  have hlen : its.length = xs.length := rv.length.symm
  show wpAny (model X.prog X.w) X.A (subscriptTail e (.Slice lo hi st p2) (.ref a) (.ref s4.heap.objs.size)) (EP X pins σ Q) X.xe _
  refine tail_any (ops := [.ref a, .ref s4.heap.objs.size]) ht.isList.typeIs PySem.slot_list_getitem.lookup ?_ (hsub _ _)
  refine wpAny_getItem_list_slice ht.isList (Heap.IsSliceOf.new _ vl vu vs) pl pu ps h0 ?_ (by rw [List.size_toArray, hlen]; exact hz)
  have hp : PySem.slicePick its.toArray l u c = ((slIx xs.length l u c).filterMap (its[·]?)).toArray := by
    unfold PySem.slicePick slIx
    rw [List.size_toArray, hlen]
    simp only [List.getElem?_toArray]
  have hn := PySem.slicePick_size_le its.toArray l u c
  rw [hp, List.size_toArray, List.size_toArray, hlen] at hn
  rw [hp]
  refine ⟨.ref _, _, I5.laid (t' := s4.toks) (o := .lst (pickV xs l u c)) (fun b ob q => Heap.get?_push_of_some _ q) (Nat.le_refl _) ?_, rfl, q4 _ (I5.hok.fresh (Nat.le_refl _))⟩
  refine ⟨?_, _, 0, vals_pick rv _, Heap.get?_push_size _ rfl⟩
  have e := (vals_pick rv (slIx xs.length l u c)).length
  show (List.filterMap (fun i => xs[i]?) (slIx xs.length l u c)).length ≤ sizeLine
  rw [e]
  exact Nat.le_trans hn hz
end

/-! ### a call by keywords alone -/
section
variable {X : Cx} {CX : CXT} {k : Nat} {f : Addr} {fd : FuncData} {ps ks : List Str} {sp : Sp} {E : XK} {x : Str} {p pos : Pos} {kws : List Keyword} {tk : TA} {g : List Value → List Value → List Value} {gV : List V → List V → List V}
theorem pe_callK0 (F : FnOk X.prog X.w X.K X.mg X.base CX k f fd ps sp) (hr : Room k X.A) (hg : Gl X x) (hm : X.mg x = some (.ref f)) (hk : PySem.W.keepIn X.K (.ref f) = true) (hb : KBn X.K fd ps 0 ks g gV) (hx : Passes CX X E)
    (hkw : PK X kws tk) (hall : (backToKw pos (keywordEach kws X.env)).all (·.1.isSome) = true := by rfl) (hks : (backToKw pos (keywordEach kws X.env)).filterMap (·.1) = ks := by rfl)
    (hdb : (x == ("__debug__" : Str)) = false := by decide) : PE X (.Call (.Name x p) [] kws pos) (tCallN 0 ks.length sp gV E tNil tk) := by
  constructor
  intro pins s σ H Q I h
  apply wpAny_Call_Name_kw
  refine ld_glob I hg hm ?_ hdb
  have np : ((backTo pos (starEach [] X.env)).any (·.1) || (backToKw pos (keywordEach kws X.env)).any (·.1.isNone)) = false := by
    have z : ∀ l : List (Option Str × Sem Value), l.all (·.1.isSome) = true → l.any (·.1.isNone) = false := by
      intro l hl
      induction l with
      | nil => rfl
      | cons q l ih =>
        simp only [List.all_cons, Bool.and_eq_true] at hl
        simp only [List.any_cons, ih hl.2, Bool.or_false]
        cases e : q.1 with
        | none => rw [e] at hl; exact absurd hl.1 (by decide)
        | some _ => rfl
    rw [z _ hall]; rfl
  refine PySem.W.callWith_KW0 (h₀ := X.base) I.ok.mod.kin hk hall ?_ np
  refine thn (hkw.run pos pins s σ H _ I h) ?_
  rintro ws s1 ⟨zs, H1, I1, rz, _, l2, q⟩
  refine ⟨I1.kIn, ?_⟩
  rw [hks]
  exact run_fnN (us := []) F hr hb hx I1 .nil rz rfl l2 q
end

/-! ### the law's own call -/
/-- the heap that knows of nothing but the script (at a, where it stands apart) -/
def scriptH (own : Bool) (a : Addr) (o : Obj) (ns : List Int) : Hp := fun b => if own = true ∧ b = a then some (.frz o (.lst (ns.map V.int))) else none
theorem scriptH_only (own : Bool) (a : Addr) (o : Obj) (ns : List Int) : Only (scriptH own a o ns) := fun b => by
  unfold scriptH
  split
  · exact Or.inr ⟨_, _, rfl⟩
  · exact Or.inl rfl
theorem scriptH_some {own : Bool} {a b : Addr} {o : Obj} {ns : List Int} {u : HO} (h : scriptH own a o ns b = some u) : own = true ∧ b = a ∧ u = .frz o (.lst (ns.map V.int)) := by
  unfold scriptH at h
  split at h
  · rename_i z; exact ⟨z.1, z.2, (Option.some.inj h).symm⟩
  · cases h
theorem lawG {P : Program} {w : World} {K : PySem.W.Frag} {mg mb : Str → Option Value} {k : Nat} {fa a : Addr} {fd : FuncData} {x : Str} {sp : Sp} {s : Shared} {vs : List Value} {ns : List Int}
    (KX : K.In s.heap) (hm : s.heap.Ns mainGlobals mg) (hb : s.heap.Ns builtinsNs mb) (hbb : ∀ x : Str, x ≠ "__name__" → mb x = bootBuiltins x) (hlim : s.heap.NoLimit) (hg : s.gens = #[])
    (ha : s.heap.get? a = some { cls := .type "list", data := .seq vs.toArray }) (hi : IntsAre vs ns) (hl : ns.length ≤ sizeLine) (hr : Room k callerA)
    (F : ∀ base : Heap, K.In base → base.Ns mainGlobals mg → FnG P w K mg base k fa fd [x] sp) (hbind : ∀ (s : Shared) (u : Value), BindsTo s fd ⟨[u], []⟩ [(x, u)])
    (hsp : ∀ H : Hp, Only H → SqL K H a (ns.map V.int) → sp [.ref a] H (fun v _ => v = .bl true) E0) :
    codeAny (model P w) callerA (.call (.ref fa) ⟨[.ref a], []⟩) (fun r s' => r = .ok (.ret (.bool true)) ∧ OldK s.heap s'.heap ∧ s'.os = s.os ∧ AllBare s'.gens) s := by
  have rv := vals_ints hi
  have lv := hi.length
  -- own: the script is no object of the written part
  have key : ∀ own : Bool, (own = true → K.lookup a = none) → (own = false → ∃ o, K.lookup a = some o) →
      codeAny (model P w) callerA (.call (.ref fa) ⟨[.ref a], []⟩) (fun r s' => r = .ok (.ret (.bool true)) ∧ OldK s.heap s'.heap ∧ s'.os = s.os ∧ AllBare s'.gens) s := by
    intro own h1 h2
    have hO := scriptH_only own a { cls := .type "list", data := .seq vs.toArray } ns
    have hS := fun {b : Addr} {u : HO} => scriptH_some (own := own) (a := a) (b := b) (o := { cls := .type "list", data := .seq vs.toArray }) (ns := ns) (u := u)
    generalize eH : scriptH own a { cls := .type "list", data := .seq vs.toArray } ns = H at hO hS
    have frs0 : ∀ {b : Addr} {o : Obj} {es : Array DictEntry} {n : Nat}, s.heap.get? b = some o → o.data = .dict es n → H b = none := by
      intro b o es n e d
      cases q : H b with
      | none => rfl
      | some u =>
        obtain ⟨_, rfl, _⟩ := hS q
        rw [ha] at e
        cases e
        have d' : Data.seq vs.toArray _ = Data.dict es n := d
        cases d'
    have ns0 : ∀ {b : Addr} {m : Str → Option Value}, s.heap.Ns b m → (hidT s.heap H).Ns b m := by
      rintro b m ⟨o, es, n, e, d, r⟩
      exact ⟨o, es, n, hidT_get e (frs0 e d), d, r⟩
    have K0 : K.In (hidT s.heap H) := by
      intro b o e
      refine hidT_get (KX b o e) ?_
      cases q : H b with
      | none => rfl
      | some u =>
        obtain ⟨z, rfl, _⟩ := hS q
        rw [h1 z] at e
        cases e
    have hok : HOk P w H s.heap := by
      intro b u q
      obtain ⟨_, rfl, rfl⟩ := hS q
      exact ⟨ha, by rw [List.length_map]; exact hl, vs, _, rv, ha⟩
    have M0 : Mod K mg (hidT s.heap H) := by
      refine ⟨K0, ns0 hm, ⟨mb, ns0 hb, hbb⟩, ?_⟩
      obtain ⟨mc, q1, q2⟩ := hlim
      exact ⟨mc, ns0 q1, q2⟩
    have env : Env0 P w K mg (hidT s.heap H) callerA [] s H := by
      refine ⟨rfl, M0, fun b o e => of_hidT e, Nat.le_of_eq (hidT_size _ _), trivial, ?_, hok, .of_eq hg⟩
      intro b hb'
      cases hb'
    have sq : SqL K H a (ns.map V.int) := by
      cases own with
      | true => exact Or.inl (Or.inr ⟨_, by rw [← eH]; exact if_pos ⟨rfl, rfl⟩⟩)
      | false =>
        obtain ⟨o, e⟩ := h2 rfl
        have e' := KX a o e
        rw [ha] at e'
        cases e'
        exact Or.inr ⟨_, vs.toArray, _, e, rfl, rfl, rfl, by rw [List.size_toArray, lv]; exact hl, by simpa using rv⟩
    refine codeAny_mono ((F _ K0 (ns0 hm)).go callerA [] s H [.ref a] ⟨[.ref a], []⟩ [.ref a] _ E0 rfl hr env (hbind s (.ref a)) (.cons rfl .nil) (hsp H hO sq)) ?_
    intro r s' h
    match r, h with
    | .error _, h => exact h.elim
    | .ok .next, h => exact h.elim
    | .ok .brk, h => exact h.elim
    | .ok .cont, h => exact h.elim
    | .ok (.ret u), h =>
      obtain ⟨v, H', os, bare, un, hok', r', q⟩ := h
      cases (show v = .bl true from q)
      cases (show u = Value.bool true from r')
      refine ⟨rfl, OldK.of_keep ?_, os, bare⟩
      intro b o e
      cases q : H b with
      | none => exact un.keep b o e q (fun z => nomatch z) (fun z => nomatch z)
      | some u =>
        obtain ⟨_, rfl, rfl⟩ := hS q
        rw [ha] at e
        cases e
        obtain ⟨e2, _⟩ := hok' b _ (un.frzs b _ _ q)
        exact e2
  cases hk : K.lookup a with
  | some o => exact key false (fun z => Bool.noConfusion z) (fun _ => ⟨o, hk⟩)
  | none => exact key true (fun _ => hk) (fun z => Bool.noConfusion z)
theorem walkG {l : PySem.W.OpenLaw} {n k : Nat} {q : Program} {loose : List Str} {XP : (Str → Option Value) → Heap → Prop} {YP : World → Heap → Prop} {d : DefRec} {K : Params → PySem.W.Frag} {sp : PySem.W.Frag → Sp} {x : Str}
    (hn : l.most = some n) (hn2 : n ≤ sizeLine) (hdf : d.params.defaults = []) (hr : Room k callerA) (hY : ∀ (w : World) (h : Heap), YP w h → (K w.params).In h)
    (F : ∀ (w : World) (mg : Str → Option Value) (fa : Addr) (h : Heap), (K w.params).In h → h.Ns mainGlobals mg → mg d.name = some (.ref fa) →
      ∃ fd : FuncData, (∀ (s : Shared) (u : Value), BindsTo s fd ⟨[u], []⟩ [(x, u)]) ∧
        ∀ base : Heap, (K w.params).In base → base.Ns mainGlobals mg → FnG l.prog w (K w.params) mg base k fa fd [x] (sp (K w.params)))
    (hsp : ∀ (K : PySem.W.Frag) (H : Hp) (a : Addr) (ns : List Int), ns.length ≤ n → (∀ z ∈ ns, Builtin.Int.intBits z ≤ 1048576) → SqL K H a (ns.map V.int) → sp K [.ref a] H (fun v _ => v = .bl true) E0) :
    PySem.W.WalkO q loose XP YP l.row.toRowW d [] (fun f vs => PySem.call f vs) := by
  apply Att.attach_callB hn hdf
  intro w s0 s1 mg mb fa o pm cd doc a vs ns G Y ho hd hcd hmg hobj hints hlen hbits hg
  have KX := hY w _ Y
  obtain ⟨fd, hb, hF⟩ := F w mg fa _ KX G.T.g hmg
  exact lawG KX G.T.g G.T.b G.T.builtins G.T.nolimit hg hobj hints (Nat.le_trans hlen hn2) hr hF hb fun H _ hS => hsp _ H a ns hlen hbits hS
end Rs

namespace Rs
open PySem PySem.Spec PyProof.Rows L2

/-! ### what is known of the heap -/
abbrev Led := List (Addr × HO)
/-- H0: the heap at the entry; M: the objects of it that may have changed; L: what stands now -/
structure Hs (H0 : Hp) (M : List Addr) (H : Hp) (L : Led) : Prop where
  nd : (L.map (·.1)).Nodup
  is : ∀ q ∈ L, H q.1 = some q.2
  old : ∀ b o, H0 b = some o → b ∉ M → H b = some o
  mu : ∀ b ∈ M, H b ≠ none
/-- one entry exchanged -/
inductive Chg (a : Addr) (o o' : HO) : Led → Led → Prop where
  | here {L : Led} : Chg a o o' ((a, o) :: L) ((a, o') :: L)
  | there {q : Addr × HO} {L L' : Led} : Chg a o o' L L' → Chg a o o' (q :: L) (q :: L')
theorem Chg.keys {a : Addr} {o o' : HO} {L L' : Led} (c : Chg a o o' L L') : L'.map (·.1) = L.map (·.1) := by
  induction c with
  | here => rfl
  | there _ ih => simp only [List.map_cons, ih]
theorem Chg.mem {a : Addr} {o o' : HO} {L L' : Led} (c : Chg a o o' L L') : (a, o) ∈ L := by
  induction c with
  | here => exact List.mem_cons_self
  | there _ ih => exact List.mem_cons_of_mem _ ih
theorem Chg.of {a : Addr} {o o' : HO} {L L' : Led} (c : Chg a o o' L L') (nd : (L.map (·.1)).Nodup) : ∀ q ∈ L', q = (a, o') ∨ (q ∈ L ∧ q.1 ≠ a) := by
  induction c with
  | @here L =>
    intro q hq
    rcases List.mem_cons.mp hq with e | hq
    · exact Or.inl e
    · refine Or.inr ⟨List.mem_cons_of_mem _ hq, ?_⟩
      intro e
      simp only [List.map_cons, List.nodup_cons] at nd
      exact nd.1 (e ▸ List.mem_map_of_mem hq)
  | @there p L L' c ih =>
    intro q hq
    simp only [List.map_cons, List.nodup_cons] at nd
    rcases List.mem_cons.mp hq with e | hq
    · subst e
      refine Or.inr ⟨List.mem_cons_self, ?_⟩
      intro e
      exact nd.1 (e ▸ List.mem_map_of_mem (f := (·.1)) c.mem)
    · rcases ih nd.2 q hq with e | ⟨h1, h2⟩
      · exact Or.inl e
      · exact Or.inr ⟨List.mem_cons_of_mem _ h1, h2⟩
section
variable {H0 H H' : Hp} {M : List Addr} {L L' : Led} {a : Addr} {o o' : HO}
theorem Hs.new (S : Hs H0 M H L) (hp : H a = none) (o : HO) : H0 a = none ∧ Hs H0 M (upd H a o) ((a, o) :: L) := by
  have n0 : H0 a = none := by
    cases e : H0 a with
    | none => rfl
    | some u =>
      by_cases hm : a ∈ M
      · exact absurd hp (S.mu a hm)
      · have := S.old a u e hm
        rw [hp] at this
        cases this
  have ne : ∀ q ∈ L, q.1 ≠ a := fun q hq e => by
    have := S.is q hq
    rw [e, hp] at this
    cases this
  refine ⟨n0, ?_, ?_, ?_, ?_⟩
  · simp only [List.map_cons, List.nodup_cons]
    refine ⟨fun hm => ?_, S.nd⟩
    obtain ⟨q, hq, e⟩ := List.mem_map.mp hm
    exact ne q hq e
  · intro q hq
    rcases List.mem_cons.mp hq with e | hq
    · subst e; exact upd_same
    · rw [upd_ne (ne q hq)]; exact S.is q hq
  · intro b u e hm
    have hb : b ≠ a := fun z => by rw [z, n0] at e; cases e
    rw [upd_ne hb]
    exact S.old b u e hm
  · intro b hb
    unfold upd
    split
    · simp
    · exact S.mu b hb
theorem Hs.put (S : Hs H0 M H L) (c : Chg a o o' L L') (hm : H0 a = none ∨ a ∈ M) : Hs H0 M (upd H a o') L' := by
  refine ⟨by rw [c.keys]; exact S.nd, ?_, ?_, ?_⟩
  · intro q hq
    rcases c.of S.nd q hq with e | ⟨h1, h2⟩
    · subst e; exact upd_same
    · rw [upd_ne h2]; exact S.is q h1
  · intro b u e hb
    have ne : b ≠ a := fun z => by
      subst z
      rcases hm with z | z
      · rw [z] at e; cases e
      · exact hb z
    rw [upd_ne ne]
    exact S.old b u e hb
  · intro b hb
    unfold upd
    split
    · simp
    · exact S.mu b hb
/-- behind a call that changed at most the objects of C (each fresh or in M), and left L' -/
theorem Hs.call (S : Hs H0 M H L) {C : List Addr} (k : ∀ b u, H b = some u → b ∉ C → H' b = some u) (hC : ∀ b ∈ C, (H0 b = none ∨ b ∈ M) ∧ H' b ≠ none) (nd : (L'.map (·.1)).Nodup)
    (is : ∀ q ∈ L', H' q.1 = some q.2) : Hs H0 M H' L' := by
  refine ⟨nd, is, ?_, ?_⟩
  · intro b u e hb
    refine k b u (S.old b u e hb) fun hc => ?_
    rcases (hC b hc).1 with z | z
    · rw [z] at e; cases e
    · exact hb z
  · intro b hb
    by_cases hc : b ∈ C
    · exact (hC b hc).2
    · intro z
      cases e : H b with
      | none => exact S.mu b hb e
      | some u =>
        rw [k b u e hc] at z
        cases z
/-- nothing was changed -/
theorem Hs.more (S : Hs H0 M H L) (k : Same H H') : Hs H0 M H' L :=
  S.call (C := []) (fun b u e _ => k b u e) (fun b hb => nomatch hb) S.nd fun q hq => k _ _ (S.is q hq)
/-- nothing was changed, one object is new -/
theorem Hs.more1 (S : Hs H0 M H L) (k : Same H H') (hp : H a = none) (h' : H' a = some o) : H0 a = none ∧ Hs H0 M H' ((a, o) :: L) := by
  obtain ⟨n0, S'⟩ := S.new hp o
  refine ⟨n0, (S.more k).call (C := []) (fun b u e _ => e) (fun b hb => nomatch hb) S'.nd ?_⟩
  intro q hq
  rcases List.mem_cons.mp hq with e | hq
  · subst e; exact h'
  · exact k _ _ (S.is q hq)
/-- one object was changed, to o' -/
theorem Hs.one (S : Hs H0 M H L) (c : Chg a o o' L L') (hm : H0 a = none ∨ a ∈ M) (k : ∀ b u, H b = some u → b ≠ a → H' b = some u) (h' : H' a = some o') : Hs H0 M H' L' := by
  have S' := S.put c hm
  refine S.call (C := [a]) (fun b u e hb => k b u e fun z => hb (by simp [z])) ?_ S'.nd ?_
  · intro b hb
    have e : b = a := by simpa using hb
    subst e
    exact ⟨hm, by rw [h']; simp⟩
  · intro q hq
    rcases c.of S.nd q hq with e | ⟨h1, h2⟩
    · subst e; exact h'
    · exact k _ _ (S.is q h1) h2
/-- one object was changed, one is new -/
theorem Hs.one1 {p : Addr} {u : HO} (S : Hs H0 M H L) (c : Chg a o o' L L') (hm : H0 a = none ∨ a ∈ M) (k : ∀ b u, H b = some u → b ≠ a → H' b = some u) (h' : H' a = some o') (hp : H p = none) (hp' : H' p = some u) : H0 p = none ∧ Hs H0 M H' ((p, u) :: L') := by
  have S' := S.one c hm k h'
  have S2 := S.new hp u
  refine ⟨S2.1, ?_, ?_, S'.old, S'.mu⟩
  · simp only [List.map_cons, List.nodup_cons]
    refine ⟨fun hq => ?_, S'.nd⟩
    rw [c.keys] at hq
    obtain ⟨q, hq, e⟩ := List.mem_map.mp hq
    have := S.is q hq
    rw [e, hp] at this
    cases this
  · intro q hq
    rcases List.mem_cons.mp hq with e | hq
    · subst e; exact hp'
    · exact S'.is q hq
theorem Hs.sub (S : Hs H0 M H L) (h : L'.Sublist L) : Hs H0 M H L' := ⟨S.nd.sublist (h.map _), fun q hq => S.is q (h.subset hq), S.old, S.mu⟩
theorem Hs.start (H : Hp) (M : List Addr) (L : Led) (nd : (L.map (·.1)).Nodup) (is : ∀ q ∈ L, H q.1 = some q.2) (hM : ∀ b ∈ M, H b ≠ none) : Hs H M H L := ⟨nd, is, fun b u e _ => e, hM⟩
theorem Hs.start0 (H : Hp) : Hs H [] H [] := ⟨List.nodup_nil, fun q hq => (nomatch hq), fun b u e _ => e, fun b hb => nomatch hb⟩
theorem Hs.start1 {H : Hp} {a : Addr} {o : HO} (h : H a = some o) (M : List Addr) (hM : M = [] ∨ M = [a]) : Hs H M H [(a, o)] := by
  refine ⟨by simp, fun q hq => ?_, fun b u e _ => e, fun b hb => ?_⟩
  · have e : q = (a, o) := by simpa using hq
    subst e; exact h
  · rcases hM with rfl | rfl
    · cases hb
    · have e : b = a := by simpa using hb
      subst e; rw [h]; simp
theorem Hs.get (S : Hs H0 M H L) (m : (a, o) ∈ L) : H a = some o := S.is _ m
theorem Hs.old1 {d b : Addr} {u : HO} (S : Hs H0 [d] H L) (e : H0 b = some u) (hb : b ≠ d) : H b = some u := S.old b u e (by simpa using hb)
theorem Hs.same (S : Hs H0 [] H L) : Same H0 H := fun b o e => S.old b o e (fun z => nomatch z)
theorem Hs.lst {K : PySem.W.Frag} {xs : List V} (S : Hs H0 M H L) (m : (a, HO.lst xs) ∈ L) : SqL K H a xs := SqL.of (S.is _ m)
theorem Hs.tup {K : PySem.W.Frag} {xs : List V} (S : Hs H0 M H L) (m : (a, HO.tup xs) ∈ L) : SqT K H a xs := SqT.of (S.is _ m)
/-- the script, or what else stands in the written part, at a list -/
theorem Hs.sq {K : PySem.W.Frag} {xs : List V} (S : Hs H0 M H L) (h : SqL K H0 a xs) (hm : a ∉ M) : SqL K H a xs := by
  rcases h with (h | ⟨u, h⟩) | h
  · exact Or.inl (Or.inl (S.old _ _ h hm))
  · exact Or.inl (Or.inr ⟨u, S.old _ _ h hm⟩)
  · exact Or.inr h
end

/-! ### readings, step by step -/
/-- the slots at the entry -/
def stV : List Str → List V → L2.St
  | [], _ => []
  | _ :: N, vs => vs.head? :: stV N vs.tail
theorem start_eq : ∀ (N : List Str) (vs : List V), vs.length ≤ N.length → L2.start N vs = stV N vs
  | [], [], _ => by simp [L2.start, stV]
  | [], v :: vs, h => by simp at h
  | n :: N, [], _ => by
    have ih := start_eq N [] (Nat.zero_le _)
    simp only [stV, List.tail_nil, ← ih]
    simp [L2.start, List.replicate_succ]
  | n :: N, v :: vs, h => by
    have ih := start_eq N vs (by simpa using h)
    simp only [stV, List.tail_cons, ← ih]
    simp [L2.start]
section
variable {σ : L2.St} {H H0 : Hp} {M : List Addr} {L L' : Led} {Q : VK} {v x y : V} {nx : L2.St → Hp → Prop} {rt : VK} {bk ct : L2.St → Hp → Prop} {t u : TS} {te ta tb tc : TE} {g : TG} {tt tu : TT} {r r' : R2} {A B : Prop}
theorem rd_start {t : TS} {D : Ends} {N : List Str} {vs : List V} (h : t D (stV N vs) H) (hl : vs.length ≤ N.length := by exact Nat.le_of_ble_eq_true rfl) : t D (L2.start N vs) H := by rw [start_eq N vs hl]; exact h
theorem rd_seq (h : t ⟨fun σ H => u ⟨nx, rt, bk, ct⟩ σ H, rt, bk, ct⟩ σ H) : tSeq t u ⟨nx, rt, bk, ct⟩ σ H := h
theorem rd_asg (h : te σ H fun x H1 => g x σ H1 nx) : tAsg te g ⟨nx, rt, bk, ct⟩ σ H := h
theorem rd_name {i : Nat} {σ' : L2.St} {N : L2.St → Hp → Prop} (e : σ.set i (some v) = σ') (h : N σ' H) : gName i v σ H N := by subst e; exact h
theorem rd_ret (h : te σ H rt) : tRet te ⟨nx, rt, bk, ct⟩ σ H := h
theorem rd_retN (h : rt .non H) : tRetN ⟨nx, rt, bk, ct⟩ σ H := h
theorem rd_drop (h : te σ H fun _ H1 => nx σ H1) : tDrop te ⟨nx, rt, bk, ct⟩ σ H := h
theorem rd_next (h : nx σ H) : tNext ⟨nx, rt, bk, ct⟩ σ H := h
theorem rd_ifS (h : tt σ H fun b H1 => if b = true then t ⟨nx, rt, bk, ct⟩ σ H1 else u ⟨nx, rt, bk, ct⟩ σ H1) : tIfS tt t u ⟨nx, rt, bk, ct⟩ σ H := h
theorem rd_par {i j : Nat} {ta : TA} (h : ta σ H fun vs H1 => ∃ v w, vs = [v, w] ∧ nx ((σ.set i (some v)).set j (some w)) H1) : tPar i j ta ⟨nx, rt, bk, ct⟩ σ H := h
theorem rd_par3 {i j l : Nat} {ta : TA} (h : ta σ H fun vs H1 => ∃ u v w, vs = [u, v, w] ∧ nx (((σ.set i (some u)).set j (some v)).set l (some w)) H1) : tPar3 i j l ta ⟨nx, rt, bk, ct⟩ σ H := h
theorem rd_two {R : V → V → Prop} (h : R x y) : ∃ v w, [x, y] = [v, w] ∧ R v w := ⟨_, _, rfl, h⟩
theorem rd_three {z : V} {R : V → V → V → Prop} (h : R x y z) : ∃ u v w, [x, y, z] = [u, v, w] ∧ R u v w := ⟨_, _, _, rfl, h⟩
theorem rd_var {i : Nat} (e : σ[i]? = some (some v)) (h : Q v H) : tVar i σ H Q := ⟨v, e, h⟩
theorem rd_c (h : Q v H) : tC v σ H Q := h
theorem rd_op (h : ta σ H fun x H1 => tb σ H1 fun y H2 => r x y H2 Q) : tOp r ta tb σ H Q := h
theorem rd_un {r : V → Hp → VK → Prop} (h : ta σ H fun x H1 => r x H1 Q) : tUn r ta σ H Q := h
theorem rd_I0 {f : Int → Int → V} {i j : Int} (h : Q (f i j) H) : rI0 f (.int i) (.int j) H Q := ⟨i, j, rfl, rfl, h⟩
theorem rd_I {C : Int → Int → Prop} {f : Int → Int → V} {i j : Int} (hc : C i j) (h : Q (f i j) H) : rI C f (.int i) (.int j) H Q := ⟨i, j, rfl, rfl, hc, h⟩
theorem rd_U {f : Int → V} {i : Int} (h : Q (f i) H) : rU f (.int i) H Q := ⟨i, rfl, h⟩
theorem rd_eqI {i j : Int} (h : Q (.bl (decide (i = j))) H) : rEq (.int i) (.int j) H Q := by
  refine ⟨rfl, ?_⟩
  have e : decide (V.int i = V.int j) = decide (i = j) := by simp
  rw [e]; exact h
theorem rd_neI {i j : Int} (h : Q (.bl (decide (¬ i = j))) H) : rNe (.int i) (.int j) H Q := by
  refine ⟨rfl, ?_⟩
  have e : (!decide (V.int i = V.int j)) = decide (¬ i = j) := by simp
  rw [e]; exact h
theorem rd_eqS {i j : Str} (h : Q (.bl (decide (i = j))) H) : rEq (.str i) (.str j) H Q := by
  refine ⟨rfl, ?_⟩
  have e : decide (V.str i = V.str j) = decide (i = j) := by simp
  rw [e]; exact h
theorem rd_neS {i j : Str} (h : Q (.bl (decide (¬ i = j))) H) : rNe (.str i) (.str j) H Q := by
  refine ⟨rfl, ?_⟩
  have e : (!decide (V.str i = V.str j)) = decide (¬ i = j) := by simp
  rw [e]; exact h
theorem rd_eqB {i j : Bool} (h : Q (.bl (decide (i = j))) H) : rEq (.bl i) (.bl j) H Q := by
  refine ⟨rfl, ?_⟩
  have e : decide (V.bl i = V.bl j) = decide (i = j) := by simp
  rw [e]; exact h
theorem rd_test {Q : Bool → Hp → Prop} (h : te σ H fun x H' => ∃ k, x = .bl k ∧ Q k H') : tTest te σ H Q := h
theorem rd_tB {Q : Bool → Hp → Prop} (h : te σ H fun x H' => ∃ k, x = .bl k ∧ Q k H') : tB te σ H Q := h
theorem rd_bl {b : Bool} {R : Bool → Prop} (h : R b) : ∃ k, V.bl b = .bl k ∧ R k := ⟨b, rfl, h⟩
theorem rd_and {Q : Bool → Hp → Prop} (h : tt σ H fun c H1 => if c = true then tu σ H1 Q else Q false H1) : tAnd tt tu σ H Q := h
theorem rd_or {Q : Bool → Hp → Prop} (h : tt σ H fun c H1 => if c = true then Q true H1 else tu σ H1 Q) : tOr tt tu σ H Q := h
theorem rd_not {Q : Bool → Hp → Prop} (h : tt σ H fun c H1 => Q (!c) H1) : tNot tt σ H Q := h
theorem rd_andV (h : ta σ H fun x H1 => ∃ c, x = .bl c ∧ if c = true then tb σ H1 Q else Q (.bl false) H1) : tAndV ta tb σ H Q := h
theorem rd_orV (h : ta σ H fun x H1 => ∃ c, x = .bl c ∧ if c = true then Q (.bl true) H1 else tb σ H1 Q) : tOrV ta tb σ H Q := h
theorem rd_notV (h : ta σ H fun x H1 => ∃ c, x = .bl c ∧ Q (.bl (!c)) H1) : tNotV ta σ H Q := h
theorem rd_if (h : tt σ H fun c H1 => if c = true then ta σ H1 Q else tb σ H1 Q) : tIf tt ta tb σ H Q := h
theorem rd_cons {tr : TA} {Q : List V → Hp → Prop} (h : te σ H fun x H1 => tr σ H1 fun xs H2 => Q (x :: xs) H2) : tCons te tr σ H Q := h
theorem rd_nil {Q : List V → Hp → Prop} (h : Q [] H) : tNil σ H Q := h
/-- what is wanted of a new object -/
def nw (Q : VK) (H : Hp) (o : HO) : Prop := ∀ p, H p = none → Q (.ref p) (upd H p o)
def nwL (Q : VK) (H : Hp) (xs : List V) : Prop := xs.length ≤ sizeLine ∧ nw Q H (.lst xs)
def nwT (Q : VK) (H : Hp) (xs : List V) : Prop := xs.length ≤ sizeLine ∧ nw Q H (.tup xs)
theorem rd_tup {ta : TA} (h : ta σ H fun xs H1 => nwT Q H1 xs) : tTup ta σ H Q := h
theorem rd_lst {ta : TA} (h : ta σ H fun xs H1 => nwL Q H1 xs) : tLst ta σ H Q := h
theorem rd_cb {r : List V → Hp → VK → Prop} {ta : TA} (h : ta σ H fun vs H1 => r vs H1 Q) : tCB r ta σ H Q := h
theorem rd_call {sp : Sp} {dvs : List V} {E : XK} {ta : TA} (h : ta σ H fun vs H1 => sp (vs ++ dvs) H1 Q E) : tCall sp dvs E ta σ H Q := h
theorem rd_call0 {sp : Sp} {E : XK} {ta : TA} (h : ta σ H fun vs H1 => sp vs H1 Q E) : tCall sp [] E ta σ H Q := by
  have e : (fun (vs : List V) H1 => sp (vs ++ []) H1 Q E) = fun vs H1 => sp vs H1 Q E := by funext vs H1; rw [List.append_nil]
  show ta σ H (fun vs H1 => sp (vs ++ []) H1 Q E)
  rw [e]; exact h
theorem rd_callN {n m : Nat} {sp : Sp} {gV : List V → List V → List V} {E : XK} {ta tk : TA} (h : ta σ H fun vs H1 => tk σ H1 fun zs H2 => vs.length = n ∧ zs.length = m ∧ sp (gV vs zs) H2 Q E) : tCallN n m sp gV E ta tk σ H Q := h
theorem rd_chain (h : ta σ H fun x H1 => tb σ H1 fun y H2 => r x y H2 fun z H3 => ∃ k, z = .bl k ∧ (if k = true then tc σ H3 fun w H4 => r' y w H4 Q else Q (.bl false) H3)) : tChain r r' ta tb tc σ H Q := h
theorem rd_bits (h : te σ H fun x H1 => ∃ i, x = .int i ∧ Q (.int (Builtin.Int.intBits i : Nat)) H1) : tBits te σ H Q := h
theorem rd_int1 {i : Int} {R : Int → Prop} (h : R i) : ∃ j, V.int i = .int j ∧ R j := ⟨i, rfl, h⟩
theorem rd_int2 {i j : Int} {R : Int → Int → Prop} (h : R i j) : ∃ i' j', [V.int i, V.int j] = [.int i', .int j'] ∧ R i' j' := ⟨i, j, rfl, h⟩
theorem rd_dget {td ty : TE} (h : td σ H fun x H1 => ty σ H1 fun y H2 => ∃ a v, x = .ref a ∧ DGet H2 a y (some v) ∧ Q v H2) : tDGet td ty σ H Q := h
theorem rd_dput {td ty tv : TE} (h : tv σ H fun v H1 => td σ H1 fun x H2 => ty σ H2 fun y H3 => ∃ a H4, x = .ref a ∧ DPut H3 a y v H4 ∧ nx σ H4) : sDPut td ty tv ⟨nx, rt, bk, ct⟩ σ H := h
theorem rd_slice3 {K : PySem.W.Frag} {tl th ts : TO} (h : te σ H fun x H1 => tl σ H1 fun l H2 => th σ H2 fun u H3 => ts σ H3 fun st H4 => ∃ a xs, x = .ref a ∧ SqL K H4 a xs ∧ st ≠ some 0 ∧ nw Q H4 (.lst (pickV xs l u st))) : tSl3 K te tl th ts σ H Q := h
theorem rd_sl {r : V → Option Int → Option Int → Hp → VK → Prop} {tl th : TO} (h : te σ H fun x H1 => tl σ H1 fun l H2 => th σ H2 fun u H3 => r x l u H3 Q) : tSl r te tl th σ H Q := h
theorem rd_noPart {Q : Option Int → Hp → Prop} (h : Q none H) : tNoPart σ H Q := h
theorem rd_part {Q : Option Int → Hp → Prop} (h : te σ H fun x H1 => ∃ i, x = .int i ∧ Q (some i) H1) : tPart te σ H Q := h
theorem sz {n : Nat} (h : n ≤ 1000000) : n ≤ sizeLine := Nat.le_trans h (by decide)
theorem sz' {n : Nat} (h : n ≤ 1000000) : n < sizeLine := Nat.lt_of_le_of_lt h (by decide)
theorem rd_mod {i j : Int} (hj : 0 < j) (h : ∀ r, r = i % j → 0 ≤ r → r < j → Q (.int r) H) : rI (fun _ j => 0 < j) (fun i j => .int (i % j)) (.int i) (.int j) H Q :=
  ⟨i, j, rfl, rfl, hj, h _ rfl (Int.emod_nonneg _ (by omega)) (Int.emod_lt_of_pos _ hj)⟩
theorem rd_div {i j : Int} (hj : 0 < j) (hb : j < 2 ^ 64) (h : Q (.int (i / j)) H) : rI CDivW (fun i j => .int (i / j)) (.int i) (.int j) H Q :=
  ⟨i, j, rfl, rfl, wide_div (b := 64) hj (by omega) (by decide) (by decide), h⟩
theorem rd_mulL {i j : Int} (h0 : -(2 ^ 64) < i) (h1 : i < 2 ^ 64) (h : Q (.int (i * j)) H) : rI CMul (fun i j => .int (i * j)) (.int i) (.int j) H Q := ⟨i, j, rfl, rfl, .inl ⟨h0, h1⟩, h⟩
theorem rd_mulR {i j : Int} (h0 : -(2 ^ 64) < j) (h1 : j < 2 ^ 64) (h : Q (.int (i * j)) H) : rI CMul (fun i j => .int (i * j)) (.int i) (.int j) H Q := ⟨i, j, rfl, rfl, .inr ⟨h0, h1⟩, h⟩
theorem rd_pow {f : Int → Int → V} {i j : Int} (h0 : 0 ≤ j) (h1 : j ≤ 1000000) (h2 : i.natAbs < 2 ^ 64) (h : Q (f i j) H) : rI CPow f (.int i) (.int j) H Q := ⟨i, j, rfl, rfl, ⟨h0, h1, h2⟩, h⟩
/-! tests -/
theorem rd_dec {p : Prop} [Decidable p] (h1 : p → A) (h2 : ¬ p → B) : if decide p = true then A else B := by
  by_cases h : p
  · rw [if_pos (decide_eq_true h)]; exact h1 h
  · rw [if_neg (by simp [h])]; exact h2 h
theorem rd_decT {p : Prop} [Decidable p] (h : p) (h1 : A) : if decide p = true then A else B := by rw [if_pos (decide_eq_true h)]; exact h1
theorem rd_decF {p : Prop} [Decidable p] (h : ¬ p) (h1 : B) : if decide p = true then A else B := by rw [if_neg (by simp [h])]; exact h1
theorem rd_ite {b : Bool} (h1 : b = true → A) (h2 : b = false → B) : if b = true then A else B := by
  cases b with
  | true => rw [if_pos rfl]; exact h1 rfl
  | false => rw [if_neg Bool.false_ne_true]; exact h2 rfl
theorem rd_iteT (h : A) : if true = true then A else B := by rw [if_pos rfl]; exact h
theorem rd_iteF (h : B) : if false = true then A else B := by rw [if_neg Bool.false_ne_true]; exact h
theorem rd_ndec {p : Prop} [Decidable p] (h1 : ¬ p → A) (h2 : p → B) : if (!decide p) = true then A else B := by
  by_cases h : p
  · rw [if_neg (by simp [h])]; exact h2 h
  · rw [if_pos (by simp [h])]; exact h1 h
theorem rd_ndecT {p : Prop} [Decidable p] (h : p) (h2 : B) : if (!decide p) = true then A else B := by rw [if_neg (by simp [h])]; exact h2
theorem rd_ndecF {p : Prop} [Decidable p] (h : ¬ p) (h1 : A) : if (!decide p) = true then A else B := by rw [if_pos (by simp [h])]; exact h1
theorem rd_nT (h : B) : if (!true) = true then A else B := by rw [if_neg (by decide)]; exact h
theorem rd_nF (h : A) : if (!false) = true then A else B := by rw [if_pos (by decide)]; exact h
/-! with the ledger -/
theorem rd_newL {xs : List V} (S : Hs H0 M H L) (hz : xs.length ≤ sizeLine) (h : ∀ p H', H0 p = none → Hs H0 M H' ((p, .lst xs) :: L) → Q (.ref p) H') : nwL Q H xs :=
  ⟨hz, fun p hp => h p _ (S.new hp (.lst xs)).1 (S.new hp (.lst xs)).2⟩
theorem rd_newT {xs : List V} (S : Hs H0 M H L) (hz : xs.length ≤ sizeLine) (h : ∀ p H', H0 p = none → Hs H0 M H' ((p, .tup xs) :: L) → Q (.ref p) H') : nwT Q H xs :=
  ⟨hz, fun p hp => h p _ (S.new hp (.tup xs)).1 (S.new hp (.tup xs)).2⟩
theorem rd_newO {o : HO} (S : Hs H0 M H L) (h : ∀ p H', H0 p = none → Hs H0 M H' ((p, o) :: L) → Q (.ref p) H') : nw Q H o :=
  fun p hp => h p _ (S.new hp o).1 (S.new hp o).2
theorem rd_ixL {K : PySem.W.Frag} {a : Addr} {xs : List V} {i : Int} (S : Hs H0 M H L) (m : (a, HO.lst xs) ∈ L) (e : atI xs i = some v) (h : Q v H) : rIxL K (.ref a) (.int i) H Q := ⟨a, xs, i, v, rfl, rfl, S.lst m, e, h⟩
theorem atI_any {α : Type} {xs : List α} {i : Int} (h0 : 0 ≤ i) (h1 : i < xs.length) : ∃ v, v ∈ xs ∧ xs[i.toNat]? = some v ∧ atI xs i = some v := by
  have hl : i.toNat < xs.length := by omega
  have e : xs[i.toNat]? = some xs[i.toNat] := by simp [hl]
  refine ⟨xs[i.toNat], List.getElem_mem hl, e, ?_⟩
  have z : ((i.toNat : Nat) : Int) = i := by omega
  have q := atI_nat e
  rw [z] at q
  exact q
theorem rd_ixAny {K : PySem.W.Frag} {a : Addr} {xs : List V} {i : Int} (S : Hs H0 M H L) (m : (a, HO.lst xs) ∈ L) (h0 : 0 ≤ i) (h1 : i < xs.length) (h : ∀ v, v ∈ xs → xs[i.toNat]? = some v → Q v H) : rIxL K (.ref a) (.int i) H Q := by
  obtain ⟨v, hv, e, he⟩ := atI_any h0 h1
  exact ⟨a, xs, i, v, rfl, rfl, S.lst m, he, h v hv e⟩
theorem rd_ixT {K : PySem.W.Frag} {a : Addr} {xs : List V} {i : Int} (S : Hs H0 M H L) (m : (a, HO.tup xs) ∈ L) (e : atI xs i = some v) (h : Q v H) : rIxT K (.ref a) (.int i) H Q := ⟨a, xs, i, v, rfl, rfl, S.tup m, e, h⟩
theorem rd_len {K : PySem.W.Frag} {a : Addr} {xs : List V} (S : Hs H0 M H L) {R : List V → Prop} (m : (a, HO.lst xs) ∈ L) (h : R xs) : ∃ p ys, [V.ref a] = [.ref p] ∧ (SqL K H p ys ∨ SqT K H p ys) ∧ R ys := ⟨a, xs, rfl, Or.inl (S.lst m), h⟩
theorem rd_lenT {K : PySem.W.Frag} {a : Addr} {xs : List V} (S : Hs H0 M H L) {R : List V → Prop} (m : (a, HO.tup xs) ∈ L) (h : R xs) : ∃ p ys, [V.ref a] = [.ref p] ∧ (SqL K H p ys ∨ SqT K H p ys) ∧ R ys := ⟨a, xs, rfl, Or.inr (S.tup m), h⟩
theorem rd_getS {a : Addr} {kvs : List (Key × V)} {k : Str} (S : Hs H0 M H L) (m : (a, HO.dK kvs) ∈ L) (e : valV kvs (.inr k) = some v) {R : V → Prop} (h : R v) : ∃ a' v', V.ref a = .ref a' ∧ DGet H a' (.str k) (some v') ∧ R v' :=
  ⟨a, v, rfl, by rw [← e]; exact DGet.k (k := Sum.inr k) (S.is _ m), h⟩
theorem rd_putS {a : Addr} {kvs kvs' : List (Key × V)} {k : Str} {R : Hp → Prop} (S : Hs H0 M H L) (c : Chg a (.dK kvs) (.dK kvs') L L') (hm : H0 a = none ∨ a ∈ M) (hl : kvs.length < sizeLine) (e : putK kvs (.inr k) v = kvs')
    (h : ∀ H', Hs H0 M H' L' → R H') : ∃ a' H4, V.ref a = .ref a' ∧ DPut H a' (.str k) v H4 ∧ R H4 := by
  subst e
  exact ⟨a, _, rfl, DPut.k (k := Sum.inr k) (S.is _ c.mem) hl, h _ (S.put c hm)⟩
theorem gt_ref {K : PySem.W.Frag} {a : Addr} {xs : List V} {n : Nat} {ts : TGs} {N : L2.St → Hp → Prop} (S : Hs H0 M H L) (m : (a, HO.tup xs) ∈ L) (hn : xs.length = n) (h : ts xs σ H N) : gTup K n ts (.ref a) σ H N := ⟨a, xs, rfl, S.tup m, hn, h⟩
theorem gt_cons {ts : TGs} {w : V} {vs : List V} {N : L2.St → Hp → Prop} (h : g w σ H fun σ' H' => ts vs σ' H' N) : gCons g ts (w :: vs) σ H N := ⟨w, vs, rfl, h⟩
theorem gt_nil {N : L2.St → Hp → Prop} (h : N σ H) : gNil [] σ H N := ⟨rfl, h⟩
end
/-! ### a def as it is called by its name -/
structure Cal (K : PySem.W.Frag) (mg : Str → Option Value) (x : Str) (st : Stmt) (ps : List Str) (f : Addr) (fd : FuncData) : Prop where
  F : Fun K x x st f fd
  b : Binds K fd ps []
  m : mg x = some (.ref f)
end Rs

namespace Rs
open PySem PySem.Spec PyProof.Rows L2

/-! ### kinds of values -/
inductive Kn where
  | int | bool | str | none | list | tup | dict
  deriving DecidableEq
def Kn.nm : Kn → String
  | .int => "int" | .bool => "bool" | .str => "str" | .none => "NoneType" | .list => "list" | .tup => "tuple" | .dict => "dict"
inductive Kin (K : PySem.W.Frag) (H : Hp) : V → Kn → Prop where
  | int (i : Int) : Kin K H (.int i) .int
  | bl (b : Bool) : Kin K H (.bl b) .bool
  | str (x : Str) : Kin K H (.str x) .str
  | non : Kin K H .non .none
  | ref {a : Addr} {k : Kn} (h : TyX K H (.ref a) (.type k.nm)) (n : k = .list ∨ k = .tup ∨ k = .dict) : Kin K H (.ref a) k
section
variable {K : PySem.W.Frag} {H H0 : Hp} {M : List Addr} {L : Led} {x : V} {k : Kn} {Q : VK} {a : Addr}
theorem Kin.ty (h : Kin K H x k) : TyX K H x (.type k.nm) := by
  cases h with
  | int i => exact .base (.int i)
  | bl b => exact .base (.bl b)
  | str x => exact .base (.str x)
  | non => exact .base .non
  | ref h n => exact h
theorem Kin.lst {xs : List V} (h : H a = some (.lst xs)) : Kin K H (.ref a) .list := .ref (.base (.lst h)) (.inl rfl)
theorem Kin.tup {xs : List V} (h : H a = some (.tup xs)) : Kin K H (.ref a) .tup := .ref (.base (.tup h)) (.inr (.inl rfl))
theorem Kin.dK {kvs : List (Key × V)} (h : H a = some (.dK kvs)) : Kin K H (.ref a) .dict := .ref (.base (.dK h)) (.inr (.inr rfl))
theorem kit_int (k : Kn) : kitB k.nm "int" = some (k == .int || k == .bool) := by cases k <;> decide +kernel
theorem kit_bool (k : Kn) : kitB k.nm "bool" = some (k == .bool) := by cases k <;> decide +kernel
theorem kit_list (k : Kn) : kitB k.nm "list" = some (k == .list) := by cases k <;> decide +kernel
theorem kit_tuple (k : Kn) : kitB k.nm "tuple" = some (k == .tup) := by cases k <;> decide +kernel
theorem kit_str (k : Kn) : kitB k.nm "str" = some (k == .str) := by cases k <;> decide +kernel
theorem rd_isi {T : String} {b : Bool} (h : Kin K H x k) (e : kitB k.nm T = some b) (q : Q (.bl b) H) : rIsi K [x, .ty T] H Q := ⟨x, .ty T, .type k.nm, .type T, b, rfl, .ty T, h.ty, kit_ty e, q⟩
end
/-- a def with keyword-only defaults, as it is called by its name -/
structure CalK (K : PySem.W.Frag) (mg : Str → Option Value) (x : Str) (st : Stmt) (f : Addr) (fd : FuncData) : Prop where
  F : Fun K x x st f fd
  m : mg x = some (.ref f)
/-- whether a thing is a whole number from l to m -/
def isWh (x : V) (l m : Int) : Bool := match x with
  | .int t => decide (l ≤ t) && decide (t ≤ m)
  | _ => false
theorem isWh_int (t l m : Int) : isWh (.int t) l m = (decide (l ≤ t) && decide (t ≤ m)) := rfl

/-! ### more readings -/
section
variable {X : Cx}
/-- a module's constant -/
theorem pe_gl {x : Str} {v : V} {pos : Pos} (hg : Gl X x) (h : ∃ u, X.mg x = some u ∧ RelV v u) (hd : (x == ("__debug__" : Str)) = false := by decide) : PE X (.Name x pos) (tC v) := by
  obtain ⟨u, h1, h2⟩ := h
  exact pe_glob hg h1 h2 hd
end
/-- the keys of written pairs -/
def toK : List (V × V) → List (Key × V)
  | [] => []
  | (.int i, v) :: r => (.inl i, v) :: toK r
  | (.str x, v) :: r => (.inr x, v) :: toK r
  | _ :: r => toK r
def dspEnd (Q : VK) (p : Addr) (ps : List (V × V)) (H : Hp) : Prop := H p = some (.dK []) ∧ ∃ kvs : List (Key × V), ps = kvs.map (fun kv => (kV kv.1, kv.2)) ∧ kvs.length ≤ 15 ∧ Q (.ref p) (upd H p (.dK (mergeK [] kvs)))
def forW (J : It) (g : TG) (tb : TS) (D : Ends) (σ : L2.St) (H : Hp) : Prop := ∃ W : Nat → Nat → L2.St → Hp → Prop, (∃ m, W 0 m σ H) ∧ ∀ i m σ H, W i m σ H →
  (J.stop i H ∧ D.nx σ H) ∨ (J.go i H ∧ ∃ N : L2.St → Hp → Prop, (∀ σ' H', N σ' H' → ∃ m', m' < m ∧ W (i + 1) m' σ' H') ∧ ∀ x H', J.yld i H x H' → g x σ H' fun σ2 H2 => tb { D with nx := N, ct := N, bk := D.nx } σ2 H2)
def wl (W : Nat → L2.St → Hp → Prop) (m : Nat) (tw : TS) (nx : L2.St → Hp → Prop) (rt : VK) (σ : L2.St) (H : Hp) : Prop := ∃ N : L2.St → Hp → Prop, (∀ σ' H', N σ' H' → ∃ m', m' < m ∧ W m' σ' H') ∧ tw ⟨N, rt, nx, N⟩ σ H
def rng1 (R : It → Hp → Prop) (vs : List V) (H : Hp) : Prop := ∃ j : Int, vs = [.int j] ∧ -(2 ^ 62) ≤ j ∧ j < 2 ^ 62 ∧ R (Itr 0 j.toNat) H
def rng2 (R : It → Hp → Prop) (vs : List V) (H : Hp) : Prop := ∃ i j : Int, vs = [.int i, .int j] ∧ (-(2 ^ 62) ≤ i ∧ i < 2 ^ 62 ∧ -(2 ^ 62) ≤ j ∧ j < 2 ^ 62) ∧ R (Itr i (j - i).toNat) H
def lstI (K : PySem.W.Frag) (R : It → Hp → Prop) (x : V) (H : Hp) : Prop := ∃ a, x = .ref a ∧ (∃ xs, SqL K H a xs) ∧ R (Itl K a) H
def tupI (K : PySem.W.Frag) (R : It → Hp → Prop) (x : V) (H : Hp) : Prop := ∃ a, x = .ref a ∧ (∃ xs, SqT K H a xs) ∧ R (Itt K a) H
section
variable {σ : L2.St} {H H0 : Hp} {M : List Addr} {L L' : Led} {Q : VK} {v x y : V} {nx : L2.St → Hp → Prop} {rt : VK} {bk ct : L2.St → Hp → Prop} {t u : TS} {te ta tb tc : TE} {g : TG} {tt tu : TT} {tw : TS} {wi : TI}
theorem rd_disp {trs : List (TE × TE)} (S : Hs H0 M H L) (h : ∀ p H', H0 p = none → Hs H0 M H' ((p, .dK []) :: L) → tPairs trs σ H' fun ps H2 => dspEnd Q p ps H2) : tDisp trs σ H Q :=
  fun p hp => h p _ (S.new hp (.dK [])).1 (S.new hp (.dK [])).2
theorem rd_dspEnd {p : Addr} {ps : List (V × V)} {kvs : List (Key × V)} (S : Hs H0 M H L) (c : Chg p (.dK []) (.dK kvs) L L') (hm : H0 p = none ∨ p ∈ M) (e : ps = (toK ps).map fun kv => (kV kv.1, kv.2)) (hl : (toK ps).length ≤ 15)
    (ek : mergeK [] (toK ps) = kvs) (h : ∀ H', Hs H0 M H' L' → Q (.ref p) H') : dspEnd Q p ps H := by
  subst ek
  exact ⟨S.is _ c.mem, toK ps, e, hl, h _ (S.put c hm)⟩
theorem rd_prs {r : List (TE × TE)} {R : List (V × V) → Hp → Prop} (h : ta σ H fun k H1 => tb σ H1 fun v H2 => tPairs r σ H2 fun ps H3 => R ((k, v) :: ps) H3) : tPairs ((ta, tb) :: r) σ H R := h
theorem rd_prs0 {R : List (V × V) → Hp → Prop} (h : R [] H) : tPairs [] σ H R := h
theorem rd_for (h : wi σ H fun J H1 => forW J g tw ⟨nx, rt, bk, ct⟩ σ H1) : tFor wi g tw ⟨nx, rt, bk, ct⟩ σ H := h
theorem rd_rng1 {ta : TA} {R : It → Hp → Prop} (h : ta σ H fun vs H1 => rng1 R vs H1) : iRng1 ta σ H R := h
theorem rd_rng2 {ta : TA} {R : It → Hp → Prop} (h : ta σ H fun vs H1 => rng2 R vs H1) : iRng2 ta σ H R := h
theorem rd_rng1v {R : It → Hp → Prop} {j : Int} (h1 : -(2 ^ 62) ≤ j) (h2 : j < 2 ^ 62) (h : R (Itr 0 j.toNat) H) : rng1 R [.int j] H := ⟨j, rfl, h1, h2, h⟩
theorem rd_rng2v {R : It → Hp → Prop} {i j : Int} (h1 : -(2 ^ 62) ≤ i) (h2 : i < 2 ^ 62) (h3 : -(2 ^ 62) ≤ j) (h4 : j < 2 ^ 62) (h : R (Itr i (j - i).toNat) H) : rng2 R [.int i, .int j] H := ⟨i, j, rfl, ⟨h1, h2, h3, h4⟩, h⟩
theorem rd_iList {K : PySem.W.Frag} {R : It → Hp → Prop} (h : te σ H fun x H1 => lstI K R x H1) : iList K te σ H R := h
theorem rd_iTup {K : PySem.W.Frag} {R : It → Hp → Prop} (h : te σ H fun x H1 => tupI K R x H1) : iTup K te σ H R := h
theorem rd_lstI {K : PySem.W.Frag} {R : It → Hp → Prop} {a : Addr} {xs : List V} (S : Hs H0 M H L) (m : (a, HO.lst xs) ∈ L) (h : R (Itl K a) H) : lstI K R (.ref a) H := ⟨a, rfl, ⟨xs, S.lst m⟩, h⟩
theorem rd_tupI {K : PySem.W.Frag} {R : It → Hp → Prop} {a : Addr} {xs : List V} (S : Hs H0 M H L) (m : (a, HO.tup xs) ∈ L) (h : R (Itt K a) H) : tupI K R (.ref a) H := ⟨a, rfl, ⟨xs, S.tup m⟩, h⟩
/-- over lo, lo + 1, .. -/
theorem fw_range {lo : Int} {n : Nat} (Pv : Nat → L2.St → Hp → Prop) (h0 : Pv 0 σ H) (hs : ∀ i σ H, i < n → Pv i σ H → g (.int (lo + i)) σ H fun σ2 H2 => tw ⟨Pv (i + 1), rt, nx, Pv (i + 1)⟩ σ2 H2) (hd : ∀ σ H, Pv n σ H → nx σ H) :
    forW (Itr lo n) g tw ⟨nx, rt, bk, ct⟩ σ H := for_range Pv h0 hs hd
/-- over a list that stays as it is -/
theorem fw_list {K : PySem.W.Frag} {a : Addr} {xs : List V} (Pv : Nat → L2.St → Hp → Prop) (h0 : Pv 0 σ H) (hl : ∀ i σ H, i ≤ xs.length → Pv i σ H → SqL K H a xs)
    (hs : ∀ i x σ H, xs[i]? = some x → Pv i σ H → g x σ H fun σ2 H2 => tw ⟨Pv (i + 1), rt, nx, Pv (i + 1)⟩ σ2 H2) (hd : ∀ σ H, Pv xs.length σ H → nx σ H) : forW (Itl K a) g tw ⟨nx, rt, bk, ct⟩ σ H := for_list Pv h0 hl hs hd
theorem fw_tup {K : PySem.W.Frag} {a : Addr} {xs : List V} (Pv : Nat → L2.St → Hp → Prop) (h0 : Pv 0 σ H) (hl : ∀ i σ H, i ≤ xs.length → Pv i σ H → SqT K H a xs)
    (hs : ∀ i x σ H, xs[i]? = some x → Pv i σ H → g x σ H fun σ2 H2 => tw ⟨Pv (i + 1), rt, nx, Pv (i + 1)⟩ σ2 H2) (hd : ∀ σ H, Pv xs.length σ H → nx σ H) : forW (Itt K a) g tw ⟨nx, rt, bk, ct⟩ σ H := for_tup Pv h0 hl hs hd
/-- while: W a word with a number that falls -/
theorem rd_while (W : Nat → L2.St → Hp → Prop) (m0 : Nat) (h0 : W m0 σ H) (hs : ∀ m σ H, W m σ H → tt σ H fun b H1 => if b = true then wl W m tw nx rt σ H1 else nx σ H1) : tWhile tt tw ⟨nx, rt, bk, ct⟩ σ H := ⟨W, ⟨m0, h0⟩, hs⟩
theorem rd_wl {W : Nat → L2.St → Hp → Prop} {m : Nat} (h : tw ⟨fun σ' H' => ∃ m', m' < m ∧ W m' σ' H', rt, nx, fun σ' H' => ∃ m', m' < m ∧ W m' σ' H'⟩ σ H) : wl W m tw nx rt σ H := ⟨_, fun _ _ h => h, h⟩
end
end Rs

namespace Rs
open PySem PySem.Spec PyProof.Rows L2

/-! ### plain data: how far it reaches -/
mutual
/-- whole numbers below 10 ^ 12, short texts of small signs, no dicts -/
def tame : PyData → Bool
  | .none | .bool _ => true
  | .int i => decide (i.natAbs < 10 ^ 12)
  | .str x => PyData.strOk x && decide (x.cps.size ≤ 40) && x.cps.toList.all fun c => decide (c < 16 ^ 8)
  | .list xs | .tuple xs => tames xs
  | .dict _ => false
def tames : List PyData → Bool
  | [] => true
  | x :: xs => tame x && tames xs
end
mutual
/-- how many there are in all -/
def cnt : PyData → Nat
  | .list xs | .tuple xs => 1 + cnts xs
  | _ => 1
def cnts : List PyData → Nat
  | [] => 0
  | x :: xs => cnt x + cnts xs
end
mutual
theorem tame_show : ∀ d : PyData, tame d = true → d.showable = true ∧ d.canLay0 = true ∧ d.intsShort 13 = true ∧ d.weight + 1 ≤ 46 * cnt d
  | .none, _ => by simp [PyData.showable, PyData.canLay0, PyData.intsShort, PyData.weight, cnt]
  | .bool _, _ => by simp [PyData.showable, PyData.canLay0, PyData.intsShort, PyData.weight, cnt]
  | .int i, h => by
    have h1 : i.natAbs < 10 ^ 12 := by simpa [tame] using h
    have h2 : i.natAbs.log2 < 40 := by
      by_cases z : i.natAbs = 0
      · rw [z]; decide
      · exact (Nat.log2_lt z).mpr (by omega)
    have h3 := PyData.shown_int_le h1
    refine ⟨by simp [PyData.showable]; omega, by simp [PyData.canLay0], by simp [PyData.intsShort]; omega, ?_⟩
    simp only [PyData.weight, cnt]
    split <;> omega
  | .str x, h => by
    simp only [tame, Bool.and_eq_true, decide_eq_true_eq] at h
    refine ⟨by simp [PyData.showable], by simpa [PyData.canLay0] using h.1.1, by simp [PyData.intsShort], ?_⟩
    simp only [PyData.weight, cnt]
    omega
  | .list xs, h => by
    obtain ⟨h1, h2, h3, h4⟩ := tames_show xs (by simpa [tame] using h)
    refine ⟨by simpa [PyData.showable] using h1, by simpa [PyData.canLay0] using h2, by simpa [PyData.intsShort] using h3, ?_⟩
    simp only [PyData.weight, cnt]
    omega
  | .tuple xs, h => by
    obtain ⟨h1, h2, h3, h4⟩ := tames_show xs (by simpa [tame] using h)
    refine ⟨by simpa [PyData.showable] using h1, by simpa [PyData.canLay0] using h2, by simpa [PyData.intsShort] using h3, ?_⟩
    simp only [PyData.weight, cnt]
    omega
  | .dict _, h => by simp [tame] at h
theorem tames_show : ∀ xs : List PyData, tames xs = true → PyData.showableAll xs = true ∧ PyData.canLayAll0 xs = true ∧ PyData.intsShortAll 13 xs = true ∧ PyData.weightAll xs ≤ 46 * cnts xs
  | [], _ => by simp [PyData.showableAll, PyData.canLayAll0, PyData.intsShortAll, PyData.weightAll, cnts]
  | x :: xs, h => by
    have h' : tame x = true ∧ tames xs = true := by simpa [tames] using h
    obtain ⟨a1, a2, a3, a4⟩ := tame_show x h'.1
    obtain ⟨b1, b2, b3, b4⟩ := tames_show xs h'.2
    simp only [PyData.showableAll, PyData.canLayAll0, PyData.intsShortAll, PyData.weightAll, cnts, a1, a2, a3, b1, b2, b3, Bool.and_self, true_and]
    omega
end
theorem shw_of {d : PyData} (h : tame d = true) (hc : cnt d ≤ 20000) : Shw d := by
  obtain ⟨h1, h2, h3, h4⟩ := tame_show d h
  exact ⟨h1, PyData.shown_fits (B := 13) (by decide) (by decide) (PyData.leavesShort_of_canLay0 13 d h2 h3) (by omega)⟩
theorem shaped_of {d : PyData} (h : tame d = true) (hd : d.depth ≤ 64) : SeqAt.shaped d = true := by
  obtain ⟨_, h2, _, _⟩ := tame_show d h
  unfold SeqAt.shaped
  rw [h2, Bool.true_and]
  exact decide_eq_true hd
/-! ### lists of whole numbers -/
def dI (ns : List Int) : PyData := .list (ns.map .int)
section
variable {K : PySem.W.Frag} {H H0 : Hp} {M : List Addr} {L L' : Led} {Q : VK} {a b : Addr}
theorem dps_ints : ∀ ns : List Int, DpAll K H (ns.map V.int) (ns.map .int)
  | [] => .nil
  | n :: ns => .cons (.int n) (dps_ints ns)
theorem dp_ints {ns : List Int} (h : SqL K H a (ns.map V.int)) : Dp K H (.ref a) (dI ns) := .lst h (dps_ints ns)
theorem depth_ints : ∀ ns : List Int, PyData.depthAll (ns.map .int) = 0
  | [] => by simp [PyData.depthAll]
  | n :: ns => by simp [PyData.depthAll, PyData.depth, depth_ints ns]
theorem depth_dI (ns : List Int) : (dI ns).depth = 1 := by simp [dI, PyData.depth, depth_ints]
theorem canLay_ints : ∀ ns : List Int, PyData.canLayAll0 (ns.map .int) = true
  | [] => by simp [PyData.canLayAll0]
  | n :: ns => by simp [PyData.canLayAll0, PyData.canLay0, canLay_ints ns]
theorem shaped_dI (ns : List Int) : SeqAt.shaped (dI ns) = true := by
  unfold SeqAt.shaped
  rw [depth_dI]
  simp [dI, PyData.canLay0, canLay_ints]
theorem eqv_ints : ∀ ns ms : List Int, PyData.eqvAll (ns.map .int) (ms.map .int) = decide (ns = ms)
  | [], [] => by simp [PyData.eqvAll]
  | [], m :: ms => by simp [PyData.eqvAll]
  | n :: ns, [] => by simp [PyData.eqvAll]
  | n :: ns, m :: ms => by
    simp only [List.map_cons, PyData.eqvAll, PyData.eqv, eqv_ints ns ms, List.cons.injEq, Bool.decide_and]
    rfl
theorem eqv_dI (ns ms : List Int) : PyData.eqv (dI ns) (dI ms) = decide (ns = ms) := by
  simp only [dI, PyData.eqv, eqv_ints]
theorem tames_ints : ∀ ns : List Int, (∀ n ∈ ns, n.natAbs < 10 ^ 12) → tames (ns.map .int) = true
  | [], _ => by simp [tames]
  | n :: ns, h => by
    simp only [List.map_cons, tames, tame, Bool.and_eq_true, decide_eq_true_eq]
    exact ⟨h n List.mem_cons_self, tames_ints ns fun m hm => h m (List.mem_cons_of_mem _ hm)⟩
theorem cnts_ints : ∀ ns : List Int, cnts (ns.map .int) = ns.length
  | [] => by simp [cnts]
  | n :: ns => by simp only [List.map_cons, cnts, cnt, cnts_ints ns, List.length_cons]; omega
theorem shw_dI {ns : List Int} (h : ∀ n ∈ ns, n.natAbs < 10 ^ 12) (hl : ns.length ≤ 10000) : Shw (dI ns) :=
  shw_of (by simp [dI, tame, tames_ints ns h]) (by simp only [dI, cnt, cnts_ints]; omega)
/-- == and != of two lists of whole numbers -/
theorem rd_eqIs {xs ys : List V} {ns ms : List Int} (S : Hs H0 M H L) (m1 : (a, HO.lst xs) ∈ L) (m2 : (b, HO.lst ys) ∈ L) (e1 : xs = ns.map V.int) (e2 : ys = ms.map V.int) (h : Q (.bl (decide (ns = ms))) H) : rEqD K (.ref a) (.ref b) H Q := by
  subst e1 e2
  exact ⟨_, _, dp_ints (S.lst m1), dp_ints (S.lst m2), shaped_dI ns, shaped_dI ms, by rw [eqv_dI]; exact h⟩
theorem rd_neIs {xs ys : List V} {ns ms : List Int} (S : Hs H0 M H L) (m1 : (a, HO.lst xs) ∈ L) (m2 : (b, HO.lst ys) ∈ L) (e1 : xs = ns.map V.int) (e2 : ys = ms.map V.int) (h : Q (.bl (decide (¬ ns = ms))) H) : rNeD K (.ref a) (.ref b) H Q := by
  subst e1 e2
  refine ⟨_, _, dp_ints (S.lst m1), dp_ints (S.lst m2), shaped_dI ns, shaped_dI ms, ?_⟩
  rw [eqv_dI]
  have e : (!decide (ns = ms)) = decide (¬ ns = ms) := by simp
  rw [e]; exact h
theorem rd_reprI {xs : List V} {ns : List Int} (S : Hs H0 M H L) (m : (a, HO.lst xs) ∈ L) (e : xs = ns.map V.int) (hb : ∀ n ∈ ns, n.natAbs < 10 ^ 12) (hl : ns.length ≤ 10000) (h : Q (.str (dI ns).shown) H) : rRepr K [.ref a] H Q := by
  subst e
  exact ⟨.ref a, dI ns, rfl, dp_ints (S.lst m), shw_dI hb hl, by rw [depth_dI]; decide, h⟩
theorem pick_ints (ns : List Int) (lo hi st : Option Int) : ∃ ks : List Int, pickV (ns.map V.int) lo hi st = ks.map V.int ∧ (∀ k ∈ ks, k ∈ ns) := by
  have e : ∀ ix : List Nat, ix.filterMap ((ns.map V.int)[·]?) = (ix.filterMap (ns[·]?)).map V.int := fun ix => by
    induction ix with
    | nil => rfl
    | cons i ix ih =>
      cases h : ns[i]? with
      | none => rw [List.filterMap_cons_none (by rw [List.getElem?_map, h]; rfl), List.filterMap_cons_none h, ih]
      | some z => rw [List.filterMap_cons_some (by rw [List.getElem?_map, h]; rfl), List.filterMap_cons_some h, ih]; rfl
  refine ⟨(slIx (ns.map V.int).length lo hi st).filterMap (ns[·]?), e _, fun k hk => ?_⟩
  obtain ⟨i, _, hi⟩ := List.mem_filterMap.mp hk
  exact List.mem_of_getElem? hi
end
/-- how keywords are put in the parameters' order -/
theorem kb_of {K : PySem.W.Frag} {x qual : Str} {st : Stmt} {f : Addr} {fd : FuncData} {ps ks : List Str} {n : Nat} (F : Fun K x qual st f fd) (ix : List Nat)
    (h : ∀ (kV doc pm : Value) (an : Option Addr) (cdv ct : Value) (us ws : List Value), us.length = n → ws.length = ks.length →
      bindArgs (PySem.W.fnOf x qual (defArgs st) (defBody st) (defScope st) .none kV doc pm an cdv ct) ⟨us, ks.zip ws⟩ = pure (ps.zip (us ++ ix.filterMap (ws[·]?)))) :
    KBn K fd ps n ks (fun us ws => us ++ ix.filterMap (ws[·]?)) (fun us ws => us ++ ix.filterMap (ws[·]?)) := by
  obtain ⟨oc, od, kV, doc, pm, an, cdv, ct, osl, rfl, lk, hcd⟩ := F.ex
  exact ⟨fun s us ws _ h1 h2 => .of_eq (h kV doc pm an cdv ct us ws h1 h2), fun r1 r2 => r1.append (vals_pick r2 ix)⟩
end Rs

namespace Rs
open PySem PySem.Spec PyProof.Rows L2
section
variable {K : PySem.W.Frag} {mg : Str → Option Value} {h : Heap}
theorem ex_calK {x : Str} {st : Stmt} {f : Addr} {oc : Value} {od an : Option Addr} {osl : Array (Option Value)} {kV doc pm cdv ct : Value} (X : K.In h) (G : h.Ns mainGlobals mg) (a : PySem.W.nsIn K mainGlobals x = some (some (.ref f)))
    (l : K.lookup f = some ⟨oc, od, .func (PySem.W.fnOf x x (defArgs st) (defBody st) (defScope st) .none kV doc pm an cdv ct), osl⟩) (c : PySem.W.codeIn K cdv x = true) (k : PySem.W.keepIn K (.ref f) = true) : ∃ f fd, CalK K mg x st f fd :=
  ⟨_, _, fun_mk l c k, PySem.W.mg_of X G a⟩
theorem ex_cal {x : Str} {st : Stmt} {ps : List Str} {f : Addr} {oc : Value} {od an : Option Addr} {osl : Array (Option Value)} {kV doc pm cdv ct : Value} (X : K.In h) (G : h.Ns mainGlobals mg) (a : PySem.W.nsIn K mainGlobals x = some (some (.ref f)))
    (l : K.lookup f = some ⟨oc, od, .func (PySem.W.fnOf x x (defArgs st) (defBody st) (defScope st) .none kV doc pm an cdv ct), osl⟩) (c : PySem.W.codeIn K cdv x = true) (k : PySem.W.keepIn K (.ref f) = true)
    (b : ∀ (kV doc pm : Value) (an : Option Addr) (cdv ct : Value) (us : List Value), us.length = ps.length → bindArgs (PySem.W.fnOf x x (defArgs st) (defBody st) (defScope st) .none kV doc pm an cdv ct) ⟨us, []⟩ = pure (ps.zip us)) : ∃ f fd, Cal K mg x st ps f fd :=
  ⟨_, _, fun_mk l c k, (fun_mk l c k).binds b, PySem.W.mg_of X G a⟩
theorem ex_gl {x : Str} {v : V} {u : Value} (X : K.In h) (G : h.Ns mainGlobals mg) (a : PySem.W.nsIn K mainGlobals x = some (some u)) (r : RelV v u) : ∃ u, mg x = some u ∧ RelV v u := ⟨u, PySem.W.mg_of X G a, r⟩
end
/-- the end, the law's def by its facts -/
theorem walkE {l : PySem.W.OpenLaw} {n k : Nat} {q : Program} {loose : List Str} {XP : (Str → Option Value) → Heap → Prop} {YP : World → Heap → Prop} {d : DefRec} {K : Params → PySem.W.Frag} {sp : PySem.W.Frag → Sp} {st : Stmt} {x : Str}
    (hn : l.most = some n) (hn2 : n ≤ sizeLine) (hdf : d.params.defaults = []) (hr : Room k callerA) (hY : ∀ (w : World) (h : Heap), YP w h → (K w.params).In h) (hx : d.name = "law")
    (hb : ∀ (kV doc pm : Value) (an : Option Addr) (cdv ct u : Value), bindArgs (PySem.W.fnOf "law" "law" (defArgs st) (defBody st) (defScope st) .none kV doc pm an cdv ct) ⟨[u], []⟩ = pure [(x, u)])
    (F : ∀ (w : World) (mg : Str → Option Value) (h : Heap), (K w.params).In h → h.Ns mainGlobals mg →
      ∃ (fa : Addr) (fd : FuncData), Cal (K w.params) mg "law" st [x] fa fd ∧ ∀ base : Heap, FnG l.prog w (K w.params) mg base k fa fd [x] (sp (K w.params)))
    (hsp : ∀ (K : PySem.W.Frag) (H : Hp) (a : Addr) (ns : List Int), ns.length ≤ n → (∀ z ∈ ns, Builtin.Int.intBits z ≤ 1048576) → SqL K H a (ns.map V.int) → sp K [.ref a] H (fun v _ => v = .bl true) E0) :
    PySem.W.WalkO q loose XP YP l.row.toRowW d [] (fun f vs => PySem.call f vs) := by
  refine walkG (x := x) hn hn2 hdf hr hY (fun w mg fa h KX G hmg => ?_) hsp
  obtain ⟨f, fd, C, ok⟩ := F w mg h KX G
  rw [hx] at hmg
  have e := C.m.symm.trans hmg
  cases e
  obtain ⟨oc, od, kV, doc, pm, an, cdv, ct, osl, rfl, lk, hcd⟩ := C.F.ex
  exact ⟨_, fun s u => .of_eq (hb kV doc pm an cdv ct u), fun base _ _ => ok base⟩
end Rs

namespace Rs
open PySem PySem.Spec PyProof.Rows L2

/-- xs[i:j] = another list -/
def gSlc (to : TE) (tl th : L2.St → Hp → (Option Int → Hp → Prop) → Prop) : TG := fun v σ H Q => to σ H fun o H1 => tl σ H1 fun l H2 => th σ H2 fun u H3 => ∃ (a b : Addr) (xs ys : List V) (i j : Int), o = .ref a ∧ v = .ref b ∧ l = some i ∧ u = some j ∧
  H3 a = some (.lst xs) ∧ H3 b = some (.lst ys) ∧ a ≠ b ∧ 0 ≤ i ∧ i ≤ j ∧ j ≤ xs.length ∧ xs.length + ys.length ≤ sizeLine ∧ Q σ (upd H3 a (.lst (xs.take i.toNat ++ ys ++ xs.drop j.toNat)))
theorem pg_slc {X : Cx} {o : Expr} {lo hi : Option Expr} {p2 pos : Pos} {to : TE} {tl th : L2.St → Hp → (Option Int → Hp → Prop) → Prop} (ho : PE X o to) (hl : PO X lo tl) (hh : PO X hi th)
    (ha : ∀ v, assign (.Subscript o (.Slice lo hi none p2) pos) X.env v = (do
      let ov ← holding [v] (eval o X.env)
      let iv ← holding [v, ov] (eval (.Slice lo hi none p2) X.env)
      standAt pos
      holding [v, ov, iv] (setItem ov iv v)
      release [iv, v, ov] []) := by intro _; rfl) : PG X (.Subscript o (.Slice lo hi none p2) pos) (gSlc to tl th) := by
  refine ⟨fun pins s σ H v u Q I r h => ?_⟩
  rw [ha]
  refine wpAny_bind (wpAny_holding (thn (ho.run pins s σ H _ I h) fun ov s1 ⟨x, H1, I1, r1, q1⟩ => ?_))
  refine wpAny_bind (wpAny_holding ?_)
  refine wpAny_Slice (thn (hl.run pins s1 σ H1 _ I1 q1) fun vl s2 ⟨l, H2, I2, pl, q2⟩ => thn (hh.run pins s2 σ H2 _ I2 q2) fun vu s3 ⟨w, H3, I3, pu, q3⟩ => ?_)
  rw [evalPart_none]
  refine wpAny_pure ?_
  have I4 : Inv X pins σ H3 { s3 with heap := s3.heap.push { cls := .type "slice", data := .fields #[vl, vu, .none] } } := I3.kept (t' := s3.toks) fun b ob q => Heap.get?_push_of_some _ q
  obtain ⟨a, b, xs, ys, i, j, rfl, rfl, rfl, rfl, hA, hB, hne, h0, h1, h2, h3, q⟩ := q3
  cases r1
  cases r
  cases pl
  cases pu
  refine wpAny_bind (wpAny_standAt (wpAny_bind (wpAny_holding ?_)))
  refine set_slice I4 hA hB hne (Heap.IsSliceOf.new ..) ⟨_, rfl⟩ ⟨_, rfl⟩ h0 h1 h2 h3 fun s5 I5 => ?_
  exact wpAny_release ⟨σ, _, I5, q⟩

/-! ### classes -/
/-- a method as it stands behind the top -/
structure CalM (K : PySem.W.Frag) (x qual : Str) (st : Stmt) (ps : List Str) (f : Addr) (fd : FuncData) : Prop where
  F : Fun K x qual st f fd
  b : Binds K fd ps []
section
variable {K : PySem.W.Frag} {mg : Str → Option Value} {h : Heap}
theorem ex_calM {C : Addr} {x qual : Str} {st : Stmt} {ps : List Str} {f : Addr} {oc : Value} {od an : Option Addr} {osl : Array (Option Value)} {kV doc pm cdv ct : Value} (a : PySem.W.findIn K (.ref C) x = some (some (.ref f))) (i : PySem.W.isFn K (.ref f) = true)
    (l : K.lookup f = some ⟨oc, od, .func (PySem.W.fnOf x qual (defArgs st) (defBody st) (defScope st) .none kV doc pm an cdv ct), osl⟩) (c : PySem.W.codeIn K cdv qual = true) (k : PySem.W.keepIn K (.ref f) = true)
    (b : ∀ (kV doc pm : Value) (an : Option Addr) (cdv ct : Value) (us : List Value), us.length = ps.length → bindArgs (PySem.W.fnOf x qual (defArgs st) (defBody st) (defScope st) .none kV doc pm an cdv ct) ⟨us, []⟩ = pure (ps.zip us)) :
    ∃ f fd, Meth K C x f ∧ CalM K x qual st ps f fd := ⟨_, _, ⟨a, i, k⟩, fun_mk l c k, (fun_mk l c k).binds b⟩
/-- an __init__ with keyword-only defaults -/
structure CalI (K : PySem.W.Frag) (C : Addr) (qual : Str) (st : Stmt) (kws : List (Str × V)) (f : Addr) (fd : FuncData) : Prop where
  M : Mk K C f
  F : FunD K "__init__" qual (defArgs st) (defBody st) (defScope st) [] kws f fd
theorem ex_calI {C D : Addr} {qual : Str} {st : Stmt} {kws : List (Str × V)} {f : Addr} {oc : Value} {od an : Option Addr} {osl : Array (Option Value)} {doc pm cdv ct : Value} (m : PySem.W.makesIn K C = true) (kc : PySem.W.keepIn K (.ref C) = true)
    (a : PySem.W.findIn K (.ref C) "__init__" = some (some (.ref f))) (i : PySem.W.isFn K (.ref f) = true)
    (l : K.lookup f = some ⟨oc, od, .func (PySem.W.fnOf "__init__" qual (defArgs st) (defBody st) (defScope st) .none (.ref D) doc pm an cdv ct), osl⟩) (c : PySem.W.codeIn K cdv qual = true) (k : PySem.W.keepIn K (.ref f) = true)
    (d : ∀ q ∈ kws, ∃ u, PySem.W.nsIn K D q.1 = some (some u) ∧ RelV q.2 u) : ∃ f fd, CalI K C qual st kws f fd :=
  ⟨_, _, ⟨m, a, i, kc⟩, ⟨⟨oc, od, .none, .ref D, doc, pm, an, cdv, ct, osl, rfl, l, c, Or.inl ⟨rfl, rfl⟩, Or.inr ⟨D, rfl, d⟩⟩, k⟩⟩
end
end Rs

namespace Rs
open PySem PySem.Spec PyProof.Rows L2

/-- the part of a list of whole numbers -/
def cutI (ns : List Int) (lo hi : Option Int) : List Int := (ns.drop (HT.sIx ns.length 0 lo)).take (HT.sIx ns.length ns.length hi - HT.sIx ns.length 0 lo)
theorem cutV_map (ns : List Int) (lo hi : Option Int) : cutV (ns.map V.int) lo hi = (cutI ns lo hi).map V.int := by
  unfold cutV cutI
  rw [List.map_take, List.map_drop, List.length_map]
theorem cutI_le (ns : List Int) (lo hi : Option Int) : (cutI ns lo hi).length ≤ ns.length := by
  unfold cutI
  rw [List.length_take, List.length_drop]
  omega
section
variable {σ : L2.St} {H H0 : Hp} {M : List Addr} {L L' : Led} {Q : VK} {v x y : V} {nx : L2.St → Hp → Prop} {rt : VK} {bk ct : L2.St → Hp → Prop} {t u : TS} {te ta tb tc : TE} {g : TG} {tt tu : TT} {tw : TS} {wi : TI} {K : PySem.W.Frag} {a p : Addr}
/-! attributes -/
theorem rd_fld {f : Str} (h : ta σ H fun x H1 => ∃ a C dx fs v, x = .ref a ∧ H1 a = some (.ins C dx fs) ∧ Cls K C ∧ NoAttr K C f ∧ fs.lookup f = some v ∧ Q v H1) : tFld K ta f σ H Q := h
theorem rd_fldV {f : Str} {C dx : Addr} {fs : List (Str × V)} {R : V → Prop} (S : Hs H0 M H L) (m : (a, HO.ins C dx fs) ∈ L) (c : Cls K C) (n : NoAttr K C f) (e : fs.lookup f = some v) (h : R v) :
    ∃ a' C dx fs v', V.ref a = .ref a' ∧ H a' = some (.ins C dx fs) ∧ Cls K C ∧ NoAttr K C f ∧ fs.lookup f = some v' ∧ R v' := ⟨a, C, dx, fs, v, rfl, S.is _ m, c, n, e, h⟩
theorem rd_sfld {f : Str} {tv : TE} (h : tv σ H fun y H1 => ta σ H1 fun x H2 => ∃ a C dx fs, x = .ref a ∧ H2 a = some (.ins C dx fs) ∧ Cls K C ∧ NoAttr K C f ∧ fs.length < 1000 ∧ nx σ (upd H2 a (.ins C dx (putF f y fs)))) : sFld K ta tv f ⟨nx, rt, bk, ct⟩ σ H := h
theorem rd_sfldV {f : Str} {C dx : Addr} {fs fs' : List (Str × V)} {R : Hp → Prop} (S : Hs H0 M H L) (ch : Chg a (.ins C dx fs) (.ins C dx fs') L L') (hm : H0 a = none ∨ a ∈ M) (c : Cls K C) (n : NoAttr K C f) (hl : fs.length < 1000) (e : putF f y fs = fs') (h : ∀ H', Hs H0 M H' L' → R H') :
    ∃ a' C dx fs, V.ref a = .ref a' ∧ H a' = some (.ins C dx fs) ∧ Cls K C ∧ NoAttr K C f ∧ fs.length < 1000 ∧ R (upd H a' (.ins C dx (putF f y fs))) := by
  subst e
  exact ⟨a, C, dx, fs, rfl, S.is _ ch.mem, c, n, hl, h _ (S.put ch hm)⟩
theorem rd_meth {C : Addr} {m : Str} {sp : Sp} {E : XK} {t : TA} (h : ta σ H fun x H1 => ∃ a dx fs, x = .ref a ∧ H1 a = some (.ins C dx fs) ∧ fs.lookup m = none ∧ t σ H1 fun vs H2 => sp (x :: vs) H2 Q E) : tMeth C m sp [] E ta t σ H Q := by
  have e : ∀ x, (fun (vs : List V) H2 => sp (x :: (vs ++ [])) H2 Q E) = fun vs H2 => sp (x :: vs) H2 Q E := fun x => by funext vs H2; rw [List.append_nil]
  show ta σ H fun x H1 => ∃ a dx fs, x = .ref a ∧ H1 a = some (.ins C dx fs) ∧ fs.lookup m = none ∧ t σ H1 fun vs H2 => sp (x :: (vs ++ [])) H2 Q E
  simp only [List.append_nil]
  exact h
theorem rd_methV {C dx : Addr} {m : Str} {fs : List (Str × V)} {R : Prop} (S : Hs H0 M H L) (hm : (a, HO.ins C dx fs) ∈ L) (e : fs.lookup m = none) (h : R) : ∃ a' dx fs, V.ref a = .ref a' ∧ H a' = some (.ins C dx fs) ∧ fs.lookup m = none ∧ R :=
  ⟨a, dx, fs, rfl, S.is _ hm, e, h⟩
theorem rd_mkK {C : Addr} {n m : Nat} {sp : Sp} {gV : List V → List V → List V} {E : XK} {t tk : TA} (h : t σ H fun vs H1 => tk σ H1 fun zs H2 => vs.length = n ∧ zs.length = m ∧ ∀ x dx, H2 x = none → H2 dx = none → dx ≠ x →
    sp (gV (.ref x :: vs) zs) (upd (upd H2 dx (.own x)) x (.ins C dx [])) (fun v H3 => v = .non ∧ Q (.ref x) H3) E) : tMakeK C n m sp gV E t tk σ H Q := h
theorem rd_mkV {C : Addr} {R : Addr → Hp → Prop} (S : Hs H0 M H L) (h : ∀ x dx H', H0 x = none → Hs H0 M H' ((x, .ins C dx []) :: L) → R x H') : ∀ x dx, H x = none → H dx = none → dx ≠ x → R x (upd (upd H dx (.own x)) x (.ins C dx [])) := by
  intro x dx hx hd ne
  obtain ⟨_, S1⟩ := S.new hd (.own x)
  have hx' : upd H dx (HO.own x) x = none := by rw [upd_ne (Ne.symm ne)]; exact hx
  obtain ⟨n0, S2⟩ := S1.new hx' (.ins C dx [])
  exact h x dx _ n0 (S2.sub (List.Sublist.cons_cons _ (List.Sublist.cons _ (List.Sublist.refl _))))
theorem rd_callL {i : Nat} {f : Addr} {sp : Sp} {E : XK} {t : TA} (e : σ[i]? = some (some (.ref f))) (h : t σ H fun vs H1 => sp vs H1 Q E) : tCallL i f sp [] E t σ H Q := by
  refine ⟨e, ?_⟩
  simp only [List.append_nil]
  exact h
/-! methods of lists -/
theorem rd_bm {T : String} {r : V → List V → Hp → VK → Prop} {t : TA} (h : ta σ H fun x H1 => tyV K T x H1 ∧ t σ H1 fun xs H2 => r x xs H2 Q) : tBM K T r ta t σ H Q := h
theorem rd_bm0 {T : String} {r : V → List V → Hp → VK → Prop} (h : ta σ H fun x H1 => tyV K T x H1 ∧ r x [] H1 Q) : tBM0 K T r ta σ H Q := h
theorem rd_tyL {xs : List V} {R : Prop} (S : Hs H0 M H L) (m : (a, HO.lst xs) ∈ L) (h : R) : tyV K "list" (.ref a) H ∧ R := ⟨Or.inl ⟨rfl, xs, S.lst m⟩, h⟩
theorem rd_app {xs : List V} (S : Hs H0 M H L) (c : Chg a (.lst xs) (.lst (xs ++ [y])) L L') (hm : H0 a = none ∨ a ∈ M) (hl : xs.length < sizeLine) (h : ∀ H', Hs H0 M H' L' → Q .non H') : rAppend (.ref a) [y] H Q :=
  ⟨a, xs, y, rfl, rfl, S.is _ c.mem, hl, h _ (S.put c hm)⟩
/-! calls over lists -/
theorem rd_sumI {xs : List V} {ns : List Int} (S : Hs H0 M H L) (m : (a, HO.lst xs) ∈ L) (e : xs = ns.map V.int) (h : Q (.int ns.sum) H) : rSum K [.ref a] H Q := ⟨a, ns, rfl, by subst e; exact S.lst m, h⟩
theorem rd_slL {xs : List V} {ns : List Int} {lo hi : Option Int} (S : Hs H0 M H L) (m : (a, HO.lst xs) ∈ L) (e : xs = ns.map V.int) (h : ∀ p H', H0 p = none → Hs H0 M H' ((p, .lst ((cutI ns lo hi).map V.int)) :: L) → Q (.ref p) H') : rSlL K (.ref a) lo hi H Q := by
  subst e
  refine ⟨a, _, rfl, S.lst m, ?_⟩
  rw [cutV_map]
  exact rd_newO S h
theorem rd_catL {xs ys : List V} {b : Addr} (S : Hs H0 M H L) (m : (a, HO.lst xs) ∈ L) (m2 : (b, HO.lst ys) ∈ L) (hz : xs.length + ys.length ≤ sizeLine) (h : ∀ p H', H0 p = none → Hs H0 M H' ((p, .lst (xs ++ ys)) :: L) → Q (.ref p) H') : rCat (.ref a) (.ref b) H Q :=
  ⟨a, b, xs, ys, rfl, rfl, S.is _ m, S.is _ m2, hz, rd_newO S h⟩
theorem rd_repL {xs : List V} {k : Int} (S : Hs H0 M H L) (m : (a, HO.lst xs) ∈ L) (h1 : 0 ≤ k) (h2 : k < 2 ^ 63) (hz : xs.length * k.toNat ≤ sizeLine) (h : ∀ p H', H0 p = none → Hs H0 M H' ((p, .lst (List.replicate k.toNat xs).flatten) :: L) → Q (.ref p) H') : rRep (.ref a) (.int k) H Q :=
  ⟨a, k, xs, rfl, rfl, S.is _ m, by omega, h2, hz, rd_newO S h⟩
def revR (K : PySem.W.Frag) (Q : VK) (x : V) (H1 : Hp) : Prop := ∃ a xs, x = .ref a ∧ SqL K H1 a xs ∧ ∀ p, H1 p = none → Q (.ref p) (upd H1 p (.lst xs.reverse))
theorem rd_revL (h : te σ H fun x H1 => revR K Q x H1) : tRevL K te σ H Q := h
theorem rd_revV {xs : List V} (S : Hs H0 M H L) (m : (a, HO.lst xs) ∈ L) (h : ∀ p H', H0 p = none → Hs H0 M H' ((p, .lst xs.reverse) :: L) → Q (.ref p) H') : revR K Q (.ref a) H := ⟨a, xs, rfl, S.lst m, rd_newO S h⟩
theorem rd_isN (h : Q (.bl (decide (x = .non))) H) : (fun x y H Q => y = V.non ∧ Q (.bl (decide (x = .non))) H : R2) x .non H Q := ⟨rfl, h⟩
theorem rd_notN (h : Q (.bl (!decide (x = .non))) H) : (fun x y H Q => y = V.non ∧ Q (.bl (!decide (x = .non))) H : R2) x .non H Q := ⟨rfl, h⟩
/-! targets -/
theorem gt_unl {xs : List V} {n : Nat} {ts : TGs} {N : L2.St → Hp → Prop} (S : Hs H0 M H L) (m : (a, HO.lst xs) ∈ L) (hn : xs.length = n) (h : ts xs σ H N) : gUnl K n ts (.ref a) σ H N := ⟨a, xs, rfl, S.lst m, hn, h⟩
theorem gt_sub {to ti : TE} {ts : TSet} {N : L2.St → Hp → Prop} (h : to σ H fun o H1 => ti σ H1 fun i H2 => ts o i v H2 fun H3 => N σ H3) : gSub to ti ts v σ H N := h
theorem gt_setL {xs : List V} {k : Int} {j : Nat} {N : Hp → Prop} (S : Hs H0 M H L) (c : Chg a (.lst xs) (.lst (xs.set j v)) L L') (hm : H0 a = none ∨ a ∈ M) (e : ixN xs.length k = some j) (h : ∀ H', Hs H0 M H' L' → N H') : rSetL (.ref a) (.int k) v H N :=
  ⟨a, xs, k, j, rfl, rfl, S.is _ c.mem, e, h _ (S.put c hm)⟩
theorem gt_slc {to : TE} {tl th : L2.St → Hp → (Option Int → Hp → Prop) → Prop} {N : L2.St → Hp → Prop} (h : to σ H fun o H1 => tl σ H1 fun l H2 => th σ H2 fun u H3 => ∃ (a b : Addr) (xs ys : List V) (i j : Int), o = .ref a ∧ v = .ref b ∧ l = some i ∧ u = some j ∧
    H3 a = some (.lst xs) ∧ H3 b = some (.lst ys) ∧ a ≠ b ∧ 0 ≤ i ∧ i ≤ j ∧ j ≤ xs.length ∧ xs.length + ys.length ≤ sizeLine ∧ N σ (upd H3 a (.lst (xs.take i.toNat ++ ys ++ xs.drop j.toNat)))) : gSlc to tl th v σ H N := h
theorem gt_slcV {b : Addr} {xs ys zs : List V} {i j : Int} {N : Hp → Prop} (S : Hs H0 M H L) (c : Chg a (.lst xs) (.lst zs) L L') (m : (b, HO.lst ys) ∈ L) (hne : a ≠ b) (hm : H0 a = none ∨ a ∈ M) (h0 : 0 ≤ i) (h1 : i ≤ j) (h2 : j ≤ xs.length) (hz : xs.length + ys.length ≤ sizeLine)
    (e : xs.take i.toNat ++ ys ++ xs.drop j.toNat = zs) (h : ∀ H', Hs H0 M H' L' → N H') : ∃ (a' b' : Addr) (xs ys : List V) (i' j' : Int), V.ref a = .ref a' ∧ V.ref b = .ref b' ∧ some i = some i' ∧ some j = some j' ∧
    H a' = some (.lst xs) ∧ H b' = some (.lst ys) ∧ a' ≠ b' ∧ 0 ≤ i' ∧ i' ≤ j' ∧ j' ≤ xs.length ∧ xs.length + ys.length ≤ sizeLine ∧ N (upd H a' (.lst (xs.take i'.toNat ++ ys ++ xs.drop j'.toNat))) := by
  subst e
  exact ⟨a, b, xs, ys, i, j, rfl, rfl, rfl, rfl, S.is _ c.mem, S.is _ m, hne, h0, h1, h2, hz, h _ (S.put c hm)⟩
/-! a comprehension over a range, all its steps without new objects left behind but the list itself -/
def lcW (J : It) (g : TG) (tt : TT) (te : TE) (vs : List Nat) (σ : L2.St) (H1 : Hp) (Q : VK) : Prop := ∀ D, H1 D = none → ∃ W : Nat → Nat → Hp → Prop, (∃ m, W 0 m (upd H1 D (.lst []))) ∧ ∀ i m H, W i m H →
  (J.stop i H ∧ Q (.ref D) H) ∨ (J.go i H ∧ ∃ Nx : Hp → Prop, (∀ H', Nx H' → ∃ m', m' < m ∧ W (i + 1) m' H') ∧ ∀ x H', J.yld i H x H' → g x (wipe σ vs) H' fun σ2 H2 => wipe σ2 vs = wipe σ vs ∧ tt σ2 H2 fun b H3 =>
    if b = true then te σ2 H3 fun y H4 => ∃ acc, H4 D = some (.lst acc) ∧ acc.length < sizeLine ∧ Nx (upd H4 D (.lst (acc ++ [y]))) else Nx H3)
theorem rd_lc {vs : List Nat} (h : wi σ H fun J H1 => lcW J g tt te vs σ H1 Q) : tLc wi g tt te vs σ H Q := h
def lcSkip (H0 : Hp) (M : List Addr) (L : Led) (R1 : List V → Prop) (D : Addr) (H : Hp) : Prop := H0 D = none ∧ ∃ acc, R1 acc ∧ Hs H0 M H ((D, .lst acc) :: L)
def lcPut (H0 : Hp) (M : List Addr) (L : Led) (R1 : List V → Prop) (D : Addr) (y : V) (H : Hp) : Prop := ∃ acc, H D = some (.lst acc) ∧ acc.length < sizeLine ∧ lcSkip H0 M L R1 D (upd H D (.lst (acc ++ [y])))
theorem rd_lcPut {D : Addr} {acc : List V} {L2 L3 : Led} {R1 : List V → Prop} (S : Hs H0 M H L2) (c : Chg D (.lst acc) (.lst (acc ++ [y])) L2 L3) (n : H0 D = none) (hl : acc.length < sizeLine) (sub : ((D, HO.lst (acc ++ [y])) :: L).Sublist L3) (r : R1 (acc ++ [y])) : lcPut H0 M L R1 D y H :=
  ⟨acc, S.is _ c.mem, hl, n, _, r, (S.put c (Or.inl n)).sub sub⟩
theorem rd_lcSkip {D : Addr} {acc : List V} {L2 : Led} {R1 : List V → Prop} (S : Hs H0 M H L2) (n : H0 D = none) (sub : ((D, HO.lst acc) :: L).Sublist L2) (r : R1 acc) : lcSkip H0 M L R1 D H := ⟨n, _, r, S.sub sub⟩
theorem lcw_range {lo : Int} {n : Nat} {vs : List Nat} (S : Hs H0 M H L) (R : Nat → List V → Prop) (r0 : R 0 [])
    (hs : ∀ D i acc H', i < n → R i acc → H0 D = none → Hs H0 M H' ((D, .lst acc) :: L) → g (.int (lo + i)) (wipe σ vs) H' fun σ2 H2 => wipe σ2 vs = wipe σ vs ∧ tt σ2 H2 fun b H3 => if b = true then te σ2 H3 fun y H4 => lcPut H0 M L (R (i + 1)) D y H4 else lcSkip H0 M L (R (i + 1)) D H3)
    (hd : ∀ D acc H', R n acc → H0 D = none → Hs H0 M H' ((D, .lst acc) :: L) → Q (.ref D) H') : lcW (Itr lo n) g tt te vs σ H Q := by
  intro D hD
  have S1 := S.new hD (.lst [])
  refine lc_range (fun i H' => lcSkip H0 M L (R i) D H') ⟨S1.1, [], r0, S1.2⟩ ?_ ?_
  · rintro i H' hi ⟨n0, acc, r, S'⟩
    exact hs D i acc H' hi r n0 S'
  · rintro H' ⟨n0, acc, r, S'⟩
    exact hd D acc H' r n0 S'
theorem lcw_list {a : Addr} {xs : List V} {vs : List Nat} (S : Hs H0 M H L) (R : Nat → List V → Prop) (r0 : R 0 []) (hl : ∀ H' acc D, Hs H0 M H' ((D, .lst acc) :: L) → SqL K H' a xs)
    (hs : ∀ D i x acc H', xs[i]? = some x → R i acc → H0 D = none → Hs H0 M H' ((D, .lst acc) :: L) → g x (wipe σ vs) H' fun σ2 H2 => wipe σ2 vs = wipe σ vs ∧ tt σ2 H2 fun b H3 => if b = true then te σ2 H3 fun y H4 => lcPut H0 M L (R (i + 1)) D y H4 else lcSkip H0 M L (R (i + 1)) D H3)
    (hd : ∀ D acc H', R xs.length acc → H0 D = none → Hs H0 M H' ((D, .lst acc) :: L) → Q (.ref D) H') : lcW (Itl K a) g tt te vs σ H Q := by
  intro D hD
  have S1 := S.new hD (.lst [])
  refine lc_list (xs := xs) (fun i H' => lcSkip H0 M L (R i) D H') ⟨S1.1, [], r0, S1.2⟩ (fun i H' _ ⟨_, acc, _, S'⟩ => hl H' acc D S') ?_ ?_
  · rintro i x H' hi ⟨n0, acc, r, S'⟩
    exact hs D i x acc H' hi r n0 S'
  · rintro H' ⟨n0, acc, r, S'⟩
    exact hd D acc H' r n0 S'
theorem lcw_tup {a : Addr} {xs : List V} {vs : List Nat} (S : Hs H0 M H L) (R : Nat → List V → Prop) (r0 : R 0 []) (hl : ∀ H' acc D, Hs H0 M H' ((D, .lst acc) :: L) → SqT K H' a xs)
    (hs : ∀ D i x acc H', xs[i]? = some x → R i acc → H0 D = none → Hs H0 M H' ((D, .lst acc) :: L) → g x (wipe σ vs) H' fun σ2 H2 => wipe σ2 vs = wipe σ vs ∧ tt σ2 H2 fun b H3 => if b = true then te σ2 H3 fun y H4 => lcPut H0 M L (R (i + 1)) D y H4 else lcSkip H0 M L (R (i + 1)) D H3)
    (hd : ∀ D acc H', R xs.length acc → H0 D = none → Hs H0 M H' ((D, .lst acc) :: L) → Q (.ref D) H') : lcW (Itt K a) g tt te vs σ H Q := by
  intro D hD
  have S1 := S.new hD (.lst [])
  refine lc_tup (xs := xs) (fun i H' => lcSkip H0 M L (R i) D H') ⟨S1.1, [], r0, S1.2⟩ (fun i H' _ ⟨_, acc, _, S'⟩ => hl H' acc D S') ?_ ?_
  · rintro i x H' hi ⟨n0, acc, r, S'⟩
    exact hs D i x acc H' hi r n0 S'
  · rintro H' ⟨n0, acc, r, S'⟩
    exact hd D acc H' r n0 S'
end
end Rs
namespace Rs
open PySem PySem.Spec PyProof.Rows L2
/-- an expression that the proof never comes to -/
def tNevE : TE := fun _ _ _ => False
theorem pe_nev {X : Cx} {e : Expr} : PE X e tNevE := ⟨fun _ _ _ _ _ _ h => h.elim⟩
end Rs
namespace Rs
open PySem PySem.Spec PyProof.Rows L2
theorem ex_u {K : PySem.W.Frag} {D : Addr} {x : Str} {v : V} {u : Value} (a : PySem.W.nsIn K D x = some (some u)) (r : RelV v u) : ∃ u, PySem.W.nsIn K D x = some (some u) ∧ RelV v u := ⟨u, a, r⟩
end Rs

namespace Rs
open PySem PySem.Spec PyProof.Rows L2
section
variable {H0 H H' : Hp} {M : List Addr} {L L' N : Led} {a p : Addr} {o o' : HO} {K : PySem.W.Frag}
theorem Hs.perm (S : Hs H0 M H L) (h : L'.Perm L) : Hs H0 M H L' := ⟨(h.map (·.1)).nodup_iff.mpr S.nd, fun q hq => S.is q (h.mem_iff.mp hq), S.old, S.mu⟩
/-- the objects of N are new, each another -/
structure NewL (H H' : Hp) (N : Led) : Prop where
  nd : (N.map (·.1)).Nodup
  nw : ∀ q ∈ N, H q.1 = none
  is : ∀ q ∈ N, H' q.1 = some q.2
/-- one object was changed, those of N are new -/
theorem Hs.oneN (S : Hs H0 M H L) (c : Chg a o o' L L') (hm : H0 a = none ∨ a ∈ M) (k : ∀ b u, H b = some u → b ≠ a → H' b = some u) (h' : H' a = some o') (n : NewL H H' N) : (∀ q ∈ N, H0 q.1 = none) ∧ Hs H0 M H' (N ++ L') := by
  have S' := S.one c hm k h'
  refine ⟨fun q hq => (S.new (n.nw q hq) q.2).1, ?_, ?_, S'.old, S'.mu⟩
  · rw [List.map_append, List.nodup_append]
    refine ⟨n.nd, S'.nd, ?_⟩
    intro x hx y hy e
    subst e
    obtain ⟨q, hq, rfl⟩ := List.mem_map.mp hx
    rw [c.keys] at hy
    obtain ⟨r, hr, e⟩ := List.mem_map.mp hy
    have := S.is r hr
    rw [e, n.nw q hq] at this
    cases this
  · intro q hq
    rcases List.mem_append.mp hq with h | h
    · exact n.is q h
    · exact S'.is q h
/-- nothing was changed, those of N are new -/
theorem Hs.moreN (S : Hs H0 M H L) (k : Same H H') (n : NewL H H' N) : (∀ q ∈ N, H0 q.1 = none) ∧ Hs H0 M H' (N ++ L) := by
  have S' := S.more k
  refine ⟨fun q hq => (S.new (n.nw q hq) q.2).1, ?_, ?_, S'.old, S'.mu⟩
  · rw [List.map_append, List.nodup_append]
    refine ⟨n.nd, S'.nd, ?_⟩
    intro x hx y hy e
    subst e
    obtain ⟨q, hq, rfl⟩ := List.mem_map.mp hx
    obtain ⟨r, hr, e⟩ := List.mem_map.mp hy
    have := S.is r hr
    rw [e, n.nw q hq] at this
    cases this
  · intro q hq
    rcases List.mem_append.mp hq with h | h
    · exact n.is q h
    · exact S'.is q h
/-- what a ledger tells of new ones -/
theorem Hs.news (S : Hs H0 M H L) (h : N.Sublist L) (n : ∀ q ∈ N, H0 q.1 = none) : NewL H0 H N := ⟨S.nd.sublist (h.map _), n, fun q hq => S.is q (h.subset hq)⟩
/-- plain data that a ledger holds: refs of tuples of whole numbers -/
def TupL (rs : List V) (T : Led) : Prop := (∀ r ∈ rs, ∃ q ∈ T, r = .ref q.1) ∧ ∀ q ∈ T, ∃ ns : List Int, q.2 = .tup (ns.map V.int)
theorem TupL.nil : TupL [] [] := ⟨fun r h => (nomatch h), fun q h => (nomatch h)⟩
theorem TupL.app {rs rs2 : List V} {T T2 : Led} (h : TupL rs T) (h2 : TupL rs2 T2) : TupL (rs ++ rs2) (T2 ++ T) := by
  refine ⟨fun r hr => ?_, fun q hq => ?_⟩
  · rcases List.mem_append.mp hr with z | z
    · obtain ⟨q, hq, e⟩ := h.1 r z; exact ⟨q, List.mem_append_right _ hq, e⟩
    · obtain ⟨q, hq, e⟩ := h2.1 r z; exact ⟨q, List.mem_append_left _ hq, e⟩
  · rcases List.mem_append.mp hq with z | z
    · exact h2.2 q z
    · exact h.2 q z
theorem TupL.snoc {rs : List V} {T : Led} (h : TupL rs T) (q : Addr) (ns : List Int) : TupL (rs ++ [.ref q]) ((q, .tup (ns.map V.int)) :: T) :=
  h.app (T2 := [(q, .tup (ns.map V.int))]) ⟨fun r hr => ⟨_, List.mem_cons_self, by simpa using hr⟩, fun z hz => ⟨ns, by simp at hz; rw [hz]⟩⟩
theorem dpT {rs : List V} {T : Led} (h : TupL rs T) (is : ∀ q ∈ T, H q.1 = some q.2) : ∃ nss : List (List Int), nss.length = rs.length ∧ DpAll K H rs (nss.map fun ns => .tuple (ns.map .int)) := by
  induction rs with
  | nil => exact ⟨[], rfl, .nil⟩
  | cons r rs ih =>
    obtain ⟨nss, e, d⟩ := ih ⟨fun x hx => h.1 x (List.mem_cons_of_mem _ hx), h.2⟩
    obtain ⟨q, hq, rfl⟩ := h.1 r List.mem_cons_self
    obtain ⟨ns, e2⟩ := h.2 q hq
    have hi := is q hq
    rw [e2] at hi
    exact ⟨ns :: nss, by simp [e], .cons (.tup (SqT.of hi) (dps_ints ns)) d⟩
theorem lay_T : ∀ nss : List (List Int), PyData.canLayAll0 (nss.map fun ns => .tuple (ns.map .int)) = true ∧ PyData.depthAll (nss.map fun ns => .tuple (ns.map .int)) ≤ 1
  | [] => by simp [PyData.canLayAll0, PyData.depthAll]
  | ns :: nss => by
    obtain ⟨a, b⟩ := lay_T nss
    simp only [List.map_cons, PyData.canLayAll0, PyData.canLay0, canLay_ints, a, Bool.and_self, PyData.depthAll, PyData.depth, depth_ints, true_and]
    omega
/-- a list of such tuples: data -/
theorem dpLT {rs : List V} {T : Led} (h : TupL rs T) (S : Hs H0 M H L) (m : (a, HO.lst rs) ∈ L) (sub : ∀ q ∈ T, q ∈ L) : ∃ nss : List (List Int), nss.length = rs.length ∧ Dp K H (.ref a) (.list (nss.map fun ns => .tuple (ns.map .int))) ∧ SeqAt.shaped (.list (nss.map fun ns => .tuple (ns.map .int))) = true := by
  obtain ⟨nss, e, d⟩ := dpT (K := K) (H := H) h fun q hq => S.is q (sub q hq)
  obtain ⟨y, z⟩ := lay_T nss
  refine ⟨nss, e, .lst (S.lst m) d, ?_⟩
  unfold SeqAt.shaped
  have e1 : PyData.canLay0 (.list (nss.map fun ns => .tuple (ns.map .int))) = true := by simp only [PyData.canLay0, y]
  rw [e1, Bool.true_and]
  refine decide_eq_true ?_
  simp only [PyData.depth]
  omega
theorem eqv_nil (xs : List PyData) : PyData.eqv (.list xs) (.list []) = decide (xs.length = 0) := by
  cases xs <;> simp [PyData.eqv, PyData.eqvAll]
/-- == [] and != [] of a list of such tuples -/
theorem rd_eqT0 {Q : VK} {rs : List V} {T : Led} {b : Addr} (h : TupL rs T) (S : Hs H0 M H L) (m : (a, HO.lst rs) ∈ L) (m2 : (b, HO.lst []) ∈ L) (sub : ∀ q ∈ T, q ∈ L) (k : Q (.bl (decide (rs.length = 0))) H) : rEqD K (.ref a) (.ref b) H Q := by
  obtain ⟨nss, e, d, sh⟩ := dpLT (K := K) h S m sub
  refine ⟨_, .list [], d, .lst (S.lst m2) .nil, sh, by decide, ?_⟩
  rw [eqv_nil, List.length_map, e]
  exact k
theorem rd_neT0 {Q : VK} {rs : List V} {T : Led} {b : Addr} (h : TupL rs T) (S : Hs H0 M H L) (m : (a, HO.lst rs) ∈ L) (m2 : (b, HO.lst []) ∈ L) (sub : ∀ q ∈ T, q ∈ L) (k : Q (.bl (!decide (rs.length = 0))) H) : rNeD K (.ref a) (.ref b) H Q := by
  obtain ⟨nss, e, d, sh⟩ := dpLT (K := K) h S m sub
  refine ⟨_, .list [], d, .lst (S.lst m2) .nil, sh, by decide, ?_⟩
  rw [eqv_nil, List.length_map, e]
  exact k
end
end Rs
namespace Rs
open PySem PySem.Spec PyProof.Rows L2
theorem rd_nn {R : Prop} (h : R) : V.non = V.non ∧ R := ⟨rfl, h⟩
end Rs
namespace Rs
open PySem PySem.Spec PyProof.Rows L2
section
variable {σ : L2.St} {H : Hp} {nx : L2.St → Hp → Prop} {rt : VK} {bk ct : L2.St → Hp → Prop} {te : TE}
theorem rd_aug {i : Nat} {v : V} {rd : V → V → Hp → VK → Prop} (e : σ[i]? = some (some v)) (h : te σ H fun y H1 => rd v y H1 fun z H2 => nx (σ.set i (some z)) H2) : tAug i te rd ⟨nx, rt, bk, ct⟩ σ H := ⟨v, e, h⟩
theorem rd_ipI {f : Int → Int → Int} {Q : VK} {i j : Int} (h : Q (.int (f i j)) H) : ipI f (.int i) (.int j) H Q := ⟨i, j, rfl, rfl, h⟩
end
end Rs
namespace Rs
open PySem PySem.Spec PyProof.Rows L2
theorem Hs.made {C x dx : Addr} {H0 H : Hp} {M : List Addr} {L : Led} (S : Hs H0 M H L) (hx : H x = none) (hd : H dx = none) (ne : dx ≠ x) : H0 x = none ∧ Hs H0 M (upd (upd H dx (.own x)) x (.ins C dx [])) ((x, .ins C dx []) :: L) := by
  obtain ⟨_, S1⟩ := S.new hd (.own x)
  have hx' : upd H dx (HO.own x) x = none := by rw [upd_ne (Ne.symm ne)]; exact hx
  obtain ⟨n0, S2⟩ := S1.new hx' (.ins C dx [])
  exact ⟨n0, S2.sub (List.Sublist.cons_cons _ (List.Sublist.cons _ (List.Sublist.refl _)))⟩
end Rs

namespace Rs
open PySem PySem.Spec PyProof.Rows L2

/-! ### sum and max over tuples, with a start, with a default -/
section
variable {prog : Program} {w : World} {A : Around} {s : Shared} {R : Result → Shared → Prop} {E : Value → Shared → Prop}
/-- a walk with one more in front, that is over -/
theorem walk_more {I : Addr} {fp wr : List Addr} {n : Nat} {P : Nat → Value → Prop} {St : Nat → Heap → Prop} (W : Walks prog w A I fp wr n P St) :
    Walks prog w A I fp wr (n + 1) (fun i v => 0 < i ∧ P (i - 1) v) (fun i h => 0 < i ∧ St (i - 1) h) where
  sub := W.sub
  frame := fun i h h' st k => ⟨st.1, W.frame _ h h' st.2 k⟩
  item := fun i s Q E hi st hq => by
    obtain ⟨j, rfl⟩ : ∃ j, i = j + 1 := ⟨i - 1, by have := st.1; omega⟩
    refine W.item j s Q E (by omega) st.2 fun v h' tk p st' k => hq v h' tk ⟨Nat.succ_pos _, p⟩ ⟨Nat.succ_pos _, st'⟩ k
  done := fun s Q E st hq => W.done s Q E st.2 hq
  self := fun i s Q E st hq => W.self _ s Q E st.2 hq
theorem sumK_args (a v : Value) : argsOk "sum" ⟨[a], [(Str.ofString "start", v)]⟩ := by unfold argsOk; kernel_rfl
theorem maxD_args (a v : Value) : argsOk "max" ⟨[a], [(Str.ofString "default", v)]⟩ := by unfold argsOk; kernel_rfl
def shiftV (k : Int) (val : Nat → Int) : Nat → Int
  | 0 => k
  | i + 1 => val i
theorem preSum_shift (k : Int) (val : Nat → Int) : ∀ n, preSum (shiftV k val) (n + 1) = k + preSum val n
  | 0 => by simp [preSum, shiftV]
  | n + 1 => by
    rw [preSum, preSum_shift k val n, preSum]
    simp [shiftV]
    omega
/-- sum(x, start=k) -/
theorem sum_from {x : Value} {k : Int} {tok : Tok} {Q : Value → Shared → Prop}
    (h : wpAny (model prog w) A.in1 (pyIter x) (fun it s₂ => ∃ I fp wr n P St val, it = .ref I ∧ Walks prog w A.in1 I fp wr n P St ∧ St 0 s₂.heap ∧ (∀ b ∈ fp, b < s₂.heap.objs.size) ∧ (∀ i v, P i v → ∃ t, v = .int (val i) t) ∧
      ∀ h' tk t', (∀ b o, b ∉ wr → s₂.heap.get? b = some o → h'.get? b = some o) → Q (.int (k + preSum val n) t') { s₂ with heap := h', toks := tk }) E s) :
    wpAny (model prog w) A (call (.builtin "sum") [x] [(Str.ofString "start", .int k tok)]) Q E s := by
  refine PyProof.Rows.kmk_tree F.kind_sum F.plain_sum F.entry_sum (sumK_args _ _) ?_
  unfold Builtin.«sum»
  simp only [List.length_cons, List.length_nil]
  rw [if_neg (by decide)]
  refine wpAny_bind (wpAny_of_eq (a := [some (.int k tok)]) rfl ?_)
  refine wpAny_bind (wpAny_mono h (fun it s₂ q => ?_) fun _ _ e => e)
  obtain ⟨I, fp, wr, n, P, St, val, rfl, W, st, hfp, hval, hQ⟩ := q
  have hv' : ∀ i v, (0 < i ∧ P (i - 1) v) → ∃ t, v = .int (shiftV k val i) t := fun i v z => by
    obtain ⟨j, rfl⟩ : ∃ j, i = j + 1 := ⟨i - 1, by omega⟩
    exact hval j v z.2
  have hS : s₂.heap.objs.size ∉ fp := fun m => Nat.lt_irrefl _ (hfp _ m)
  show wpAny _ A.in1 (if (_ : Bool) = true then _ else _) _ _ _
  split
  · refine wpAny_bind (wpAny_rule (wpAny_bind (wpAny_mkInt (wpAny_bind (wpAny_pure ?_)))))
    simp only [List.forIn_cons, List.forIn_nil]
    refine wpAny_bind (wpAny_bind (wpAny_bind (wpAny_isInstance (T := "int") (b := false) (typeIs_int _ _ _) PySem.sub_int_str ?_)))
    refine wpAny_pure (wpAny_bind (wpAny_bind (wpAny_isInstance (T := "int") (b := false) (typeIs_int _ _ _) PySem.sub_int_bytes ?_)))
    refine wpAny_pure (wpAny_bind (wpAny_bind (wpAny_isInstance (T := "int") (b := false) (typeIs_int _ _ _) PySem.sub_int_bytearray ?_)))
    refine wpAny_pure (wpAny_pure ?_)
    refine wpAny_bind (wpAny_newObj_type (wpAny_pure ⟨plainId_quiet F.plain_sum_loop _, codeAny_sum_loopG (walk_more W) (shiftV k val) hv' s₂.heap.objs.size hS n 1 _ _ 0 0 (Or.inl rfl) rfl (by omega)
      ⟨Nat.one_pos, W.frame _ _ _ st fun b _ o e => Heap.get?_push_of_some _ e⟩ (by rw [show preSum (shiftV k val) 1 = k by simp [preSum, shiftV]]; exact Heap.get?_push_size _ rfl) fun h' tk t' kp => ?_⟩))
    rw [preSum_shift]
    exact hQ h' tk t' fun b o hb e => kp b o hb (Nat.ne_of_lt (Heap.lt_size e)) (Heap.get?_push_of_some _ e)
  · refine wpAny_bind (wpAny_pure ?_)
    simp only [List.forIn_cons, List.forIn_nil]
    refine wpAny_bind (wpAny_bind (wpAny_bind (wpAny_isInstance (T := "int") (b := false) (typeIs_int _ _ _) PySem.sub_int_str ?_)))
    refine wpAny_pure (wpAny_bind (wpAny_bind (wpAny_isInstance (T := "int") (b := false) (typeIs_int _ _ _) PySem.sub_int_bytes ?_)))
    refine wpAny_pure (wpAny_bind (wpAny_bind (wpAny_isInstance (T := "int") (b := false) (typeIs_int _ _ _) PySem.sub_int_bytearray ?_)))
    refine wpAny_pure (wpAny_pure ?_)
    refine wpAny_bind (wpAny_newObj_type (wpAny_pure ⟨plainId_quiet F.plain_sum_loop _, codeAny_sum_loopG (walk_more W) (shiftV k val) hv' s₂.heap.objs.size hS n 1 _ _ 0 2 (Or.inr rfl) rfl (by omega)
      ⟨Nat.one_pos, W.frame _ _ _ st fun b _ o e => Heap.get?_push_of_some _ e⟩ (by rw [show preSum (shiftV k val) 1 = k by simp [preSum, shiftV]]; exact Heap.get?_push_size _ rfl) fun h' tk t' kp => ?_⟩))
    rw [preSum_shift]
    exact hQ h' tk t' fun b o hb e => kp b o hb (Nat.ne_of_lt (Heap.lt_size e)) (Heap.get?_push_of_some _ e)
/-- max(x, default=d): the loop -/
theorem max_loopD {I : Addr} {fp wr : List Addr} {n : Nat} {P : Nat → Value → Prop} {St : Nat → Heap → Prop} (W : Walks prog w A.in1 I fp wr n P St) (val : Nat → Int) (hval : ∀ i v, P i v → ∃ t, v = .int (val i) t) (T : Addr) (hT : T ∉ fp) (d : Value) :
    ∀ (k i : Nat) (s : Shared) (c : Nat) (best : Option (Int × Tok)), n - i = k → i ≤ n → St i s.heap →
      s.heap.get? T = some { cls := .type "list", dict := none, data := .seq (match best with | none => #[] | some b => #[.int b.1 b.2, .int b.1 b.2]) c, slots := #[] } →
      (∀ v h' tk, (best = none → i = n → v = d) → (best ≠ none ∨ i < n → ∃ m t, v = .int m t ∧ ((∃ b, best = some b ∧ m = b.1) ∨ ∃ j, i ≤ j ∧ j < n ∧ m = val j) ∧ (∀ b, best = some b → b.1 ≤ m) ∧ ∀ j, i ≤ j → j < n → val j ≤ m) →
        (∀ b o, b ∉ wr → b ≠ T → s.heap.get? b = some o → h'.get? b = some o) → R (.ok (.ret v)) { s with heap := h', toks := tk }) →
      codeAny (model prog w) A (.builtin "max.loop" ⟨[.ref I, .none, .ref T], [(Str.ofString "default", d)]⟩) R s := by
  have hTw : T ∉ wr := fun z => hT (W.sub _ z)
  have hname : (toString "max" ++ toString ".loop" : String) = "max.loop" := by decide
  intro k
  induction k with
  | zero =>
    intro i s c best hk hi hst hS hR
    have hin : i = n := by omega
    subst hin
    refine codeAny_builtin F.entry_max_loop ?_
    rw [Around.under_plainId F.plain_max_loop _]
    show wpAny _ A.in1 (seqItems? (.ref T) >>= _) _ _ s
    refine wpAny_bind (wpAny_seqItems hS rfl ?_)
    show wpAny _ A.in1 (tryCatch (pyNext (.ref I)) _ >>= _) _ _ s
    refine wpAny_bind (wpAny_tryCatch (W.done s _ _ hst fun h' tk kp => ?_))
    have hS' := kp T _ hTw hS
    cases best with
    | none =>
      show wpAny _ A.in1 (rule _ >>= _) _ _ _
      refine wpAny_bind (wpAny_rule (wpAny_pure ?_))
      exact hR d h' tk (fun _ _ => rfl) (fun z => by rcases z with z | z; exact absurd rfl z; omega) fun b o hb _ e => kp b o hb e
    | some b =>
      show wpAny _ A.in1 (updateSeq T (fun _ => #[]) >>= _) _ _ _
      refine wpAny_bind ?_
      refine wpAny_updateSeq hS' rfl (wpAny_bind (wpAny_letGo (wpAny_pure ?_)))
      refine hR (.int b.1 b.2) _ tk (fun z => nomatch z) (fun _ => ⟨b.1, b.2, rfl, Or.inl ⟨b, rfl, rfl⟩, fun b' e => by cases e; exact Int.le_refl _, fun j h1 h2 => by omega⟩) fun b o hb hbT e => (Heap.get?_update_other _ _ (Ne.symm hbT)).trans (kp b o hb e)
  | succ k ih =>
    intro i s c best hk hi hst hS hR
    have hlt : i < n := by omega
    refine codeAny_builtin F.entry_max_loop ?_
    rw [Around.under_plainId F.plain_max_loop _]
    show wpAny _ A.in1 (seqItems? (.ref T) >>= _) _ _ s
    refine wpAny_bind (wpAny_seqItems hS rfl ?_)
    show wpAny _ A.in1 (tryCatch (pyNext (.ref I)) _ >>= _) _ _ s
    refine wpAny_bind (wpAny_tryCatch (W.item i s _ _ hlt hst fun v h' tk hP hst' kp => ?_))
    have hS' := kp T _ hTw hS
    obtain ⟨t, rfl⟩ := hval i v hP
    have next : ∀ (b : Int × Tok) (h2 : Heap) (tk2 c2 : Nat), (b.1 = val i ∨ ∃ b0, best = some b0 ∧ b.1 = b0.1) → val i ≤ b.1 → (∀ b0, best = some b0 → b0.1 ≤ b.1) → St (i + 1) h2 →
        h2.get? T = some { cls := .type "list", dict := none, data := .seq #[.int b.1 b.2, .int b.1 b.2] c2, slots := #[] } → (∀ y o, y ∉ wr → y ≠ T → s.heap.get? y = some o → h2.get? y = some o) →
        codeAny (model prog w) A (.builtin "max.loop" ⟨[.ref I, .none, .ref T], [(Str.ofString "default", d)]⟩) R { s with heap := h2, toks := tk2 } := by
      intro b h2 tk2 c2 e1 e2 e3 st2 g2 kp2
      refine ih (i + 1) { s with heap := h2, toks := tk2 } c2 (some b) (by clear e1 e2 e3; omega) hlt st2 g2 fun v h3 tk3 _ z kp3 => ?_
      obtain ⟨m, t3, rfl, z1, z2, z3⟩ := z (Or.inl (by simp))
      have zb := z2 b rfl
      refine hR _ h3 tk3 (fun _ q => by omega) (fun _ => ⟨m, t3, rfl, ?_, fun b0 q => Int.le_trans (e3 b0 q) zb, fun j h1 h2 => ?_⟩) fun y o hy hyT e => kp3 y o hy hyT (kp2 y o hy hyT e)
      · rcases z1 with ⟨b', q1, rfl⟩ | ⟨j, q1, q2, rfl⟩
        · cases q1
          rcases e1 with e1 | ⟨b0, q2, e1⟩
          · exact Or.inr ⟨i, Nat.le_refl _, hlt, e1⟩
          · exact Or.inl ⟨b0, q2, e1⟩
        · exact Or.inr ⟨j, by omega, q2, rfl⟩
      · by_cases q : j = i
        · subst q; omega
        · exact z3 j (by omega) h2
    cases best with
    | none =>
      show wpAny _ A.in1 (updateSeq T (fun _ => #[.int (val i) t, .int (val i) t]) >>= _) _ _ _
      refine wpAny_bind ?_
      refine wpAny_updateSeq hS' rfl ?_
      rw [hname]
      refine wpAny_pure ⟨plainId_quiet F.plain_max_loop _, next (val i, t) _ _ _ (Or.inl rfl) (Int.le_refl _) (fun b0 q => nomatch q) (W.frame _ _ _ hst' fun b hb o e => ?_) (Heap.get?_update_self _ hS' rfl) fun b o hb hbT e => ?_⟩
      · exact (Heap.get?_update_other _ _ (fun z : T = b => hT (z ▸ hb))).trans e
      · exact (Heap.get?_update_other _ _ (Ne.symm hbT)).trans (kp b o hb e)
    | some b =>
      have cmp := CmpOf.ints_gt (prog := prog) (w := w) (A := A.in1) (P := fun (z : Nat) v => ∃ t, v = Value.int (if z = 0 then val i else b.1) t) (fun z => if z = 0 then val i else b.1) (fun _ _ z => z)
      show wpAny _ A.in1 (tryCatch (holding [Value.int (val i) t, Value.int (val i) t] (richCompare .Gt (.int (val i) t) (.int b.1 b.2) >>= _)) _ >>= _) _ _ _
      refine wpAny_bind (wpAny_tryCatch (wpAny_holding (wpAny_bind (cmp 0 1 _ _ _ _ _ ⟨t, rfl⟩ ⟨b.2, rfl⟩ ?_))))
      refine wpAny_bind (wpAny_holding (wpAny_truthy_bool ?_))
      refine wpAny_bind (wpAny_letGo (wpAny_pure ?_))
      simp only [if_true, Nat.one_ne_zero, if_false]
      by_cases q : val i > b.1
      · rw [decide_eq_true q]
        simp only [if_true]
        refine wpAny_bind ?_
        refine wpAny_updateSeq hS' rfl (wpAny_bind (wpAny_letGo ?_))
        rw [hname]
        refine wpAny_pure ⟨plainId_quiet F.plain_max_loop _, next (val i, t) _ _ _ (Or.inl rfl) (Int.le_refl _) (fun b0 z => by cases z; exact Int.le_of_lt q) (W.frame _ _ _ hst' fun y hb o e => ?_) (Heap.get?_update_self _ hS' rfl) fun y o hb hbT e => ?_⟩
        · exact (Heap.get?_update_other _ _ (fun z : T = y => hT (z ▸ hb))).trans e
        · exact (Heap.get?_update_other _ _ (Ne.symm hbT)).trans (kp y o hb e)
      · rw [decide_eq_false q]
        simp only [Bool.false_eq_true, if_false]
        refine wpAny_bind (wpAny_letGo ?_)
        rw [hname]
        exact wpAny_pure ⟨plainId_quiet F.plain_max_loop _, next b _ _ c (Or.inr ⟨b, rfl, rfl⟩) (by omega) (fun b0 z => by cases z; exact Int.le_refl _) hst' hS' fun y o hb _ e => kp y o hb e⟩
/-- max(x, default=d) -/
theorem max_dflt {x d : Value} {Q : Value → Shared → Prop}
    (h : wpAny (model prog w) A.in1 (pyIter x) (fun it s₂ => ∃ I fp wr n P St, ∃ val : Nat → Int, it = .ref I ∧ Walks prog w A.in1 I fp wr n P St ∧ St 0 s₂.heap ∧ (∀ b ∈ fp, b < s₂.heap.objs.size) ∧ (∀ i v, P i v → ∃ t, v = .int (val i) t) ∧
      ∀ v h' tk, (n = 0 → v = d) → (0 < n → ∃ m t, v = .int m t ∧ (∃ j, j < n ∧ m = val j) ∧ ∀ j, j < n → val j ≤ m) → (∀ b o, b ∉ wr → s₂.heap.get? b = some o → h'.get? b = some o) → Q v { s₂ with heap := h', toks := tk }) E s) :
    wpAny (model prog w) A (call (.builtin "max") [x] [(Str.ofString "default", d)]) Q E s := by
  have hname : (toString "max" ++ toString ".loop" : String) = "max.loop" := by decide
  refine PyProof.Rows.kmk_tree F.kind_max F.plain_max F.entry_max (maxD_args _ _) ?_
  show wpAny _ A.in1 (Builtin.Builtins.bindParams "max" ["key", "default"] 0 ⟨[], [(Str.ofString "default", d)]⟩ >>= _) _ _ s
  refine wpAny_bind (wpAny_of_eq (a := [none, some d]) rfl ?_)
  refine wpAny_bind (wpAny_pure ?_)
  refine wpAny_bind (wpAny_mono h (fun it s₂ q => ?_) fun _ _ e => e)
  obtain ⟨I, fp, wr, n, P, St, val, rfl, W, st, hfp, hval, hQ⟩ := q
  refine wpAny_bind (wpAny_newObj_type ?_)
  have hT : s₂.heap.objs.size ∉ fp := fun m => Nat.lt_irrefl _ (hfp _ m)
  rw [hname]
  refine wpAny_pure ⟨plainId_quiet F.plain_max_loop _, max_loopD W val hval s₂.heap.objs.size hT d n 0 _ 0 none (by omega) (Nat.zero_le _) (W.frame _ _ _ st fun b _ o e => Heap.get?_push_of_some _ e) (Heap.get?_push_size _ rfl) fun v h' tk z1 z2 kp => ?_⟩
  refine hQ v h' tk (fun z => z1 rfl z.symm) (fun z => ?_) fun b o hb e => kp b o hb (Nat.ne_of_lt (Heap.lt_size e)) (Heap.get?_push_of_some _ e)
  obtain ⟨m, t, e, y1, _, y3⟩ := z2 (Or.inr z)
  refine ⟨m, t, e, ?_, fun j hj => y3 j (Nat.zero_le _) hj⟩
  rcases y1 with ⟨b, q, _⟩ | ⟨j, _, q, r⟩
  · cases q
  · exact ⟨j, q, r⟩
end
end Rs
namespace Rs
open PySem PySem.Spec PyProof.Rows L2
theorem preSum_take (ns : List Int) : ∀ n, n ≤ ns.length → preSum (fun i => ns.getD i 0) n = (ns.take n).sum
  | 0, _ => by simp [preSum]
  | n + 1, h => by
    rw [preSum, preSum_take ns n (by omega), List.take_succ, List.getElem?_eq_getElem (by omega), List.sum_append]
    simp [List.getD_eq_getElem?_getD, List.getElem?_eq_getElem (show n < ns.length by omega)]
theorem preSum_all (ns : List Int) : preSum (fun i => ns.getD i 0) ns.length = ns.sum := by rw [preSum_take ns _ (Nat.le_refl _), List.take_length]
theorem vals_at {ns : List Int} {us : List Value} (r : Vals (ns.map V.int) us) (i : Nat) (v : Value) (h : us.toArray[i]? = some v) : ∃ t, v = .int (ns.getD i 0) t := by
  rw [List.getElem?_toArray] at h
  obtain ⟨hl, e⟩ := List.getElem?_eq_some_iff.mp h
  have hl2 : i < ns.length := by rw [← r.length, List.length_map] at hl; exact hl
  have e1 : (ns.map V.int)[i]? = some (.int (ns.getD i 0)) := by rw [List.getElem?_map, List.getD_eq_getElem?_getD, List.getElem?_eq_getElem hl2]; rfl
  obtain ⟨u, e2, ru⟩ := r.get e1
  rw [h] at e2
  cases e2
  exact ru
section
variable {prog : Program} {w : World} {A : Around} {s : Shared} {E : Value → Shared → Prop}
/-- iter(l) of a list, of a tuple: a walk over its items -/
theorem walk_list {l : Addr} {its : Array Value} {Q : Value → Shared → Prop} (hh : A.handled = none) (hl : s.heap.IsList l its)
    (h : ∀ s₂ : Shared, s₂ = { s with heap := s.heap.push { cls := .type "list_iterator", data := .fields #[.ref l, .int 0 0] } } → ∀ (St : Nat → Heap → Prop), Walks prog w A s.heap.objs.size [s.heap.objs.size, l] [s.heap.objs.size] its.size (fun i v => its[i]? = some v) St → St 0 s₂.heap →
      (∀ b ∈ [s.heap.objs.size, l], b < s₂.heap.objs.size) → Q (.ref s.heap.objs.size) s₂) : wpAny (model prog w) A (pyIter (.ref l)) Q E s := by
  have hlt : l < s.heap.objs.size := by obtain ⟨_, e, _⟩ := hl; exact Heap.lt_size e
  refine wpAny_pyIter_list hl (h _ rfl _ (Walks.list (A := A) hh _ l (Nat.ne_of_lt hlt) its) ⟨⟨_, Heap.get?_push_size _ rfl, rfl, rfl⟩, hl.push _⟩ ?_)
  intro b hb
  show b < (s.heap.push _).objs.size
  rw [Heap.size_push]
  simp only [List.mem_cons, List.not_mem_nil, or_false] at hb
  rcases hb with rfl | rfl
  · exact Nat.lt_succ_self _
  · exact Nat.lt_succ_of_lt hlt
theorem walk_tup {l : Addr} {its : Array Value} {Q : Value → Shared → Prop} (hh : A.handled = none) (hl : s.heap.IsTuple l its)
    (h : ∀ s₂ : Shared, s₂ = { s with heap := s.heap.push { cls := .type "tuple_iterator", data := .fields #[.ref l, .int 0 0] } } → ∀ (St : Nat → Heap → Prop), Walks prog w A s.heap.objs.size [s.heap.objs.size, l] [s.heap.objs.size] its.size (fun i v => its[i]? = some v) St → St 0 s₂.heap →
      (∀ b ∈ [s.heap.objs.size, l], b < s₂.heap.objs.size) → Q (.ref s.heap.objs.size) s₂) : wpAny (model prog w) A (pyIter (.ref l)) Q E s := by
  have hlt : l < s.heap.objs.size := by obtain ⟨_, e, _⟩ := hl; exact Heap.lt_size e
  refine wpAny_pyIter_tuple hl (h _ rfl _ (Walks.tuple (A := A) hh _ l (Nat.ne_of_lt hlt) its) ⟨⟨_, Heap.get?_push_size _ rfl, rfl, rfl⟩, hl.push _⟩ ?_)
  intro b hb
  show b < (s.heap.push _).objs.size
  rw [Heap.size_push]
  simp only [List.mem_cons, List.not_mem_nil, or_false] at hb
  rcases hb with rfl | rfl
  · exact Nat.lt_succ_self _
  · exact Nat.lt_succ_of_lt hlt
end
section
variable {X : Cx}
/-- what stood, stands -/
theorem it_old {s : Shared} {o : Obj} {h' : Heap} (k : ∀ b u, b ∉ [s.heap.objs.size] → (s.heap.push o).get? b = some u → h'.get? b = some u) : ∀ b u, s.heap.get? b = some u → h'.get? b = some u := fun b u e =>
  k b u (fun z => absurd (Heap.lt_size e) ((List.mem_singleton.mp z) ▸ Nat.lt_irrefl _)) (Heap.get?_push_of_some _ e)
def rSumT (K : PySem.W.Frag) : List V → Hp → VK → Prop := fun vs H Q => ∃ (a : Addr) (ns : List Int), vs = [V.ref a] ∧ SqT K H a (ns.map V.int) ∧ Q (.int ns.sum) H
theorem cr_sumT (hc : X.calm = true) : CallR X (.builtin "sum") (rSumT X.K) := by
  intro pins s σ H vs us Q I r h
  obtain ⟨a, ns, rfl, hs, q⟩ := h
  obtain ⟨its, rv, ht, hz⟩ := I.tuple hs
  rw [Vals.ref1 r]
  obtain ⟨o, e1, e2, n, e3⟩ := id ht
  refine call_sum_walkG (walk_tup (A := X.A.in1) (I.ok.hd hc) ⟨o, e1, e2, n, e3⟩ fun s₂ es St W st hfp => ?_)
  subst es
  refine ⟨_, _, _, _, _, _, fun i => ns.getD i 0, rfl, W, st, hfp, vals_at rv, fun h' tk t' hk => ⟨.int _, H, I.kept (it_old hk), ⟨_, rfl⟩, ?_⟩⟩
  rw [List.size_toArray, ← rv.length, List.length_map, preSum_all]
  exact q
def rSumK (K : PySem.W.Frag) : List V → List V → Hp → VK → Prop := fun vs zs H Q => ∃ (a : Addr) (ns : List Int) (k : Int), vs = [V.ref a] ∧ zs = [V.int k] ∧ SqL K H a (ns.map V.int) ∧ Q (.int (k + ns.sum)) H
theorem cr_sumK (hc : X.calm = true) : CallRK X (.builtin "sum") [Str.ofString "start"] (rSumK X.K) := by
  intro pins s σ H vs zs us ws Q I r rz h
  obtain ⟨a, ns, k, rfl, rfl, hs, q⟩ := h
  obtain ⟨its, rv, ht, hz⟩ := I.list hs
  rw [Vals.ref1 r]
  obtain ⟨u, rfl, t, rfl⟩ := vals1 rz
  refine sum_from (walk_list (A := X.A.in1) (I.ok.hd hc) ht.isList fun s₂ es St W st hfp => ?_)
  subst es
  refine ⟨_, _, _, _, _, _, fun i => ns.getD i 0, rfl, W, st, hfp, vals_at rv, fun h' tk t' hk => ⟨.int _, H, I.kept (it_old hk), ⟨_, rfl⟩, ?_⟩⟩
  rw [List.size_toArray, ← rv.length, List.length_map, preSum_all]
  exact q
def maxD (d : Int) : List Int → Int
  | [] => d
  | x :: xs => xs.foldl max x
theorem fold_max : ∀ (xs : List Int) (x : Int), (xs.foldl max x = x ∨ xs.foldl max x ∈ xs) ∧ x ≤ xs.foldl max x ∧ ∀ y ∈ xs, y ≤ xs.foldl max x
  | [], x => ⟨Or.inl rfl, Int.le_refl _, fun y h => (nomatch h)⟩
  | z :: xs, x => by
    obtain ⟨h1, h2, h3⟩ := fold_max xs (max x z)
    simp only [List.foldl_cons]
    have a1 : x ≤ max x z := by omega
    have a2 : z ≤ max x z := by omega
    refine ⟨?_, by omega, fun y hy => ?_⟩
    · rcases h1 with h1 | h1
      · rw [h1]
        by_cases c : x ≤ z
        · right; rw [show max x z = z by omega]; exact List.mem_cons_self
        · left; omega
      · exact Or.inr (List.mem_cons_of_mem _ h1)
    · rcases List.mem_cons.mp hy with rfl | hy
      · omega
      · exact h3 y hy
theorem maxD_is {d m : Int} {ns : List Int} (h0 : ns ≠ []) (h1 : m ∈ ns) (h2 : ∀ y ∈ ns, y ≤ m) : maxD d ns = m := by
  cases ns with
  | nil => exact absurd rfl h0
  | cons x xs =>
    obtain ⟨a, b, c⟩ := fold_max xs x
    show xs.foldl max x = m
    have z1 : xs.foldl max x ≤ m := by
      rcases a with a | a
      · rw [a]; exact h2 x List.mem_cons_self
      · exact h2 _ (List.mem_cons_of_mem _ a)
    have z2 : m ≤ xs.foldl max x := by
      rcases List.mem_cons.mp h1 with rfl | h
      · exact b
      · exact c m h
    omega
def rMaxDT (K : PySem.W.Frag) : List V → List V → Hp → VK → Prop := fun vs zs H Q => ∃ (a : Addr) (ns : List Int) (d : Int), vs = [V.ref a] ∧ zs = [V.int d] ∧ SqT K H a (ns.map V.int) ∧ Q (.int (maxD d ns)) H
theorem cr_maxDT (hc : X.calm = true) : CallRK X (.builtin "max") [Str.ofString "default"] (rMaxDT X.K) := by
  intro pins s σ H vs zs us ws Q I r rz h
  obtain ⟨a, ns, d, rfl, rfl, hs, q⟩ := h
  obtain ⟨its, rv, ht, hz⟩ := I.tuple hs
  rw [Vals.ref1 r]
  obtain ⟨u, rfl, t, rfl⟩ := vals1 rz
  obtain ⟨o, e1, e2, n, e3⟩ := id ht
  refine max_dflt (walk_tup (A := X.A.in1) (I.ok.hd hc) ⟨o, e1, e2, n, e3⟩ fun s₂ es St W st hfp => ?_)
  subst es
  have hl : its.toArray.size = ns.length := by rw [List.size_toArray, ← rv.length, List.length_map]
  refine ⟨_, _, _, _, _, _, fun i => ns.getD i 0, rfl, W, st, hfp, vals_at rv, fun v h' tk z1 z2 hk => ?_⟩
  rw [hl] at z1 z2
  by_cases h0 : ns = []
  · subst h0
    rw [z1 rfl]
    exact ⟨.int d, H, I.kept (it_old hk), ⟨t, rfl⟩, q⟩
  · have hp : 0 < ns.length := List.length_pos_iff.mpr h0
    obtain ⟨m, t2, rfl, ⟨j, hj, rfl⟩, hm⟩ := z2 hp
    refine ⟨.int _, H, I.kept (it_old hk), ⟨t2, rfl⟩, ?_⟩
    have em : maxD d ns = ns.getD j 0 := by
      refine maxD_is h0 ?_ fun y hy => ?_
      · rw [List.getD_eq_getElem?_getD, List.getElem?_eq_getElem hj]
        exact List.getElem_mem hj
      · obtain ⟨i, hi, rfl⟩ := List.mem_iff_getElem.mp hy
        have z : ns.getD i 0 ≤ ns.getD j 0 := hm i hi
        rw [List.getD_eq_getElem?_getD, List.getElem?_eq_getElem hi] at z
        exact z
    show Q (.int (ns.getD j 0)) H
    rw [← em]
    exact q
end
end Rs
namespace Rs
open PySem PySem.Spec PyProof.Rows L2
/-! ### a tuple's slice with a step -/
def ixT (n : Nat) (lo hi : Option Int) (st : Int) : List Nat := (List.range (Builtin.Slice.slicePlaces (Builtin.Slice.sliceAdjust lo hi st n).1 (Builtin.Slice.sliceAdjust lo hi st n).2 st)).map fun (k : Nat) => ((Builtin.Slice.sliceAdjust lo hi st n).1 + (k : Int) * st).toNat
def pickT (xs : List V) (lo hi : Option Int) (st : Int) : List V := (ixT xs.length lo hi st).filterMap (xs[·]?)
def pickI (ns : List Int) (lo hi : Option Int) (st : Int) : List Int := (ixT ns.length lo hi st).filterMap (ns[·]?)
theorem pickT_map (ns : List Int) (lo hi : Option Int) (st : Int) : pickT (ns.map V.int) lo hi st = (pickI ns lo hi st).map V.int := by
  unfold pickT pickI
  rw [List.length_map]
  generalize ixT ns.length lo hi st = ix
  induction ix with
  | nil => rfl
  | cons i ix ih =>
    cases h : ns[i]? with
    | none => rw [List.filterMap_cons_none (by rw [List.getElem?_map, h]; rfl), List.filterMap_cons_none h, ih]
    | some z => rw [List.filterMap_cons_some (by rw [List.getElem?_map, h]; rfl), List.filterMap_cons_some h, ih]; rfl
section
variable {prog : Program} {w : World} {A : Around} {s : Shared} {E : Value → Shared → Prop}
theorem part_ {v : Value} {o : Option Int} {Q : Option Int → Shared → Prop} (p : IsPart v o) (h : Q o s) : wpAny (model prog w) A (Builtin.Slice.slicePartIndex v) Q E s := HT.slicePart_ p h
theorem stepped {sl : Addr} {vl vu vs : Value} {lo hi : Option Int} {st : Int} {n : Nat} {Q : Int × Int × Nat → Shared → Prop} (hs : s.heap.IsSliceOf sl vl vu vs) (pl : IsPart vl lo) (pu : IsPart vu hi) (ps : IsPart vs (some st)) (h0 : st ≠ 0)
    (h : Q ((Builtin.Slice.sliceAdjust lo hi st n).1, st, Builtin.Slice.slicePlaces (Builtin.Slice.sliceAdjust lo hi st n).1 (Builtin.Slice.sliceAdjust lo hi st n).2 st) s) : wpAny (model prog w) A (Builtin.Slice.sliceApplied (.ref sl) (pure (n : Int))) Q E s := by
  obtain ⟨os, hos, hcs, hds⟩ := id hs
  unfold Builtin.Slice.sliceApplied Builtin.Slice.sliceFields
  refine wpAny_bind (wpAny_bind (wpAny_field hos hds (x := vl) rfl (wpAny_bind (wpAny_field hos hds (x := vu) rfl (wpAny_bind (wpAny_field hos hds (x := vs) rfl (wpAny_pure ?_)))))))
  refine wpAny_bind (part_ ps ?_)
  show wpAny _ _ (if (st == 0) = true then _ else _) _ _ s
  rw [if_neg (by simpa using h0)]
  exact wpAny_bind (part_ pl (wpAny_bind (part_ pu (wpAny_bind (wpAny_pure (wpAny_pure h))))))
theorem getItem_step {t sl : Addr} {items : Array Value} {vl vu vs : Value} {lo hi : Option Int} {st : Int} {Q : Value → Shared → Prop} (ht : IsTup s.heap t items) (hs : s.heap.IsSliceOf sl vl vu vs) (pl : IsPart vl lo) (pu : IsPart vu hi) (ps : IsPart vs (some st))
    (h0 : st ≠ 0) (h1 : st ≠ 1) (hz : ((ixT items.size lo hi st).filterMap (items[·]?)).length ≤ sizeLine)
    (h : Q (.ref s.heap.objs.size) { s with heap := s.heap.push { cls := .type "tuple", data := .seq ((ixT items.size lo hi st).filterMap (items[·]?)).toArray } }) : wpAny (model prog w) A (getItem (.ref t) (.ref sl)) Q E s := by
  obtain ⟨os, hos, hcs, hds⟩ := id hs
  have hT : s.TypeIs (.ref sl) "slice" := ⟨os, hos, hcs⟩
  have hk : sizeOk (.seq ((ixT items.size lo hi st).filterMap (items[·]?)).toArray) := by
    show ((ixT items.size lo hi st).filterMap (items[·]?)).toArray.size ≤ sizeLine
    rw [List.size_toArray]
    exact hz
  have ep : ((List.range (Builtin.Slice.slicePlaces (Builtin.Slice.sliceAdjust lo hi st items.size).1 (Builtin.Slice.sliceAdjust lo hi st items.size).2 st)).filterMap fun (k : Nat) => items[((Builtin.Slice.sliceAdjust lo hi st items.size).1 + (k : Int) * st).toNat]?) = (ixT items.size lo hi st).filterMap (items[·]?) := by
    unfold ixT
    rw [List.filterMap_map]
    rfl
  unfold getItem
  try with_reducible refine wpAny_holding ?_
  first | refine wpAny_bind (wpAny_pure ?_) | skip
  refine wpAny_bind (wpAny_sequenceKey ht.typeIs (by decide) ?_)
  refine wpAny_bind (wpAny_callSpecial?_slot (name := Str.ofString "__getitem__") ht.typeIs PyProof.Rows.slot_tuple_getitem (wpAny_call_entry PyProof.Rows.slot_tuple_getitem ht.typeIs entry_tuple_getitem ?_ (args_tuple_getitem _ _)))
  show wpAny _ _ (Builtin.Tuple.tupleItemsOf (.ref t) >>= _) _ _ s
  refine wpAny_bind (tupleItemsOf_ ht ?_)
  refine wpAny_bind (wpAny_typeOf hT ?_)
  rw [if_pos (by decide)]
  refine wpAny_bind (stepped hs pl pu ps h0 ?_)
  show wpAny _ _ (if (_ && st == 1 && _) = true then _ else _) _ _ s
  rw [if_neg (by
    have e : (st == 1) = false := by simpa using h1
    simp [e])]
  rw [ep]
  first
    | exact wpAny_bind (m := Builtin.Tuple.tupleExact _) (wpAny_newObj_type (wpAny_pure ⟨_, rfl, wpAny_pure h⟩) hk)
    | exact wpAny_bind (m := Builtin.Tuple.tupleExact _) (wpAny_newObj_type (wpAny_bind (wpAny_pure (wpAny_pure ⟨_, rfl, wpAny_pure h⟩))) hk)
    | exact wpAny_bind (wpAny_bind (m := Builtin.Tuple.tupleExact _) (wpAny_newObj_type (wpAny_pure (wpAny_pure ⟨_, rfl, wpAny_pure h⟩)) hk))
    | exact wpAny_bind (wpAny_bind (m := Builtin.Tuple.tupleExact _) (wpAny_newObj_type (wpAny_pure ⟨_, rfl, wpAny_pure h⟩) hk))
end
def tSlT3 (K : PySem.W.Frag) (te : TE) (tl th ts : TO) : TE := fun σ H Q => te σ H fun x H1 => tl σ H1 fun l H2 => th σ H2 fun u H3 => ts σ H3 fun st H4 => ∃ a xs k, x = .ref a ∧ SqT K H4 a xs ∧ st = some k ∧ k ≠ 0 ∧ k ≠ 1 ∧ (pickT xs l u k).length ≤ sizeLine ∧
  ∀ p, H4 p = none → Q (.ref p) (upd H4 p (.tup (pickT xs l u k)))
theorem pe_slT3 {X : Cx} {e : Expr} {te : TE} {lo hi st : Option Expr} {tl th ts : TO} {p2 pos : Pos} (he : PE X e te) (hl : PO X lo tl) (hh : PO X hi th) (hs : PO X st ts)
    (hsub : ∀ ov iv, subscripted (.Slice lo hi st p2) false ov iv = operate [ov, iv] (getItem ov iv) := by intro _ _; with_unfolding_all rfl) : PE X (.Subscript e (.Slice lo hi st p2) pos) (tSlT3 X.K te tl th ts) := by
  constructor
  intro pins s σ H Q I h
  refine PyProof.Rows.Subscript_ (thn (he.run pins s σ H _ I h) ?_)
  rintro v s1 ⟨x, H1, I1, r1, q1⟩
  refine wpAny_Slice (thn (hl.run pins s1 σ H1 _ I1 q1) ?_)
  rintro vl s2 ⟨l, H2, I2, pl, q2⟩
  refine thn (hh.run pins s2 σ H2 _ I2 q2) ?_
  rintro vu s3 ⟨u, H3, I3, pu, q3⟩
  refine thn (hs.run pins s3 σ H3 _ I3 q3) ?_
  rintro vs s4 ⟨c, H4, I4, ps, a, xs, k, ex, hx, ek, h0, h1, hz, q4⟩
  subst ex ek
  cases r1
  have I5 : Inv X pins σ H4 { s4 with heap := s4.heap.push { cls := .type "slice", data := .fields #[vl, vu, vs] } } := I4.kept (t' := s4.toks) fun b ob q => Heap.get?_push_of_some _ q
  obtain ⟨its, rv, ht, hz2⟩ := I5.tuple hx
  have hlen : its.length = xs.length := rv.length.symm
  have ei : ∀ ix : List Nat, ix.filterMap (its.toArray[·]?) = ix.filterMap (its[·]?) := fun ix => by simp only [List.getElem?_toArray]
  have vp := vals_pick rv (ixT xs.length l u k)
  show wpAny (model X.prog X.w) X.A (subscriptTail e (.Slice lo hi st p2) (.ref a) (.ref s4.heap.objs.size)) (EP X pins σ Q) X.xe _
  refine tail_any (ops := [.ref a, .ref s4.heap.objs.size]) ht.typeIs PyProof.Rows.slot_tuple_getitem.lookup ?_ (hsub _ _)
  refine getItem_step ht (Heap.IsSliceOf.new _ vl vu vs) pl pu ps h0 h1 ?_ ?_
  · rw [ei, List.size_toArray, hlen, ← vp.length]
    exact hz
  · rw [ei, show its.toArray.size = xs.length by rw [List.size_toArray, hlen]]
    refine ⟨.ref _, _, I5.laid (t' := s4.toks) (o := .tup (pickT xs l u k)) (fun b ob q => Heap.get?_push_of_some _ q) (Nat.le_refl _) ?_, rfl, q4 _ (I5.hok.fresh (Nat.le_refl _))⟩
    exact ⟨hz, _, vp, IsTup.new _ _⟩
end Rs

namespace Rs
open PySem PySem.Spec PyProof.Rows L2
/-- a def with keyword-only defaults -/
structure CalD (K : PySem.W.Frag) (mg : Str → Option Value) (x : Str) (st : Stmt) (kws : List (Str × V)) (f : Addr) (fd : FuncData) : Prop where
  F : FunD K x x (defArgs st) (defBody st) (defScope st) [] kws f fd
  m : mg x = some (.ref f)
def slR3 (K : PySem.W.Frag) (Q : VK) (x : V) (l u st : Option Int) (H : Hp) : Prop := ∃ a xs k, x = .ref a ∧ SqT K H a xs ∧ st = some k ∧ k ≠ 0 ∧ k ≠ 1 ∧ (pickT xs l u k).length ≤ sizeLine ∧ ∀ p, H p = none → Q (.ref p) (upd H p (.tup (pickT xs l u k)))
section
variable {σ : L2.St} {H H0 : Hp} {M : List Addr} {L L' : Led} {Q : VK} {v x y : V} {nx : L2.St → Hp → Prop} {rt : VK} {bk ct : L2.St → Hp → Prop} {t u : TS} {te ta tb tc : TE} {K : PySem.W.Frag} {a p : Addr}
theorem rd_sumT {xs : List V} {ns : List Int} (S : Hs H0 M H L) (m : (a, HO.tup xs) ∈ L) (e : xs = ns.map V.int) (h : Q (.int ns.sum) H) : rSumT K [.ref a] H Q := ⟨a, ns, rfl, by subst e; exact S.tup m, h⟩
theorem rd_cbk {r : List V → List V → Hp → VK → Prop} {t tk : TA} (h : t σ H fun vs H1 => tk σ H1 fun zs H2 => r vs zs H2 Q) : tCKw r t tk σ H Q := h
theorem rd_sumK {xs : List V} {ns : List Int} {k : Int} (S : Hs H0 M H L) (m : (a, HO.lst xs) ∈ L) (e : xs = ns.map V.int) (h : Q (.int (k + ns.sum)) H) : rSumK K [.ref a] [.int k] H Q := ⟨a, ns, k, rfl, rfl, by subst e; exact S.lst m, h⟩
theorem rd_maxDT {xs : List V} {ns : List Int} {k : Int} (S : Hs H0 M H L) (m : (a, HO.tup xs) ∈ L) (e : xs = ns.map V.int) (h : Q (.int (maxD k ns)) H) : rMaxDT K [.ref a] [.int k] H Q := ⟨a, ns, k, rfl, rfl, by subst e; exact S.tup m, h⟩
theorem rd_slT3 {tl th ts : TO} (h : te σ H fun x H1 => tl σ H1 fun l H2 => th σ H2 fun u H3 => ts σ H3 fun st H4 => slR3 K Q x l u st H4) : tSlT3 K te tl th ts σ H Q := h
theorem rd_slR3 {xs : List V} {ns : List Int} {l u : Option Int} {k : Int} (S : Hs H0 M H L) (m : (a, HO.tup xs) ∈ L) (e : xs = ns.map V.int) (h0 : k ≠ 0) (h1 : k ≠ 1) (hz : (pickI ns l u k).length ≤ sizeLine)
    (h : ∀ p H', H0 p = none → Hs H0 M H' ((p, .tup ((pickI ns l u k).map V.int)) :: L) → Q (.ref p) H') : slR3 K Q (.ref a) l u (some k) H := by
  subst e
  refine ⟨a, _, k, rfl, S.tup m, rfl, h0, h1, ?_, ?_⟩
  · rw [pickT_map, List.length_map]; exact hz
  · rw [pickT_map]; exact rd_newO S h
theorem rd_slTp {xs ys : List V} {lo hi : Option Int} (S : Hs H0 M H L) (m : (a, HO.tup xs) ∈ L) (w : ¬ (HT.sIx xs.length 0 lo = 0 ∧ HT.sIx xs.length xs.length hi = xs.length)) (e : cutV xs lo hi = ys) (h : ∀ p H', H0 p = none → Hs H0 M H' ((p, .tup ys) :: L) → Q (.ref p) H') : rSlT K (.ref a) lo hi H Q := by
  subst e
  exact ⟨a, xs, rfl, S.tup m, w, rd_newO S h⟩
theorem rd_repT {xs : List V} {k : Int} (S : Hs H0 M H L) (m : (a, HO.tup xs) ∈ L) (h0 : xs ≠ []) (h1 : 2 ≤ k) (h2 : k ≤ 1000) (h3 : xs.length ≤ 1000) (h : ∀ p H', H0 p = none → Hs H0 M H' ((p, .tup (List.replicate k.toNat xs).flatten) :: L) → Q (.ref p) H') : rRepT K (.ref a) (.int k) H Q :=
  ⟨a, k, xs, rfl, rfl, S.tup m, h0, h1, h2, h3, rd_newO S h⟩
theorem rd_catT {xs ys : List V} {b : Addr} (S : Hs H0 M H L) (m : (a, HO.tup xs) ∈ L) (m2 : (b, HO.tup ys) ∈ L) (h0 : xs ≠ []) (h1 : ys ≠ []) (hz : xs.length + ys.length ≤ sizeLine) (h : ∀ p H', H0 p = none → Hs H0 M H' ((p, .tup (xs ++ ys)) :: L) → Q (.ref p) H') : rCatT K (.ref a) (.ref b) H Q :=
  ⟨a, b, xs, ys, rfl, rfl, S.tup m, S.tup m2, h0, hz, fun z => absurd z h1, fun _ => rd_newO S h⟩
theorem rd_all {xs : List V} {bs : List Bool} (S : Hs H0 M H L) (m : (a, HO.lst xs) ∈ L) (e : xs = bs.map V.bl) (h : Q (.bl (bs.all id)) H) : rAll K [.ref a] H Q := ⟨a, bs, rfl, by subst e; exact S.lst m, h⟩
theorem rd_int1b {b : Bool} {R : Int → Prop} (h : R (if b then 1 else 0)) : (∃ i, [V.bl b] = [V.int i] ∧ R i) ∨ ∃ k, [V.bl b] = [.bl k] ∧ R (if k then 1 else 0) := Or.inr ⟨b, rfl, h⟩
end
theorem rd_yes {σ : L2.St} {H : Hp} {Q : Bool → Hp → Prop} (h : Q true H) : tYes σ H Q := h
theorem pick_le (ns : List Int) (lo : Option Int) (h : lo = none ∨ lo = some 1) : (pickI ns lo none 2).length ≤ ns.length := by
  unfold pickI
  refine Nat.le_trans (List.length_filterMap_le _ _) ?_
  unfold ixT
  rw [List.length_map, List.length_range]
  rcases h with rfl | rfl
  · simp [Builtin.Slice.sliceAdjust, Builtin.Slice.slicePlaces]
    split <;> omega
  · simp [Builtin.Slice.sliceAdjust, Builtin.Slice.slicePlaces]
    split <;> omega
theorem pick_mem {ns : List Int} {lo hi : Option Int} {k z : Int} (h : z ∈ pickI ns lo hi k) : z ∈ ns := by
  obtain ⟨i, _, hi⟩ := List.mem_filterMap.mp h
  exact List.mem_of_getElem? hi
end Rs

namespace Rs
open PySem PySem.Spec PyProof.Rows L2
section
variable {X : Cx} {CX : CXT} {k n : Nat} {f C : Addr} {fd : FuncData} {ps ks : List Str} {sp : Sp} {E : XK} {m : Str} {p pos apos : Pos} {o : Expr} {kws : List Keyword} {ta : TE} {tk : TA} {g : List Value → List Value → List Value} {gV : List V → List V → List V}
/-- o.m(k = v, ..) -/
def tMethK (C : Addr) (m : Str) (n : Nat) (sp : Sp) (gV : List V → List V → List V) (E : XK) (ta : TE) (tk : TA) : TE := fun σ H Q => ta σ H fun x H1 => ∃ a dx fs, x = .ref a ∧ H1 a = some (.ins C dx fs) ∧ fs.lookup m = none ∧ tk σ H1 fun zs H2 => zs.length = n ∧ sp (gV [x] zs) H2 Q E
theorem pe_methK {pl : Sem Bool} (he : PE X o ta) (c : Cls X.K C) (hm : Meth X.K C m f) (F : FnOk X.prog X.w X.K X.mg X.base CX k f fd ps sp) (hr : Room k X.A) (hb : KBn X.K fd ps 1 ks g gV) (hx : Passes CX X E) (hkw : PK X kws tk)
    (hall : (backToKw pos (keywordEach kws X.env)).all (·.1.isSome) = true := by rfl) (hks : (backToKw pos (keywordEach kws X.env)).filterMap (·.1) = ks := by rfl)
    (ht : eval (.Call (.Attribute o m apos) [] kws pos) X.env = (do
      let ov ← eval o X.env
      standAt apos.atName
      let (f, first) ← holding [ov] (getMethod ov m pl)
      callWith pos f first (backTo pos (starEach [] X.env)) (backToKw pos (keywordEach kws X.env))) := by rfl) :
    PE X (.Call (.Attribute o m apos) [] kws pos) (tMethK C m ks.length sp gV E ta tk) := by
  constructor
  intro pins s σ H Q I h
  refine PySem.W.methodCall_KW (pl := pl) (thn (he.run pins s σ H _ I h) ?_) ht
  rintro u s1 ⟨x, H1, I1, rx, a, dx, fs, ex, ea, l, q⟩
  subst ex
  obtain rfl : u = Value.ref a := rx
  refine getmeth_ok I1 ea c hm l ?_
  have np : ((backTo pos (starEach [] X.env)).any (·.1) || (backToKw pos (keywordEach kws X.env)).any (·.1.isNone)) = false := by
    have z : ∀ l : List (Option Str × Sem Value), l.all (·.1.isSome) = true → l.any (·.1.isNone) = false := by
      intro l hl
      induction l with
      | nil => rfl
      | cons q l ih =>
        simp only [List.all_cons, Bool.and_eq_true] at hl
        simp only [List.any_cons, ih hl.2, Bool.or_false]
        cases e : q.1 with
        | none => rw [e] at hl; exact absurd hl.1 (by decide)
        | some _ => rfl
    rw [z _ hall]; rfl
  refine PySem.W.callWith_KW0 (first := [.ref a]) (h₀ := X.base) I1.ok.mod.kin hm.kp hall ?_ np
  refine thn (hkw.run pos pins s1 σ H1 _ I1 q) ?_
  rintro ws s2 ⟨zs, H2, I2, rz, l2, q2⟩
  refine ⟨I2.kIn, ?_⟩
  rw [hks]
  exact run_fnN (us := [.ref a]) (vs := [.ref a]) F hr hb hx I2 (.cons rfl .nil) rz rfl l2 q2
/-- a def called by a builtin -/
theorem run_in {A : Around} {pins : List (Addr × Obj)} {σ : L2.St} {H : Hp} {s : Shared} {Q : VK} {a : Addr} (F : FnOk X.prog X.w X.K X.mg X.base CX k f fd ["self"] sp) (hr : Room k A) (e0 : Env0 X.prog X.w X.K X.mg X.base A X.stack s H) (hb : Binds X.K fd ["self"] []) (hx : Passes CX X E)
    (I : Inv X pins σ H s) (h : sp [.ref a] H Q E) : wpAny (model X.prog X.w) A (call (.ref f) [.ref a]) (EP X pins σ Q) X.xe s := by
  refine wpAny_call (codeAny_mono (F.run A X.stack s H ⟨[.ref a], []⟩ [.ref a] [.ref a] Q E hr e0 (hb s [.ref a] I.kIn rfl) (.cons rfl .nil) h) fun r s' hq => ?_)
  cases r with
  | error e => exact hx pins σ H s e s' I hq
  | ok fl =>
    cases fl with
    | ret u => exact I.after hq
    | next => exact False.elim hq
    | brk => exact False.elim hq
    | cont => exact False.elim hq
def rLenO (C : Addr) (sp : Sp) (E : XK) : List V → Hp → VK → Prop := fun xs H Q => ∃ a dx fs, xs = [V.ref a] ∧ H a = some (.ins C dx fs) ∧ sp [.ref a] H (fun z H' => ∃ n : Int, z = .int n ∧ 0 ≤ n ∧ n < 2 ^ 63 ∧ Q (.int n) H') E
theorem call_lenO (hs : PySem.W.findIn X.K (.ref C) "__len__" = some (some (.ref f))) (hf : PySem.W.isFn X.K (.ref f) = true) (F : FnOk X.prog X.w X.K X.mg X.base CX k f fd ["self"] sp) (hr : Room (k + 1) X.A) (hb : Binds X.K fd ["self"] []) (hx : Passes CX X E) : CallR X (.builtin "len") (rLenO C sp E) := by
  intro pins s σ H xs us Q I r h
  obtain ⟨a, dx, fs, rfl, ha, q⟩ := h
  rw [Vals.ref1 r]
  obtain ⟨mA, O, _, _, _, _⟩ := ins_get I.hok ha
  obtain ⟨od, J, _⟩ := O.look
  obtain ⟨m, fr⟩ := I.fr
  refine PySem.W.len_K fr I.ok.mod.kin J hs hf (wpAny_mono (run_in F hr.in1 I.env0.in1 hb hx I q) (fun w s' z => ?_) fun _ _ x => x)
  obtain ⟨z', H', I', rz, n, e, h0, h1, qz⟩ := z
  subst e
  obtain ⟨t, rfl⟩ := rz
  exact ⟨⟨h0, h1⟩, .int n, H', I'.tok _, ⟨_, rfl⟩, qz⟩
def rReprO (C : Addr) (sp : Sp) (E : XK) : List V → Hp → VK → Prop := fun xs H Q => ∃ a dx fs, xs = [V.ref a] ∧ H a = some (.ins C dx fs) ∧ sp [.ref a] H (fun z H' => ∃ x : Str, z = .str x ∧ Q (.str x) H') E
theorem call_reprO (hs : PySem.W.findIn X.K (.ref C) "__repr__" = some (some (.ref f))) (hf : PySem.W.isFn X.K (.ref f) = true) (F : FnOk X.prog X.w X.K X.mg X.base CX k f fd ["self"] sp) (hr : Room (k + 1) X.A) (hb : Binds X.K fd ["self"] []) (hx : Passes CX X E) : CallR X (.builtin "repr") (rReprO C sp E) := by
  intro pins s σ H xs us Q I r h
  obtain ⟨a, dx, fs, rfl, ha, q⟩ := h
  rw [Vals.ref1 r]
  obtain ⟨mA, O, _, _, _, _⟩ := ins_get I.hok ha
  obtain ⟨od, J, _⟩ := O.look
  obtain ⟨m, fr⟩ := I.fr
  have hu : X.A.in1.units < cLine := Nat.lt_of_le_of_lt (Nat.le_add_right _ _) hr.in1.units
  refine PySem.W.repr_K hu fr I.ok.mod.kin J hs hf (wpAny_mono (run_in F hr.in1 I.env0.in1 hb hx I q) (fun w s' z => ?_) fun _ _ x => x)
  obtain ⟨z', H', I', rz, x, e, qz⟩ := z
  subst e
  obtain ⟨t, rfl⟩ := rz
  exact ⟨.str x, H', I', ⟨_, rfl⟩, qz⟩
end
end Rs

namespace Rs
open PySem PySem.Spec PyProof.Rows L2
section
variable {H0 H H' : Hp} {M : List Addr} {L L1 L2 L' N : Led} {a p : Addr} {o o' u u' : HO} {K : PySem.W.Frag} {Q : VK}
/-- two objects were changed, those of N are new -/
theorem Hs.twoN (S : Hs H0 M H L) (c1 : Chg a o o' L L1) (c2 : Chg p u u' L1 L2) (ha : H0 a = none ∨ a ∈ M) (hp : H0 p = none ∨ p ∈ M) (ne : a ≠ p) (k : ∀ b w, H b = some w → b ≠ a → b ≠ p → H' b = some w) (e1 : H' a = some o') (e2 : H' p = some u') (n : NewL H H' N) :
    (∀ q ∈ N, H0 q.1 = none) ∧ Hs H0 M H' (N ++ L2) := by
  have S1 := S.put c1 ha
  have S2 := S1.put c2 hp
  have h1 : H a = some o := S.is _ c1.mem
  have h2 : H p ≠ none := by
    have := S1.is _ c2.mem
    rw [upd_ne (Ne.symm ne)] at this
    rw [this]; simp
  refine S2.moreN (fun b w e => ?_) ⟨n.nd, fun q hq => ?_, n.is⟩
  · by_cases hb : b = p
    · subst hb; rw [upd_same] at e; cases e; exact e2
    · rw [upd_ne hb] at e
      by_cases hb2 : b = a
      · subst hb2; rw [upd_same] at e; cases e; exact e1
      · rw [upd_ne hb2] at e
        exact k b w e hb2 hb
  · have z := n.nw q hq
    rw [upd_ne (fun y => h2 (by rw [← y]; exact z)), upd_ne (fun y => by rw [y, h1] at z; cases z)]
    exact z
theorem rd_popAt {xs xs' : List V} {i : Nat} {y : V} (S : Hs H0 M H L) (c : Chg a (.lst xs) (.lst xs') L L') (hm : H0 a = none ∨ a ∈ M) (hk : xs[i]? = some y) (hz : i < 2 ^ 40) (e : xs.eraseIdx i = xs') (h : ∀ H', Hs H0 M H' L' → Q y H') : rPopAt (.ref a) [.int i] H Q := by
  subst e
  have hl : i < xs.length := (List.getElem?_eq_some_iff.mp hk).1
  refine ⟨a, xs, i, i, y, rfl, rfl, S.is _ c.mem, by omega, by omega, ?_, hk, h _ (S.put c hm)⟩
  unfold seqIndex?
  simp
  omega
theorem rd_pop {xs xs' : List V} {y : V} (S : Hs H0 M H L) (c : Chg a (.lst xs) (.lst xs') L L') (hm : H0 a = none ∨ a ∈ M) (e : xs = xs' ++ [y]) (h : ∀ H', Hs H0 M H' L' → Q y H') : rPop (.ref a) [] H Q := by
  subst e
  refine ⟨a, _, y, rfl, rfl, S.is _ c.mem, by simp, ?_⟩
  have e2 : (xs' ++ [y]).dropLast = xs' := by simp
  rw [e2]
  exact h _ (S.put c hm)
theorem rd_clear {xs : List V} (S : Hs H0 M H L) (c : Chg a (.lst xs) (.lst []) L L') (hm : H0 a = none ∨ a ∈ M) (h : ∀ H', Hs H0 M H' L' → Q .non H') : rClear (.ref a) [] H Q := ⟨a, xs, rfl, rfl, S.is _ c.mem, h _ (S.put c hm)⟩
/-- a list of refs of tuples of whole numbers, just these -/
structure TL (rs : List V) (T : Led) (ts : List (List Int)) : Prop where
  rs : rs = T.map fun q => .ref q.1
  ts : T.map (·.2) = ts.map fun t => HO.tup (t.map V.int)
theorem TL.nil : TL [] [] [] := ⟨rfl, rfl⟩
theorem TL.snoc {rs : List V} {T : Led} {ts : List (List Int)} (h : TL rs T ts) (q : Addr) (t : List Int) : TL (rs ++ [V.ref q]) (T ++ [(q, .tup (t.map V.int))]) (ts ++ [t]) := ⟨by simp [h.rs], by simp [h.ts]⟩
theorem TL.len {rs : List V} {T : Led} {ts : List (List Int)} (h : TL rs T ts) : rs.length = ts.length := by
  have := congrArg List.length h.ts
  rw [h.rs]
  simpa using this
def dT (ts : List (List Int)) : PyData := .list (ts.map fun t => .tuple (t.map .int))
theorem dpTL : ∀ {T : Led} {ts : List (List Int)}, T.map (·.2) = (ts.map fun t => HO.tup (t.map V.int)) → (∀ q ∈ T, H q.1 = some q.2) → DpAll K H (T.map fun q => .ref q.1) (ts.map fun t => .tuple (t.map .int))
  | [], [], _, _ => .nil
  | [], t :: ts, h, _ => by simp at h
  | q :: T, [], h, _ => by simp at h
  | q :: T, t :: ts, h, is => by
    simp only [List.map_cons, List.cons.injEq] at h
    have hi := is q List.mem_cons_self
    rw [h.1] at hi
    exact .cons (.tup (SqT.of hi) (dps_ints t)) (dpTL h.2 fun z hz => is z (List.mem_cons_of_mem _ hz))
theorem dp_TL {rs : List V} {T : Led} {ts : List (List Int)} (h : TL rs T ts) (S : Hs H0 M H L) (m : (a, HO.lst rs) ∈ L) (sub : ∀ q ∈ T, q ∈ L) : Dp K H (.ref a) (dT ts) := by
  refine .lst (S.lst m) ?_
  rw [h.rs]
  exact dpTL h.ts fun q hq => S.is q (sub q hq)
theorem tame_T : ∀ {ts : List (List Int)}, (∀ t ∈ ts, ∀ n ∈ t, n.natAbs < 10 ^ 12) → tames (ts.map fun t => .tuple (t.map .int)) = true
  | [], _ => by simp [tames]
  | t :: ts, h => by
    have h1 := tames_ints t (h t List.mem_cons_self)
    have h2 := tame_T (ts := ts) fun z hz => h z (List.mem_cons_of_mem _ hz)
    simp only [List.map_cons, tames, tame, h1, h2, Bool.and_self]
theorem cnt_T : ∀ {ts : List (List Int)}, (∀ t ∈ ts, t.length ≤ 10) → cnts (ts.map fun t => .tuple (t.map .int)) ≤ 11 * ts.length
  | [], _ => by simp [cnts]
  | t :: ts, h => by
    have h1 := h t List.mem_cons_self
    have h2 := cnt_T (ts := ts) fun z hz => h z (List.mem_cons_of_mem _ hz)
    simp only [List.map_cons, cnts, cnt, cnts_ints, List.length_cons]
    omega
theorem shw_T {ts : List (List Int)} (h : ∀ t ∈ ts, t.length ≤ 10 ∧ ∀ n ∈ t, n.natAbs < 10 ^ 12) (hl : ts.length ≤ 1000) : Shw (dT ts) := by
  refine shw_of ?_ ?_
  · simp [dT, tame, tame_T fun t ht => (h t ht).2]
  · have := cnt_T fun t ht => (h t ht).1
    simp only [dT, cnt]
    omega
theorem depth_T (ts : List (List Int)) : (dT ts).depth ≤ 2 := by
  obtain ⟨_, b⟩ := lay_T ts
  simp only [dT, PyData.depth]
  omega
theorem rd_reprT {rs : List V} {T : Led} {ts : List (List Int)} (h : TL rs T ts) (S : Hs H0 M H L) (m : (a, HO.lst rs) ∈ L) (sub : ∀ q ∈ T, q ∈ L) (hb : ∀ t ∈ ts, t.length ≤ 10 ∧ ∀ n ∈ t, n.natAbs < 10 ^ 12) (hl : ts.length ≤ 1000) (k : Q (.str (dT ts).shown) H) : rRepr K [.ref a] H Q :=
  ⟨.ref a, dT ts, rfl, dp_TL h S m sub, shw_T hb hl, Nat.le_trans (depth_T ts) (by decide), k⟩
end
end Rs

namespace Rs
open PySem PySem.Spec PyProof.Rows L2
section
variable {H : Hp} {σ : L2.St} {ts : List TE} {te : TE} {acc : Str} {J : Str → Hp → Prop}
theorem len_app (x y : Str) : (x ++ y).length = x.length + y.length := by
  rw [TL.len_tl, TL.len_tl, TL.len_tl, TL.tl_append, List.length_append]
theorem len_num {n : Int} (h0 : 0 ≤ n) (h : n < 10 ^ 12) : (((toString n : String)) : Str).length ≤ 12 := by
  obtain ⟨k, rfl⟩ : ∃ k : Nat, n = k := ⟨n.toNat, by omega⟩
  have e := TL.tl_num k
  show (Str.ofString (toString (k : Int))).length ≤ 12
  rw [TL.len_tl, e]
  exact TL.numL_len (by decide) (by omega)
theorem rd_jsS {y : Str} (hz : acc.length ≤ 1000) (hy : y.length ≤ 1000) (h : tJs ts (acc ++ y) σ H J) : tJs (tC (.str y) :: ts) acc σ H J := ⟨y, rfl, by rw [len_app]; exact sz (by omega), h⟩
def kF (ts : List TE) (acc : Str) (σ : L2.St) (J : Str → Hp → Prop) : VK := fun x H1 => (∃ y : Str, x = .str y ∧ y.length ≤ sizeLine ∧ ∃ z : Str, V.str y = .str z ∧ (acc ++ z).length ≤ sizeLine ∧ tJs ts (acc ++ z) σ H1 J) ∨
  ∃ i : Int, x = .int i ∧ i.natAbs.log2 < 1920 ∧ ∃ z : Str, V.str (toString i) = .str z ∧ (acc ++ z).length ≤ sizeLine ∧ tJs ts (acc ++ z) σ H1 J
theorem rd_jsF (h : te σ H (kF ts acc σ J)) : tJs (tFmt te :: ts) acc σ H J := h
theorem rd_kFI {n : Int} (h0 : 0 ≤ n) (h1 : n < 10 ^ 12) (hz : acc.length ≤ 1000) (h : tJs ts (acc ++ toString n) σ H J) : kF ts acc σ J (.int n) H := by
  refine Or.inr ⟨n, rfl, ?_, toString n, rfl, ?_, h⟩
  · by_cases e : n.natAbs = 0
    · rw [e]; decide
    · exact (Nat.log2_lt e).2 (Nat.lt_of_lt_of_le (show n.natAbs < 2 ^ 40 by omega) (Nat.pow_le_pow_right (by omega) (by omega)))
  · have := len_num h0 h1
    rw [len_app]
    exact sz (by omega)
theorem rd_jsN (h : J acc H) : tJs [] acc σ H J := h
end
end Rs

namespace Rs
open PySem PySem.Spec PyProof.Rows L2
section
variable {X : Cx}
theorem ix_tupK {K : PySem.W.Frag} (h : X.K = K) : IxR X (rIxT K) := by subst h; exact ix_tup
end
end Rs

namespace Rs
open PySem PySem.Spec PyProof.Rows L2
/-! ### promises by ledgers -/
section
variable {H0 H H' : Hp} {M C : List Addr} {L L' LL F : Led}
/-- what is known behind a call: C the objects that may have changed, L what was known of, L' what is known now -/
theorem Hs.frame (S : Hs H0 M H (L ++ F)) (S' : Hs H C H' L') (hC : ∀ c ∈ C, c ∈ L.map (·.1) ∧ (H0 c = none ∨ c ∈ M)) (hk : ∀ q ∈ L', q.1 ∈ L.map (·.1) ∨ H q.1 = none) : Hs H0 M H' (L' ++ F) := by
  have nd := S.nd
  rw [List.map_append, List.nodup_append] at nd
  obtain ⟨_, nF, dis⟩ := nd
  refine ⟨?_, ?_, ?_, ?_⟩
  · rw [List.map_append, List.nodup_append]
    refine ⟨S'.nd, nF, ?_⟩
    intro x hx y hy e
    subst e
    obtain ⟨q, hq, rfl⟩ := List.mem_map.mp hx
    rcases hk q hq with h | h
    · exact dis _ h _ hy rfl
    · obtain ⟨r, hr, e⟩ := List.mem_map.mp hy
      have := S.is r (List.mem_append_right _ hr)
      rw [e, h] at this
      cases this
  · intro q hq
    rcases List.mem_append.mp hq with h | h
    · exact S'.is q h
    · refine S'.old _ _ (S.is q (List.mem_append_right _ h)) fun hc => ?_
      exact dis _ (hC _ hc).1 _ (List.mem_map_of_mem (f := (·.1)) h) rfl
  · intro b o e hb
    refine S'.old _ _ (S.old b o e hb) fun hc => ?_
    rcases (hC _ hc).2 with z | z
    · rw [z] at e; cases e
    · exact hb z
  · intro b hb
    by_cases hc : b ∈ C
    · exact S'.mu b hc
    · cases e : H b with
      | none => exact absurd e (S.mu b hb)
      | some u => rw [S'.old b u e hc]; simp
theorem Hs.none0 (S : Hs H0 M H L) {a : Addr} (h : H a = none) : H0 a = none := (S.new h (.lst [])).1
end
end Rs
namespace Rs
open PySem PySem.Spec PyProof.Rows L2
abbrev SepR := List V → List Addr → Led → (V → Led → Prop) → Prop
/-- R: the arguments, the objects that may change, what is known ahead, what is promised -/
def Sep (R : SepR) : Sp := fun vs H Q _ => ∃ C L post, R vs C L post ∧ (L.map (·.1)).Nodup ∧ (∀ q ∈ L, H q.1 = some q.2) ∧ (∀ c ∈ C, c ∈ L.map (·.1)) ∧
  ∀ v H' L', post v L' → Hs H C H' L' → (∀ q ∈ L', q.1 ∈ L.map (·.1) ∨ H q.1 = none) → Q v H'
theorem Sep.led {H : Hp} {C : List Addr} {L : Led} (nd : (L.map (·.1)).Nodup) (is : ∀ q ∈ L, H q.1 = some q.2) (hC : ∀ c ∈ C, c ∈ L.map (·.1)) : Hs H C H L := by
  refine Hs.start H C L nd is fun b hb => ?_
  obtain ⟨q, hq, e⟩ := List.mem_map.mp (hC b hb)
  rw [← e, is q hq]; simp
/-- one entry taken out -/
inductive Pick (q : Addr × HO) : Led → Led → Prop where
  | here {L : Led} : Pick q (q :: L) L
  | there {r : Addr × HO} {L L' : Led} : Pick q L L' → Pick q (r :: L) (r :: L')
  | app {N L L' : Led} : Pick q L L' → Pick q (N ++ L) (N ++ L')
theorem Pick.perm {q : Addr × HO} {L L' : Led} (h : Pick q L L') : L.Perm (q :: L') := by
  induction h with
  | here => exact .refl _
  | there _ ih => exact (List.Perm.cons _ ih).trans (.swap _ _ _)
  | app _ ih => exact (List.Perm.append_left _ ih).trans List.perm_middle
/-- several taken out -/
inductive Sel : Led → Led → Led → Prop where
  | nil {L : Led} : Sel [] L L
  | cons {q : Addr × HO} {K L L' F : Led} : Pick q L L' → Sel K L' F → Sel (q :: K) L F
theorem Sel.perm {K L F : Led} (h : Sel K L F) : L.Perm (K ++ F) := by
  induction h with
  | nil => exact .refl _
  | cons p _ ih => exact p.perm.trans (.cons _ ih)
section
variable {H0 H H' : Hp} {M C : List Addr} {L L' LL F : Led} {R : SepR} {vs : List V} {post : V → Led → Prop} {Q : VK} {E : XK}
theorem sep_use (S : Hs H0 M H LL) (r : R vs C L post) (pm : LL.Perm (L ++ F)) (hC : ∀ c ∈ C, c ∈ L.map (·.1) ∧ (H0 c = none ∨ c ∈ M))
    (h : ∀ v H' L', post v L' → (∀ q ∈ L', q.1 ∈ L.map (·.1) ∨ H0 q.1 = none) → Hs H0 M H' (L' ++ F) → Q v H') : Sep R vs H Q E := by
  have S1 := S.perm pm.symm
  refine ⟨C, L, post, r, ?_, fun q hq => S1.is q (List.mem_append_left _ hq), fun c hc => (hC c hc).1, fun v H' L' p S' hk => ?_⟩
  · have := S1.nd
    rw [List.map_append, List.nodup_append] at this
    exact this.1
  · refine h v H' L' p (fun q hq => ?_) (S1.frame S' hC hk)
    rcases hk q hq with z | z
    · exact Or.inl z
    · exact Or.inr (S.none0 z)
/-- what is said of own objects, told of those of a ledger -/
theorem own_of {K : Led} (h : ∀ q ∈ L', q.1 ∈ L.map (·.1) ∨ H0 q.1 = none) (hL : ∀ q ∈ L, H0 q.1 = none ∨ q.1 ∈ M) : ∀ q ∈ L', H0 q.1 = none ∨ q.1 ∈ M := fun q hq => by
  rcases h q hq with z | z
  · obtain ⟨r, hr, e⟩ := List.mem_map.mp z
    rw [← e]; exact hL r hr
  · exact Or.inl z
end
end Rs
namespace Rs
open PySem PySem.Spec PyProof.Rows L2
/-! ### ledgers put in another order, by counting -/
open Classical in
noncomputable def one (a b : Addr × HO) : Nat := if b = a then 1 else 0
noncomputable def cn (a : Addr × HO) : Led → Nat
  | [] => 0
  | b :: L => one a b + cn a L
theorem cn_nil (a : Addr × HO) : cn a [] = 0 := rfl
theorem cn_cons (a b : Addr × HO) (L : Led) : cn a (b :: L) = one a b + cn a L := rfl
theorem cn_app (a : Addr × HO) : ∀ L L' : Led, cn a (L ++ L') = cn a L + cn a L'
  | [], L' => by simp [cn]
  | b :: L, L' => by rw [List.cons_append, cn_cons, cn_cons, cn_app a L L']; omega
theorem one_self (a : Addr × HO) : one a a = 1 := by simp [one]
theorem one_ne {a b : Addr × HO} (h : b ≠ a) : one a b = 0 := by simp [one, h]
theorem cn_pos {a : Addr × HO} : ∀ {L : Led}, 0 < cn a L ↔ a ∈ L
  | [] => by simp [cn]
  | b :: L => by
    rw [cn_cons]
    by_cases h : b = a
    · subst h; rw [one_self]; simp; omega
    · rw [one_ne h]
      have := cn_pos (a := a) (L := L)
      simp [Ne.symm h, this]
theorem cn_le {L : Led} (h : (L.map (·.1)).Nodup) (a : Addr × HO) : cn a L ≤ 1 := by
  induction L with
  | nil => simp [cn]
  | cons b L ih =>
    rw [List.map_cons, List.nodup_cons] at h
    rw [cn_cons]
    by_cases e : b = a
    · subst e
      rw [one_self]
      have : cn b L = 0 := by
        by_cases z : 0 < cn b L
        · exact absurd (List.mem_map_of_mem (f := (·.1)) (cn_pos.mp z)) h.1
        · omega
      omega
    · rw [one_ne e]; have := ih h.2; omega
theorem nodup_re {L L' : Led} (h : (L.map (·.1)).Nodup) (c : ∀ a, cn a L' ≤ cn a L) : (L'.map (·.1)).Nodup := by
  have sub : ∀ q ∈ L', q ∈ L := fun q hq => cn_pos.mp (Nat.lt_of_lt_of_le (cn_pos.mpr hq) (c q))
  have c1 : ∀ a, cn a L' ≤ 1 := fun a => Nat.le_trans (c a) (cn_le h a)
  have inj : ∀ {L : Led}, (L.map (·.1)).Nodup → ∀ q ∈ L, ∀ r ∈ L, q.1 = r.1 → q = r := by
    intro L
    induction L with
    | nil => intro _ q hq; cases hq
    | cons b L ih =>
      intro h q hq r hr e
      rw [List.map_cons, List.nodup_cons] at h
      rcases List.mem_cons.mp hq with rfl | hq'
      · rcases List.mem_cons.mp hr with rfl | hr'
        · rfl
        · exact absurd (by rw [e]; exact List.mem_map_of_mem (f := (·.1)) hr') h.1
      · rcases List.mem_cons.mp hr with rfl | hr'
        · exact absurd (by rw [← e]; exact List.mem_map_of_mem (f := (·.1)) hq') h.1
        · exact ih h.2 q hq' r hr' e
  clear c
  induction L' with
  | nil => simp
  | cons b L' ih =>
    rw [List.map_cons, List.nodup_cons]
    refine ⟨fun hm => ?_, ih (fun q hq => sub q (List.mem_cons_of_mem _ hq)) fun a => ?_⟩
    · obtain ⟨r, hr, e⟩ := List.mem_map.mp hm
      have := inj h _ (sub r (List.mem_cons_of_mem _ hr)) _ (sub b List.mem_cons_self) e
      subst this
      have z := c1 r
      rw [cn_cons, one_self] at z
      have := cn_pos.mpr hr
      omega
    · have := c1 a; rw [cn_cons] at this; omega
theorem Hs.re {H0 H : Hp} {M : List Addr} {L L' : Led} (S : Hs H0 M H L) (c : ∀ a, cn a L' ≤ cn a L) : Hs H0 M H L' :=
  ⟨nodup_re S.nd c, fun q hq => S.is q (cn_pos.mp (Nat.lt_of_lt_of_le (cn_pos.mpr hq) (c q))), S.old, S.mu⟩
section
variable {H0 H H' : Hp} {M C : List Addr} {L L' LL F : Led} {R : SepR} {vs : List V} {post : V → Led → Prop} {Q : VK} {E : XK}
theorem sep_use' (S : Hs H0 M H LL) (r : R vs C L post) (pm : ∀ a, cn a (L ++ F) ≤ cn a LL) (hC : ∀ c ∈ C, c ∈ L.map (·.1) ∧ (H0 c = none ∨ c ∈ M))
    (h : ∀ v H' L', post v L' → (∀ q ∈ L', q.1 ∈ L.map (·.1) ∨ H0 q.1 = none) → Hs H0 M H' (L' ++ F) → Q v H') : Sep R vs H Q E :=
  sep_use (S.re pm) r (.refl _) hC h
end
end Rs
namespace Rs
open PySem PySem.Spec PyProof.Rows L2
theorem Chg.app {a : Addr} {o o' : HO} {L L' : Led} (h : Chg a o o' L L') : ∀ N : Led, Chg a o o' (N ++ L) (N ++ L')
  | [] => h
  | _ :: N => .there (h.app N)
theorem Chg.appR {a : Addr} {o o' : HO} {L L' N : Led} (h : Chg a o o' L L') : Chg a o o' (N ++ L) (N ++ L') := h.app N
theorem Chg.appL {a : Addr} {o o' : HO} {L L' N : Led} (h : Chg a o o' L L') : Chg a o o' (L ++ N) (L' ++ N) := by
  induction h with
  | here => exact .here
  | there _ ih => exact .there ih
end Rs

namespace Rs
open PySem PySem.Spec PyProof.Rows L2
section
variable {σ : L2.St} {H H0 : Hp} {M : List Addr} {L L' : Led} {Q : VK} {v x y : V} {nx : L2.St → Hp → Prop} {rt : VK} {bk ct : L2.St → Hp → Prop} {ta : TA} {g : TG} {tw : TS} {K : PySem.W.Frag}
def enI (K : PySem.W.Frag) (R : It → Hp → Prop) (vs : List V) (H : Hp) : Prop := ∃ a xs, vs = [V.ref a] ∧ SqL K H a xs ∧ R (Ite K a) H
theorem rd_enum {R : It → Hp → Prop} (h : ta σ H fun vs H1 => enI K R vs H1) : iEnum K ta σ H R := h
theorem rd_enI {R : It → Hp → Prop} {a : Addr} {xs : List V} (S : Hs H0 M H L) (m : (a, HO.lst xs) ∈ L) (h : R (Ite K a) H) : enI K R [.ref a] H := ⟨a, xs, rfl, S.lst m, h⟩
/-- over enumerate of a list that stays as it is -/
theorem fw_enum {a : Addr} {xs : List V} (Pv : Nat → L2.St → Hp → Prop) (h0 : Pv 0 σ H) (hl : ∀ i σ H, i ≤ xs.length → Pv i σ H → SqL K H a xs)
    (hs : ∀ i x σ H T, xs[i]? = some x → Pv i σ H → H T = none → g (.ref T) σ (upd H T (.tup [.int (i : Nat), x])) fun σ2 H2 => tw ⟨Pv (i + 1), rt, nx, Pv (i + 1)⟩ σ2 H2) (hd : ∀ σ H, Pv xs.length σ H → nx σ H) : forW (Ite K a) g tw ⟨nx, rt, bk, ct⟩ σ H := by
  refine for_it walk_enum Pv h0 hl ?_ hd
  rintro i x σ H H' hi hp ⟨T, y, z, rfl, hT, rfl, e1, e2⟩
  cases e1
  exact hs i z σ H T e2 hp hT
/-- an own new object, as the rules hand it -/
theorem Hs.newAt (S : Hs H0 M H L) {p : Addr} {o : HO} (hp : H p = none) : H0 p = none ∧ Hs H0 M (upd H p o) ((p, o) :: L) := S.new hp o
theorem rd_methK {C : Addr} {m : Str} {n : Nat} {sp : Sp} {gV : List V → List V → List V} {E : XK} {te : TE} {tk : TA} (h : te σ H fun x H1 => ∃ a dx fs, x = .ref a ∧ H1 a = some (.ins C dx fs) ∧ fs.lookup m = none ∧ tk σ H1 fun zs H2 => zs.length = n ∧ sp (gV [x] zs) H2 Q E) : tMethK C m n sp gV E te tk σ H Q := h
end
end Rs

namespace Rs
open PySem PySem.Spec PyProof.Rows L2
abbrev SepM := List V → List Addr → Led → (V → Led → Led → Prop) → Prop
/-- a promise by ledgers; the new objects told apart -/
def SepN (R : SepM) : Sp := fun vs H Q _ => ∃ C L post, R vs C L post ∧ (L.map (·.1)).Nodup ∧ (∀ q ∈ L, H q.1 = some q.2) ∧ (∀ c ∈ C, c ∈ L.map (·.1)) ∧
  ∀ v H' N L', post v N L' → Hs H C H' (N ++ L') → (∀ q ∈ L', q.1 ∈ L.map (·.1)) → (∀ q ∈ N, H q.1 = none) → Q v H'
section
variable {H0 H H' : Hp} {M C : List Addr} {L L' LL F : Led} {R : SepM} {vs : List V} {post : V → Led → Led → Prop} {Q : VK} {E : XK}
theorem sepn_use (S : Hs H0 M H LL) (r : R vs C L post) (pm : ∀ a, cn a (L ++ F) ≤ cn a LL) (hC : ∀ c ∈ C, c ∈ L.map (·.1) ∧ (H0 c = none ∨ c ∈ M))
    (h : ∀ v H' N L', post v N L' → (∀ q ∈ N, H0 q.1 = none) → Hs H0 M H' (N ++ (L' ++ F)) → Q v H') : SepN R vs H Q E := by
  have S1 := S.re pm
  refine ⟨C, L, post, r, ?_, fun q hq => S1.is q (List.mem_append_left _ hq), fun c hc => (hC c hc).1, fun v H' N L' p S' h1 h2 => ?_⟩
  · have := S1.nd
    rw [List.map_append, List.nodup_append] at this
    exact this.1
  · refine h v H' N L' p (fun q hq => S.none0 (h2 q hq)) ?_
    rw [← List.append_assoc]
    refine S1.frame S' hC fun q hq => ?_
    rcases List.mem_append.mp hq with z | z
    · exact Or.inr (h2 q z)
    · exact Or.inl (h1 q z)
end
end Rs

namespace Rs
open PySem PySem.Spec PyProof.Rows L2
section
variable {H H0 : Hp} {M : List Addr} {L L' : Led} {Q : VK} {a : Addr}
theorem rd_rev {xs : List V} (S : Hs H0 M H L) (c : Chg a (.lst xs) (.lst xs.reverse) L L') (hm : H0 a = none ∨ a ∈ M) (h : ∀ H', Hs H0 M H' L' → Q .non H') : rReverse (.ref a) [] H Q := ⟨a, xs, rfl, rfl, S.is _ c.mem, h _ (S.put c hm)⟩
end
end Rs
namespace Rs
open PySem PySem.Spec PyProof.Rows L2
theorem at_nat {ns : List Int} {i : Nat} (h : i < ns.length) : atI (ns.map V.int) (i : Int) = some (.int (ns.getD i 0)) := by
  have e : ixN (ns.map V.int).length (i : Int) = some i := by
    unfold ixN
    rw [if_pos (by omega)]
    simp [h]
  unfold atI
  rw [e]
  show (ns.map V.int)[i]? = _
  rw [List.getElem?_map, List.getD_eq_getElem?_getD, List.getElem?_eq_getElem h]
  rfl
end Rs

/-! Xc1: own exceptions over any built-in base, with an own __init__ -/
namespace Xc
open PySem PySem.Spec PyProof.Rows L2
/-- C: an own class over the built-in B (others of one's own between) -/
structure Own (K : PySem.W.Frag) (C : Addr) (B newId initId : String) (bmB : List Value) : Prop where
  fb : ExcBaseFacts B newId initId bmB
  st : StoreFacts B bmB "object.__setattr__" "object"
  ini : PySem.W.excInitIn K C bmB newId = true
  ovr : PySem.W.excOver K C bmB = true
  dic : PySem.W.hasDictIn K C = true
  sav : PySem.W.findIn K (.ref C) "__setattr__" = some (some (.builtin "object.__setattr__"))
  bex : PySem.W.subIn K (.ref C) (.type "BaseException") = some true
  tyc : PySem.W.typeIn K (.ref C) = some (.type "type")
  kpc : PySem.W.keepIn K (.ref C) = true
section
variable {X : Cx} {pins : List (Addr × Obj)} {σ : L2.St} {H : Hp} {s : Shared} {a C dx : Addr} {f : Str} {y : V} {u : Value} {fs : List (Str × V)} {Q : Unit → Shared → Prop} {E : Value → Shared → Prop} {A : Around} {B newId initId : String} {bmB : List Value}
theorem put0 (T : Own X.K C B newId initId bmB) (I : Inv X pins σ H s) (e : H a = some (exo a C none)) (hno : PySem.W.takerIn X.K C f = some none) (ry : RelV y u)
    (k : ∀ d1 s1, H d1 = none → d1 ≠ a → Inv X pins σ (upd (upd H d1 (exd d1 [(f, y)])) a (exo a C (some d1))) s1 → Q () s1) : wpAny (model X.prog X.w) A (setAttr (.ref a) f u) Q E s := by
  obtain ⟨tA, hA⟩ := exo_at I.hok e
  obtain ⟨hp, gn, dr, tk0, osS⟩ := s
  have J : PySem.W.InstAt hp a { cls := .ref C, dict := none, data := .fields #[.ref tA, .none, .none, .none, .bool false, .none] } C none := ⟨hA, rfl, rfl, trivial⟩
  refine PySem.W.set_plain I.kIn J T.sav (PySem.W.osa_openX T.st I.kIn J T.ovr hno fun _ => ?_)
  obtain ⟨cd, hcd, hdc⟩ := PySem.W.any_some T.dic
  refine wpAny_bind (wpAny_pure (wpAny_bind (PySem.W.instanceDict_exc hA (PySem.W.looks_clsIn I.kIn hcd) hdc ?_)))
  have lt : a < hp.objs.size := Heap.lt_size hA
  show wpAny _ _ (Builtin.ObjectAttr.storeInDict hp.objs.size _ f u) _ _ _
  refine PySem.HandSPX.store_in_new ⟨_, #[], _, (Heap.get?_update_ne _ _ _ _ (Nat.ne_of_gt lt)).trans (Heap.get?_push_at rfl rfl), rfl, fun e he => absurd he (by simp), fun _ => rfl⟩ fun h2 tk2 hn sb => ?_
  have new : H hp.objs.size = none := I.hok.fresh (Nat.le_refl _)
  have neA : hp.objs.size ≠ a := Nat.ne_of_gt lt
  have oldK : ∀ b o, b ≠ a → hp.get? b = some o → h2.get? b = some o := fun b o hb q =>
    (sb.2 b (Nat.ne_of_lt (Heap.lt_size q))).trans ((Heap.get?_update_ne _ _ _ _ hb).trans (Heap.get?_push_of_some _ q))
  have atA : h2.get? a = some { cls := .ref C, dict := some hp.objs.size, data := .fields #[.ref tA, .none, .none, .none, .bool false, .none] } :=
    (sb.2 a (Ne.symm neA)).trans (Heap.get?_update_self _ (Heap.get?_push_of_some _ hA) rfl)
  have nn : ∀ {b : Addr}, H b = none → b ≠ a := fun {b} n z => by
    rw [z, e] at n; cases n
  have nD : ∀ {b : Addr} {o : Obj}, hp.get? b = some o → b ≠ hp.objs.size := fun {b o} q => Nat.ne_of_lt (Heap.lt_size q)
  refine k hp.objs.size ⟨h2, gn, dr, tk2, osS⟩ new neA (I.un (t' := tk2) ⟨fun b o q n _ _ => oldK b o (nn n) q, fun b o q n _ _ => ⟨o.slots, oldK b o (nn n) q⟩, fun b o q n _ => by
      rw [upd_ne (nn n), upd_ne (nD q)]; exact n, fun b o q _ => ?_, fun b xs q => by rw [upd_ne (at_ne e q exo_tup), upd_ne (ne_of_none q new)]; exact q,
      fun b o v q => by rw [upd_ne (at_ne e q exo_frz), upd_ne (ne_of_none q new)]; exact q, fun b ps q => ⟨#[], by rw [upd_ne (at_ne e q exo_tbl), upd_ne (ne_of_none q new), q]; simp⟩⟩ fun b o q => ?_)
  · by_cases hb : b = a
    · exact ⟨_, by rw [hb]; exact atA⟩
    · exact ⟨o, oldK b o hb q⟩
  · by_cases hb : b = a
    · subst hb; rw [upd_same] at q; cases q; exact exo_ok atA
    · rw [upd_ne hb] at q
      by_cases hd : b = hp.objs.size
      · subst hd; rw [upd_same] at q; cases q
        exact exd_ok hn (relO_put (fs := []) ry fun g => True.intro)
      · rw [upd_ne hd] at q
        refine (I.hok b o q).stay (fun c v hc z => oldK c v ?_ z) (fun c hc => by rw [upd_ne (at_ne e hc exo_own), upd_ne (ne_of_none hc new)]; exact hc)
          (fun c xs hc => by rw [upd_ne (at_ne e hc exo_tup), upd_ne (ne_of_none hc new)]; exact hc)
        rcases hc with hc | hc
        · rw [hc]; exact hb
        · exact at_ne e hc exo_own
theorem put1 (T : Own X.K C B newId initId bmB) (I : Inv X pins σ H s) (e : H a = some (exo a C (some dx))) (ed : H dx = some (exd dx fs)) (hl : fs.length ≤ 900) (hno : PySem.W.takerIn X.K C f = some none) (ry : RelV y u)
    (k : ∀ s1, Inv X pins σ (upd H dx (exd dx ((f, y) :: fs))) s1 → Q () s1) : wpAny (model X.prog X.w) A (setAttr (.ref a) f u) Q E s := by
  obtain ⟨tA, hA⟩ := exo_at I.hok e
  obtain ⟨mA, hns, rel⟩ := exd_at I.hok ed
  have wi := within_of rel
  obtain ⟨hp, gn, dr, tk0, osS⟩ := s
  obtain ⟨oD, _, _, hoD, _, _⟩ := hns.count wi
  have J : PySem.W.InstAt hp a { cls := .ref C, dict := some dx, data := .fields #[.ref tA, .none, .none, .none, .bool false, .none] } C (some oD) := ⟨hA, rfl, rfl, hoD⟩
  refine PySem.W.set_plain I.kIn J T.sav (PySem.W.osa_openX T.st I.kIn J T.ovr hno fun _ => ?_)
  obtain ⟨cd, hcd, hdc⟩ := PySem.W.any_some T.dic
  refine wpAny_bind (wpAny_pure (wpAny_bind (wpAny_bind (wpAny_loadPart hA (wpAny_bind ((PySem.W.looks_clsIn I.kIn hcd).at ?_))))))
  rw [hdc]
  refine wpAny_pure (a := some dx) ?_
  refine PySem.OEX.store_in_old hns wi (by rw [List.length_map]; omega) fun h2 tk2 hn sb => ?_
  obtain ⟨oN, _, _, eN, _⟩ := id hn
  exact k _ (I.write (t' := tk2) (x := dx) (e := dx) (o := exd dx ((f, y) :: fs)) (by rw [ed]; exact True.intro) (.inl rfl) (fun b o hb q => (sb.2 b hb).trans q) ⟨oN, eN⟩ (exd_ok hn (relO_put ry rel)))
/-- B.__init__(self, ..): the args are laid anew, nothing of them is told -/
theorem binit {us : List Value} {Q : Value → Shared → Prop} (T : Own X.K C B newId initId bmB) (I : Inv X pins σ H s) (e : H a = some (exo a C none)) (hl : us.length ≤ sizeLine) (k : ∀ s1, Inv X pins σ H s1 → Q .none s1) :
    wpAny (model X.prog X.w) A (call (.builtin initId) (.ref a :: us)) Q E s := by
  obtain ⟨tA, hA⟩ := exo_at I.hok e
  obtain ⟨nm, N, qn, bs, bm, hdct, sn, sub, ab, col, dd, k0, k1, k2, k3, k5, hC, hT⟩ := PySem.W.excInit_of I.kIn T.ini
  obtain ⟨hp, gn, dr, tk0, osS⟩ := s
  refine wpAny_call (PySem.HandSPX.init_base T.fb hT hC hA hl fun h2 t2 kp hx => ?_)
  have J := I.write (t' := tk0) (x := a) (e := a) (o := exo a C none) (by rw [e]; exact True.intro) (.inl rfl) kp ⟨_, hx⟩ (exo_ok hx)
  have same : upd H a (exo a C none) = H := by
    funext b
    by_cases hb : b = a
    · subst hb; rw [upd_same, e]
    · rw [upd_ne hb]
  exact k _ (same ▸ J)
end
/-! ### the rules -/
/-- B.__init__(self, ..) -/
def tBI (K : PySem.W.Frag) (B newId initId : String) (bmB : List Value) (ta : TA) : TE := fun σ H Q => ta σ H fun vs H1 => ∃ (a C : Addr) (ws : List V), vs = .ref a :: ws ∧ ws.length ≤ 1000 ∧ Own K C B newId initId bmB ∧ H1 a = some (exo a C none) ∧ Q .non H1
/-- self.f = e -/
def tPut (K : PySem.W.Frag) (B newId initId : String) (bmB : List Value) (f : Str) (to te : TE) : TS := fun D σ H => te σ H fun y H1 => to σ H1 fun x H2 => ∃ a C : Addr, x = .ref a ∧ Own K C B newId initId bmB ∧ PySem.W.takerIn K C f = some none ∧
  ((H2 a = some (exo a C none) ∧ ∀ dx, H2 dx = none → dx ≠ a → D.nx σ (upd (upd H2 dx (exd dx [(f, y)])) a (exo a C (some dx)))) ∨
    ∃ (dx : Addr) (fs : List (Str × V)), H2 a = some (exo a C (some dx)) ∧ H2 dx = some (exd dx fs) ∧ fs.length ≤ 900 ∧ D.nx σ (upd H2 dx (exd dx ((f, y) :: fs))))
section
variable {X : Cx} {o e : Expr} {es : List Expr} {to te : TE} {ta : TA} {f : Str} {p p' p1 p2 pos : Pos} {B newId initId : String} {bmB : List Value}
theorem pe_binit {n : Str} {pl : Sem Bool} {C : Addr} (_o : Own X.K C B newId initId bmB) (hg : Gl X n) (hm : X.mg n = none) (hv : bootBuiltins n = some (.type B)) (hty : typeOf (.type B) = pure (.type "type")) (hst : Manifest.isStub B = false) (hin : PySem.W.handedIn (.builtin initId) = true)
    (vV : PySem.W.findCls X.K (.type B) (.type "type") "__init__" = some (.val (.builtin initId))) (ha : PA X (e :: es) ta)
    (hc : eval (.Call (.Attribute (.Name n p1) "__init__" p2) (e :: es) [] pos) X.env = (do
      let ov ← eval (.Name n p1) X.env
      standAt p2.atName
      let (fn, fst) ← holding [ov] (getMethod ov "__init__" pl)
      callWith pos fn fst (backTo pos (starEach (e :: es) X.env)) (backToKw pos (keywordEach [] X.env))) := by rfl)
    (hn1 : n ≠ "__name__" := by decide) (hn2 : (n == ("__debug__" : Str)) = false := by decide) (he : starEach (e :: es) X.env = (false, eval e X.env) :: starEach es X.env := by rfl) (hp : (backTo pos (starEach es X.env)).any (·.1) = false := by rfl) :
    PE X (.Call (.Attribute (.Name n p1) "__init__" p2) (e :: es) [] pos) (tBI X.K B newId initId bmB ta) := by
  refine ⟨fun pins s σ H Q I k => PySem.W.methodCall_KW (ld_blt I hg hm hv ?_ hn1 hn2) hc⟩
  obtain ⟨m, fr⟩ := I.fr
  refine PySem.W.method_type fr I.ok.mod.kin hty hst vV hin ?_
  show wpAny _ _ (callWith pos (Value.builtin initId) [] (backTo pos (starEach (e :: es) X.env)) []) _ _ _
  refine PyProof.Rows.callWith_method1 (thn (ha.run pos pins _ σ H _ (I.tok _) k) fun us s1 ⟨vs, H1, I1, rv, a, C, ws, ev, hl, T, ea, q⟩ => ?_) he hp
  subst ev
  cases rv with
  | @cons _ u1 _ ur rA rW =>
    obtain rfl : u1 = Value.ref a := rA
    exact binit T I1 ea (by rw [← Paired.length rW, sizeLine_eq]; omega) fun s2 J => ⟨.non, H1, J, rfl, q⟩
theorem ps_put {C : Addr} (_o : Own X.K C B newId initId bmB) (ho : PE X o to) (he : PE X e te) (hs : swapsWith e (some (.Attribute o f p')) pos.line X.env = pure false := by rfl) : PS X (.Assign [.Attribute o f p'] e pos) (tPut X.K B newId initId bmB f to te) := by
  refine ⟨fun pins s σ H D I k => plainObj_wpAny_Assign_Attribute (thn (he.run pins s σ H _ I k) fun v s1 ⟨y, H1, I1, ry, k1⟩ => thn (ho.run pins s1 σ H1 _ I1 k1) fun u s2 ⟨x, H2, I2, rx, a, C, ex, T, hno, q⟩ => ?_) hs⟩
  subst ex
  obtain rfl : u = Value.ref a := rx
  rcases q with ⟨ea, q⟩ | ⟨dx, fs, ea, ed, hl, q⟩
  · exact put0 T I2 ea hno ry fun dx s3 n1 n2 J => ⟨σ, _, J, q dx n1 n2⟩
  · exact put1 T I2 ea ed hl hno ry fun s3 J => ⟨σ, _, J, q⟩
/-- C(e, ..) with C's own __init__ -/
theorem pmk_own {CX : CXT} {x : Str} {C fI : Addr} {k : Nat} {fd : FuncData} {ps : List Str} {sp : Sp} {ds : List Value} {dvs : List V} (T : Own X.K C B newId initId bmB) (iC : PySem.W.findIn X.K (.ref C) "__init__" = some (some (.ref fI))) (tI : PySem.W.typeIn X.K (.ref fI) = some (.type "function"))
    (F1 : FnOk X.prog X.w X.K X.mg X.base CX k fI fd ps sp) (hr : Room (k + 1) X.A) (hb : Binds X.K fd ps ds) (hd : Vals dvs ds) (hx : Passes CX X (fun _ _ _ => False)) (hg : Gl X x) (hm : X.mg x = some (.ref C)) (ha : PA X (e :: es) ta)
    (hdb : (x == ("__debug__" : Str)) = false := by decide) (he : starEach (e :: es) X.env = (false, eval e X.env) :: starEach es X.env := by rfl) (hp : (backTo pos (starEach es X.env)).any (·.1) = false := by rfl) :
    PMk X (.Call (.Name x p) (e :: es) [] pos) (tMkO C sp dvs ta) := by
  intro pins s σ H Q I hh
  refine wpAny_Call_Name_kw (ld_glob I hg hm ?_ hdb)
  refine PySem.W.callWith_K (h₀ := X.base) I.ok.mod.kin T.kpc (thn (ha.run pos pins s σ H _ I hh) fun us s1 ⟨vs, H1, I1, rv, hz, k1⟩ => ⟨I1.kIn, ?_⟩) he hp
  show wpAny _ _ (call (.ref C) us) _ _ _
  obtain ⟨nm, N, qn, bs, bm, hdct, sn, sub, ab, col, dd, k0, k1', k2, k3, k5, hC, hT⟩ := PySem.W.excInit_of I1.kIn T.ini
  obtain ⟨hp1, gn, dr, tk, osS⟩ := s1
  have up1 : hp1.objs.size ≤ hp1.objs.size + 1 := Nat.le_succ _
  have new : H1 (hp1.objs.size + 1) = none := I1.hok.fresh up1
  have body := k1 (hp1.objs.size + 1) new
  have kept : ∀ b o, hp1.get? b = some o → ((hp1.push (PySem.W.kdv_tup us)).push (PySem.HandSPX.excO C hp1.objs.size)).get? b = some o := fun b o q => Heap.get?_push_of_some _ (Heap.get?_push_of_some _ q)
  have there : ((hp1.push (PySem.W.kdv_tup us)).push (PySem.HandSPX.excO C hp1.objs.size)).get? (hp1.objs.size + 1) = some (PySem.HandSPX.excO C hp1.objs.size) := by heap_get
  have I2 : Inv X pins σ (upd H1 (hp1.objs.size + 1) (exo (hp1.objs.size + 1) C none)) ⟨(hp1.push (PySem.W.kdv_tup us)).push (PySem.HandSPX.excO C hp1.objs.size), gn, dr, tk, osS⟩ :=
    I1.laid (t' := tk) (a := hp1.objs.size + 1) (o := exo (hp1.objs.size + 1) C none) (h' := (hp1.push (PySem.W.kdv_tup us)).push (PySem.HandSPX.excO C hp1.objs.size)) kept up1 (exo_ok there)
  have rels : Vals (V.ref (hp1.objs.size + 1) :: (vs ++ dvs)) (Value.ref (hp1.objs.size + 1) :: (us ++ ds)) := .cons rfl (rv.append hd)
  have len1 : (Value.ref (hp1.objs.size + 1) :: us ++ ds).length = ps.length := (F1.len _ _ _ _ body).symm.trans rels.length |>.symm
  have lus : us.length ≤ sizeLine := by rw [← Paired.length rv, sizeLine_eq]; omega
  refine wpAny_call (PySem.HandSPX.call_own T.fb hT hC (PySem.W.looks_findIn I1.kIn iC) (fun self => PySem.W.bind_fn I1.kIn self tI) lus
    (codeAny_mono (F1.run _ X.stack _ _ ⟨Value.ref (hp1.objs.size + 1) :: us, []⟩ (Value.ref (hp1.objs.size + 1) :: (us ++ ds)) _ _ (fun _ _ _ => False) (hr.make C us []) (I2.env0.make C us []) (hb _ (Value.ref (hp1.objs.size + 1) :: us) I2.kIn len1) rels body) fun r s2 z => ?_))
  cases r with
  | error er => exact hx pins σ _ _ er s2 I2 z
  | ok fl =>
    cases fl with
    | ret u =>
      obtain ⟨v, H2, o2, b2, u2, hok2, rv2, ev, d, fs, ea, ed, hd1, q2⟩ := z
      subst ev
      obtain ⟨h2, g2, d2, t2, os2⟩ := s2
      exact ⟨rv2, mk_end (raises_own T.bex T.tyc) I1 up1 kept u2 hok2 o2 b2 ea ed hd1 q2⟩
    | next => exact False.elim z
    | brk => exact False.elim z
    | cont => exact False.elim z
end
end Xc

/-! Xc2: except (A, B, ..) as e: the exception is kept as a value -/
namespace Xc
open PySem PySem.Spec PySem.Calls PyProof.Rows L2 PySem.W
section
variable {M : Model} {A : Around} {E : Value → Shared → Prop} {s : Shared} {β : Type}
theorem loop_all {f : Value → β → Sem (ForInStep β)} {r : β} : ∀ {cs : List Value} {Q : β → Shared → Prop}, (∀ c ∈ cs, ∀ Q : ForInStep β → Shared → Prop, Q (.yield r) s → wpAny M A (f c r) Q E s) → Q r s → wpAny M A (forIn cs r f) Q E s
  | [], Q, _, k => by rw [List.forIn_nil]; exact wpAny_pure k
  | c :: cs, Q, h, k => by
    rw [List.forIn_cons]
    refine wpAny_bind (h c List.mem_cons_self _ ?_)
    exact loop_all (fun c hc => h c (List.mem_cons_of_mem _ hc)) k
theorem loop_any {f : Value → β → Sem (ForInStep β)} {r d : β} {K : Frag} {cls : Value} : ∀ {cs : List Value} {b : Bool} {Q : β → Shared → Prop}, exmAny K cls cs = some b →
    (∀ c b, exmOne K cls c = some b → ∀ Q : ForInStep β → Shared → Prop, Q (if b = true then .done d else .yield r) s → wpAny M A (f c r) Q E s) → Q (if b = true then d else r) s → wpAny M A (forIn cs r f) Q E s
  | [], b, Q, e, _, k => by
    obtain rfl : false = b := Option.some.inj e
    rw [List.forIn_nil]; exact wpAny_pure k
  | c :: cs, b, Q, e, h, k => by
    obtain ⟨b1, d1, e1, e2, rfl⟩ := exmAny_cons e
    rw [List.forIn_cons]
    refine wpAny_bind (h c b1 e1 _ ?_)
    cases b1 with
    | true => exact wpAny_pure k
    | false =>
      rw [Bool.false_or] at k
      exact loop_any e2 h k
end
section
variable {M : Model} {K : Frag}
theorem exm_of_any {cls : Value} : ∀ {cs : List Value} {b : Bool}, exmAny K cls cs = some b → ∀ c ∈ cs, ∃ b, exmOne K cls c = some b
  | [], _, _, c, hc => nomatch hc
  | x :: cs, b, e, c, hc => by
    obtain ⟨b1, d1, e1, e2, _⟩ := exmAny_cons e
    rcases List.mem_cons.mp hc with rfl | hc
    · exact ⟨_, e1⟩
    · exact exm_of_any e2 c hc
theorem exm_tupN {cs : List Value} {cls : Value} {tp e : Addr} {b : Bool} {h : Heap} (X : K.In h) (LT : Looks M h (typeOf (.ref e)) cls) (hp : h.get? tp = some { cls := .type "tuple", data := .seq cs.toArray }) (hx : exmAny K cls cs = some b) :
    Looks M h (excMatches (.ref e) (.ref tp)) b := by
  intro A Q E s k q
  obtain ⟨hh, g, d, tk, os⟩ := s
  have isT : Looks M h (isInstance (.ref tp) (.type "tuple")) true := ((Looks.ld hp).andThen .now).andThen (Looks.of_pure isSubtype_tuple_tuple)
  have hp2 := k _ _ hp
  have LT2 := LT.keeps k
  have X2 := X.keeps k
  unfold excMatches
  refine wpAny_bind ((isT.keeps k).at ?_)
  dsimp only
  rw [if_pos rfl]
  first
    | refine wpAny_bind (wpAny_seqItems hp2 rfl ?_)
    | refine wpAny_bind (wpAny_bind (wpAny_seqItems hp2 rfl (wpAny_pure ?_)))
  dsimp only [Option.getD_some, Option.getD]
  refine wpAny_bind (wpAny_pure ?_)
  refine wpAny_bind (loop_all (fun c hc Q' q' => ?_) ?_)
  · obtain ⟨b1, e1⟩ := exm_of_any hx c hc
    obtain ⟨l1, _⟩ := exm_cls (M := M) X2 e1
    refine wpAny_bind (l1.at ?_)
    simp only [Bool.not_true, Bool.false_eq_true, if_false]
    exact wpAny_pure q'
  · refine wpAny_bind (LT2.at ?_)
    refine wpAny_bind (loop_any (d := (some true, ())) hx (fun c b1 e1 Q' q' => ?_) ?_)
    · obtain ⟨_, l2⟩ := exm_cls (M := M) X2 e1
      refine wpAny_bind (l2.at ?_)
      cases b1 with
      | true =>
        rw [if_pos rfl] at q' ⊢
        exact wpAny_pure q'
      | false =>
        rw [if_neg Bool.false_ne_true] at q' ⊢
        exact wpAny_pure q'
    · cases b with
      | true => exact wpAny_pure q
      | false => exact wpAny_pure q
end
end Xc
namespace Xc
open PySem PySem.Spec PySem.Calls PyProof.Rows L2
/-- the names of a clause and their classes -/
inductive Nms (X : Cx) : List Expr → List Value → Prop
  | nil : Nms X [] []
  | cons {x : Str} {c : Value} {np : Pos} {es : List Expr} {cs : List Value} : Names X x c → Nms X es cs → Nms X (.Name x np :: es) (c :: cs)
theorem Nms.len {X : Cx} {es : List Expr} {cs : List Value} (h : Nms X es cs) : cs.length = es.length := by
  induction h with
  | nil => rfl
  | cons _ _ ih => simp [ih]
theorem nms_eval {X : Cx} {pins : List (Addr × Obj)} {σ : L2.St} {H : Hp} {s : Shared} {pos : Pos} {E : Value → Shared → Prop} (I : Inv X pins σ H s) {es : List Expr} {cs : List Value} (h : Nms X es cs) :
    ∀ {Q : List Value → Shared → Prop}, Q cs s → wpAny (model X.prog X.w) X.A (spliced (backTo pos (starEach es X.env))) Q E s := by
  induction h with
  | nil => intro Q k; exact wpAny_items_nil k
  | @cons x c np es cs hx _ ih =>
    intro Q k
    refine wpAny_items_cons ?_
    obtain ⟨hg, hdbg, hm | ⟨hm, hv, hnn⟩⟩ := hx
    · exact ld_glob I hg hm (ih k) hdbg
    · exact ld_blt I hg hm hv (ih k) hnn hdbg
/-- a caught exception, held -/
def Exv (a : Addr) (cls : Value) (d : Option Addr) : HO := .ext fun h => ∃ (oe : Obj) (vs : Array Value), h.get? a = some oe ∧ Zc cls d oe ∧ oe.data = .fields vs
theorem exv_ok {P : Program} {w : World} {H : Hp} {h : Heap} {a : Addr} {cls : Value} {d : Option Addr} {oe : Obj} {vs : Array Value} (e : h.get? a = some oe) (z : Zc cls d oe) (hd : oe.data = .fields vs) : ObjOk P w H h a (Exv a cls d) :=
  ⟨⟨oe, vs, e, z, hd⟩, ⟨oe, e⟩, fun _ _ ⟨o, v, q, r⟩ k => ⟨o, v, k o q, r⟩⟩
theorem exv_at {P : Program} {w : World} {H : Hp} {h : Heap} {a : Addr} {cls : Value} {d : Option Addr} (ok : HOk P w H h) (e : H a = some (Exv a cls d)) : ∃ oe vs, h.get? a = some oe ∧ Zc cls d oe ∧ oe.data = .fields vs := by
  have x : ObjOk P w H h a (.ext fun h => ∃ (oe : Obj) (vs : Array Value), h.get? a = some oe ∧ Zc cls d oe ∧ oe.data = .fields vs) := ok a _ e
  exact x.1
section
variable {X : Cx} {pins : List (Addr × Obj)} {σ : L2.St} {H : Hp} {s : Shared}
theorem track {a : Addr} {o : HO} (I : Inv X pins σ H s) (na : H a = none) (n0 : ∀ u, X.s_0.heap.get? a = some u → X.H_0 a = none → a ∈ X.ex) (nL : a ≠ X.env.locals) (nC : ∀ x c, X.env.cells.lookup x = some c → c ≠ a) (nP : ∀ p ∈ X.pn ++ pins, p.1 ≠ a)
    (ok : ObjOk X.prog X.w (upd H a o) s.heap a o) : Inv X pins σ (upd H a o) s := by
  have ne : ∀ {b : Addr} {u : HO}, H b = some u → b ≠ a := fun {b u} e z => by rw [z, na] at e; cases e
  refine ⟨I.ok, I.os, I.bare, ⟨I.base.keep, I.base.slot, fun b u e n hx => ?_, I.base.there, fun b xs e => ?_, fun b u v e => ?_, fun b ps e => ?_⟩, I.loc, I.cell, ?_, fun x c e => ?_, fun p hp => ?_, fun b u e => ?_, I.len⟩
  · by_cases hb : b = a
    · subst hb; exact absurd (n0 u e n) hx
    · rw [upd_ne hb]; exact I.base.free b u e n hx
  · have q := I.base.tups b xs e
    rw [upd_ne (ne q)]; exact q
  · have q := I.base.frzs b u v e
    rw [upd_ne (ne q)]; exact q
  · obtain ⟨more, q⟩ := I.base.tbls b ps e
    exact ⟨more, by rw [upd_ne (ne q)]; exact q⟩
  · rw [upd_ne (Ne.symm nL)]; exact I.free
  · rw [upd_ne (nC x c e)]; exact I.freeC x c e
  · obtain ⟨q1, q2, q3, q4, q5⟩ := I.pin p hp
    exact ⟨q1, by rw [upd_ne (nP p hp)]; exact q2, q3, q4, q5⟩
  · by_cases hb : b = a
    · subst hb; rw [upd_same] at e; cases e; exact ok
    · rw [upd_ne hb] at e
      exact (I.hok b u e).stay (fun c v _ q => q) (fun c q => by rw [upd_ne (ne q)]; exact q) fun c xs q => by rw [upd_ne (ne q)]; exact q
end
theorem fly_keeps {B h h' : Heap} {l : List Env} {a : Addr} {Z : Obj → Prop} (fl : HandSPX.FlyingZ B l a Z h) (k : ∀ b o, h.get? b = some o → h'.get? b = some o) : HandSPX.FlyingZ B l a Z h' := by
  obtain ⟨f1, f2, f3, oe, vs, T, oT, ts, he, hz, hd, h1, hn, ht, hT, hdT, h3⟩ := fl
  exact ⟨fun b o q => k b o (f1 b o q), f2, f3.of_keeps fun b o q _ => ⟨o, k b o q, rfl⟩, oe, vs, T, oT, ts, k _ _ he, hz, hd, h1, hn, ht, k _ _ hT, hdT, h3⟩
/-- what 'except (A, B, ..) as n' wishes; slot i is n's -/
def wKeep (K : PySem.W.Frag) (cs : List Value) (i : Nat) (ts : Addr → Value → Option Addr → TS) (Wout : WX) (D : Ends) : WX := fun cls d σ H =>
  ∃ b, PySem.W.exmAny K cls cs = some b ∧ (b = true → ∀ a, H a = none → ts a cls d { nx := fun σ' H' => D.nx (σ'.set i none) (upd H' a (Exv a cls d)), rt := fun v H' => D.rt v (upd H' a (Exv a cls d)), bk := fun σ' H' => D.bk (σ'.set i none) (upd H' a (Exv a cls d)), ct := fun σ' H' => D.ct (σ'.set i none) (upd H' a (Exv a cls d)) } (σ.set i (some (.ref a))) H) ∧
    (b = false → Wout cls d σ H)
section
variable {X : Cx} {n : Str} {cs : List Value} {i kt : Nat} {body suite : List Stmt} {b₀ : Stmt} {es : List Expr} {tpos pos pos' : Pos} {tb : WX → TS} {ts : Addr → Value → Option Addr → TS} {Wout : WX}
theorem ps_try_keep (hs : X.stack = X.env :: X.outer) (hf : X.env.frame = some X.env.locals) (hN : X.N.Nodup) (hi : X.N[i]? = some n) (hln : X.env.kindOf n = some .local) (hc : Nms X es cs) (hz : cs.length ≤ 100) (tk : Takes X Wout)
    (hb : ∀ (W : WX) (pn : List (Addr × Obj)) (xe : Value → Shared → Prop), Takes (X.tr pn xe) W → PassesOwn (model X.prog X.w) X.A X.env xe → PSs (X.tr pn xe) body (tb W))
    (hsu : ∀ (a : Addr) (oe : Obj) (cls : Value) (d : Option Addr) (pn : List (Addr × Obj)), Zc cls d oe → (∃ vs, oe.data = .fields vs) → PSs (X.suite a ((a, oe) :: pn)) (b₀ :: suite) (ts a cls d)) :
    PS X (.Try body [.ExceptHandler (some (.Tuple es kt tpos)) (some n) (b₀ :: suite) pos'] [] [] pos) (fun D σ H => tb (wKeep X.K cs i ts Wout D) D σ H) := by
  refine ⟨fun pins s σ H D I kk => ?_⟩
  have okX := I.ok
  have frm : X.A.frames = some (X.env :: X.outer) := by rw [okX.frames, hs]
  have lcl : Loc X.env.scope n := .inl hln
  refine wpAny_Try_except (wpAny_mono ((hb (wKeep X.K cs i ts Wout D) (X.pn ++ pins) (fun e s1 => wpAny (model X.prog X.w) X.A (noteFrame e X.env) (fun _ s2 => wpAny (model X.prog X.w) X.A (setFlight e none) (fun _ s3 =>
    wpAny (model X.prog X.w) X.A (handleBy e X.env [.ExceptHandler (some (.Tuple es kt tpos)) (some n) (b₀ :: suite) pos']) (SP X pins D) X.xe s3) X.xe s2) X.xe s1) (fun u s1 xx => ?_) PassesOwn.looking).run [] s σ H D (I.toTry _) kk) (fun fl s1 z => ?_) (fun _ _ z => z))
  · obtain ⟨a, B, sI, pins1, σ1, H1, cls, d, rfl, J0, nb, up, sky, na, osE, agE, b, hb1, yes, no⟩ := xx
    have J : Inv X pins σ1 H1 sI := J0.ofTry okX
    have sky1 : Sky B (X.env :: X.outer) a (Zc cls d) X.env.locals s1.heap := by rw [← hs]; exact sky
    show wpAny (model X.prog X.w) X.A (noteFrame (.ref a) X.env) _ _ _
    refine Sky.land Zc.steady frm hf sky1 fun h3 fl3 up3 => ?_
    have J3 : Inv X pins σ1 H1 { s1 with heap := h3 } := J.landed nb fl3.1 (up.trans up3) osE agE
    obtain ⟨oe3, vs3, he3, hz3, hd3⟩ := fl3.there
    have nfr : a ∉ frs (X.env :: X.outer) := fun hm => by
      obtain ⟨_, o1, q1, nf1⟩ := fl3.2.2.1.mem hm
      rw [he3] at q1; cases q1
      exact nf1 _ hd3
    have nL : a ≠ X.env.locals := fun z => nfr (List.mem_filterMap.mpr ⟨X.env, List.mem_cons_self, by rw [hf, z]⟩)
    have nF : a ∉ X.fs := fun hm => by
      obtain ⟨e1, he1, q1⟩ := List.mem_filterMap.mp hm
      exact nfr (List.mem_filterMap.mpr ⟨e1, List.mem_cons_of_mem _ he1, q1⟩)
    have nst : a ∉ frs X.stack := by rw [hs]; exact nfr
    have bn : B.get? a = none := fl3.2.1
    have n0 : ∀ u, X.s_0.heap.get? a = some u → X.H_0 a = none → a ∈ X.ex := fun u e1 e2 => Classical.byContradiction fun hx => by
      have q1 := nb a u (J.base.keep a u e1 e2 nF hx) nst
      rw [bn] at q1; cases q1
    have nP : ∀ p ∈ X.pn ++ pins, p.1 ≠ a := fun p hp z => by
      obtain ⟨q1, q2, q3, q4, q5⟩ := J.pin p hp
      have q6 : p.1 ∉ frs X.stack := by rw [z]; exact nst
      have q7 := nb p.1 p.2 q1 q6
      rw [z, bn] at q7; cases q7
    have S3 := J3.suite he3 hd3 na nL nF
    refine wpAny_handleBy_cons (codeAny_handlers_test ?_) (by intro q; cases q)
    refine wpAny_Tuple (nms_eval (X := X.suite a ((a, oe3) :: (X.pn ++ pins))) S3 (by
      have g : ∀ {es cs}, Nms X es cs → Nms (X.suite a ((a, oe3) :: (X.pn ++ pins))) es cs := fun h => by
        induction h with
        | nil => exact .nil
        | cons hx _ ih => exact .cons hx ih
      exact g hc) ⟨by rw [sizeLine_eq]; omega, ?_⟩)
    have kp : ∀ b o, h3.get? b = some o → (h3.push { cls := .type "tuple", data := .seq cs.toArray }).get? b = some o := fun _ _ q => Heap.get?_push_of_some _ q
    have LT : PySem.W.Looks (model X.prog X.w) (h3.push { cls := .type "tuple", data := .seq cs.toArray }) (typeOf (.ref a)) cls := fun A Q E s k q => wpAny_typeOf_ref (k _ _ (kp _ _ he3)) (by rw [hz3.1]; exact q)
    refine (exm_tupN (M := model X.prog X.w) (J3.kIn.keeps kp) LT (Heap.get?_push_size h3 rfl) hb1).here ?_
    have fl4 := fly_keeps fl3 kp
    have up4 : sI.heap.UpToSlots (h3.push { cls := .type "tuple", data := .seq cs.toArray }) := (up.trans up3).trans (Heap.UpToSlots.of_keeps kp)
    cases b with
    | true =>
      refine codeAny_handlers_suite_as (HandSPX.lands_againZ fl4 fun h5 fl5 up5 => ?_)
      have J5 : Inv X pins σ1 H1 { s1 with heap := h5 } := J.landed nb fl5.1 (up4.trans up5) osE agE
      obtain ⟨oe5, vs5, he5, hz5, hd5⟩ := fl5.there
      have S5 := J5.suite he5 hd5 na nL nF
      refine store_ok (X := X.suite a ((a, oe5) :: (X.pn ++ pins))) (v := .ref a) S5 hN hi lcl rfl (fun s6 S6 => ?_) (.inr hln)
      refine wpAny_mono ((hsu a oe5 cls d (X.pn ++ pins) hz5 ⟨_, hd5⟩).run [] s6 _ H1 _ S6 (yes rfl a na)) (fun fl s7 z => ?_) (fun _ _ z => False.elim z)
      have fin : ∀ {σ7 : L2.St} {H7 : Hp} {Q : Shared → Prop}, Inv (X.suite a ((a, oe5) :: (X.pn ++ pins))) [] σ7 H7 s7 → (∀ s8, Inv X pins (σ7.set i none) (upd H7 a (Exv a cls d)) s8 → Q s8) →
          wpAny (model X.prog X.w) X.A (do bindName X.env n .none; unbindBehindTheSuite X.env n pos') (fun _ s8 => Q s8) X.xe s7 := fun {σ7 H7 Q} S7 hq => by
        obtain ⟨p1, p2, p3, p4, p5⟩ := S7.pin (a, oe5) (List.mem_append_left _ List.mem_cons_self)
        have J7 := S7.unsuite okX
        refine gone_ok (track J7 p2 n0 nL (fun x c e z => ?_) nP (exv_ok p1 hz5 hd5)) hN hi hln hq
        obtain ⟨v, oc, q1, q2⟩ := J7.cell x c e
        rw [z, p1] at q1; cases q1
        rw [hd5] at q2; cases q2
      cases fl with
      | next =>
        obtain ⟨σ7, H7, S7, q7⟩ := z
        exact fin S7 fun s8 J8 => ⟨_, _, J8, q7⟩
      | brk =>
        obtain ⟨σ7, H7, S7, q7⟩ := z
        exact fin S7 fun s8 J8 => ⟨_, _, J8, q7⟩
      | cont =>
        obtain ⟨σ7, H7, S7, q7⟩ := z
        exact fin S7 fun s8 J8 => ⟨_, _, J8, q7⟩
      | ret u =>
        obtain ⟨v7, σ7, H7, S7, r7, q7⟩ := z
        exact fin S7 fun s8 J8 => ⟨_, _, _, J8, r7, q7⟩
    | false =>
      show wpAny _ X.A (handleBy (.ref a) X.env []) _ _ _
      refine wpAny_handleBy_nil ?_
      obtain ⟨k1, k2, k3, oe, vs, T, oT, ts1, he, hz, hd, h1, hr⟩ := id fl4
      unfold PySem.passOn
      refine wpAny_bind (wpAny_field he hd h1 ?_)
      rw [if_neg (show ¬ ((Value.ref T == Value.none) = true) from by simp)]
      have last : wpAny (model X.prog X.w) X.A (setFlight (.ref a) X.env.frame) (fun _ s5 => wpAny (model X.prog X.w) X.A (throw (.ref a) : Sem Flow) (SP X pins D) X.xe s5) X.xe { s1 with heap := h3.push { cls := .type "tuple", data := .seq cs.toArray } } := by
        rw [hf]
        refine HandSPX.setFlight_upZ fl4 fun h5 hh5 up5 => wpAny_throw (tk _ _ ⟨a, B, sI, pins, σ1, H1, cls, d, rfl, J, nb, up4.trans up5, .inr (.inr (by rw [hs]; exact hh5)), na, osE, agE, no rfl⟩)
      first
        | exact wpAny_bind (wpAny_pure (wpAny_bind last))
        | exact wpAny_bind last
  · cases fl with
    | next =>
      obtain ⟨σ1, H1, J1, q⟩ := z
      exact wpAny_execs_nil ⟨σ1, H1, J1.ofTry okX, q⟩
    | brk =>
      obtain ⟨σ1, H1, J1, q⟩ := z
      exact ⟨σ1, H1, J1.ofTry okX, q⟩
    | cont =>
      obtain ⟨σ1, H1, J1, q⟩ := z
      exact ⟨σ1, H1, J1.ofTry okX, q⟩
    | ret u =>
      obtain ⟨v, σ1, H1, J1, r, q⟩ := z
      exact ⟨v, σ1, H1, J1.ofTry okX, r, q⟩
end
end Xc

/-! Xc3: held exceptions looked at; divmod -/
namespace Xc
open PySem PySem.Spec PySem.Calls PyProof.Rows L2 Rs
/-- what a class says when its instances are looked at -/
structure Lk (K : PySem.W.Frag) (C : Addr) : Prop where
  cl : (PySem.W.clsIn K C).isSome = true
  ga : PySem.W.findIn K (.ref C) "__getattribute__" = some (some (.builtin "BaseException.__getattribute__"))
  gg : PySem.W.findIn K (.ref C) "__getattr__" = some none
  bx : PySem.W.subIn K (.ref C) (.type "BaseException") = some true
  hd : PySem.W.hasDictIn K C = true
  ha : PySem.W.findIn K (.ref C) "__class__" = some (some (.builtin "object.__class__"))
  hn : PySem.W.specialIn K (.builtin "object.__class__") "__get__" = some (some (.builtin "getset_descriptor.__get__"))
  ht : PySem.W.takesIn K (.builtin "object.__class__") = some true
  hm : PySem.W.mroIn K C (.type "object") = some true
/-- held at a: an exception of the class at C, its fields fs in the dict at dx -/
structure Held (H : Hp) (a C dx : Addr) (fs : List (Str × V)) : Prop where
  ex : H a = some (Exv a (.ref C) (some dx))
  dk : H dx = some (.xd fs)
section
variable {X : Cx} {pins : List (Addr × Obj)} {σ : L2.St} {H : Hp} {s : Shared} {a C dx : Addr} {fs : List (Str × V)}
theorem held_inst (I : Inv X pins σ H s) (h : Held H a C dx fs) : ∃ (oe od : Obj) (mA : Str → Option Value), PySem.W.InstAt s.heap a oe C (some od) ∧ (∀ f, RelO (fs.lookup f) (mA f)) ∧ ∀ n : Str, PySem.W.lookIn n od = some (mA n) := by
  obtain ⟨oe, vs, h1, h2, h3⟩ := exv_at I.hok h.ex
  have hx : ObjOk X.prog X.w H s.heap dx (.xd fs) := I.hok dx _ h.dk
  obtain ⟨mA, hns, hr⟩ := hx
  obtain ⟨od, ho, hl⟩ := lookIn_ns hns
  exact ⟨oe, od, mA, ⟨h1, h2.1, by unfold PySem.W.notCls; rw [h3] <;> rfl, by rw [h2.2]; exact ho⟩, hr, hl⟩
/-- isinstance(e, c) of a held one -/
def rIsX (K : PySem.W.Frag) : List V → Hp → VK → Prop := fun xs H Q => ∃ (a C dx : Addr) (fs : List (Str × V)) (c : V) (u : Value) (b : Bool), xs = [.ref a, c] ∧ ClsV c u ∧ Lk K C ∧ Held H a C dx fs ∧ PySem.W.kitOne K (.ref C) u = some b ∧ Q (.bl b) H
theorem call_isX : CallR X (.builtin "isinstance") (rIsX X.K) := by
  intro pins s σ H xs us Q I r h
  obtain ⟨a, C, dx, fs, c, u, b, rfl, k, l, hh, e, q⟩ := h
  obtain ⟨u1, u2, rfl, r1, r2⟩ := vals2 r
  have e2 := k.eq r2
  subst e2
  cases (show u1 = Value.ref a from r1)
  obtain ⟨oe, od, mA, J, _, _⟩ := held_inst I hh
  exact PySem.W.kia_one (PySem.W.kitx_exc l.cl l.ga l.gg l.bx l.ha l.hn l.ht l.hm) I.kIn J e (fun z => nomatch z) fun tk => ⟨.bl b, H, I.tok tk, rfl, q⟩
/-- e.f of a held one -/
def tXv (K : PySem.W.Frag) (f : Str) (te : TE) : TE := fun σ H Q => te σ H fun x H1 => ∃ (a C dx : Addr) (fs : List (Str × V)) (v : V), x = .ref a ∧ Lk K C ∧ PySem.W.findIn K (.ref C) f = some none ∧ Held H1 a C dx fs ∧ fs.lookup f = some v ∧ Q v H1
theorem pe_xv {e : Expr} {te : TE} {pos : Pos} {n : Str} (he : PE X e te) (hb : attributeBase e n X.env (eval e X.env) = eval e X.env := by rfl) : PE X (.Attribute e n pos) (tXv X.K n te) := by
  refine ⟨fun pins s σ H Q I h => attr_of hb (thn (he.run pins s σ H _ I h) fun u s1 hh => ?_)⟩
  obtain ⟨x, H1, I1, rx, a, C, dx, fs, v, ex, l, hno, hd, lk, q⟩ := hh
  subst ex
  obtain rfl : u = Value.ref a := rx
  obtain ⟨oe, od, mA, J, hr, hl⟩ := held_inst I1 hd
  obtain ⟨u2, hu, ru⟩ := RelO.some_of (v := v) (o := mA n) (by rw [← lk]; exact hr n)
  exact HandSPX.exc_get I1.kIn J l.ga l.gg l.bx (PySem.W.findObj_own l.hd hno rfl (by rw [hl, hu])) (handed_of ru) ⟨v, H1, I1.tok _, ru, q⟩
/-- divmod of whole numbers -/
def rDm : List V → Hp → VK → Prop := fun xs H Q => ∃ (a b : Int), xs = [.int a, .int b] ∧ 0 < b ∧ b < 2 ^ 30 ∧ -(2 ^ 30) < a ∧ a < 2 ^ 30 ∧ ∀ p, H p = none → Q (.ref p) (upd H p (.tup [.int (a / b), .int (a % b)]))
theorem call_dm : CallR X (.builtin "divmod") rDm := by
  intro pins s σ H xs us Q I r h
  obtain ⟨a, b, rfl, h1, h2, h3, h4, q⟩ := h
  obtain ⟨u1, u2, rfl, r1, r2⟩ := vals2 r
  obtain ⟨t1, rfl⟩ := (show ∃ t, u1 = Value.int a t from r1)
  obtain ⟨t2, rfl⟩ := (show ∃ t, u2 = Value.int b t from r2)
  have hf : H s.heap.objs.size = none := I.hok.fresh (Nat.le_refl _)
  refine PyProof.Rows.divmod_int (by omega) ?_ (Or.inl (PyProof.noPylong_small (by omega)))
  have e1 : a.fdiv b = a / b := Int.fdiv_eq_ediv_of_nonneg _ (by omega)
  have e2 : a.fmod b = a % b := Int.fmod_eq_emod_of_nonneg _ (by omega)
  rw [e1, e2]
  refine ⟨.ref s.heap.objs.size, upd H s.heap.objs.size (.tup [.int (a / b), .int (a % b)]), I.laid (t' := s.toks + 1 + 1) (fun b o e => Heap.get?_push_of_some _ e) (Nat.le_refl _) ?_, rfl, q _ hf⟩
  exact ⟨by rw [sizeLine_eq]; simp, _, .cons ⟨_, rfl⟩ (.cons ⟨_, rfl⟩ .nil), ⟨_, Heap.get?_push_size _ rfl, rfl, _, rfl⟩⟩
end
end Xc
namespace Xc
open PySem PySem.Spec PySem.Calls PyProof.Rows L2 Rs
theorem ip_or {X : Cx} : PIp X .BitOr (ipI fun i j => Builtin.bitOr i j) := by
  intro pins s σ H x y v u Q I r1 r2 h
  obtain ⟨i, j, rfl, rfl, q⟩ := h
  obtain ⟨t, rfl⟩ := r1
  obtain ⟨t2, rfl⟩ := r2
  exact ior_int ⟨.int (Builtin.bitOr i j), H, I.tok _, ⟨_, rfl⟩, q⟩
end Xc

/-! Xc4: the end with tables of code objects, for promises kept while no text is under way -/
namespace Xc
open PySem PySem.Spec PySem.Calls PyProof.Rows L2 Rs LamX
/-- what is known at the law's call: the script, the tables -/
def headH (own : Bool) (a : Addr) (o : Obj) (ns : List Int) (ts : List Addr) : Hp := fun b => if own = true ∧ b = a then some (.frz o (.lst (ns.map V.int))) else if b ∈ ts then some (.tbl #[]) else none
theorem headH_some {own : Bool} {a b : Addr} {o : Obj} {ns : List Int} {ts : List Addr} {u : HO} (h : headH own a o ns ts b = some u) : (own = true ∧ b = a ∧ u = .frz o (.lst (ns.map V.int))) ∨ (b ∈ ts ∧ u = .tbl #[]) := by
  unfold headH at h
  split at h
  · rename_i z; exact .inl ⟨z.1, z.2, (Option.some.inj h).symm⟩
  · split at h
    · rename_i z; exact .inr ⟨z, (Option.some.inj h).symm⟩
    · cases h
theorem lawGT {P : Program} {w : World} {K : PySem.W.Frag} {mg mb : Str → Option Value} {k : Nat} {fa a : Addr} {fd : FuncData} {x : Str} {sp : Sp} {s : Shared} {vs : List Value} {ns : List Int} {cs : List (Addr × Addr)}
    (KX : K.In s.heap) (hm : s.heap.Ns mainGlobals mg) (hb : s.heap.Ns builtinsNs mb) (hbb : ∀ x : Str, x ≠ "__name__" → mb x = bootBuiltins x) (hlim : s.heap.NoLimit) (hg : s.gens = #[])
    (hT : ∀ p ∈ cs, s.heap.get? p.2 = some (PySem.W.tabObj #[])) (nT : ∀ p ∈ cs, K.lookup p.2 = none) (C : ∀ p ∈ cs, PySem.W.CodeHd s.heap p.1 p.2)
    (hbm : ∃ (bm : Addr) (ob : Obj), mg "__builtins__" = some (.ref bm) ∧ bm ≠ builtinsNs ∧ s.heap.get? bm = some ob ∧ ob.cls = .type "module" ∧ ob.dict = some builtinsNs ∧ ob.data = .plain)
    (ha : s.heap.get? a = some { cls := .type "list", data := .seq vs.toArray }) (hi : IntsAre vs ns) (hl : ns.length ≤ sizeLine) (hr : Room k callerA)
    (F : ∀ base : Heap, K.In base → base.Ns mainGlobals mg → (∀ p ∈ cs, TabB base mg p.1 p.2) → FnG P w K mg base k fa fd [x] sp) (hbind : ∀ (s : Shared) (u : Value), BindsTo s fd ⟨[u], []⟩ [(x, u)])
    (hsp : ∀ H : Hp, (∀ p ∈ cs, H p.2 = some (.tbl #[])) → SqL K H a (ns.map V.int) → sp [.ref a] H (fun v _ => v = .bl true) E0) :
    codeAny (model P w) callerA (.call (.ref fa) ⟨[.ref a], []⟩) (fun r s' => r = .ok (.ret (.bool true)) ∧ OldK s.heap s'.heap ∧ s'.os = s.os ∧ AllBare s'.gens) s := by
  have rv := vals_ints hi
  have lv := hi.length
  have tabOf : ∀ b : Addr, b ∈ cs.map (·.2) → s.heap.get? b = some (PySem.W.tabObj #[]) := fun b hb => by
    obtain ⟨p, hp, rfl⟩ := List.mem_map.mp hb
    exact hT p hp
  have aNot : a ∉ cs.map (·.2) := fun z => by
    have q := tabOf a z
    rw [ha] at q
    have d : Data.seq vs.toArray _ = Data.fields #[] := congrArg Obj.data (Option.some.inj q)
    cases d
  have key : ∀ own : Bool, (own = true → K.lookup a = none) → (own = false → ∃ o, K.lookup a = some o) →
      codeAny (model P w) callerA (.call (.ref fa) ⟨[.ref a], []⟩) (fun r s' => r = .ok (.ret (.bool true)) ∧ OldK s.heap s'.heap ∧ s'.os = s.os ∧ AllBare s'.gens) s := by
    intro own h1 h2
    have hS := fun {b : Addr} {u : HO} => headH_some (own := own) (a := a) (b := b) (o := { cls := .type "list", data := .seq vs.toArray }) (ns := ns) (ts := cs.map (·.2)) (u := u)
    have hTb : ∀ p ∈ cs, headH own a { cls := .type "list", data := .seq vs.toArray } ns (cs.map (·.2)) p.2 = some (.tbl #[]) := fun p hp => by
      have mp : p.2 ∈ cs.map (·.2) := List.mem_map_of_mem (f := (·.2)) hp
      unfold headH
      rw [if_neg (fun z => aNot (by rw [← z.2]; exact mp)), if_pos mp]
    generalize eH : headH own a { cls := .type "list", data := .seq vs.toArray } ns (cs.map (·.2)) = H at hS hTb
    -- an object that is neither a row nor a table is not tracked
    have noH : ∀ {b : Addr} {o : Obj}, s.heap.get? b = some o → (∀ xs n, o.data ≠ .seq xs n) → o.data ≠ .fields #[] → H b = none := fun {b o} e d1 d2 => by
      cases q : H b with
      | none => rfl
      | some u =>
        rcases hS q with ⟨_, rfl, _⟩ | ⟨hb2, _⟩
        · rw [ha] at e; cases e; exact absurd rfl (d1 _ _)
        · rw [tabOf b hb2] at e; cases e; exact absurd rfl d2
    have noD : ∀ {b : Addr} {o : Obj} {es : Array DictEntry} {n : Nat}, s.heap.get? b = some o → o.data = .dict es n → H b = none := fun {b o es n} e d =>
      noH e (fun xs n z => by rw [d] at z; cases z) (fun z => by rw [d] at z; cases z)
    have ns0 : ∀ {b : Addr} {m : Str → Option Value}, s.heap.Ns b m → (hidT s.heap H).Ns b m := fun {b m} ⟨o, es, n, e, d, r⟩ => ⟨o, es, n, hidT_get e (noD e d), d, r⟩
    have K0 : K.In (hidT s.heap H) := fun b o e => by
      refine hidT_get (KX b o e) ?_
      cases q : H b with
      | none => rfl
      | some u =>
        rcases hS q with ⟨z, rfl, _⟩ | ⟨hb2, _⟩
        · rw [h1 z] at e; cases e
        · obtain ⟨p, hp, rfl⟩ := List.mem_map.mp hb2
          rw [nT p hp] at e; cases e
    have hok : HOk P w H s.heap := fun b u q => by
      rcases hS q with ⟨_, rfl, rfl⟩ | ⟨hb2, rfl⟩
      · exact ⟨ha, by rw [List.length_map]; exact hl, vs, _, rv, ha⟩
      · exact tabOf b hb2
    obtain ⟨mc, q1, q2⟩ := hlim
    have M0 : Mod K mg (hidT s.heap H) := ⟨K0, ns0 hm, ⟨mb, ns0 hb, hbb⟩, mc, ns0 q1, q2⟩
    have TB : ∀ p ∈ cs, TabB (hidT s.heap H) mg p.1 p.2 := fun p hp => by
      have hTp := hT p hp
      refine ⟨?_, ?_, fun z => ?_⟩
      · obtain ⟨o, us, file, tf, flags, tg, inF, text, tt, e1, r1, r2, r3, rest⟩ := C p hp
        refine ⟨o, us, file, tf, flags, tg, inF, text, tt, hidT_get e1 (noH e1 (fun xs n z => by rw [r2] at z; cases z) fun z => ?_), r1, r2, r3, rest⟩
        rw [r2] at z; cases z; simp at r3
      · obtain ⟨bm, ob, b1, b2, b3, b4, b5, b6⟩ := hbm
        refine ⟨bm, ob, b1, b2, fun q => ?_, fun q => ?_, hidT_get b3 (noH b3 (fun xs n z => by rw [b6] at z; cases z) fun z => by rw [b6] at z; cases z), b4, b5, b6⟩
        · obtain ⟨o, es, n, e, d, _⟩ := hm
          rw [q, e] at b3; cases b3
          rw [d] at b6; cases b6
        · rw [q, hTp] at b3; cases b3; cases b6
      · obtain ⟨o, es, n, e, d, _⟩ := hm
        rw [z, hTp] at e; cases e; cases d
    have env : Env0 P w K mg (hidT s.heap H) callerA [] s H := ⟨rfl, M0, fun b o e => of_hidT e, Nat.le_of_eq (hidT_size _ _), trivial, fun b hb3 => (nomatch (show b ∈ ([] : List Addr) from hb3)), hok, .of_eq hg⟩
    have sq : SqL K H a (ns.map V.int) := by
      cases own with
      | true => exact Or.inl (Or.inr ⟨_, by rw [← eH]; exact if_pos ⟨rfl, rfl⟩⟩)
      | false =>
        obtain ⟨o, e⟩ := h2 rfl
        have e' := KX a o e
        rw [ha] at e'; cases e'
        exact Or.inr ⟨_, vs.toArray, _, e, rfl, rfl, rfl, by rw [List.size_toArray, lv]; exact hl, by simpa using rv⟩
    refine codeAny_mono ((F _ K0 (ns0 hm) TB).go callerA [] s H [.ref a] ⟨[.ref a], []⟩ [.ref a] _ E0 rfl hr env (hbind s (.ref a)) (.cons rfl .nil) (hsp H hTb sq)) fun r s' z => ?_
    match r, z with
    | .error _, z => exact z.elim
    | .ok .next, z => exact z.elim
    | .ok .brk, z => exact z.elim
    | .ok .cont, z => exact z.elim
    | .ok (.ret u), z =>
      obtain ⟨v, H', os, bare, un, hok', r', q⟩ := z
      cases (show v = .bl true from q)
      cases (show u = Value.bool true from r')
      have same : ∀ b o, b ∉ cs.map (·.2) → s.heap.get? b = some o → s'.heap.get? b = some o := fun b o nb e => by
        cases q : H b with
        | none => exact un.keep b o e q (fun z => nomatch z) (fun z => nomatch z)
        | some u =>
          rcases hS q with ⟨_, rfl, rfl⟩ | ⟨hb2, _⟩
          · rw [ha] at e; cases e
            obtain ⟨e2, _⟩ := hok' b _ (un.frzs b _ _ q)
            exact e2
          · exact absurd hb2 nb
      have grown : ∀ b ∈ cs.map (·.2), isCodeTable s.heap b ∧ ∃ more : Array Value, s'.heap.get? b = some (PySem.W.tabObj more) := fun b hb2 => by
        obtain ⟨p, hp, rfl⟩ := List.mem_map.mp hb2
        obtain ⟨more, q⟩ := un.tbls p.2 #[] (hTb p hp)
        exact ⟨((C p hp).tab (hT p hp)).isCodeTable, _, hok' p.2 _ q⟩
      refine ⟨rfl, ⟨fun b o e => ?_, fun b o e => ?_⟩, os, bare⟩
      · by_cases hb2 : b ∈ cs.map (·.2)
        · obtain ⟨g1, more, g2⟩ := grown b hb2
          rw [tabOf b hb2] at e; cases e
          exact .inr (.inl ⟨g1, rfl, #[], more, rfl, by rw [Array.empty_append]; exact g2⟩)
        · exact .inl (same b o hb2 e)
      · by_cases hb2 : b ∈ cs.map (·.2)
        · obtain ⟨_, more, g2⟩ := grown b hb2
          exact ⟨_, g2⟩
        · exact ⟨o, same b o hb2 e⟩
  cases hk : K.lookup a with
  | some o => exact key false (fun z => Bool.noConfusion z) (fun _ => ⟨o, hk⟩)
  | none => exact key true (fun _ => hk) (fun z => Bool.noConfusion z)
/-- a def whose code object is known by its place -/
structure FunC (K : PySem.W.Frag) (x qual : Str) (st : Stmt) (f : Addr) (fd : FuncData) (c : Addr) : Prop where
  ex : ∃ (oc : Value) (od : Option Addr) (kV doc pm : Value) (an : Option Addr) (ct : Value) (osl : Array (Option Value)),
    fd = PySem.W.fnOf x qual (defArgs st) (defBody st) (defScope st) .none kV doc pm an (.ref c) ct ∧ K.lookup f = some ⟨oc, od, .func (PySem.W.fnOf x qual (defArgs st) (defBody st) (defScope st) .none kV doc pm an (.ref c) ct), osl⟩ ∧ PySem.W.codeIn K (.ref c) qual = true
section
variable {P : Program} {w : World} {K : PySem.W.Frag} {mg : Str → Option Value} {base : Heap}
/-- such a def by its body, as FnG -/
theorem defGC {x qual : Str} {st : Stmt} {f c : Addr} {fd : FuncData} {N ps : List Str} {k : Nat} {sp : Sp} (F : FunC K x qual st f fd c) (S : FnScope N ps (defScope st)) (many : ∀ vs H Q E, sp vs H Q E → vs.length = ps.length)
    (body : ∀ (A : Around) (o : List Env) (s : Shared) (H : Hp) (vs : List V) (Q : VK) (E : XK), Clr A → Room k (A.deeper (envOfC qual (defScope st) s.heap.objs.size f (.ref c))) → sp vs H Q E →
      ∃ t, PSs (cxOf CX0 P w K mg base N qual (defScope st) f (.ref c) A o s H E).nox (defBody st) t ∧ t { nx := fun _ H' => Q .non H', rt := Q } (start N vs) H) : FnG P w K mg base (k + 1) f fd ps sp := by
  obtain ⟨oc, od, kV, doc, pm, an, ct, osl, rfl, lk, hcd⟩ := F.ex
  refine ⟨many, ?_⟩
  intro A o s H us a vs Q E cl r e0 hb rv hsp
  obtain ⟨t, ht, hq⟩ := body A o s H vs Q E cl (r.deeper _) hsp
  have inK : ∀ b ob, K.lookup b = some ob → s.heap.get? b = some ob := fun b ob e => (e0.bs b ob (e0.mod.kin b ob e)).1
  refine codeAny_call_function r.depth (inK _ _ lk) rfl S.co S.gen rfl (PySem.W.codeRec_of inK hcd) (hb _ _ _ _ ?_)
  have noL : s.heap.NoLimit := e0.mod.nolimit.keeps fun b ob e => (e0.bs b ob e).1
  refine wpAny_newFunctionEnv_cells S.kind ?_ ?_
  · rintro ⟨n, v⟩ hy
    rcases S.par n (List.of_mem_zip hy).1 with q | q
    · exact Or.inl q
    · exact Or.inr ⟨q, PySem.W.cellsFrom_some _ _ _ (Or.inl q)⟩
  · intro env he s1 x1
    subst he
    refine ⟨noL.keeps x1.toInCall.keep, codeAny_func ?_⟩
    have J := inv_start (CX := CX0) (mg := mg) (E := E) (qual := qual) S r.hd e0 (many _ _ _ _ hsp) rv x1
    refine wpAny_mono (ht.nox.run [] s1 _ H _ J hq) ?_ ?_
    · intro fl s2 h2
      cases fl with
      | next => obtain ⟨_, H2, J2, q2⟩ := h2; exact ⟨V.non, H2, J2.os, J2.bare, J2.base, J2.hok, rfl, q2⟩
      | ret u => obtain ⟨v, _, H2, J2, r2, q2⟩ := h2; exact ⟨v, H2, J2.os, J2.bare, J2.base, J2.hok, r2, q2⟩
      | brk => obtain ⟨_, _, _, q2⟩ := h2; exact q2.elim
      | cont => obtain ⟨_, _, _, q2⟩ := h2; exact q2.elim
    · intro e s2 h2; exact h2
end
/-- the end, the law's def by its facts, its code's tables known -/
theorem walkGT {l : PySem.W.OpenLaw} {n k : Nat} {q : Program} {loose : List Str} {XP : (Str → Option Value) → Heap → Prop} {YP : World → Heap → Prop} {d : DefRec} {K : Params → PySem.W.Frag} {sp : PySem.W.Frag → Sp} {st : Stmt} {x : Str} {ts : List Addr}
    (hn : l.most = some n) (hn2 : n ≤ sizeLine) (hdf : d.params.defaults = []) (hr : Room k callerA) (hY : ∀ (w : World) (h : Heap), YP w h → (K w.params).In h) (hY2 : ∀ (w : World) (h : Heap), YP w h → ∀ p ∈ ts, h.get? p = some (PySem.W.tabObj #[])) (hx : d.name = "law")
    (hb : ∀ (kV doc pm : Value) (an : Option Addr) (cdv ct u : Value), bindArgs (PySem.W.fnOf "law" "law" (defArgs st) (defBody st) (defScope st) .none kV doc pm an cdv ct) ⟨[u], []⟩ = pure [(x, u)])
    (F : ∀ (w : World) (mg : Str → Option Value) (h : Heap), (K w.params).In h → h.Ns mainGlobals mg → ∃ cs : List (Addr × Addr), cs.map (·.2) = ts ∧ (∀ p ∈ cs, (K w.params).lookup p.2 = none) ∧ (∀ p ∈ cs, PySem.W.codeHdIn (K w.params) p.1 p.2 = true) ∧
      ∃ (fa : Addr) (fd : FuncData), Cal (K w.params) mg "law" st [x] fa fd ∧ ∀ base : Heap, (∀ p ∈ cs, TabB base mg p.1 p.2) → FnG l.prog w (K w.params) mg base k fa fd [x] (sp (K w.params)))
    (hsp : ∀ (K : PySem.W.Frag) (H : Hp) (a : Addr) (ns : List Int), ns.length ≤ n → (∀ z ∈ ns, Builtin.Int.intBits z ≤ 1048576) → (∀ p ∈ ts, H p = some (.tbl #[])) → SqL K H a (ns.map V.int) → sp K [.ref a] H (fun v _ => v = .bl true) E0) :
    PySem.W.WalkO q loose XP YP l.row.toRowW d [] (fun f vs => PySem.call f vs) := by
  apply Att.attach_callB hn hdf
  intro w s0 s1 mg mb fa o pm cd doc a vs ns G Y ho hd hcd hmg hobj hints hlen hbits hg
  have KX := hY w _ Y
  obtain ⟨cs, ec, nT, cT, f, fd, C, ok⟩ := F w mg _ KX G.T.g
  subst ec
  rw [hx] at hmg
  have e := C.m.symm.trans hmg
  cases e
  obtain ⟨oc, od, kV, doc2, pm2, an2, cdv, ct, osl, rfl, lk, hcd2⟩ := C.F.ex
  exact lawGT (cs := cs) KX G.T.g G.T.b G.T.builtins G.T.nolimit hg (fun p hp => hY2 w _ Y _ (List.mem_map_of_mem (f := (·.2)) hp)) nT (fun p hp => PySem.W.codeHd_of_K KX (cT p hp)) G.T.bmain hobj hints (Nat.le_trans hlen hn2) hr (fun base _ _ TB => ok base TB) (fun s u => .of_eq (hb kV doc2 pm2 an2 cdv ct u)) fun H hH hS => hsp _ H a ns hlen hbits (fun P hP => by obtain ⟨p, hp, rfl⟩ := List.mem_map.mp hP; exact hH p hp) hS
end Xc

/-! Xc5: readings for own exceptions -/
namespace Xc
open PySem PySem.Spec PySem.Calls PyProof.Rows L2 Rs
/-- __init__(self, x) that stores x as f -/
def spInit1 (C : Addr) (f : Str) : Sp := fun vs H Q _ => ∃ (a : Addr) (v : V), vs = [.ref a, v] ∧ H a = some (exo a C none) ∧ ∀ dx, H dx = none → dx ≠ a → Q .non (upd (upd H dx (exd dx [(f, v)])) a (exo a C (some dx)))
theorem del_eq {H : Hp} {a d : Addr} {o1 o2 o3 o4 : HO} (ha : H a = none) (ne : d ≠ a) : upd (del (upd (upd (upd H a o1) d o2) a o3) a) d o4 = upd H d o4 := by
  funext b
  by_cases hb : b = d
  · subst hb; rw [upd_same, upd_same]
  · rw [upd_ne hb, upd_ne hb]
    by_cases h2 : b = a
    · subst h2; rw [del_same, ha]
    · rw [del_ne h2, upd_ne h2, upd_ne hb, upd_ne h2]
section
variable {σ : L2.St} {H H0 : Hp} {M : List Addr} {L : Led} {Q : VK} {K : PySem.W.Frag} {C : Addr} {f : Str} {x : V} {XQ : XK}
theorem rd_mk1 (k : ∀ d, H d = none → XQ (.ref C) (some d) (upd H d (.xd [(f, x)]))) : [x].length ≤ 1000 ∧ ∀ a, H a = none → spInit1 C f (.ref a :: ([x] ++ [])) (upd H a (exo a C none))
    (fun v H2 => v = .non ∧ ∃ (d : Addr) (fs : List (Str × V)), H2 a = some (exo a C (some d)) ∧ H2 d = some (exd d fs) ∧ H d = none ∧ XQ (.ref C) (some d) (upd (del H2 a) d (.xd fs))) (fun _ _ _ => False) := by
  refine ⟨by simp, fun a ha => ⟨a, x, rfl, upd_same, fun dx n1 n2 => ⟨rfl, dx, [(f, x)], upd_same, ?_, ?_, ?_⟩⟩⟩
  · rw [upd_ne n2, upd_same]
  · rw [upd_ne n2] at n1; exact n1
  · rw [del_eq ha n2]
    rw [upd_ne n2] at n1
    exact k dx n1
theorem rd_tmk {sp : Sp} {dvs : List V} {ta : TA} (h : ta σ H fun vs H1 => vs.length ≤ 1000 ∧ ∀ a, H1 a = none → sp (.ref a :: (vs ++ dvs)) (upd H1 a (exo a C none))
    (fun v H2 => v = .non ∧ ∃ (d : Addr) (fs : List (Str × V)), H2 a = some (exo a C (some d)) ∧ H2 d = some (exd d fs) ∧ H1 d = none ∧ XQ (.ref C) (some d) (upd (del H2 a) d (.xd fs))) (fun _ _ _ => False)) : tMkO C sp dvs ta σ H XQ := h
theorem rd_dm {a b : Int} (S : Hs H0 M H L) (h1 : 0 < b) (h2 : b < 2 ^ 30) (h3 : -(2 ^ 30) < a) (h4 : a < 2 ^ 30) (h : ∀ p H', H0 p = none → Hs H0 M H' ((p, .tup [.int (a / b), .int (a % b)]) :: L) → Q (.ref p) H') : rDm [.int a, .int b] H Q := ⟨a, b, rfl, h1, h2, h3, h4, rd_newO S h⟩
theorem rd_isX {a dx : Addr} {fs : List (Str × V)} {c : V} {u : Value} {b : Bool} (S : Hs H0 M H L) (m1 : (a, Exv a (.ref C) (some dx)) ∈ L) (m2 : (dx, HO.xd fs) ∈ L) (l : Lk K C) (hc : ClsV c u) (e : PySem.W.kitOne K (.ref C) u = some b) (h : Q (.bl b) H) : rIsX K [.ref a, c] H Q :=
  ⟨a, C, dx, fs, c, u, b, rfl, hc, l, ⟨S.is _ m1, S.is _ m2⟩, e, h⟩
theorem rd_xv {te : TE} (h : te σ H fun x H1 => ∃ (a C dx : Addr) (fs : List (Str × V)) (v : V), x = .ref a ∧ Lk K C ∧ PySem.W.findIn K (.ref C) f = some none ∧ Held H1 a C dx fs ∧ fs.lookup f = some v ∧ Q v H1) : tXv K f te σ H Q := h
theorem rd_put1 {B newId initId : String} {bmB : List Value} {to te : TE} {D : Ends} (h : te σ H fun y H1 => to σ H1 fun x H2 => ∃ a C : Addr, x = .ref a ∧ Own K C B newId initId bmB ∧ PySem.W.takerIn K C f = some none ∧
  ((H2 a = some (exo a C none) ∧ ∀ dx, H2 dx = none → dx ≠ a → D.nx σ (upd (upd H2 dx (exd dx [(f, y)])) a (exo a C (some dx)))) ∨
    ∃ (dx : Addr) (fs : List (Str × V)), H2 a = some (exo a C (some dx)) ∧ H2 dx = some (exd dx fs) ∧ fs.length ≤ 900 ∧ D.nx σ (upd H2 dx (exd dx ((f, y) :: fs))))) : tPut K B newId initId bmB f to te D σ H := h
theorem rd_slVx {a : Addr} {xs : List V} {lo hi : Option Int} (S : Hs H0 M H L) (m : (a, HO.lst xs) ∈ L) (h : ∀ p H', H0 p = none → Hs H0 M H' ((p, .lst (cutV xs lo hi)) :: L) → Q (.ref p) H') : rSlL K (.ref a) lo hi H Q :=
  ⟨a, xs, rfl, S.lst m, rd_newO S h⟩
theorem rd_bi {B newId initId : String} {bmB : List Value} {ta : TA} (h : ta σ H fun vs H1 => ∃ (a C : Addr) (ws : List V), vs = .ref a :: ws ∧ ws.length ≤ 1000 ∧ Own K C B newId initId bmB ∧ H1 a = some (exo a C none) ∧ Q .non H1) : tBI K B newId initId bmB ta σ H Q := h
end
end Xc
namespace Xc
open PySem PySem.Spec PySem.Calls PyProof.Rows L2 Rs
theorem rd_xvV {H H0 : Hp} {M : List Addr} {L : Led} {K : PySem.W.Frag} {C : Addr} {f : Str} {a dx : Addr} {fs : List (Str × V)} {v : V} {R : V → Prop} (S : Hs H0 M H L) (m1 : (a, Exv a (.ref C) (some dx)) ∈ L) (m2 : (dx, HO.xd fs) ∈ L) (l : Lk K C) (n : PySem.W.findIn K (.ref C) f = some none) (e : fs.lookup f = some v) (h : R v) :
    ∃ (a' C dx : Addr) (fs : List (Str × V)) (v : V), V.ref a = .ref a' ∧ Lk K C ∧ PySem.W.findIn K (.ref C) f = some none ∧ Held H a' C dx fs ∧ fs.lookup f = some v ∧ R v := ⟨a, C, dx, fs, v, rfl, l, n, ⟨S.is _ m1, S.is _ m2⟩, e, h⟩
/-- the slots' number is known of what flies -/
theorem takes_len {X : Cx} {W : WX} (t : Takes X W) : Takes X (fun cls d σ H => σ.length = X.N.length → W cls d σ H) := fun u s' ⟨a, B, sI, pins, σ, H, cls, d, e, I, nb, up, sky, na, os, ag, w⟩ =>
  t u s' ⟨a, B, sI, pins, σ, H, cls, d, e, I, nb, up, sky, na, os, ag, w I.len⟩
end Xc

/-! Xc6: repr of (text, thing), the thing data or an empty dict -/
namespace Xc
open PySem PySem.Spec PySem.Calls PyProof.Rows L2 Rs
/-- data, or an empty dict -/
inductive Tq (K : PySem.W.Frag) (H : Hp) : V → PyData → Prop where
  | dp {v : V} {d : PyData} (h : Dp K H v d) : Tq K H v d
  | emp {a : Addr} (h : H a = some (.dK [])) : Tq K H (.ref a) (.dict [])
section
variable {X : Cx} {pins : List (Addr × Obj)} {σ : L2.St} {H : Hp} {s : Shared}
theorem Tq.reads (I : Inv X pins σ H s) {v : V} {d : PyData} {u : Value} (h : Tq X.K H v d) (r : RelV v u) : ∃ as, Reads s.heap u d as ∧ (d.hasDict = true → sysModules ∉ as) := by
  cases h with
  | dp h =>
    obtain ⟨as, q⟩ := Dp.reads I d v u h r
    exact ⟨as, q, PyData.noDict_hsm (dp_noDict d v h)⟩
  | @emp a h =>
    cases (show u = Value.ref a from r)
    obtain ⟨_, ns, vs, kv, o, es, ep, e1, e2, e3, _, e5, _⟩ := dk_of I.hok h
    cases kv
    have e6 := Pairs.length e5
    have e7 : es.toList = [] := List.eq_nil_of_length_eq_zero e6
    refine ⟨[a] ++ [], ?_, fun _ hm => ?_⟩
    · have z := Reads.dict (kvs := []) (as := []) (bs := []) e1 e2.1 e3 (by rw [e7]; exact .nil) (by rw [e7]; exact .nil)
      exact z
    · have : sysModules = a := by simpa using hm
      rw [this] at ns
      simp at ns
/-- repr((text, thing)) -/
def rReprP (K : PySem.W.Frag) : List V → Hp → VK → Prop := fun xs H Q => ∃ (p : Addr) (t : Str) (v : V) (d : PyData), xs = [.ref p] ∧ SqT K H p [.str t, v] ∧ Tq K H v d ∧ Shw (.tuple [.str t, d]) ∧ (PyData.tuple [.str t, d]).depth ≤ 50 ∧ Q (.str (PyData.tuple [.str t, d]).shown) H
theorem call_reprP {k : Nat} (c : Clr X.A) (hr : Room k X.A) : CallR X (.builtin "repr") (rReprP X.K) := by
  intro pins s σ H xs us Q I r h
  obtain ⟨p, t, v, d, rfl, hs, hq, sw, dp, q⟩ := h
  cases r with
  | cons r1 r2 =>
    cases r2
    rename_i u
    cases (show u = Value.ref p from r1)
    obtain ⟨its, rv, ⟨o, ho, hc, n, hd⟩, _⟩ := I.tuple hs
    obtain ⟨u1, u2, rfl, q1, q2⟩ := vals2 rv
    obtain ⟨tk, rfl⟩ := (show ∃ tk, u1 = Value.str t tk from q1)
    obtain ⟨as, rd, hm⟩ := hq.reads I q2
    have rd2 : Reads s.heap (.ref p) (.tuple [.str t, d]) ([] ++ (as ++ [])) := Reads.tuple ho hc hd (.cons (.str t tk) (.cons rd .nil))
    have un := hr.units
    refine repr_of_reads' (s := s) rd2 sw.ok (fun z => ?_) c (by omega) (fun _ _ e => e) (fun h' t2 tk2 kp => ⟨.str _, H, I.kept kp, ⟨t2, rfl⟩, q⟩) sw.sz
    simp only [PyData.hasDict, PyData.hasDictAll, Bool.false_or, Bool.or_false] at z
    simpa using hm z
end
theorem rd_reprP {K : PySem.W.Frag} {H H0 : Hp} {M : List Addr} {L : Led} {Q : VK} {p : Addr} {t : Str} {v : V} {d : PyData} (S : Hs H0 M H L) (m : (p, HO.tup [.str t, v]) ∈ L) (h : Tq K H v d) (sw : Shw (.tuple [.str t, d])) (dp : (PyData.tuple [.str t, d]).depth ≤ 50)
    (k : Q (.str (PyData.tuple [.str t, d]).shown) H) : rReprP K [.ref p] H Q := ⟨p, t, v, d, rfl, S.tup m, h, sw, dp, k⟩
end Xc
namespace Xc
open PySem PySem.Spec PySem.Calls PyProof.Rows L2 Rs
section
variable {σ : L2.St} {H H0 : Hp} {M : List Addr} {L : Led} {Q : VK}
theorem rd_lstRg {te : L2.St → Hp → (Int → Int → Hp → Prop) → Prop} (h : te σ H fun a b H1 => RgOk a b ∧ ∀ q, H1 q = none → Q (.ref q) (upd H1 q (.lst (rgV a b)))) : tLstRg te σ H Q := h
theorem rd_rg1 {ta : TE} {R : Int → Int → Hp → Prop} (h : ta σ H fun x H1 => ∃ n, x = .int n ∧ R 0 n H1) : tRg1 ta σ H R := h
theorem rd_rg1v {n : Int} {R : Int → Prop} (h : R n) : ∃ m, V.int n = .int m ∧ R m := ⟨n, rfl, h⟩
theorem rd_rgNew {a b : Int} (S : Hs H0 M H L) (h1 : 0 ≤ a) (h2 : b ≤ 16777216) (h3 : a ≤ 16777216) (h4 : 0 ≤ b) (h : ∀ p H', H0 p = none → Hs H0 M H' ((p, .lst (rgV a b)) :: L) → Q (.ref p) H') : RgOk a b ∧ ∀ q, H q = none → Q (.ref q) (upd H q (.lst (rgV a b))) :=
  ⟨RgOk.of_le h1 h2 h3 h4, rd_newO S h⟩
end
end Xc

/-! Xc7: great numbers shown, dicts of plain pairs shown, truths counted, truths as numbers, ledgers begun anew -/
namespace Xc
open PySem PySem.Spec PySem.Calls PyProof.Rows L2 Rs
def Stat (K : PySem.W.Frag) : Prop := PySem.W.nsIn K cStatics "sys.int_max_str_digits" = some none
section
variable {prog : Program} {w : World} {A : Around} {E : Value → Shared → Prop} {s : Shared} {K : PySem.W.Frag}
/-- a whole number of less than 4300 figures that is no matter of _pylong -/
structure Fig (i : Int) : Prop where
  a : i.natAbs < 10 ^ 4300
  b : i.natAbs.log2 < 29000
theorem over_run {M : Model} {i : Int} {Q : Option Nat → Shared → Prop} (X : K.In s.heap) (st : Stat K) (f : Fig i) (q : Q none s) : wpAny M A (Builtin.overDigitLimit? i) Q E s := by
  unfold Builtin.overDigitLimit?
  by_cases h0 : i.natAbs.log2 < 1920
  · rw [if_pos h0]; exact wpAny_pure q
  · rw [if_neg h0]
    refine wpAny_bind ?_
    unfold Builtin.intMaxStrDigits
    refine wpAny_bind ((PySem.W.looks_nsIn X st).here ?_)
    refine wpAny_pure ?_
    have hb := f.b
    have h1 : ¬ (i.natAbs.log2 / 30 + 1 > 1000) := by omega
    dsimp only
    rw [if_neg h1]
    by_cases h2 : ((4300 : Nat) == 0 || decide (i.natAbs.log2 < 3 * 4300)) = true
    · rw [if_pos (by simpa using h2)]; exact wpAny_pure q
    · rw [if_neg (by simpa using h2), if_neg (Nat.not_le.mpr f.a)]; exact wpAny_pure q
theorem gives_big (i : Int) (t : Tok) (st : Stat K) (f : Fig i) : GivesAt (fun s => K.In s.heap) (Builtin.«int.__repr__» ⟨[.int i t], []⟩) (.str (toString i)) := by
  intro prog w A R s X h
  unfold Builtin.«int.__repr__»
  show wpAny _ _ (do let r ← Builtin.overDigitLimit? i; _) _ _ _
  refine wpAny_bind (over_run X st f ?_)
  exact (Gives.of_eq rfl : Gives _ (.str (toString i))) prog w A R s h
theorem reprObj_big {i : Int} {t : Tok} {Q : Value → Shared → Prop} (X : K.In s.heap) (st : Stat K) (f : Fig i) (hu : A.units < cLine) (h : Q (.str (toString i) s.toks) { s with toks := s.toks + 1 }) : wpAny (model prog w) A (pyReprObj (.int i t)) Q E s :=
  wpAny_pyReprObj_slot hu (typeIs_int s i t) F.slot_int_repr.toG (call_givesAt F.slot_int_repr (typeIs_int s i t) F.entry_int_repr (F.args_int_repr_1 _) (gives_big i t st f) X ⟨int_text_fits10 f.a, _, _, rfl, h⟩)
theorem reprK_big {as : List Addr} {h₀ : Heap} {d : Nat} {i : Int} {t : Tok} (X : K.In h₀) (st : Stat K) (f : Fig i) : ReprK prog w as h₀ d (.int i t) (toString i) := fun base hb A g E s Q hg hcl hu hk hQ => by
  have hn' : base ≤ sizeLine := by omega
  rw [pyReprUnder_leaf (v := .int i t) hn' (fun _ e => nomatch e)]
  unfold pyRepr
  exact wpAny_bind (reprObj_big (X.keeps hk) st f (by omega) (wpAny_pure (hQ s.heap _ fun _ _ e => e)))
end
/-! ### what is shown -/
/-- plain: no place in the heap -/
def plD : V → Option PyData
  | .non => some .none
  | .bl b => some (.bool b)
  | .int i => some (.int i)
  | .str x => some (.str x)
  | _ => none
def keyD : Key → PyData
  | .inl i => .int i
  | .inr x => .str x
inductive PlKv : List (Key × V) → List (PyData × PyData) → Prop where
  | nil : PlKv [] []
  | cons {k : Key} {v : V} {d : PyData} {kv : List (Key × V)} {kds : List (PyData × PyData)} : plD v = some d → PlKv kv kds → PlKv ((k, v) :: kv) ((keyD k, d) :: kds)
theorem plD_reads {h : Heap} {v : V} {d : PyData} {u : Value} (e : plD v = some d) (r : RelV v u) : Reads h u d [] := by
  cases v with
  | non => cases e; cases (show u = Value.none from r); exact .none
  | bl b => cases e; cases (show u = Value.bool b from r); exact .bool b
  | int i => cases e; obtain ⟨t, rfl⟩ := (show ∃ t, u = Value.int i t from r); exact .int i t
  | str x => cases e; obtain ⟨t, rfl⟩ := (show ∃ t, u = Value.str x t from r); exact .str x t
  | _ => cases e
theorem plKv_reads {P : Program} {w : World} {h : Heap} : ∀ {kv : List (Key × V)} {kds : List (PyData × PyData)} {vs : List (Key × Value)} {es : List DictEntry}, PlKv kv kds → KV kv vs → Pairs (mixKind P w) es vs →
    ReadsAll h (es.map (·.key)) (kds.map (·.1)) [] ∧ ReadsAll h (es.map (·.val)) (kds.map (·.2)) []
  | _, _, _, _, .nil, .nil, .nil => ⟨.nil, .nil⟩
  | _, _, _, _, .cons (k := k) e p, .cons ⟨e1, r⟩ q, .cons hk hv rest => by
    obtain ⟨h1, h2⟩ := plKv_reads p q rest
    refine ⟨?_, ?_⟩
    · refine ReadsAll.cons (as := []) (bs := []) ?_ h1
      dsimp only at e1
      rw [← e1] at hk
      rcases keyIs_shape hk with ⟨i, t, e2, e3⟩ | ⟨x, t, e2, e3⟩
      · show Reads h _ (keyD k) []
        rw [e2]; dsimp only; rw [e3]; exact .int i t
      · show Reads h _ (keyD k) []
        rw [e2]; dsimp only; rw [e3]; exact .str x t
    · refine ReadsAll.cons (as := []) (bs := []) ?_ h2
      dsimp only
      rw [hv]
      exact plD_reads e r
/-- data without dicts, a dict of plain pairs, a great number -/
inductive Tz (K : PySem.W.Frag) (H : Hp) : V → PyData → Prop where
  | dp {v : V} {d : PyData} (h : Dp K H v d) (s : d.showable = true) : Tz K H v d
  | dk {a : Addr} {kv : List (Key × V)} {kds : List (PyData × PyData)} (h : H a = some (.dK kv)) (p : PlKv kv kds) (s : (PyData.dict kds).showable = true) : Tz K H (.ref a) (.dict kds)
  | big {i : Int} (f : Fig i) : Tz K H (.int i) (.int i)
section
variable {X : Cx} {pins : List (Addr × Obj)} {σ : L2.St} {H : Hp} {s : Shared}
theorem Tz.shows (I : Inv X pins σ H s) (st : Stat X.K) {v : V} {d : PyData} {u : Value} (h : Tz X.K H v d) (r : RelV v u) (hz : d.shown.length ≤ sizeLine) (hd : d.depth ≤ 50) :
    ∃ bs, ReadAtMost s.heap d.depth bs ∧ ReprK X.prog X.w bs s.heap 50 u d.shown := by
  cases h with
  | dp h sw =>
    obtain ⟨as, q⟩ := Dp.reads I d v u h r
    obtain ⟨bs, h1, h2⟩ := ReprK.of_reads (prog := X.prog) (w := X.w) q sw (PyData.noDict_hsm (dp_noDict d v h)) hz
    exact ⟨bs, h1, h2.level_le hd⟩
  | @dk a kv kds h p sw =>
    cases (show u = Value.ref a from r)
    obtain ⟨_, ns, vs, kv', o, es, ep, e1, e2, e3, _, e5, _⟩ := dk_of I.hok h
    obtain ⟨r1, r2⟩ := plKv_reads (h := s.heap) p kv' e5
    have q : Reads s.heap (.ref a) (.dict kds) ([a] ++ [] ++ []) := Reads.dict (as := []) (bs := []) e1 e2.1 e3 r1 r2
    obtain ⟨bs, h1, h2⟩ := ReprK.of_reads (prog := X.prog) (w := X.w) q sw (fun _ hm => by
      have z : sysModules = a := by simpa using hm
      rw [z] at ns
      simp at ns) hz
    exact ⟨bs, h1, h2.level_le hd⟩
  | @big i f =>
    obtain ⟨t, rfl⟩ := (show ∃ t, u = Value.int i t from r)
    exact ⟨[], fun _ h => (nomatch h), by simp only [PyData.shown]; exact reprK_big I.kIn st f⟩
/-- repr((text, thing)) -/
def rReprZ (K : PySem.W.Frag) : List V → Hp → VK → Prop := fun xs H Q => ∃ (p : Addr) (t : Str) (v : V) (d : PyData), xs = [.ref p] ∧ SqT K H p [.str t, v] ∧ Tz K H v d ∧ (PyData.tuple [.str t, d]).shown.length ≤ sizeLine ∧ d.depth ≤ 30 ∧ Q (.str (PyData.tuple [.str t, d]).shown) H
theorem call_reprZ {k : Nat} (st : Stat X.K) (c : Clr X.A) (hr : Room k X.A) : CallR X (.builtin "repr") (rReprZ X.K) := by
  intro pins s σ H xs us Q I r h
  obtain ⟨p, t, v, d, rfl, hs, hq, sw, dp, q⟩ := h
  cases r with
  | cons r1 r2 =>
    cases r2
    rename_i u
    cases (show u = Value.ref p from r1)
    obtain ⟨its, rv, ⟨o, ho, hc, n, hd⟩, _⟩ := I.tuple hs
    obtain ⟨u1, u2, rfl, q1, q2⟩ := vals2 rv
    obtain ⟨tk, rfl⟩ := (show ∃ tk, u1 = Value.str t tk from q1)
    have un := hr.units
    have sz := sw
    rw [show (PyData.tuple [.str t, d]).shown = tupleText [reprText t, d.shown] by simp [PyData.shown, PyData.shownAll]] at sz q
    have z1 := Nat.le_trans (tupleText_mem_le (ts := [reprText t, d.shown]) (t := reprText t) (by simp)) sz
    have z2 := Nat.le_trans (tupleText_mem_le (ts := [reprText t, d.shown]) (t := d.shown) (by simp)) sz
    obtain ⟨bs, hb, rk⟩ := hq.shows I st q2 z2 (by omega)
    have hall : ReprAllK X.prog X.w bs s.heap 50 [.str t tk, u2] [reprText t, d.shown] := .cons (ReprK.of_is (ReprIs.str t tk z1) _ _ _) (.cons rk .nil)
    have hna : p ∉ bs := fun hm => by
      obtain ⟨d', as', r', hd'⟩ := hb p hm
      cases r' with
      | list h1 h2 h3 h4 => rw [ho] at h1; cases h1; rw [hc] at h2; exact absurd (Value.type.inj h2) (by decide)
      | dict h1 h2 h3 h4 h5 => rw [ho] at h1; cases h1; rw [hc] at h2; exact absurd (Value.type.inj h2) (by decide)
      | @tuple a' o' vs' n' xs' as' h1 h2 h3 h4 =>
        rw [ho] at h1; cases h1
        rw [hd] at h3; cases h3
        cases h4 with
        | cons ra rb =>
          cases rb with
          | cons rc rd =>
            cases rd
            have e9 : ∃ dd aa, Reads s.heap u2 dd aa ∧ dd.depth < d.depth := ⟨_, _, rc, by
              simp only [PyData.depth, PyData.depthAll] at hd'
              omega⟩
            obtain ⟨dd, aa, e10, e11⟩ := e9
            cases hq with
            | dp h _ =>
              obtain ⟨as, q9⟩ := Dp.reads I d v u2 h q2
              have := (PyProof.Rows.reads_det (fun _ _ e _ => e) q9 e10).1
              rw [this] at e11; omega
            | dk h p _ =>
              cases (show u2 = Value.ref _ from q2)
              obtain ⟨_, ns, vs, kv', o, es, ep, e1, e2, e3, _, e5, _⟩ := dk_of I.hok h
              obtain ⟨r1, r2⟩ := plKv_reads (h := s.heap) p kv' e5
              have q9 := Reads.dict (as := []) (bs := []) e1 e2.1 e3 r1 r2
              have := (PyProof.Rows.reads_det (fun _ _ e _ => e) q9 e10).1
              rw [this] at e11; omega
            | big f => simp only [PyData.depth] at e11; omega
    refine call_repr_slot (by omega) ⟨o, ho, hc⟩ F.slot_tuple_repr ?_
    exact call_tuple_reprK ho hc hd hna hall c (fun b _ => Clear.nil b) (by show X.A.units + 1 + (50 + 1) < cLine; omega) (fun _ _ e => e) (fun h' t2 tk2 kp => ⟨_, _, rfl, ⟨.str _, H, I.kept kp, ⟨t2, rfl⟩, q⟩⟩) sz
end
theorem rd_reprZ {K : PySem.W.Frag} {H H0 : Hp} {M : List Addr} {L : Led} {Q : VK} {p : Addr} {t : Str} {v : V} {d : PyData} (S : Hs H0 M H L) (m : (p, HO.tup [.str t, v]) ∈ L) (h : Tz K H v d) (sw : (PyData.tuple [.str t, d]).shown.length ≤ sizeLine) (dp : d.depth ≤ 30)
    (k : Q (.str (PyData.tuple [.str t, d]).shown) H) : rReprZ K [.ref p] H Q := ⟨p, t, v, d, rfl, S.tup m, h, sw, dp, k⟩
end Xc
namespace Xc
open PySem PySem.Spec PySem.Calls PyProof.Rows L2 Rs
/-! ### truths counted, truths as numbers -/
def rCntB (K : PySem.W.Frag) : V → List V → Hp → VK → Prop := fun x xs H Q => ∃ (p : Addr) (bs : List Bool) (k : Bool), x = .ref p ∧ xs = [.bl k] ∧ SqL K H p (bs.map V.bl) ∧ Q (.int (PySem.Spec.countIn (.bool k) (bs.map PyData.bool))) H
def b01 (b : Bool) : Int := if b = true then 1 else 0
section
variable {X : Cx}
theorem bools_read {h : Heap} : ∀ {bs : List Bool} {vs : List Value}, Vals (bs.map V.bl) vs → ReadsAll h vs (bs.map PyData.bool) []
  | [], _, .nil => .nil
  | b :: bs, _, .cons r q => by
    rename_i u vs
    cases (show u = Value.bool b from r)
    exact ReadsAll.cons (as := []) (bs := []) (.bool b) (bools_read q)
theorem mt_bcount : MtR X "list.count" (rCntB X.K) := by
  intro pins s σ H x xs v us Q I rx rxs h
  obtain ⟨p, bs, k, rfl, rfl, hs, q⟩ := h
  cases rx
  obtain ⟨u, rfl, ru⟩ := rxs.one
  cases (show u = Value.bool k from ru)
  obtain ⟨its, rv, ⟨o, n, ho, hc, hdn, hd⟩, hlen⟩ := I.list hs
  exact count_list_bools (hp := s.heap) ⟨o, ho, hc, n, hd⟩ (bools_read rv) (by simp [Shape.has]) ⟨.int _, H, I.tok _, ⟨_, rfl⟩, q⟩
def rBI (f : Int → Int → Int) : R2 := fun x y H Q => ∃ (b : Bool) (i : Int), x = .bl b ∧ y = .int i ∧ Q (.int (f (b01 b) i)) H
def rIB (f : Int → Int → Int) : R2 := fun x y H Q => ∃ (i : Int) (b : Bool), x = .int i ∧ y = .bl b ∧ Q (.int (f i (b01 b))) H
theorem op_addBI : OpR X (binaryOp .Add) (rBI (· + ·)) := by
  intro pins s σ H x y v u Q I rx ry h
  obtain ⟨b, i, rfl, rfl, q⟩ := h
  cases (show v = Value.bool b from rx)
  obtain ⟨t, rfl⟩ := (show ∃ t, u = Value.int i t from ry)
  exact PySem.IntBool.add_bool_int ⟨.int _, H, I.tok _, ⟨_, rfl⟩, q⟩
theorem op_mulIB : OpR X (binaryOp .Mult) (rIB (· * ·)) := by
  intro pins s σ H x y v u Q I rx ry h
  obtain ⟨i, b, rfl, rfl, q⟩ := h
  obtain ⟨t, rfl⟩ := (show ∃ t, v = Value.int i t from rx)
  cases (show u = Value.bool b from ry)
  exact PySem.IntBool.mul_int_bool ⟨.int _, H, I.tok _, ⟨_, rfl⟩, q⟩
end
section
variable {H H0 : Hp} {M : List Addr} {L : Led} {Q : VK} {a : Addr} {K : PySem.W.Frag} {σ : L2.St}
theorem rd_cntB {xs : List V} {bs : List Bool} {k : Bool} (S : Hs H0 M H L) (m : (a, HO.lst xs) ∈ L) (e : xs = bs.map V.bl) (h : Q (.int (PySem.Spec.countIn (.bool k) (bs.map PyData.bool))) H) : rCntB K (.ref a) [.bl k] H Q := by
  subst e
  exact ⟨a, bs, k, rfl, rfl, S.lst m, h⟩
theorem rd_bi2 {f : Int → Int → Int} {b : Bool} {i : Int} (h : Q (.int (f (b01 b) i)) H) : rBI f (.bl b) (.int i) H Q := ⟨b, i, rfl, rfl, h⟩
theorem rd_ib2 {f : Int → Int → Int} {b : Bool} {i : Int} (h : Q (.int (f i (b01 b))) H) : rIB f (.int i) (.bl b) H Q := ⟨i, b, rfl, rfl, h⟩
theorem rd_divB {i j : Int} {b : Nat} (hj : 0 < j) (hb : j.natAbs < 2 ^ b) (h0 : 0 < b) (h9 : b ≤ 9000) (h : Q (.int (i / j)) H) : rI CDivW (fun i j => .int (i / j)) (.int i) (.int j) H Q :=
  ⟨i, j, rfl, rfl, wide_div (b := b) hj hb h0 h9, h⟩
theorem rd_mulB {i j : Int} {a b : Nat} (ha : i.natAbs < 2 ^ a) (hb : j.natAbs < 2 ^ b) (h0 : 0 < a) (h1 : 0 < b) (h9 : a + b ≤ 1000000) (h : Q (.int (i * j)) H) : rI CMulW (fun i j => .int (i * j)) (.int i) (.int j) H Q :=
  ⟨i, j, rfl, rfl, wide_mul ha hb h0 h1 h9, h⟩
theorem rd_isBl {a b : Bool} (h : Q (.bl (decide (a = b))) H) : rIsB (.bl a) (.bl b) H Q := ⟨a, b, rfl, rfl, h⟩
theorem rd_notBl {a b : Bool} (h : Q (.bl (!decide (a = b))) H) : rNotB (.bl a) (.bl b) H Q := ⟨a, b, rfl, rfl, h⟩
/-- a ledger begun anew behind what leaves all but tables -/
theorem Hs.anew {H' : Hp} (S : Hs H0 M H L) (k : ∀ b o, H b = some o → (∀ ps, o ≠ .tbl ps) → H' b = some o) (nt : ∀ q ∈ L, ∀ ps, q.2 ≠ .tbl ps) : Hs H' (L.map (·.1)) H' L :=
  Rs.Hs.start H' _ L S.nd (fun q hq => k _ _ (S.is q hq) (nt q hq)) fun b hb z => by
    obtain ⟨q, hq, rfl⟩ := List.mem_map.mp hb
    rw [k _ _ (S.is q hq) (nt q hq)] at z
    cases z
end
end Xc

/-! Xc8: ledgers over all but tables; comprehensions whose steps change tables -/
namespace Xc
open PySem PySem.Spec PySem.Calls PyProof.Rows L2 Rs
/-- the heap less its tables -/
def noT (H : Hp) : Hp := fun b => match H b with | some (.tbl _) => none | o => o
theorem noT_some {H : Hp} {b : Addr} {o : HO} (e : H b = some o) (n : ∀ ps, o ≠ .tbl ps) : noT H b = some o := by
  unfold noT
  rw [e]
  cases o <;> first | rfl | exact absurd rfl (n _)
theorem noT_of {H : Hp} {b : Addr} {o : HO} (e : noT H b = some o) : H b = some o ∧ ∀ ps, o ≠ .tbl ps := by
  unfold noT at e
  split at e
  · cases e
  · rename_i h
    exact ⟨e, fun ps z => h ps (by rw [e, z])⟩
theorem noT_none {H : Hp} {b : Addr} (e : H b = none) : noT H b = none := by
  unfold noT
  rw [e]
section
variable {H H0 H1 H2 : Hp} {M : List Addr} {L : Led} {Q : VK} {K : PySem.W.Frag} {σ : L2.St}
theorem Hs.noT0 (H : Hp) : Hs (noT H) [] H [] := ⟨List.nodup_nil, fun q hq => (nomatch hq), fun b u e _ => (noT_of e).1, fun b hb => nomatch hb⟩
theorem Hs.begin (L : Led) (nd : (L.map (·.1)).Nodup) (is : ∀ q ∈ L, H q.1 = some q.2) : Hs (noT H) (L.map (·.1)) H L :=
  ⟨nd, is, fun b u e _ => (noT_of e).1, fun b hb z => by
    obtain ⟨q, hq, rfl⟩ := List.mem_map.mp hb
    rw [is q hq] at z
    cases z⟩
theorem Hs.extN (S : Hs (noT H0) M H1 L) (e : LamX.ExtN H1 H2) (nt : ∀ q ∈ L, ∀ ps, q.2 ≠ .tbl ps) (m : ∀ b ∈ M, b ∈ L.map (·.1)) : Hs (noT H0) M H2 L :=
  ⟨S.nd, fun q hq => e _ _ (S.is q hq) (nt q hq), fun b u eb hm => e _ _ (S.old b u eb hm) (noT_of eb).2, fun b hb z => by
    obtain ⟨q, hq, rfl⟩ := List.mem_map.mp (m b hb)
    rw [e _ _ (S.is q hq) (nt q hq)] at z
    cases z⟩
theorem Hs.toN (S : Hs (noT H0) [] H1 L) : LamX.ExtN H0 H1 := fun b o e n => S.old b o (noT_some e n) (fun z => nomatch z)
/-- what holds of the heap whatever lists are made or written -/
structure Lsts (J : Hp → Prop) : Prop where
  nw : ∀ H D, J H → H D = none → J (upd H D (.lst []))
  up : ∀ H D xs ys, J H → H D = some (.lst xs) → J (upd H D (.lst ys))
theorem tabs_upd {TT : List (Addr × Str)} {H : Hp} {D : Addr} {xs ys : List V} (h : LamX.Tabs TT H) (e : H D = some (.lst xs)) : LamX.Tabs TT (upd H D (.lst ys)) := fun p hp => by
  obtain ⟨ps, h1, h2, h3⟩ := h p hp
  have ne : ∀ b o, H b = some o → (∀ xs, o ≠ .lst xs) → upd H D (.lst ys) b = some o := fun b o eb n => by
    rw [upd_ne (fun z => n xs (by rw [z, e] at eb; exact (Option.some.inj eb).symm))]
    exact eb
  refine ⟨ps, ne _ _ h1 (fun _ z => by cases z), h2, fun pos cv hc => ?_⟩
  obtain ⟨c, e1, e2⟩ := h3 pos cv hc
  exact ⟨c, e1, ne _ _ e2 (fun _ z => by unfold LamX.CodeO at z; cases z)⟩
theorem lsts_tabs (TT : List (Addr × Str)) : Lsts (LamX.Tabs TT) :=
  ⟨fun H D h e => h.ext fun b u eb => by rw [upd_ne (ne_of_none eb e)]; exact eb, fun H D xs ys h e => tabs_upd h e⟩
def lcSkipJ (J : Hp → Prop) (H0 : Hp) (M : List Addr) (L : Led) (R1 : List V → Prop) (D : Addr) (H : Hp) : Prop := J H ∧ lcSkip H0 M L R1 D H
def lcPutJ (J : Hp → Prop) (H0 : Hp) (M : List Addr) (L : Led) (R1 : List V → Prop) (D : Addr) (y : V) (H : Hp) : Prop := ∃ acc, H D = some (.lst acc) ∧ acc.length < sizeLine ∧ lcSkipJ J H0 M L R1 D (upd H D (.lst (acc ++ [y])))
theorem rd_lcPutJ {J : Hp → Prop} {D : Addr} {y : V} {acc : List V} {L2 L3 : Led} {R1 : List V → Prop} (l : Lsts J) (j : J H) (S : Hs H0 M H L2) (c : Chg D (.lst acc) (.lst (acc ++ [y])) L2 L3) (n : H0 D = none) (hl : acc.length < sizeLine) (sub : ((D, HO.lst (acc ++ [y])) :: L).Sublist L3) (r : R1 (acc ++ [y])) : lcPutJ J H0 M L R1 D y H :=
  ⟨acc, S.is _ c.mem, hl, l.up _ _ _ _ j (S.is _ c.mem), n, _, r, (S.put c (Or.inl n)).sub sub⟩
theorem lcwj_list {J : Hp → Prop} {g : TG} {tt : TT} {te : TE} {a : Addr} {xs : List V} {vs : List Nat} (l : Lsts J) (j : J H) (S : Hs H0 M H L) (R : Nat → List V → Prop) (r0 : R 0 []) (hl : ∀ H' acc D, Hs H0 M H' ((D, .lst acc) :: L) → SqL K H' a xs)
    (hs : ∀ D i x acc H', xs[i]? = some x → R i acc → H0 D = none → J H' → Hs H0 M H' ((D, .lst acc) :: L) → g x (wipe σ vs) H' fun σ2 H2 => wipe σ2 vs = wipe σ vs ∧ tt σ2 H2 fun b H3 => if b = true then te σ2 H3 fun y H4 => lcPutJ J H0 M L (R (i + 1)) D y H4 else lcSkipJ J H0 M L (R (i + 1)) D H3)
    (hd : ∀ D acc H', R xs.length acc → H0 D = none → J H' → Hs H0 M H' ((D, .lst acc) :: L) → Q (.ref D) H') : lcW (Itl K a) g tt te vs σ H Q := by
  intro D hD
  have S1 := S.new hD (.lst [])
  refine lc_list (xs := xs) (fun i H' => lcSkipJ J H0 M L (R i) D H') ⟨l.nw _ _ j hD, S1.1, [], r0, S1.2⟩ (fun i H' _ ⟨_, _, acc, _, S'⟩ => hl H' acc D S') ?_ ?_
  · rintro i x H' hi ⟨j', n0, acc, r, S'⟩
    exact hs D i x acc H' hi r n0 j' S'
  · rintro H' ⟨j', n0, acc, r, S'⟩
    exact hd D acc H' r n0 j' S'
theorem lcwj_tup {J : Hp → Prop} {g : TG} {tt : TT} {te : TE} {a : Addr} {xs : List V} {vs : List Nat} (l : Lsts J) (j : J H) (S : Hs H0 M H L) (R : Nat → List V → Prop) (r0 : R 0 []) (hl : ∀ H' acc D, Hs H0 M H' ((D, .lst acc) :: L) → SqT K H' a xs)
    (hs : ∀ D i x acc H', xs[i]? = some x → R i acc → H0 D = none → J H' → Hs H0 M H' ((D, .lst acc) :: L) → g x (wipe σ vs) H' fun σ2 H2 => wipe σ2 vs = wipe σ vs ∧ tt σ2 H2 fun b H3 => if b = true then te σ2 H3 fun y H4 => lcPutJ J H0 M L (R (i + 1)) D y H4 else lcSkipJ J H0 M L (R (i + 1)) D H3)
    (hd : ∀ D acc H', R xs.length acc → H0 D = none → J H' → Hs H0 M H' ((D, .lst acc) :: L) → Q (.ref D) H') : lcW (Itt K a) g tt te vs σ H Q := by
  intro D hD
  have S1 := S.new hD (.lst [])
  refine lc_tup (xs := xs) (fun i H' => lcSkipJ J H0 M L (R i) D H') ⟨l.nw _ _ j hD, S1.1, [], r0, S1.2⟩ (fun i H' _ ⟨_, _, acc, _, S'⟩ => hl H' acc D S') ?_ ?_
  · rintro i x H' hi ⟨j', n0, acc, r, S'⟩
    exact hs D i x acc H' hi r n0 j' S'
  · rintro H' ⟨j', n0, acc, r, S'⟩
    exact hd D acc H' r n0 j' S'
theorem Hs.toT (S : Hs H0 M H L) : Hs (noT H0) M H L := ⟨S.nd, S.is, fun b o e hm => S.old b o (noT_of e).1 hm, S.mu⟩
/-- the heap less its tables, with the tables and the code objects that stand at H3 -/
def rb (H0 H3 : Hp) : Hp := fun b => match H3 b with | some (.tbl ps) => some (.tbl ps) | some (.ext r) => some (.ext r) | _ => noT H0 b
def MLst (M : List Addr) (H : Hp) : Prop := ∀ b ∈ M, ∃ xs, H b = some (.lst xs)
theorem Hs.toR {H3 : Hp} (S : Hs (noT H0) M H3 L) : Hs (rb H0 H3) M H3 L := by
  refine ⟨S.nd, S.is, fun b o e hm => ?_, S.mu⟩
  unfold rb at e
  split at e
  · rename_i h; rw [h]; exact e
  · rename_i h; rw [h]; exact e
  · exact S.old b o e hm
theorem Hs.ofR {H3 H' : Hp} {L' : Led} (S : Hs (noT H0) M H3 L) (S' : Hs (rb H0 H3) M H' L') : Hs (noT H0) M H' L' := by
  refine ⟨S'.nd, S'.is, fun b o e hm => S'.old b o ?_ hm, S'.mu⟩
  have h3 := S.old b o e hm
  unfold rb
  rw [h3]
  split
  · rename_i h; exact h.symm
  · rename_i h; exact h.symm
  · exact e
theorem Hs.tabR {H3 H' : Hp} {L' : Led} {TT : List (Addr × Str)} (S' : Hs (rb H0 H3) M H' L') (m : MLst M H3) (t : LamX.Tabs TT H3) : LamX.Tabs TT H' := fun p hp => by
  obtain ⟨ps, h1, h2, h3⟩ := t p hp
  have nm : ∀ b o, H3 b = some o → (∀ xs, o ≠ .lst xs) → b ∉ M := fun b o e n hm => by
    obtain ⟨xs, z⟩ := m b hm
    rw [e] at z
    exact n xs (Option.some.inj z)
  refine ⟨ps, S'.old _ _ (by unfold rb; rw [h1]) (nm _ _ h1 (fun _ z => by cases z)), h2, fun pos cv hc => ?_⟩
  obtain ⟨c, e1, e2⟩ := h3 pos cv hc
  exact ⟨c, e1, S'.old _ _ (by unfold rb; rw [e2]; rfl) (nm _ _ e2 (fun _ z => by unfold LamX.CodeO at z; cases z))⟩
theorem rb_none {H3 : Hp} {a : Addr} {o : HO} (h : noT H0 a = none) (e : H3 a = some o) (n1 : ∀ ps, o ≠ .tbl ps) (n2 : ∀ r, o ≠ .ext r) : rb H0 H3 a = none := by
  unfold rb
  rw [e]
  split
  · rename_i z; exact absurd (Option.some.inj z) (n1 _)
  · rename_i z; exact absurd (Option.some.inj z) (n2 _)
  · exact h
end
end Xc
namespace Xc
open PySem PySem.Spec PySem.Calls PyProof.Rows L2 Rs
/-- a + b of lists, handed in ones too -/
def rCatL (K : PySem.W.Frag) : R2 := fun x y H Q => ∃ l b xs zs, x = .ref l ∧ y = .ref b ∧ SqL K H l xs ∧ SqL K H b zs ∧ xs.length + zs.length ≤ sizeLine ∧ ∀ p, H p = none → Q (.ref p) (upd H p (.lst (xs ++ zs)))
theorem op_catL {X : Cx} : OpR X (binaryOp .Add) (rCatL X.K) := by
  intro pins s σ H x y v u Q I rx ry h
  obtain ⟨l, b, xs, zs, rfl, rfl, hl, hb, hz, q⟩ := h
  cases (show v = Value.ref l from rx)
  cases (show u = Value.ref b from ry)
  obtain ⟨its, r1, ⟨⟨cls, dd, data, sl⟩, n, ho, hc, hdn, hd⟩, _⟩ := I.list hl
  obtain ⟨its2, r2, ⟨⟨cls2, dd2, data2, sl2⟩, n2, ho2, hc2, hdn2, hd2⟩, _⟩ := I.list hb
  simp only at hc hd hc2 hd2
  subst hc hd hc2 hd2
  have e : its.toArray ++ its2.toArray = (its ++ its2).toArray := by simp
  refine concat_meets ⟨_, ho, rfl⟩ ⟨_, ho2, rfl⟩ noFill_list_add seq_list_add PySem.F.slot_list_add PySem.F.entry_list_add (PySem.F.args_list_add_2 _ _) (list_addW l b its.toArray its2.toArray n n2 dd dd2 sl sl2 (by rw [List.size_toArray, List.size_toArray, ← r1.length, ← r2.length]; exact hz)) ⟨ho, ho2, ?_⟩
  rw [e]
  exact ⟨.ref _, _, I.lnew (t' := s.toks) (r1.append r2) (by rw [List.length_append]; omega), rfl, q _ I.fresh⟩
end Xc

/-! Xd1: enumerate of a tuple -/
namespace Xd
open PySem PySem.Spec PySem.Calls PyProof.Rows L2 Rs
section
variable {prog : Program} {w : World} {A : Around} {E : Value → Shared → Prop} {s : Shared}
theorem tnext {ti tp : Addr} {j : Nat} {vs : Array Value} {y : Value} {Q : Value → Shared → Prop} (hi : s.heap.IsTupleIter ti tp j) (ht : s.heap.IsTuple tp vs) (hy : vs[j]? = some y)
    (k : ∀ h', h'.IsTupleIter ti tp (j + 1) → Heap.SameBut ti s.heap h' → Q y { s with heap := h' }) : wpAny (model prog w) A (Builtin.SmallTypes.nextOf (.ref ti)) Q E s := by
  obtain ⟨oi, hoi, hci, hdi⟩ := id hi
  obtain ⟨ot, hot, _, nt, hdt⟩ := ht
  unfold Builtin.SmallTypes.nextOf
  refine wpAny_bind (wpAny_callSpecial?_slot (name := Str.ofString "__next__") hi.typeIs F.slot_tuple_iterator_next (wpAny_call_entry F.slot_tuple_iterator_next hi.typeIs F.entry_tuple_iterator_next ?_ (F.args_tuple_iterator_next_1 _)))
  show wpAny _ _ (field (.ref ti) 0 >>= _) _ _ s
  refine wpAny_bind (wpAny_field hoi hdi (x := .ref tp) rfl ?_)
  show wpAny _ _ (if (Value.ref tp == Value.none) = true then _ else _) _ _ s
  rw [if_neg (show ¬ ((Value.ref tp == Value.none) = true) from Bool.false_ne_true)]
  show wpAny _ _ (field (.ref ti) 1 >>= _) _ _ s
  refine wpAny_bind (wpAny_field hoi hdi (x := .int j 0) rfl ?_)
  show wpAny _ _ (seqItems? (.ref tp) >>= _) _ _ s
  refine wpAny_bind (wpAny_seqItems hot hdt ?_)
  simp only [Int.toNat_natCast, hy]
  refine wpAny_bind (wpAny_setField hoi hdi (by simp) (wpAny_pure ⟨y, rfl, wpAny_pure (k _ ?_ (Heap.SameBut.update ..))⟩))
  exact ⟨_, Heap.get?_update_self _ hoi (Obj.isFreed_of_fields (Obj.data_mapFields hdi _)), (Obj.cls_mapFields ..).trans hci, by rw [Obj.data_mapFields hdi]; simp [rawInt]⟩
theorem tlast {ti tp : Addr} {j : Nat} {vs : Array Value} {Q : Value → Shared → Prop} (hh : A.handled = none) (hi : s.heap.IsTupleIter ti tp j) (ht : s.heap.IsTuple tp vs) (hy : vs[j]? = none)
    (k : ∀ h' e, Heap.ExtBut ti s.heap h' → (∃ o, h'.get? e = some o ∧ o.cls = .type "StopIteration") → E (.ref e) { s with heap := h' }) : wpAny (model prog w) A (Builtin.SmallTypes.nextOf (.ref ti)) Q E s := by
  obtain ⟨oi, hoi, hci, hdi⟩ := id hi
  obtain ⟨ot, hot, _, nt, hdt⟩ := ht
  unfold Builtin.SmallTypes.nextOf
  refine wpAny_bind (wpAny_callSpecial?_slot (name := Str.ofString "__next__") hi.typeIs F.slot_tuple_iterator_next (wpAny_call_entry F.slot_tuple_iterator_next hi.typeIs F.entry_tuple_iterator_next ?_ (F.args_tuple_iterator_next_1 _)))
  show wpAny _ _ (field (.ref ti) 0 >>= _) _ _ s
  refine wpAny_bind (wpAny_field hoi hdi (x := .ref tp) rfl ?_)
  show wpAny _ _ (if (Value.ref tp == Value.none) = true then _ else _) _ _ s
  rw [if_neg (show ¬ ((Value.ref tp == Value.none) = true) from Bool.false_ne_true)]
  show wpAny _ _ (field (.ref ti) 1 >>= _) _ _ s
  refine wpAny_bind (wpAny_field hoi hdi (x := .int j 0) rfl ?_)
  show wpAny _ _ (seqItems? (.ref tp) >>= _) _ _ s
  refine wpAny_bind (wpAny_seqItems hot hdt ?_)
  simp only [Int.toNat_natCast, hy]
  refine wpAny_bind (wpAny_rule (wpAny_bind (wpAny_setField hoi hdi (by simp) ?_)))
  show wpAny _ _ ((newExc (.type "StopIteration") []) >>= _) _ _ _
  refine wpAny_bind ?_
  (simp only [newExc, newTuple]); refine wpAny_bind (wpAny_newObj_type ?_ (by size_fits))
  refine wpAny_bind (m := firstArgMember _ _) (wpAny_of_eq (a := .none) (by first | rfl | (simp only [firstArgMember]; rfl)) ?_)
  (refine wpAny_newObj_type ?_ (by size_fits)); simp only [raiseNew]
  refine wpAny_bind (wpAny_handled ?_)
  first
    | rw [show A.in1.handled = none from hh]
    | rw [hh]
  exact wpAny_bind (wpAny_pure (wpAny_throw (k _ _ (((Heap.SameBut.update ..).extBut.push _).push _) ⟨_, Heap.get?_push_size _ rfl, rfl⟩)))
end
theorem tdraws {prog : Program} {w : World} {A : Around} (hh : A.handled = none) (ti tp : Addr) (ne : tp ≠ ti) (vs : Array Value) :
    Draws prog w A ti [ti, tp] vs.size (fun j v => vs[j]? = some v) (fun j h => h.IsTupleIter ti tp j ∧ h.IsTuple tp vs) where
  live := fun _ _ ⟨⟨o, ho, _⟩, _⟩ => ⟨o, ho⟩
  frame := fun _ _ _ ⟨⟨o, ho, r⟩, ⟨o2, ho2, r2⟩⟩ k => ⟨⟨o, k ti (by simp) o ho, r⟩, ⟨o2, k tp (by simp) o2 ho2, r2⟩⟩
  item := fun j s Q E hj ⟨a, b⟩ k => tnext a b (y := vs[j]) (by simp [hj]) fun h' hi' hs' => k _ h' s.toks (by simp [hj]) ⟨hi', b.extBut hs'.extBut ne⟩ hs'
  done := fun s Q E ⟨a, b⟩ k => tlast hh a b (by simp) k
end Xd
namespace Xd
open PySem PySem.Spec PySem.Calls PyProof.Rows L2 Rs
abbrev tit (tp : Addr) : Obj := { cls := .type "tuple_iterator", data := .fields #[.ref tp, .int 0 0] }
abbrev eno (it : Addr) : Obj := { cls := .type "enumerate", data := .fields #[.none, .bool false, .ref it, rawInt 0, .none, .none] }
theorem meets_new_tup (tp : Addr) (ot : Obj) (vs : Array Value) (hc : ot.cls = .type "tuple") (n : Nat) (hd : ot.data = .seq vs n) :
    Meets (Builtin.«enumerate.__new__» ⟨[.type "enumerate", .ref tp], []⟩) (fun _ R s => s.heap.get? tp = some ot ∧ R (.ok (.ret (.ref (s.heap.push (tit tp)).objs.size))) { s with heap := (s.heap.push (tit tp)).push (eno s.heap.objs.size) }) :=
  .of_wp fun prog w A R s h => by
    obtain ⟨hp, g, d, tk, os⟩ := s
    obtain ⟨hl, h⟩ := h
    have hsub := sub_enumerate
    have hL : Heap.IsTuple (Shared.heap ⟨hp, g, d, tk, os⟩) tp vs := ⟨_, hl, hc, n, hd⟩
    obtain ⟨cl, dc, dt, sl⟩ := ot
    dsimp only at hc hd
    subst hc hd
    wp_walk using AutoSeq1.wpAny_loadPart' hl
    refine wpAny_stack_any fun st => wpAny_pure ?_
    split
    · rename_i c _ _ _ _ _
      cases (c == Value.type "enumerate") <;> (wp_walk using AutoSeq1.wpAny_loadPart' hl, wpAny_pyIter_tuple hL; exact ⟨_, rfl, h⟩)
    · (wp_walk using AutoSeq1.wpAny_loadPart' hl, wpAny_pyIter_tuple hL); exact ⟨_, rfl, h⟩
section
variable {prog : Program} {w : World} {A : Around} {E : Value → Shared → Prop} {s : Shared}
theorem call_enum_tup {tp : Addr} {vs : Array Value} {Q : Value → Shared → Prop} (hL : s.heap.IsTuple tp vs)
    (k : ∀ h', IsEnum h' (s.heap.objs.size + 1) s.heap.objs.size 0 .none → h'.IsTupleIter s.heap.objs.size tp 0 → (∀ b o, s.heap.get? b = some o → h'.get? b = some o) → Q (.ref (s.heap.objs.size + 1)) { s with heap := h' }) :
    wpAny (model prog w) A (call (.type "enumerate") [.ref tp]) Q E s := by
  obtain ⟨ot, ho, hc, n, hd⟩ := hL
  refine callType_new F.called_enumerate (by decide) (F.typeCall_enumerate_1 _) (F.newCall_enumerate_1 _) (fun obj => F.args_object_init_2 obj _) F.entry_enumerate_new (meets_new_tup tp ot vs hc n hd) ⟨ho, ?_⟩
  have hz : (s.heap.push (tit tp)).objs.size = s.heap.objs.size + 1 := Heap.size_push ..
  show _ ∧ _
  rw [hz]
  have he : IsEnum ((s.heap.push (tit tp)).push (eno s.heap.objs.size)) (s.heap.objs.size + 1) s.heap.objs.size 0 .none := by
    have z := Heap.get?_push_size (s.heap.push (tit tp)) (o := eno s.heap.objs.size) rfl
    rw [hz] at z
    exact z
  exact ⟨⟨_, he, rfl⟩, k _ he ⟨_, Heap.get?_push_of_some _ (Heap.get?_push_size _ rfl), rfl, rfl⟩ fun b o x => Heap.get?_push_of_some _ (Heap.get?_push_of_some _ x)⟩
end
end Xd
namespace Xd
open PySem PySem.Spec PySem.Calls PyProof.Rows L2 Rs
theorem ne_cls {h : Heap} {a b : Addr} {n m : String} {o p : Obj} (ha : h.get? a = some o) (hb : h.get? b = some p) (ca : o.cls = .type n) (cb : p.cls = .type m) (ne : n ≠ m) : a ≠ b := fun z => by
  rw [z, hb] at ha
  cases ha
  rw [ca] at cb
  exact ne (Value.type.inj cb)
theorem tend {prog : Program} {w : World} {A : Around} {E : Value → Shared → Prop} {s : Shared} {e ti tp : Addr} {j : Nat} {vs : Array Value} {i : Int} {old : Value} {Q : Option Value → Shared → Prop} (hh : A.handled = none) (he : IsEnum s.heap e ti i old)
    (hi : s.heap.IsTupleIter ti tp j) (ht : s.heap.IsTuple tp vs) (hy : vs[j]? = none) (k : ∀ h', Heap.ExtBut ti s.heap h' → Q none { s with heap := h' }) : wpAny (model prog w) A (pyNext (.ref e)) Q E s := by
  have ty : s.TypeIs (.ref e) "enumerate" := ⟨_, he, rfl⟩
  unfold pyNext
  refine wpAny_bind (wpAny_attempt (wpAny_callSpecial?_slot (name := Str.ofString "__next__") ty F.slot_enumerate_next (wpAny_call_entry F.slot_enumerate_next ty F.entry_enumerate_next ?_ (F.args_enumerate_next_1 _))))
  show wpAny _ _ (bind (field (.ref e) 2) _) _ _ _
  refine wpAny_bind (wpAny_field he rfl (x := .ref ti) rfl ?_)
  refine wpAny_bind (tlast hh hi ht hy fun h' x hx hs => ?_)
  obtain ⟨ox, hox, hcx⟩ := hs
  exact wpAny_bind (wpAny_isInstance (T := "StopIteration") (b := true) ⟨ox, hox, hcx⟩ isSubtype_stop (wpAny_pure (k _ hx)))
/-- the tuple at a as it stands at each turn, number and item in a new pair -/
def IteT (K : PySem.W.Frag) (a : Addr) : It :=
  ⟨fun i H => ∃ (xs : List V) (x : V), SqT K H a xs ∧ xs[i]? = some x, fun i H v H' => ∃ (T : Addr) (x : V), v = .ref T ∧ H T = none ∧ H' = upd H T (.tup [.int (i : Nat), x]) ∧ ∀ xs, SqT K H a xs → xs[i]? = some x, fun i H => ∃ xs : List V, SqT K H a xs ∧ xs.length ≤ i⟩
theorem turn_eT {P : Program} {w : World} {K : PySem.W.Frag} {elts : List Expr} {kk : Nat} {tpos : Pos} (a e ti : Addr) :
    Turn P w K (.Tuple elts kk tpos) (IteT K a) [e, ti] e (fun i h => (∃ old, IsEnum h e ti ((i : Nat) : Int) old) ∧ h.IsTupleIter ti a i ∧ e ≠ ti) where
  mem := List.mem_cons_self
  obj := fun i h ⟨⟨old, he⟩, ⟨o, ho, hc, hd⟩, _⟩ b hb => by
    rcases (show b = e ∨ b = ti by simpa using hb) with rfl | rfl
    · exact ⟨_, he, fun v z => nomatch z⟩
    · exact ⟨o, ho, fun v z => by rw [hd] at z; cases z⟩
  keep := fun i h h' ⟨⟨old, he⟩, ⟨o, ho, r⟩, ne⟩ k => ⟨⟨old, k e (by simp) _ he⟩, ⟨o, k ti (by simp) o ho, r⟩, ne⟩
  item := by
    intro X hP hw hK hc i pins s σ H E I hf ⟨⟨old, he⟩, hit, hne⟩ ⟨xs, x, hq, hx⟩
    subst hP hw hK
    obtain ⟨its, rv, tpl, hz⟩ := I.tuple hq
    obtain ⟨u, hu, ru⟩ := rv.get hx
    obtain ⟨oi, hoi, hci, hdi⟩ := id hit
    obtain ⟨ot, hot, hct, nt, hdt⟩ := id tpl
    have n1 : a ≠ ti := ne_cls hot hoi hct hci (by decide)
    have n2 : e ≠ a := ne_cls he hot rfl hct (by decide)
    have le : e < s.heap.objs.size := Heap.lt_size he
    have li : ti < s.heap.objs.size := Heap.lt_size hoi
    have D := tdraws (prog := X.prog) (w := X.w) (A := X.A.in1) (I.ok.hd hc) ti a n1 its.toArray
    refine wpAny_pyNext_enum_itemD D he ⟨hit, tpl⟩ ?_ hne (by simp [hne, n2]) fun u' h' tk hu' ho hst hT hsz hk => ?_
    · have := (List.getElem?_eq_some_iff.mp hu).1
      rw [List.size_toArray]
      exact this
    · obtain rfl : u' = u := by
        have z : its[i]? = some u' := by simpa using hu'
        rw [hu] at z
        exact (Option.some.inj z).symm
      refine ⟨_, rfl, wpAny_letOwnedTupleGo_enum (s := { s with heap := h', toks := tk + 1 }) ho fun h2 he2 sb => ?_⟩
      have hT2 : h2.get? s.heap.objs.size = some { cls := .type "tuple", data := .seq #[.int i tk, u'] } := (sb.2 _ (Nat.ne_of_gt le)).trans hT
      have nw : ObjOk X.prog X.w (upd H s.heap.objs.size (.tup [.int (i : Nat), x])) h2 s.heap.objs.size (.tup [.int (i : Nat), x]) := ⟨by rw [sizeLine_eq]; simp, [.int i tk, u'], .cons ⟨_, rfl⟩ (.cons ru .nil), ⟨_, hT2, rfl, _, rfl⟩⟩
      have I1 : Inv X pins σ (upd H s.heap.objs.size (.tup [.int (i : Nat), x])) { s with heap := h2, toks := tk + 1 } :=
        I.turnedNew (ch := [e, ti]) (fun b ob hb q => (sb.2 b (fun z => hb (by simp [z]))).trans (hk b ob (fun z => hb (by simp [z])) (fun z => hb (by simp [z])) q)) hf (Nat.le_refl _) nw
      obtain ⟨⟨o3, ho3, r3⟩, _⟩ := hst
      refine ⟨.ref s.heap.objs.size, _, I1, rfl, ⟨_, x, rfl, I.hok.fresh (Nat.le_refl _), rfl, fun ys hy => by rw [I.tuple_inj hy hq]; exact hx⟩, ⟨⟨u', ?_⟩, ⟨o3, (sb.2 ti (Ne.symm hne)).trans ho3, r3⟩, hne⟩, fun b hb => ?_⟩
      · rw [show ((i + 1 : Nat) : Int) = (i : Int) + 1 by omega]; exact he2
      · have hb2 : b < s.heap.objs.size := by
          rcases (show b = e ∨ b = ti by simpa using hb) with rfl | rfl
          · exact le
          · exact li
        rw [upd_ne (Nat.ne_of_lt hb2)]; exact (hf b hb).1
  done := by
    intro X hP hw hK hc i pins s σ H E I hf ⟨⟨old, he⟩, hit, hne⟩ ⟨xs, hq, hx⟩
    subst hP hw hK
    obtain ⟨its, rv, tpl, hz⟩ := I.tuple hq
    obtain ⟨oi, hoi, hci, hdi⟩ := id hit
    obtain ⟨ot, hot, hct, nt, hdt⟩ := id tpl
    obtain ⟨f0, f1, f2, f3, f4, f5⟩ := hf ti (by simp)
    have hl := rv.length
    exact tend (I.ok.hd hc) he hit tpl (by simp; omega) fun h' eb => ⟨rfl, I.turned (t' := s.toks) (fun b o hb q => eb b o hb q) f0 f1 f3 f4 f5⟩
  self := fun A i s Q E ⟨⟨_, he⟩, _⟩ h => wpAny_pyIter_enum he h
end Xd
namespace Xd
open PySem PySem.Spec PySem.Calls PyProof.Rows L2 Rs
def enT (K : PySem.W.Frag) (R : It → Hp → Prop) (vs : List V) (H : Hp) : Prop := ∃ (a : Addr) (xs : List V), vs = [.ref a] ∧ SqT K H a xs ∧ R (IteT K a) H
def iEnT (K : PySem.W.Frag) (ta : TA) : TI := fun σ H R => ta σ H fun vs H1 => enT K R vs H1
theorem pi_enT {X : Cx} {e : Expr} {ta : TA} {p pos tpos : Pos} {elts : List Expr} {kk : Nat} (hg : Gl X "enumerate") (hm : X.mg "enumerate" = none) (ha : PA X [e] ta) (hs : starEach [e] X.env = [(false, eval e X.env)] := by rfl) :
    PI X (.Tuple elts kk tpos) (.Call (.Name "enumerate" p) [e] [] pos) (iEnT X.K ta) := by
  refine ⟨fun pins s σ H R I h => Call_ (ld_blt I hg hm boot_enumerate (PyProof.Rows.callWith_type1 (thn (ha.run pos pins s σ H _ I h) fun us s1 ⟨vs, H1, I1, r1, a, xs, ev, hq, q⟩ => ?_) hs rfl))⟩
  subst ev
  cases r1 with
  | cons r rr =>
    cases rr
    cases r
    obtain ⟨its, rv, tpl, hz⟩ := I1.tuple hq
    refine call_enum_tup tpl fun h' he hit hk => wpAny_pyIter_enum he ?_
    have I2 : Inv X pins σ H1 { s1 with heap := h' } := I1.kept (t' := s1.toks) hk
    refine ⟨s1.heap.objs.size + 1, [s1.heap.objs.size + 1, s1.heap.objs.size], _, _, H1, rfl, I2, turn_eT a (s1.heap.objs.size + 1) s1.heap.objs.size, ⟨⟨.none, he⟩, hit, Nat.succ_ne_self _⟩, fun b hb => ?_, q⟩
    have hle : s1.heap.objs.size ≤ b := by
      rcases (show b = s1.heap.objs.size + 1 ∨ b = s1.heap.objs.size by simpa using hb) with rfl | rfl
      · exact Nat.le_succ _
      · exact Nat.le_refl _
    exact I1.fpOk hle (I1.hok.fresh hle)
section
variable {K : PySem.W.Frag} {H H0 : Hp} {M : List Addr} {L : Led} {σ : L2.St} {a : Addr}
theorem walk_eT {xs : List V} : Walk (IteT K a) xs.length (fun H => SqT K H a xs) (YPair (fun i => some (.int (i : Nat))) (fun i => xs[i]?)) :=
  ⟨fun i _ hi q => ⟨xs, xs[i], q, by simp [hi]⟩, fun _ q => ⟨xs, q, Nat.le_refl _⟩, fun i H v H' _ q ⟨T, x, h1, h2, h3, h4⟩ => ⟨T, .int (i : Nat), x, h1, h2, h3, rfl, h4 xs q⟩⟩
theorem rd_enT {R : It → Hp → Prop} {ta : TA} (h : ta σ H fun vs H1 => enT K R vs H1) : iEnT K ta σ H R := h
theorem rd_enTI {R : It → Hp → Prop} {xs : List V} (S : Hs H0 M H L) (m : (a, HO.tup xs) ∈ L) (h : R (IteT K a) H) : enT K R [.ref a] H := ⟨a, xs, rfl, S.tup m, h⟩
/-- over enumerate of a tuple -/
theorem fw_enT {xs : List V} {g : TG} {tw : TS} {nx bk ct : L2.St → Hp → Prop} {rt : VK} (Pv : Nat → L2.St → Hp → Prop) (h0 : Pv 0 σ H) (hl : ∀ i σ H, i ≤ xs.length → Pv i σ H → SqT K H a xs)
    (hs : ∀ i x σ H T, xs[i]? = some x → Pv i σ H → H T = none → g (.ref T) σ (upd H T (.tup [.int (i : Nat), x])) fun σ2 H2 => tw ⟨Pv (i + 1), rt, nx, Pv (i + 1)⟩ σ2 H2) (hd : ∀ σ H, Pv xs.length σ H → nx σ H) : forW (IteT K a) g tw ⟨nx, rt, bk, ct⟩ σ H := by
  refine for_it walk_eT Pv h0 hl ?_ hd
  rintro i x σ H H' hi hp ⟨T, y, z, rfl, hT, rfl, e1, e2⟩
  cases e1
  exact hs i z σ H T e2 hp hT
end
end Xd

/-! Xd2: lists made longer by lists; slices of any list -/
namespace Xd
open PySem PySem.Spec PySem.Calls PyProof.Rows L2 Rs
theorem ip_ext {X : Cx} : PIp X .Add rExt2 := fun pins s σ H x y v u Q I rx ry h => iop_ext pins s σ H x y v u Q I rx ry h
section
variable {K : PySem.W.Frag} {H H0 : Hp} {M : List Addr} {L L' : Led} {σ : L2.St} {a b : Addr} {Q : VK}
theorem rd_ext2 {xs zs ys : List V} (S : Hs H0 M H L) (c : Chg a (.lst xs) (.lst ys) L L') (mb : (b, HO.lst zs) ∈ L) (hm : H0 a = none ∨ a ∈ M) (hz : xs.length + zs.length ≤ sizeLine) (e : xs ++ zs = ys) (h : ∀ H', Hs H0 M H' L' → Q (.ref a) H') : rExt2 (.ref a) (.ref b) H Q := by
  subst e
  exact ⟨a, b, xs, zs, rfl, rfl, S.is _ c.mem, S.is _ mb, hz, h _ (S.put c hm)⟩
theorem rd_extM {xs zs ys : List V} (S : Hs H0 M H L) (c : Chg a (.lst xs) (.lst ys) L L') (mb : (b, HO.lst zs) ∈ L) (hm : H0 a = none ∨ a ∈ M) (hz : xs.length + zs.length ≤ sizeLine) (e : xs ++ zs = ys) (h : ∀ H', Hs H0 M H' L' → Q .non H') : rExtend (.ref a) [.ref b] H Q := by
  subst e
  exact ⟨a, b, xs, zs, rfl, rfl, S.is _ c.mem, S.is _ mb, hz, h _ (S.put c hm)⟩
theorem cut_run (xs : List V) (i k : Nat) : cutV xs (some (i : Nat)) (some ((i + k : Nat) : Int)) = (xs.drop i).take k := by
  unfold cutV
  rw [HT.sIx_nat, HT.sIx_nat]
  by_cases h : i ≤ xs.length
  · rw [Nat.min_eq_left h]
    refine List.take_eq_take_iff.mpr ?_
    rw [List.length_drop]
    omega
  · have e1 : min i xs.length = xs.length := by omega
    rw [e1, List.drop_of_length_le (Nat.le_refl _), List.drop_of_length_le (by omega)]
    simp
theorem cut_to (xs : List V) (i : Nat) : cutV xs none (some (i : Nat)) = xs.take i := by
  unfold cutV
  rw [HT.sIx_nat, HT.sIx_none, List.drop_zero]
  refine List.take_eq_take_iff.mpr ?_
  omega
theorem cut_from (xs : List V) (i : Nat) : cutV xs (some (i : Nat)) none = xs.drop i := by
  unfold cutV
  rw [HT.sIx_nat, HT.sIx_none]
  by_cases h : i ≤ xs.length
  · rw [Nat.min_eq_left h]
    exact List.take_of_length_le (by rw [List.length_drop]; omega)
  · have e1 : min i xs.length = xs.length := by omega
    rw [e1, List.drop_of_length_le (Nat.le_refl _), List.drop_of_length_le (by omega)]
    simp
end
end Xd

/-! Xd3: list(text) -/
namespace Xd
open PySem PySem.Spec PySem.Calls PyProof.Rows L2 Rs
def rListS : List V → Hp → VK → Prop := fun xs H Q => ∃ x : Str, xs = [.str x] ∧ x.length ≤ sizeLine ∧ ∀ q, H q = none → Q (.ref q) (upd H q (.lst ((PyProof.Rows.signs x).map V.str)))
theorem call_listS {X : Cx} (hc : X.calm = true) : CallR X (.type "list") rListS := by
  intro pins s σ H xs us Q I r h
  obtain ⟨x, e, hz, q⟩ := h
  subst e
  obtain ⟨u, eu, rx⟩ := vals1 r
  subst eu
  obtain ⟨t, rfl⟩ : ∃ t, u = Value.str x t := rx
  refine PySem.call_list_str (hn := hz) (I.ok.hd hc) x t fun h' tk acc' c' hkeep hS hacc => ?_
  refine ⟨.ref s.heap.objs.size, upd H s.heap.objs.size (.lst ((PyProof.Rows.signs x).map V.str)), I.laid hkeep (Nat.le_refl _) (show ObjOk X.prog X.w _ _ _ (.lst ((PyProof.Rows.signs x).map V.str)) from ⟨?_, acc'.toList, c', ?_, ?_⟩), rfl, q _ (I.hok.fresh (Nat.le_refl _))⟩
  · rw [List.length_map, PyProof.Rows.signs_length]; exact hz
  · have el : acc'.toList.length = acc'.size := by simp
    refine vals_of_at (by rw [List.length_map, PyProof.Rows.signs_length, el, hacc.1]; rfl) fun j x1 w h1 h2 => ?_
    obtain ⟨c, t2, hc2, rfl⟩ := hacc.2 j w (by rw [← Array.getElem?_toList]; exact h2)
    have e2 : ((PyProof.Rows.signs x).map V.str)[j]? = some (.str ⟨#[c]⟩) := by
      unfold PyProof.Rows.signs
      rw [List.getElem?_map, List.getElem?_map, Array.getElem?_toList, hc2]
      rfl
    rw [e2] at h1
    cases h1
    exact ⟨t2, rfl⟩
  · rw [Array.toArray_toList]; exact hS
section
variable {K : PySem.W.Frag} {H H0 : Hp} {M : List Addr} {L L' : Led} {σ : L2.St} {a b : Addr} {Q : VK}
theorem rd_listS {x : Str} (S : Hs H0 M H L) (hz : x.length ≤ sizeLine) (h : ∀ p H', H0 p = none → Hs H0 M H' ((p, .lst ((PyProof.Rows.signs x).map V.str)) :: L) → Q (.ref p) H') : rListS [.str x] H Q :=
  ⟨x, rfl, hz, rd_newO S h⟩
end
end Xd

/-! K29n: a tuple's every second item -/
namespace K29
open PySem Rs
theorem ix_even (n : Nat) : ixT n none none 2 = (List.range ((n + 1) / 2)).map fun k => 2 * k := by
  have e : (Builtin.Slice.sliceAdjust none none 2 n).1 = 0 := by simp [Builtin.Slice.sliceAdjust]
  have e2 : Builtin.Slice.slicePlaces (Builtin.Slice.sliceAdjust none none 2 n).1 (Builtin.Slice.sliceAdjust none none 2 n).2 2 = (n + 1) / 2 := by
    simp [Builtin.Slice.sliceAdjust, Builtin.Slice.slicePlaces]
    split <;> omega
  unfold ixT
  rw [e2, e]
  refine List.map_congr_left fun k _ => ?_
  omega
theorem ix_odd (n : Nat) : ixT n (some 1) none 2 = (List.range (n / 2)).map fun k => min 1 n + 2 * k := by
  have e : (Builtin.Slice.sliceAdjust (some 1) none 2 n).1 = ((min 1 n : Nat) : Int) := by
    simp [Builtin.Slice.sliceAdjust]
    try omega
  have e2 : Builtin.Slice.slicePlaces (Builtin.Slice.sliceAdjust (some 1) none 2 n).1 (Builtin.Slice.sliceAdjust (some 1) none 2 n).2 2 = n / 2 := by
    simp [Builtin.Slice.sliceAdjust, Builtin.Slice.slicePlaces]
    split <;> omega
  unfold ixT
  rw [e2, e]
  refine List.map_congr_left fun k _ => ?_
  omega
theorem fm_congr {α β : Type} {f g : α → Option β} : ∀ l : List α, (∀ x ∈ l, f x = g x) → l.filterMap f = l.filterMap g
  | [], _ => rfl
  | x :: l, h => by
    have ih := fm_congr l fun y hy => h y (List.mem_cons_of_mem _ hy)
    simp only [List.filterMap_cons, h x List.mem_cons_self, ih]
theorem pick_even (z : Int) (r : List Int) : pickI (z :: r) none none 2 = z :: pickI r (some 1) none 2 := by
  unfold pickI
  rw [ix_even, ix_odd, List.length_cons, show (r.length + 1 + 1) / 2 = r.length / 2 + 1 by omega, List.range_succ_eq_map, List.map_cons, List.filterMap_cons_some (by rfl), List.map_map, List.filterMap_map, List.filterMap_map]
  congr 1
  refine fm_congr _ fun k hk => ?_
  have hk2 : k < r.length / 2 := List.mem_range.mp hk
  simp only [Function.comp]
  rw [show min 1 r.length = 1 by omega, show 2 * k.succ = (1 + 2 * k) + 1 by omega, List.getElem?_cons_succ]
theorem pick_odd (z : Int) (r : List Int) : pickI (z :: r) (some 1) none 2 = pickI r none none 2 := by
  unfold pickI
  rw [ix_even, ix_odd, List.length_cons, List.filterMap_map, List.filterMap_map]
  refine fm_congr _ fun k hk => ?_
  simp only [Function.comp]
  rw [show min 1 (r.length + 1) = 1 by omega, show 1 + 2 * k = 2 * k + 1 by omega, List.getElem?_cons_succ]
theorem pick_nil (lo : Option Int) : pickI [] lo none 2 = [] := by
  unfold pickI
  rw [List.filterMap_eq_nil_iff]
  intro k _
  simp
theorem ssum_pick : ∀ pk : List Int, (∀ z ∈ pk, 0 ≤ z) → ((ssum (pk.map Int.toNat)).1 : Int) = (pickI pk none none 2).sum ∧ ((ssum (pk.map Int.toNat)).2 : Int) = (pickI pk (some 1) none 2).sum
  | [], _ => by rw [pick_nil, pick_nil]; exact ⟨rfl, rfl⟩
  | z :: r, h => by
    obtain ⟨h1, h2⟩ := ssum_pick r fun y hy => h y (List.mem_cons_of_mem _ hy)
    have hz := h z List.mem_cons_self
    rw [pick_even, pick_odd]
    simp only [List.map_cons, ssum, List.sum_cons]
    exact ⟨by omega, h1⟩
end K29

local macro_rules | `(tactic| walk_at "mem") => `(tactic| repeat (with_reducible first | exact List.mem_cons_self | apply List.mem_cons_of_mem))
local macro_rules | `(tactic| walk_at "chg") => `(tactic| repeat (with_reducible first | exact Rs.Chg.here | apply Rs.Chg.there))
local macro_rules | `(tactic| walk_at "chgF") => `(tactic| (intro o'; walk_at "chg"))
local macro_rules | `(tactic| walk_at "own") => `(tactic| first | (apply Or.inl; assumption) | (apply Or.inr; simp))
local macro_rules | `(tactic| walk_at "size") => `(tactic| first | exact Rs.sz (Nat.le_of_ble_eq_true rfl) | (refine Rs.sz ?_; omega) | (refine Rs.sz ?_; simp; done) | (refine Rs.sz ?_; simp; omega))
local macro_rules | `(tactic| walk_at "size1") => `(tactic| first | exact Rs.sz' (Nat.le_of_ble_eq_true rfl) | (refine Rs.sz' ?_; omega) | (refine Rs.sz' ?_; simp; done) | (refine Rs.sz' ?_; simp; omega))
local macro_rules | `(tactic| walk_at "val") => `(tactic| first | assumption | rfl)
local macro_rules | `(tactic| walk_at "put") => `(tactic| first | assumption | rfl)
local macro_rules | `(tactic| walk_at "rd1") => `(tactic| first
  | with_reducible refine Rs.rd_seq ?_
  | with_reducible refine Rs.rd_asg ?_
  | ((with_reducible refine' Rs.rd_var ?e ?_); (case e => rfl))
  | with_reducible refine Rs.rd_c ?_
  | with_reducible refine Rs.rd_op ?_
  | with_reducible refine Rs.rd_I0 ?_
  | with_reducible refine Rs.rd_cons ?_
  | with_reducible refine Rs.rd_nil ?_
  | ((with_reducible refine' Rs.rd_name ?e ?_); (case e => (dsimp only [List.set]; try rfl)))
  | with_reducible refine Rs.rd_ifS ?_
  | with_reducible refine Rs.rd_test ?_
  | with_reducible refine Rs.rd_bl ?_
  | with_reducible refine Rs.rd_ret ?_
  | with_reducible refine Rs.rd_retN ?_
  | with_reducible refine Rs.rd_drop ?_
  | with_reducible refine Rs.rd_next ?_
  | with_reducible refine Rs.rd_eqI ?_
  | with_reducible refine Rs.rd_neI ?_
  | with_reducible refine Rs.rd_eqS ?_
  | with_reducible refine Rs.rd_neS ?_
  | with_reducible refine Rs.rd_eqB ?_
  | with_reducible refine Rs.rd_par ?_
  | with_reducible refine Rs.rd_par3 ?_
  | ((with_reducible refine Rs.rd_two ?_); dsimp only [List.set])
  | ((with_reducible refine Rs.rd_three ?_); dsimp only [List.set])
  | with_reducible refine Rs.rd_un ?_
  | with_reducible refine Rs.rd_U ?_
  | with_reducible refine Rs.rd_tB ?_
  | with_reducible refine Rs.rd_and ?_
  | with_reducible refine Rs.rd_or ?_
  | with_reducible refine Rs.rd_not ?_
  | with_reducible refine Rs.rd_andV ?_
  | with_reducible refine Rs.rd_orV ?_
  | with_reducible refine Rs.rd_notV ?_
  | with_reducible refine Rs.rd_if ?_
  | with_reducible refine Rs.rd_tup ?_
  | with_reducible refine Rs.rd_lst ?_
  | with_reducible refine Rs.rd_cb ?_
  | with_reducible refine Rs.rd_call0 ?_
  | with_reducible refine Rs.rd_call ?_
  | with_reducible refine Rs.rd_callN ?_
  | with_reducible refine Rs.rd_chain ?_
  | with_reducible refine Rs.rd_bits ?_
  | with_reducible refine Rs.rd_int1 ?_
  | with_reducible refine Rs.rd_int2 ?_
  | with_reducible refine Rs.rd_dget ?_
  | with_reducible refine Rs.rd_dput ?_
  | with_reducible refine Rs.rd_slice3 ?_
  | with_reducible refine Rs.rd_sl ?_
  | with_reducible refine Rs.rd_noPart ?_
  | with_reducible refine Rs.rd_part ?_
  | ((with_reducible refine' Rs.rd_mod ?c ?_); (case c => omega); intro r e h0 h1)
  | ((with_reducible refine' Rs.rd_div ?c ?d ?_); (case c => omega); (case d => omega))
  | ((with_reducible refine' Rs.rd_mulL ?c ?d ?_); (case c => omega); (case d => omega))
  | ((with_reducible refine' Rs.rd_mulR ?c ?d ?_); (case c => omega); (case d => omega))
  | ((with_reducible refine' Rs.rd_pow ?c ?d ?f ?_); (case c => omega); (case d => omega); (case f => omega))
  | ((with_reducible refine' Rs.rd_newL (by assumption) ?z ?_); (case z => walk_at "size"); intro p H hp S)
  | ((with_reducible refine' Rs.rd_newT (by assumption) ?z ?_); (case z => walk_at "size"); intro p H hp S)
  | ((with_reducible refine' Rs.rd_newO (by assumption) ?_); intro p H hp S)
  | ((with_reducible refine' Rs.rd_ixL (by assumption) ?m ?e ?_); (case m => (walk_at "mem"; done)); (case e => first | rfl | assumption))
  | ((with_reducible refine' Rs.rd_ixT (by assumption) ?m ?e ?_); (case m => (walk_at "mem"; done)); (case e => first | rfl | assumption))
  | ((with_reducible refine' Rs.rd_len (by assumption) ?m ?_); (case m => (walk_at "mem"; done)))
  | ((with_reducible refine' Rs.rd_lenT (by assumption) ?m ?_); (case m => (walk_at "mem"; done)))
  | ((with_reducible refine' Rs.rd_getS (by assumption) ?m ?e ?_); (case m => (walk_at "mem"; done)); (case e => walk_at "val"))
  | ((with_reducible refine' Rs.rd_putS (by assumption) ?c ?m ?z ?e ?_); (case c => (walk_at "chg"; done)); (case m => walk_at "own"); (case z => walk_at "size1"); (case e => walk_at "put"); intro H S)
  | ((with_reducible refine' Rs.gt_ref (by assumption) ?m ?e ?_); (case m => (walk_at "mem"; done)); (case e => rfl))
  | with_reducible refine Rs.gt_cons ?_
  | with_reducible refine Rs.gt_nil ?_
  | with_reducible refine Rs.rd_for ?_
  | with_reducible refine Rs.rd_rng1 ?_
  | with_reducible refine Rs.rd_rng2 ?_
  | ((with_reducible refine' Rs.rd_rng1v ?c ?d ?_); (case c => omega); (case d => omega))
  | with_reducible refine Rs.rd_iList ?_
  | with_reducible refine Rs.rd_iTup ?_
  | ((with_reducible refine' Rs.rd_lstI (by assumption) ?m ?_); (case m => (walk_at "mem"; done)))
  | ((with_reducible refine' Rs.rd_tupI (by assumption) ?m ?_); (case m => (walk_at "mem"; done)))
  | with_reducible refine Rs.rd_wl ?_
  | ((with_reducible refine' Rs.rd_disp (by assumption) ?_); intro p H hp S)
  | with_reducible refine Rs.rd_prs ?_
  | with_reducible refine Rs.rd_prs0 ?_
  | ((with_reducible refine' Rs.rd_dspEnd (by assumption) ?c ?m ?e ?z ?f ?_); (case c => (walk_at "chg"; done)); (case m => walk_at "own"); (case e => rfl); (case z => exact Nat.le_of_ble_eq_true rfl); (case f => walk_at "put"); intro H S)
  | ((with_reducible refine' Rs.rd_isi (by assumption) ?e ?_); (case e => first | exact Rs.kit_int _ | exact Rs.kit_bool _ | exact Rs.kit_list _ | exact Rs.kit_tuple _ | exact Rs.kit_str _))
  | with_reducible refine Rs.rd_iteT ?_
  | with_reducible refine Rs.rd_nT ?_
  | with_reducible refine Rs.rd_nF ?_
  | with_reducible refine Rs.rd_iteF ?_)
local macro_rules | `(tactic| walk_at "end") => `(tactic| first
  | assumption
  | omega
  | exact Rs.Hs.get (by assumption) (by walk_at "mem"; done)
  | exact Rs.Hs.same (by assumption)
  | (intro b o e hb; exact Rs.Hs.old1 (by assumption) e hb)
  | rfl)
local macro_rules | `(tactic| walk_at "rd") => `(tactic| repeat (walk_at "rd1"))
local macro_rules | `(tactic| walk_at "st") => `(tactic| (refine Rs.rd_start ?_; dsimp only [Rs.stV, List.head?, List.tail]))
local macro_rules | `(tactic| walk_at "noat") => `(tactic| assumption)
local macro_rules | `(tactic| walk_at "cls") => `(tactic| assumption)
local macro_rules | `(tactic| walk_at "fv") => `(tactic| rfl)
local macro_rules | `(tactic| walk_at "sub") => `(tactic| repeat (with_reducible first | exact List.Sublist.refl _ | exact List.nil_sublist _ | apply List.Sublist.cons_cons | apply List.Sublist.cons))
local macro_rules | `(tactic| walk_at "rd1") => `(tactic| first
  | with_reducible refine Rs.rd_fld ?_
  | ((with_reducible refine' Rs.rd_fldV (by assumption) ?m ?c ?n ?e ?_); (case m => (walk_at "mem"; done)); (case c => walk_at "cls"); (case n => walk_at "noat"); (case e => walk_at "fv"))
  | with_reducible refine Rs.rd_sfld ?_
  | ((with_reducible refine' Rs.rd_sfldV (by assumption) ?ch ?o ?c ?n ?z ?e ?_); (case ch => (walk_at "chg"; done)); (case o => walk_at "own"); (case c => walk_at "cls"); (case n => walk_at "noat"); (case z => walk_at "fvz"); (case e => walk_at "fput"); intro H S)
  | with_reducible refine Rs.rd_meth ?_
  | ((with_reducible refine' Rs.rd_methV (by assumption) ?m ?e ?_); (case m => (walk_at "mem"; done)); (case e => walk_at "fv"))
  | with_reducible refine Rs.rd_bm ?_
  | with_reducible refine Rs.rd_bm0 ?_
  | ((with_reducible refine' Rs.rd_tyL (by assumption) ?m ?_); (case m => (walk_at "mem"; done)))
  | ((with_reducible refine' Rs.rd_app (by assumption) ?c ?o ?z ?_); (case c => (walk_at "chg"; done)); (case o => walk_at "own"); (case z => walk_at "size1"); intro H S)
  | ((with_reducible refine' Rs.rd_sumI (by assumption) ?m ?e ?_); (case m => (walk_at "mem"; done)); (case e => rfl))
  | ((with_reducible refine' Rs.rd_slL (by assumption) ?m ?e ?_); (case m => (walk_at "mem"; done)); (case e => rfl); intro p H hp S)
  | ((with_reducible refine' Rs.rd_catL (by assumption) ?m ?n ?z ?_); (case m => (walk_at "mem"; done)); (case n => (walk_at "mem"; done)); (case z => walk_at "size"); intro p H hp S)
  | with_reducible refine Rs.rd_revL ?_
  | ((with_reducible refine' Rs.rd_revV (by assumption) ?m ?_); (case m => (walk_at "mem"; done)); intro p H hp S)
  | with_reducible refine Rs.rd_isN ?_
  | with_reducible refine Rs.rd_notN ?_
  | ((with_reducible refine' Rs.gt_unl (by assumption) ?m ?e ?_); (case m => (walk_at "mem"; done)); (case e => rfl))
  | with_reducible refine Rs.gt_sub ?_
  | with_reducible refine Rs.gt_slc ?_
  | with_reducible refine Rs.rd_lc ?_)
local macro_rules | `(tactic| walk_at "cut") => `(tactic| repeat' (first | walk_at "rd1" | (refine Rs.rd_dec ?_ ?_ <;> intro hc)))
local macro_rules | `(tactic| walk_at "fvz") => `(tactic| exact Nat.le_of_ble_eq_true rfl)
local macro_rules | `(tactic| walk_at "fput") => `(tactic| rfl)
local macro_rules | `(tactic| walk_at "rd1") => `(tactic| with_reducible refine Rs.rd_nn ?_)
local macro_rules | `(tactic| walk_at "rd1") => `(tactic| first
  | ((with_reducible refine' Rs.rd_aug ?e ?_); (case e => rfl))
  | ((with_reducible refine Rs.rd_ipI ?_); dsimp only [List.set]))
local macro_rules | `(tactic| walk_at "lc") => `(tactic| (walk_at "rd"; dsimp only [L2.wipe, List.map, List.set]; refine ⟨rfl, ?_⟩; walk_at "rd"))
local macro_rules | `(tactic| walk_at "rd1") => `(tactic| first
  | ((with_reducible refine' Rs.rd_sumT (by assumption) ?m ?e ?_); (case m => (walk_at "mem"; done)); (case e => rfl))
  | with_reducible refine Rs.rd_cbk ?_
  | ((with_reducible refine' Rs.rd_sumK (by assumption) ?m ?e ?_); (case m => (walk_at "mem"; done)); (case e => rfl))
  | ((with_reducible refine' Rs.rd_maxDT (by assumption) ?m ?e ?_); (case m => (walk_at "mem"; done)); (case e => rfl))
  | with_reducible refine Rs.rd_slT3 ?_)
local macro_rules | `(tactic| walk_at "rd1") => `(tactic| with_reducible refine Rs.rd_yes ?_)
local macro_rules | `(tactic| walk_at "if0") => `(tactic| (first | (show if false = true then _ else _) | skip); walk_at "rd")
local macro_rules | `(tactic| walk_at "if1") => `(tactic| (first | (show if true = true then _ else _) | skip); walk_at "rd")
local macro_rules | `(tactic| walk_at "rd1") => `(tactic| first
  | ((with_reducible refine' Rs.rd_clear (by assumption) ?c ?o ?_); (case c => (walk_at "chg"; done)); (case o => walk_at "own"); intro H S))
local macro_rules | `(tactic| walk_at "led") => `(tactic| (intro a'; simp only [Rs.cn_app, Rs.cn_cons, Rs.cn_nil, List.append_assoc, List.cons_append, List.nil_append, List.reverse_nil, List.map_nil]; omega))
local macro_rules | `(tactic| walk_at "mem1") => `(tactic| (with_reducible first | exact List.mem_cons_self | assumption | (apply List.mem_cons_of_mem; walk_at "mem1") | (apply List.mem_append_right; walk_at "mem1") | (apply List.mem_append_left; walk_at "mem1")))
local macro_rules | `(tactic| walk_at "mem") => `(tactic| walk_at "mem1")
local macro_rules | `(tactic| walk_at "rd1") => `(tactic| first
  | with_reducible refine Rs.rd_enum ?_
  | with_reducible refine Rs.rd_methK ?_
  | ((with_reducible refine' Rs.rd_enI (by assumption) ?m ?_); (case m => (walk_at "mem"; done))))
local macro_rules | `(tactic| walk_at "chg1") => `(tactic| (with_reducible first | exact Rs.Chg.here | (apply Rs.Chg.there; walk_at "chg1") | (apply Rs.Chg.appR; walk_at "chg1") | (apply Rs.Chg.appL; walk_at "chg1")))
local macro_rules | `(tactic| walk_at "chg") => `(tactic| walk_at "chg1")
namespace K29
open PySem L2 Rs
def topS (i : Nat) : Stmt := PySem.Challenge.pw_runsort_k29_moves_forth_and_back.main.body.getD i (.Pass ⟨0, 0, 0, 0⟩)
abbrev s_is_whole : Stmt := topS 7
theorem sc_is_whole : FnScope ["thing", "least", "most"] ["thing", "least", "most"] (defScope s_is_whole) := ⟨rfl, rfl, rfl, by decide +kernel, rfl, by decide +kernel, by decide +kernel⟩
abbrev s_need_row : Stmt := topS 8
theorem sc_need_row : FnScope ["thing"] ["thing"] (defScope s_need_row) := ⟨rfl, rfl, rfl, by decide +kernel, rfl, by decide +kernel, by decide +kernel⟩
abbrev s_is_kept : Stmt := topS 10
theorem sc_is_kept : FnScope ["thing", "first", "second"] ["thing", "first", "second"] (defScope s_is_kept) := ⟨rfl, rfl, rfl, by decide +kernel, rfl, by decide +kernel, by decide +kernel⟩
abbrev s_are_picks : Stmt := topS 11
theorem sc_are_picks : FnScope ["thing", "first", "second", "many"] ["thing", "first", "second"] (defScope s_are_picks) := ⟨rfl, rfl, rfl, by decide +kernel, rfl, by decide +kernel, by decide +kernel⟩
abbrev s_is_merge : Stmt := topS 12
theorem sc_is_merge : FnScope ["thing", "most", "start", "middle", "end", "kept", "picks"] ["thing", "most"] (defScope s_is_merge) := ⟨rfl, rfl, rfl, by decide +kernel, rfl, by decide +kernel, by decide +kernel⟩
abbrev s_need_merge : Stmt := topS 13
theorem sc_need_merge : FnScope ["thing", "most"] ["thing", "most"] (defScope s_need_merge) := ⟨rfl, rfl, rfl, by decide +kernel, rfl, by decide +kernel, by decide +kernel⟩
abbrev s_moved_things : Stmt := topS 14
theorem sc_moved_things : FnScope ["row", "merge", "at", "other", "found", "number", "many"] ["row", "merge"] (defScope s_moved_things) := ⟨rfl, rfl, rfl, by decide +kernel, rfl, by decide +kernel, by decide +kernel⟩
abbrev s_move_merge : Stmt := topS 16
theorem sc_move_merge : FnScope ["row", "merge", "start", "middle", "end", "kept", "picks"] ["row", "merge"] (defScope s_move_merge) := ⟨rfl, rfl, rfl, by decide +kernel, rfl, by decide +kernel, by decide +kernel⟩
abbrev s_move_back : Stmt := topS 17
theorem sc_move_back : FnScope ["row", "merge", "start", "middle", "end", "kept", "picks", "first", "at", "sides", "number", "many"] ["row", "merge"] (defScope s_move_back) := ⟨rfl, rfl, rfl, by decide +kernel, rfl, by decide +kernel, by decide +kernel⟩
abbrev s_l_begun : Stmt := topS 19
theorem sc_l_begun : FnScope ["_law_script", "_law_turn", "_law_folded", "_law_cell", "_law_own"] ["_law_script", "_law_turn"] (defScope s_l_begun) := ⟨rfl, rfl, rfl, by decide +kernel, rfl, by decide +kernel, by decide +kernel⟩
abbrev s_l_draw : Stmt := topS 20
theorem sc_l_draw : FnScope ["_law_state", "_law_many", "_law_found", "_law_at", "_law_prime", "_law_mixed"] ["_law_state", "_law_many"] (defScope s_l_draw) := ⟨rfl, rfl, rfl, by decide +kernel, rfl, by decide +kernel, by decide +kernel⟩
abbrev s_l_lengths : Stmt := topS 21
theorem sc_l_lengths : FnScope ["_law_state", "_law_picks", "_law_kept", "_law_k", "_law_high"] ["_law_state"] (defScope s_l_lengths) := ⟨rfl, rfl, rfl, by decide +kernel, rfl, by decide +kernel, by decide +kernel⟩
abbrev s_l_merge : Stmt := topS 22
theorem sc_l_merge : FnScope ["_law_state", "_law_kept", "_law_picks", "_law_first", "_law_second", "_law_begin", "_law_stop"] ["_law_state"] (defScope s_l_merge) := ⟨rfl, rfl, rfl, by decide +kernel, rfl, by decide +kernel, by decide +kernel⟩
abbrev s_l_things : Stmt := topS 23
theorem sc_l_things : FnScope ["_law_state", "_law_many", "_law_shared", "_law_found", "_law_k", "_law_way"] ["_law_state", "_law_many"] (defScope s_l_things) := ⟨rfl, rfl, rfl, by decide +kernel, rfl, by decide +kernel, by decide +kernel⟩
abbrev s_l_moved : Stmt := topS 24
theorem sc_l_moved : FnScope ["_law_things_here", "_law_paper", "_law_begin", "_law_midst", "_law_stop", "_law_kept", "_law_picks", "_law_at", "_law_found", "_law_k", "_law_many", "_law_side"] ["_law_things_here", "_law_paper"] (defScope s_l_moved) := ⟨rfl, rfl, rfl, by decide +kernel, rfl, by decide +kernel, by decide +kernel⟩
abbrev s_l_changed : Stmt := topS 25
theorem sc_l_changed : FnScope ["_law_things_here", "_law_thing"] ["_law_things_here"] (defScope s_l_changed) := ⟨rfl, rfl, rfl, by decide +kernel, rfl, by decide +kernel, by decide +kernel⟩
abbrev s_l_told_right : Stmt := topS 26
theorem sc_l_told_right : FnScope ["_law_state", "_law_paper", "_law_many", "_law_first", "_law_due", "_law_things_here", "_law_kept"] ["_law_state", "_law_paper", "_law_many"] (defScope s_l_told_right) := ⟨rfl, rfl, rfl, by decide +kernel, rfl, by decide +kernel, by decide +kernel⟩
abbrev s_l_by_hand_right : Stmt := topS 27
theorem sc_l_by_hand_right : FnScope ["_law_paper", "_law_first", "_law_things_here", "_law_due", "_law_k", "_law_merges", "_law_rows", "_law_each"] [] (defScope s_l_by_hand_right) := ⟨rfl, rfl, rfl, by decide +kernel, rfl, by decide +kernel, by decide +kernel⟩
abbrev s_law : Stmt := topS 28
theorem sc_law : FnScope ["_law_script", "_law_turn", "_law_state", "_law_again", "_law_paper", "_law_many"] ["_law_script"] (defScope s_law) := ⟨rfl, rfl, rfl, by decide +kernel, rfl, by decide +kernel, by decide +kernel⟩
structure Ad where
  (f_is_whole f_need_row f_is_kept f_are_picks f_is_merge f_need_merge f_moved_things f_move_merge f_move_back f__law_begun f__law_draw f__law_lengths f__law_merge f__law_things f__law_moved f__law_changed f__law_told_right f__law_by_hand_right f_law : Addr)
  (d_is_whole d_need_row d_is_kept d_are_picks d_is_merge d_need_merge d_moved_things d_move_merge d_move_back d__law_begun d__law_draw d__law_lengths d__law_merge d__law_things d__law_moved d__law_changed d__law_told_right d__law_by_hand_right d_law : FuncData)
structure Txt (K : PySem.W.Frag) (mg : Str → Option Value) (w : World) (A : Ad) : Prop where
  c_is_whole : CalD K mg "is_whole" s_is_whole [("least", .int 0), ("most", .int 4096)] A.f_is_whole A.d_is_whole
  c_need_row : Cal K mg "need_row" s_need_row ["thing"] A.f_need_row A.d_need_row
  c_is_kept : Cal K mg "is_kept" s_is_kept ["thing", "first", "second"] A.f_is_kept A.d_is_kept
  c_are_picks : Cal K mg "are_picks" s_are_picks ["thing", "first", "second"] A.f_are_picks A.d_are_picks
  c_is_merge : CalD K mg "is_merge" s_is_merge [("most", .int 4096)] A.f_is_merge A.d_is_merge
  c_need_merge : CalD K mg "need_merge" s_need_merge [("most", .int 4096)] A.f_need_merge A.d_need_merge
  c_moved_things : Cal K mg "moved_things" s_moved_things ["row", "merge"] A.f_moved_things A.d_moved_things
  c_move_merge : Cal K mg "move_merge" s_move_merge ["row", "merge"] A.f_move_merge A.d_move_merge
  c_move_back : Cal K mg "move_back" s_move_back ["row", "merge"] A.f_move_back A.d_move_back
  c__law_begun : Cal K mg "_law_begun" s_l_begun ["_law_script", "_law_turn"] A.f__law_begun A.d__law_begun
  c__law_draw : Cal K mg "_law_draw" s_l_draw ["_law_state", "_law_many"] A.f__law_draw A.d__law_draw
  c__law_lengths : Cal K mg "_law_lengths" s_l_lengths ["_law_state"] A.f__law_lengths A.d__law_lengths
  c__law_merge : Cal K mg "_law_merge" s_l_merge ["_law_state"] A.f__law_merge A.d__law_merge
  c__law_things : Cal K mg "_law_things" s_l_things ["_law_state", "_law_many"] A.f__law_things A.d__law_things
  c__law_moved : Cal K mg "_law_moved" s_l_moved ["_law_things_here", "_law_paper"] A.f__law_moved A.d__law_moved
  c__law_changed : Cal K mg "_law_changed" s_l_changed ["_law_things_here"] A.f__law_changed A.d__law_changed
  c__law_told_right : Cal K mg "_law_told_right" s_l_told_right ["_law_state", "_law_paper", "_law_many"] A.f__law_told_right A.d__law_told_right
  c__law_by_hand_right : Cal K mg "_law_by_hand_right" s_l_by_hand_right [] A.f__law_by_hand_right A.d__law_by_hand_right
  c_law : Cal K mg "law" s_law ["_law_script"] A.f_law A.d_law
  g_MOST_THINGS : ∃ u, mg "MOST_THINGS" = some u ∧ RelV (.int 4096) u
  n_len : mg "len" = none
  n_min : mg "min" = none
  n_max : mg "max" = none
  n_range : mg "range" = none
  n_repr : mg "repr" = none
  n_isinstance : mg "isinstance" = none
  n_int : mg "int" = none
  n_bool : mg "bool" = none
  n_tuple : mg "tuple" = none
  n_list : mg "list" = none
  n_sum : mg "sum" = none
  n_all : mg "all" = none
  n_enumerate : mg "enumerate" = none
  n_str : mg "str" = none
set_option maxHeartbeats 0 in
theorem all_mk {K : PySem.W.Frag} {mg : Str → Option Value} {w : World} {h : Heap} {f_is_whole : Addr} {D_is_whole : Addr} {oc_is_whole doc_is_whole pm_is_whole cd_is_whole ct_is_whole : Value} {od_is_whole an_is_whole : Option Addr} {osl_is_whole : Array (Option Value)} {f_need_row : Addr} {oc_need_row doc_need_row pm_need_row cd_need_row ct_need_row kV_need_row : Value} {od_need_row an_need_row : Option Addr} {osl_need_row : Array (Option Value)} {f_is_kept : Addr} {oc_is_kept doc_is_kept pm_is_kept cd_is_kept ct_is_kept kV_is_kept : Value} {od_is_kept an_is_kept : Option Addr} {osl_is_kept : Array (Option Value)} {f_are_picks : Addr} {oc_are_picks doc_are_picks pm_are_picks cd_are_picks ct_are_picks kV_are_picks : Value} {od_are_picks an_are_picks : Option Addr} {osl_are_picks : Array (Option Value)} {f_is_merge : Addr} {D_is_merge : Addr} {oc_is_merge doc_is_merge pm_is_merge cd_is_merge ct_is_merge : Value} {od_is_merge an_is_merge : Option Addr} {osl_is_merge : Array (Option Value)} {f_need_merge : Addr} {D_need_merge : Addr} {oc_need_merge doc_need_merge pm_need_merge cd_need_merge ct_need_merge : Value} {od_need_merge an_need_merge : Option Addr} {osl_need_merge : Array (Option Value)} {f_moved_things : Addr} {oc_moved_things doc_moved_things pm_moved_things cd_moved_things ct_moved_things kV_moved_things : Value} {od_moved_things an_moved_things : Option Addr} {osl_moved_things : Array (Option Value)} {f_move_merge : Addr} {oc_move_merge doc_move_merge pm_move_merge cd_move_merge ct_move_merge kV_move_merge : Value} {od_move_merge an_move_merge : Option Addr} {osl_move_merge : Array (Option Value)} {f_move_back : Addr} {oc_move_back doc_move_back pm_move_back cd_move_back ct_move_back kV_move_back : Value} {od_move_back an_move_back : Option Addr} {osl_move_back : Array (Option Value)} {f__law_begun : Addr} {oc__law_begun doc__law_begun pm__law_begun cd__law_begun ct__law_begun kV__law_begun : Value} {od__law_begun an__law_begun : Option Addr} {osl__law_begun : Array (Option Value)} {f__law_draw : Addr} {oc__law_draw doc__law_draw pm__law_draw cd__law_draw ct__law_draw kV__law_draw : Value} {od__law_draw an__law_draw : Option Addr} {osl__law_draw : Array (Option Value)} {f__law_lengths : Addr} {oc__law_lengths doc__law_lengths pm__law_lengths cd__law_lengths ct__law_lengths kV__law_lengths : Value} {od__law_lengths an__law_lengths : Option Addr} {osl__law_lengths : Array (Option Value)} {f__law_merge : Addr} {oc__law_merge doc__law_merge pm__law_merge cd__law_merge ct__law_merge kV__law_merge : Value} {od__law_merge an__law_merge : Option Addr} {osl__law_merge : Array (Option Value)} {f__law_things : Addr} {oc__law_things doc__law_things pm__law_things cd__law_things ct__law_things kV__law_things : Value} {od__law_things an__law_things : Option Addr} {osl__law_things : Array (Option Value)} {f__law_moved : Addr} {oc__law_moved doc__law_moved pm__law_moved cd__law_moved ct__law_moved kV__law_moved : Value} {od__law_moved an__law_moved : Option Addr} {osl__law_moved : Array (Option Value)} {f__law_changed : Addr} {oc__law_changed doc__law_changed pm__law_changed cd__law_changed ct__law_changed kV__law_changed : Value} {od__law_changed an__law_changed : Option Addr} {osl__law_changed : Array (Option Value)} {f__law_told_right : Addr} {oc__law_told_right doc__law_told_right pm__law_told_right cd__law_told_right ct__law_told_right kV__law_told_right : Value} {od__law_told_right an__law_told_right : Option Addr} {osl__law_told_right : Array (Option Value)} {f__law_by_hand_right : Addr} {oc__law_by_hand_right doc__law_by_hand_right pm__law_by_hand_right cd__law_by_hand_right ct__law_by_hand_right kV__law_by_hand_right : Value} {od__law_by_hand_right an__law_by_hand_right : Option Addr} {osl__law_by_hand_right : Array (Option Value)} {f_law : Addr} {oc_law doc_law pm_law cd_law ct_law kV_law : Value} {od_law an_law : Option Addr} {osl_law : Array (Option Value)} {u_MOST_THINGS : Value} (X : K.In h) (G : h.Ns mainGlobals mg)
    (a_is_whole : PySem.W.nsIn K mainGlobals "is_whole" = some (some (.ref f_is_whole)))
    (l_is_whole : K.lookup f_is_whole = some ⟨oc_is_whole, od_is_whole, .func (PySem.W.fnOf "is_whole" "is_whole" (defArgs s_is_whole) (defBody s_is_whole) (defScope s_is_whole) .none (.ref D_is_whole) doc_is_whole pm_is_whole an_is_whole cd_is_whole ct_is_whole), osl_is_whole⟩)
    (e_is_whole : PySem.W.codeIn K cd_is_whole "is_whole" = true)
    (k_is_whole : PySem.W.keepIn K (.ref f_is_whole) = true)
    (dd_is_whole : ∀ q ∈ ([("least", .int 0), ("most", .int 4096)] : List (Str × V)), ∃ u, PySem.W.nsIn K D_is_whole q.1 = some (some u) ∧ RelV q.2 u)
    (a_need_row : PySem.W.nsIn K mainGlobals "need_row" = some (some (.ref f_need_row)))
    (l_need_row : K.lookup f_need_row = some ⟨oc_need_row, od_need_row, .func (PySem.W.fnOf "need_row" "need_row" (defArgs s_need_row) (defBody s_need_row) (defScope s_need_row) .none kV_need_row doc_need_row pm_need_row an_need_row cd_need_row ct_need_row), osl_need_row⟩)
    (e_need_row : PySem.W.codeIn K cd_need_row "need_row" = true)
    (k_need_row : PySem.W.keepIn K (.ref f_need_row) = true)
    (a_is_kept : PySem.W.nsIn K mainGlobals "is_kept" = some (some (.ref f_is_kept)))
    (l_is_kept : K.lookup f_is_kept = some ⟨oc_is_kept, od_is_kept, .func (PySem.W.fnOf "is_kept" "is_kept" (defArgs s_is_kept) (defBody s_is_kept) (defScope s_is_kept) .none kV_is_kept doc_is_kept pm_is_kept an_is_kept cd_is_kept ct_is_kept), osl_is_kept⟩)
    (e_is_kept : PySem.W.codeIn K cd_is_kept "is_kept" = true)
    (k_is_kept : PySem.W.keepIn K (.ref f_is_kept) = true)
    (a_are_picks : PySem.W.nsIn K mainGlobals "are_picks" = some (some (.ref f_are_picks)))
    (l_are_picks : K.lookup f_are_picks = some ⟨oc_are_picks, od_are_picks, .func (PySem.W.fnOf "are_picks" "are_picks" (defArgs s_are_picks) (defBody s_are_picks) (defScope s_are_picks) .none kV_are_picks doc_are_picks pm_are_picks an_are_picks cd_are_picks ct_are_picks), osl_are_picks⟩)
    (e_are_picks : PySem.W.codeIn K cd_are_picks "are_picks" = true)
    (k_are_picks : PySem.W.keepIn K (.ref f_are_picks) = true)
    (a_is_merge : PySem.W.nsIn K mainGlobals "is_merge" = some (some (.ref f_is_merge)))
    (l_is_merge : K.lookup f_is_merge = some ⟨oc_is_merge, od_is_merge, .func (PySem.W.fnOf "is_merge" "is_merge" (defArgs s_is_merge) (defBody s_is_merge) (defScope s_is_merge) .none (.ref D_is_merge) doc_is_merge pm_is_merge an_is_merge cd_is_merge ct_is_merge), osl_is_merge⟩)
    (e_is_merge : PySem.W.codeIn K cd_is_merge "is_merge" = true)
    (k_is_merge : PySem.W.keepIn K (.ref f_is_merge) = true)
    (dd_is_merge : ∀ q ∈ ([("most", .int 4096)] : List (Str × V)), ∃ u, PySem.W.nsIn K D_is_merge q.1 = some (some u) ∧ RelV q.2 u)
    (a_need_merge : PySem.W.nsIn K mainGlobals "need_merge" = some (some (.ref f_need_merge)))
    (l_need_merge : K.lookup f_need_merge = some ⟨oc_need_merge, od_need_merge, .func (PySem.W.fnOf "need_merge" "need_merge" (defArgs s_need_merge) (defBody s_need_merge) (defScope s_need_merge) .none (.ref D_need_merge) doc_need_merge pm_need_merge an_need_merge cd_need_merge ct_need_merge), osl_need_merge⟩)
    (e_need_merge : PySem.W.codeIn K cd_need_merge "need_merge" = true)
    (k_need_merge : PySem.W.keepIn K (.ref f_need_merge) = true)
    (dd_need_merge : ∀ q ∈ ([("most", .int 4096)] : List (Str × V)), ∃ u, PySem.W.nsIn K D_need_merge q.1 = some (some u) ∧ RelV q.2 u)
    (a_moved_things : PySem.W.nsIn K mainGlobals "moved_things" = some (some (.ref f_moved_things)))
    (l_moved_things : K.lookup f_moved_things = some ⟨oc_moved_things, od_moved_things, .func (PySem.W.fnOf "moved_things" "moved_things" (defArgs s_moved_things) (defBody s_moved_things) (defScope s_moved_things) .none kV_moved_things doc_moved_things pm_moved_things an_moved_things cd_moved_things ct_moved_things), osl_moved_things⟩)
    (e_moved_things : PySem.W.codeIn K cd_moved_things "moved_things" = true)
    (k_moved_things : PySem.W.keepIn K (.ref f_moved_things) = true)
    (a_move_merge : PySem.W.nsIn K mainGlobals "move_merge" = some (some (.ref f_move_merge)))
    (l_move_merge : K.lookup f_move_merge = some ⟨oc_move_merge, od_move_merge, .func (PySem.W.fnOf "move_merge" "move_merge" (defArgs s_move_merge) (defBody s_move_merge) (defScope s_move_merge) .none kV_move_merge doc_move_merge pm_move_merge an_move_merge cd_move_merge ct_move_merge), osl_move_merge⟩)
    (e_move_merge : PySem.W.codeIn K cd_move_merge "move_merge" = true)
    (k_move_merge : PySem.W.keepIn K (.ref f_move_merge) = true)
    (a_move_back : PySem.W.nsIn K mainGlobals "move_back" = some (some (.ref f_move_back)))
    (l_move_back : K.lookup f_move_back = some ⟨oc_move_back, od_move_back, .func (PySem.W.fnOf "move_back" "move_back" (defArgs s_move_back) (defBody s_move_back) (defScope s_move_back) .none kV_move_back doc_move_back pm_move_back an_move_back cd_move_back ct_move_back), osl_move_back⟩)
    (e_move_back : PySem.W.codeIn K cd_move_back "move_back" = true)
    (k_move_back : PySem.W.keepIn K (.ref f_move_back) = true)
    (a__law_begun : PySem.W.nsIn K mainGlobals "_law_begun" = some (some (.ref f__law_begun)))
    (l__law_begun : K.lookup f__law_begun = some ⟨oc__law_begun, od__law_begun, .func (PySem.W.fnOf "_law_begun" "_law_begun" (defArgs s_l_begun) (defBody s_l_begun) (defScope s_l_begun) .none kV__law_begun doc__law_begun pm__law_begun an__law_begun cd__law_begun ct__law_begun), osl__law_begun⟩)
    (e__law_begun : PySem.W.codeIn K cd__law_begun "_law_begun" = true)
    (k__law_begun : PySem.W.keepIn K (.ref f__law_begun) = true)
    (a__law_draw : PySem.W.nsIn K mainGlobals "_law_draw" = some (some (.ref f__law_draw)))
    (l__law_draw : K.lookup f__law_draw = some ⟨oc__law_draw, od__law_draw, .func (PySem.W.fnOf "_law_draw" "_law_draw" (defArgs s_l_draw) (defBody s_l_draw) (defScope s_l_draw) .none kV__law_draw doc__law_draw pm__law_draw an__law_draw cd__law_draw ct__law_draw), osl__law_draw⟩)
    (e__law_draw : PySem.W.codeIn K cd__law_draw "_law_draw" = true)
    (k__law_draw : PySem.W.keepIn K (.ref f__law_draw) = true)
    (a__law_lengths : PySem.W.nsIn K mainGlobals "_law_lengths" = some (some (.ref f__law_lengths)))
    (l__law_lengths : K.lookup f__law_lengths = some ⟨oc__law_lengths, od__law_lengths, .func (PySem.W.fnOf "_law_lengths" "_law_lengths" (defArgs s_l_lengths) (defBody s_l_lengths) (defScope s_l_lengths) .none kV__law_lengths doc__law_lengths pm__law_lengths an__law_lengths cd__law_lengths ct__law_lengths), osl__law_lengths⟩)
    (e__law_lengths : PySem.W.codeIn K cd__law_lengths "_law_lengths" = true)
    (k__law_lengths : PySem.W.keepIn K (.ref f__law_lengths) = true)
    (a__law_merge : PySem.W.nsIn K mainGlobals "_law_merge" = some (some (.ref f__law_merge)))
    (l__law_merge : K.lookup f__law_merge = some ⟨oc__law_merge, od__law_merge, .func (PySem.W.fnOf "_law_merge" "_law_merge" (defArgs s_l_merge) (defBody s_l_merge) (defScope s_l_merge) .none kV__law_merge doc__law_merge pm__law_merge an__law_merge cd__law_merge ct__law_merge), osl__law_merge⟩)
    (e__law_merge : PySem.W.codeIn K cd__law_merge "_law_merge" = true)
    (k__law_merge : PySem.W.keepIn K (.ref f__law_merge) = true)
    (a__law_things : PySem.W.nsIn K mainGlobals "_law_things" = some (some (.ref f__law_things)))
    (l__law_things : K.lookup f__law_things = some ⟨oc__law_things, od__law_things, .func (PySem.W.fnOf "_law_things" "_law_things" (defArgs s_l_things) (defBody s_l_things) (defScope s_l_things) .none kV__law_things doc__law_things pm__law_things an__law_things cd__law_things ct__law_things), osl__law_things⟩)
    (e__law_things : PySem.W.codeIn K cd__law_things "_law_things" = true)
    (k__law_things : PySem.W.keepIn K (.ref f__law_things) = true)
    (a__law_moved : PySem.W.nsIn K mainGlobals "_law_moved" = some (some (.ref f__law_moved)))
    (l__law_moved : K.lookup f__law_moved = some ⟨oc__law_moved, od__law_moved, .func (PySem.W.fnOf "_law_moved" "_law_moved" (defArgs s_l_moved) (defBody s_l_moved) (defScope s_l_moved) .none kV__law_moved doc__law_moved pm__law_moved an__law_moved cd__law_moved ct__law_moved), osl__law_moved⟩)
    (e__law_moved : PySem.W.codeIn K cd__law_moved "_law_moved" = true)
    (k__law_moved : PySem.W.keepIn K (.ref f__law_moved) = true)
    (a__law_changed : PySem.W.nsIn K mainGlobals "_law_changed" = some (some (.ref f__law_changed)))
    (l__law_changed : K.lookup f__law_changed = some ⟨oc__law_changed, od__law_changed, .func (PySem.W.fnOf "_law_changed" "_law_changed" (defArgs s_l_changed) (defBody s_l_changed) (defScope s_l_changed) .none kV__law_changed doc__law_changed pm__law_changed an__law_changed cd__law_changed ct__law_changed), osl__law_changed⟩)
    (e__law_changed : PySem.W.codeIn K cd__law_changed "_law_changed" = true)
    (k__law_changed : PySem.W.keepIn K (.ref f__law_changed) = true)
    (a__law_told_right : PySem.W.nsIn K mainGlobals "_law_told_right" = some (some (.ref f__law_told_right)))
    (l__law_told_right : K.lookup f__law_told_right = some ⟨oc__law_told_right, od__law_told_right, .func (PySem.W.fnOf "_law_told_right" "_law_told_right" (defArgs s_l_told_right) (defBody s_l_told_right) (defScope s_l_told_right) .none kV__law_told_right doc__law_told_right pm__law_told_right an__law_told_right cd__law_told_right ct__law_told_right), osl__law_told_right⟩)
    (e__law_told_right : PySem.W.codeIn K cd__law_told_right "_law_told_right" = true)
    (k__law_told_right : PySem.W.keepIn K (.ref f__law_told_right) = true)
    (a__law_by_hand_right : PySem.W.nsIn K mainGlobals "_law_by_hand_right" = some (some (.ref f__law_by_hand_right)))
    (l__law_by_hand_right : K.lookup f__law_by_hand_right = some ⟨oc__law_by_hand_right, od__law_by_hand_right, .func (PySem.W.fnOf "_law_by_hand_right" "_law_by_hand_right" (defArgs s_l_by_hand_right) (defBody s_l_by_hand_right) (defScope s_l_by_hand_right) .none kV__law_by_hand_right doc__law_by_hand_right pm__law_by_hand_right an__law_by_hand_right cd__law_by_hand_right ct__law_by_hand_right), osl__law_by_hand_right⟩)
    (e__law_by_hand_right : PySem.W.codeIn K cd__law_by_hand_right "_law_by_hand_right" = true)
    (k__law_by_hand_right : PySem.W.keepIn K (.ref f__law_by_hand_right) = true)
    (a_law : PySem.W.nsIn K mainGlobals "law" = some (some (.ref f_law)))
    (l_law : K.lookup f_law = some ⟨oc_law, od_law, .func (PySem.W.fnOf "law" "law" (defArgs s_law) (defBody s_law) (defScope s_law) .none kV_law doc_law pm_law an_law cd_law ct_law), osl_law⟩)
    (e_law : PySem.W.codeIn K cd_law "law" = true)
    (k_law : PySem.W.keepIn K (.ref f_law) = true)
    (g_MOST_THINGS : PySem.W.nsIn K mainGlobals "MOST_THINGS" = some (some u_MOST_THINGS))
    (r_MOST_THINGS : RelV (.int 4096) u_MOST_THINGS)
    (z_len : PySem.W.nsIn K mainGlobals "len" = some none)
    (z_min : PySem.W.nsIn K mainGlobals "min" = some none)
    (z_max : PySem.W.nsIn K mainGlobals "max" = some none)
    (z_range : PySem.W.nsIn K mainGlobals "range" = some none)
    (z_repr : PySem.W.nsIn K mainGlobals "repr" = some none)
    (z_isinstance : PySem.W.nsIn K mainGlobals "isinstance" = some none)
    (z_int : PySem.W.nsIn K mainGlobals "int" = some none)
    (z_bool : PySem.W.nsIn K mainGlobals "bool" = some none)
    (z_tuple : PySem.W.nsIn K mainGlobals "tuple" = some none)
    (z_list : PySem.W.nsIn K mainGlobals "list" = some none)
    (z_sum : PySem.W.nsIn K mainGlobals "sum" = some none)
    (z_all : PySem.W.nsIn K mainGlobals "all" = some none)
    (z_enumerate : PySem.W.nsIn K mainGlobals "enumerate" = some none)
    (z_str : PySem.W.nsIn K mainGlobals "str" = some none)
    : ∃ A, Txt K mg w A :=
  ⟨⟨f_is_whole, f_need_row, f_is_kept, f_are_picks, f_is_merge, f_need_merge, f_moved_things, f_move_merge, f_move_back, f__law_begun, f__law_draw, f__law_lengths, f__law_merge, f__law_things, f__law_moved, f__law_changed, f__law_told_right, f__law_by_hand_right, f_law, (PySem.W.fnOf "is_whole" "is_whole" (defArgs s_is_whole) (defBody s_is_whole) (defScope s_is_whole) .none (.ref D_is_whole) doc_is_whole pm_is_whole an_is_whole cd_is_whole ct_is_whole), (PySem.W.fnOf "need_row" "need_row" (defArgs s_need_row) (defBody s_need_row) (defScope s_need_row) .none kV_need_row doc_need_row pm_need_row an_need_row cd_need_row ct_need_row), (PySem.W.fnOf "is_kept" "is_kept" (defArgs s_is_kept) (defBody s_is_kept) (defScope s_is_kept) .none kV_is_kept doc_is_kept pm_is_kept an_is_kept cd_is_kept ct_is_kept), (PySem.W.fnOf "are_picks" "are_picks" (defArgs s_are_picks) (defBody s_are_picks) (defScope s_are_picks) .none kV_are_picks doc_are_picks pm_are_picks an_are_picks cd_are_picks ct_are_picks), (PySem.W.fnOf "is_merge" "is_merge" (defArgs s_is_merge) (defBody s_is_merge) (defScope s_is_merge) .none (.ref D_is_merge) doc_is_merge pm_is_merge an_is_merge cd_is_merge ct_is_merge), (PySem.W.fnOf "need_merge" "need_merge" (defArgs s_need_merge) (defBody s_need_merge) (defScope s_need_merge) .none (.ref D_need_merge) doc_need_merge pm_need_merge an_need_merge cd_need_merge ct_need_merge), (PySem.W.fnOf "moved_things" "moved_things" (defArgs s_moved_things) (defBody s_moved_things) (defScope s_moved_things) .none kV_moved_things doc_moved_things pm_moved_things an_moved_things cd_moved_things ct_moved_things), (PySem.W.fnOf "move_merge" "move_merge" (defArgs s_move_merge) (defBody s_move_merge) (defScope s_move_merge) .none kV_move_merge doc_move_merge pm_move_merge an_move_merge cd_move_merge ct_move_merge), (PySem.W.fnOf "move_back" "move_back" (defArgs s_move_back) (defBody s_move_back) (defScope s_move_back) .none kV_move_back doc_move_back pm_move_back an_move_back cd_move_back ct_move_back), (PySem.W.fnOf "_law_begun" "_law_begun" (defArgs s_l_begun) (defBody s_l_begun) (defScope s_l_begun) .none kV__law_begun doc__law_begun pm__law_begun an__law_begun cd__law_begun ct__law_begun), (PySem.W.fnOf "_law_draw" "_law_draw" (defArgs s_l_draw) (defBody s_l_draw) (defScope s_l_draw) .none kV__law_draw doc__law_draw pm__law_draw an__law_draw cd__law_draw ct__law_draw), (PySem.W.fnOf "_law_lengths" "_law_lengths" (defArgs s_l_lengths) (defBody s_l_lengths) (defScope s_l_lengths) .none kV__law_lengths doc__law_lengths pm__law_lengths an__law_lengths cd__law_lengths ct__law_lengths), (PySem.W.fnOf "_law_merge" "_law_merge" (defArgs s_l_merge) (defBody s_l_merge) (defScope s_l_merge) .none kV__law_merge doc__law_merge pm__law_merge an__law_merge cd__law_merge ct__law_merge), (PySem.W.fnOf "_law_things" "_law_things" (defArgs s_l_things) (defBody s_l_things) (defScope s_l_things) .none kV__law_things doc__law_things pm__law_things an__law_things cd__law_things ct__law_things), (PySem.W.fnOf "_law_moved" "_law_moved" (defArgs s_l_moved) (defBody s_l_moved) (defScope s_l_moved) .none kV__law_moved doc__law_moved pm__law_moved an__law_moved cd__law_moved ct__law_moved), (PySem.W.fnOf "_law_changed" "_law_changed" (defArgs s_l_changed) (defBody s_l_changed) (defScope s_l_changed) .none kV__law_changed doc__law_changed pm__law_changed an__law_changed cd__law_changed ct__law_changed), (PySem.W.fnOf "_law_told_right" "_law_told_right" (defArgs s_l_told_right) (defBody s_l_told_right) (defScope s_l_told_right) .none kV__law_told_right doc__law_told_right pm__law_told_right an__law_told_right cd__law_told_right ct__law_told_right), (PySem.W.fnOf "_law_by_hand_right" "_law_by_hand_right" (defArgs s_l_by_hand_right) (defBody s_l_by_hand_right) (defScope s_l_by_hand_right) .none kV__law_by_hand_right doc__law_by_hand_right pm__law_by_hand_right an__law_by_hand_right cd__law_by_hand_right ct__law_by_hand_right), (PySem.W.fnOf "law" "law" (defArgs s_law) (defBody s_law) (defScope s_law) .none kV_law doc_law pm_law an_law cd_law ct_law)⟩,
    { c_is_whole := ⟨⟨⟨_, _, .none, .ref D_is_whole, _, _, _, _, _, _, rfl, l_is_whole, e_is_whole, Or.inl ⟨rfl, rfl⟩, Or.inr ⟨D_is_whole, rfl, dd_is_whole⟩⟩, k_is_whole⟩, PySem.W.mg_of X G a_is_whole⟩
      c_need_row := ⟨fun_mk l_need_row e_need_row k_need_row, (fun_mk (st := s_need_row) l_need_row e_need_row k_need_row).binds (ps := ["thing"]) (fun _ _ _ _ _ _ us hl => match us, hl with | [_], _ => rfl), PySem.W.mg_of X G a_need_row⟩
      c_is_kept := ⟨fun_mk l_is_kept e_is_kept k_is_kept, (fun_mk (st := s_is_kept) l_is_kept e_is_kept k_is_kept).binds (ps := ["thing", "first", "second"]) (fun _ _ _ _ _ _ us hl => match us, hl with | [_, _, _], _ => rfl), PySem.W.mg_of X G a_is_kept⟩
      c_are_picks := ⟨fun_mk l_are_picks e_are_picks k_are_picks, (fun_mk (st := s_are_picks) l_are_picks e_are_picks k_are_picks).binds (ps := ["thing", "first", "second"]) (fun _ _ _ _ _ _ us hl => match us, hl with | [_, _, _], _ => rfl), PySem.W.mg_of X G a_are_picks⟩
      c_is_merge := ⟨⟨⟨_, _, .none, .ref D_is_merge, _, _, _, _, _, _, rfl, l_is_merge, e_is_merge, Or.inl ⟨rfl, rfl⟩, Or.inr ⟨D_is_merge, rfl, dd_is_merge⟩⟩, k_is_merge⟩, PySem.W.mg_of X G a_is_merge⟩
      c_need_merge := ⟨⟨⟨_, _, .none, .ref D_need_merge, _, _, _, _, _, _, rfl, l_need_merge, e_need_merge, Or.inl ⟨rfl, rfl⟩, Or.inr ⟨D_need_merge, rfl, dd_need_merge⟩⟩, k_need_merge⟩, PySem.W.mg_of X G a_need_merge⟩
      c_moved_things := ⟨fun_mk l_moved_things e_moved_things k_moved_things, (fun_mk (st := s_moved_things) l_moved_things e_moved_things k_moved_things).binds (ps := ["row", "merge"]) (fun _ _ _ _ _ _ us hl => match us, hl with | [_, _], _ => rfl), PySem.W.mg_of X G a_moved_things⟩
      c_move_merge := ⟨fun_mk l_move_merge e_move_merge k_move_merge, (fun_mk (st := s_move_merge) l_move_merge e_move_merge k_move_merge).binds (ps := ["row", "merge"]) (fun _ _ _ _ _ _ us hl => match us, hl with | [_, _], _ => rfl), PySem.W.mg_of X G a_move_merge⟩
      c_move_back := ⟨fun_mk l_move_back e_move_back k_move_back, (fun_mk (st := s_move_back) l_move_back e_move_back k_move_back).binds (ps := ["row", "merge"]) (fun _ _ _ _ _ _ us hl => match us, hl with | [_, _], _ => rfl), PySem.W.mg_of X G a_move_back⟩
      c__law_begun := ⟨fun_mk l__law_begun e__law_begun k__law_begun, (fun_mk (st := s_l_begun) l__law_begun e__law_begun k__law_begun).binds (ps := ["_law_script", "_law_turn"]) (fun _ _ _ _ _ _ us hl => match us, hl with | [_, _], _ => rfl), PySem.W.mg_of X G a__law_begun⟩
      c__law_draw := ⟨fun_mk l__law_draw e__law_draw k__law_draw, (fun_mk (st := s_l_draw) l__law_draw e__law_draw k__law_draw).binds (ps := ["_law_state", "_law_many"]) (fun _ _ _ _ _ _ us hl => match us, hl with | [_, _], _ => rfl), PySem.W.mg_of X G a__law_draw⟩
      c__law_lengths := ⟨fun_mk l__law_lengths e__law_lengths k__law_lengths, (fun_mk (st := s_l_lengths) l__law_lengths e__law_lengths k__law_lengths).binds (ps := ["_law_state"]) (fun _ _ _ _ _ _ us hl => match us, hl with | [_], _ => rfl), PySem.W.mg_of X G a__law_lengths⟩
      c__law_merge := ⟨fun_mk l__law_merge e__law_merge k__law_merge, (fun_mk (st := s_l_merge) l__law_merge e__law_merge k__law_merge).binds (ps := ["_law_state"]) (fun _ _ _ _ _ _ us hl => match us, hl with | [_], _ => rfl), PySem.W.mg_of X G a__law_merge⟩
      c__law_things := ⟨fun_mk l__law_things e__law_things k__law_things, (fun_mk (st := s_l_things) l__law_things e__law_things k__law_things).binds (ps := ["_law_state", "_law_many"]) (fun _ _ _ _ _ _ us hl => match us, hl with | [_, _], _ => rfl), PySem.W.mg_of X G a__law_things⟩
      c__law_moved := ⟨fun_mk l__law_moved e__law_moved k__law_moved, (fun_mk (st := s_l_moved) l__law_moved e__law_moved k__law_moved).binds (ps := ["_law_things_here", "_law_paper"]) (fun _ _ _ _ _ _ us hl => match us, hl with | [_, _], _ => rfl), PySem.W.mg_of X G a__law_moved⟩
      c__law_changed := ⟨fun_mk l__law_changed e__law_changed k__law_changed, (fun_mk (st := s_l_changed) l__law_changed e__law_changed k__law_changed).binds (ps := ["_law_things_here"]) (fun _ _ _ _ _ _ us hl => match us, hl with | [_], _ => rfl), PySem.W.mg_of X G a__law_changed⟩
      c__law_told_right := ⟨fun_mk l__law_told_right e__law_told_right k__law_told_right, (fun_mk (st := s_l_told_right) l__law_told_right e__law_told_right k__law_told_right).binds (ps := ["_law_state", "_law_paper", "_law_many"]) (fun _ _ _ _ _ _ us hl => match us, hl with | [_, _, _], _ => rfl), PySem.W.mg_of X G a__law_told_right⟩
      c__law_by_hand_right := ⟨fun_mk l__law_by_hand_right e__law_by_hand_right k__law_by_hand_right, (fun_mk (st := s_l_by_hand_right) l__law_by_hand_right e__law_by_hand_right k__law_by_hand_right).binds (ps := []) (fun _ _ _ _ _ _ us hl => match us, hl with | [], _ => rfl), PySem.W.mg_of X G a__law_by_hand_right⟩
      c_law := ⟨fun_mk l_law e_law k_law, (fun_mk (st := s_law) l_law e_law k_law).binds (ps := ["_law_script"]) (fun _ _ _ _ _ _ us hl => match us, hl with | [_], _ => rfl), PySem.W.mg_of X G a_law⟩
      g_MOST_THINGS := ⟨_, PySem.W.mg_of X G g_MOST_THINGS, r_MOST_THINGS⟩
      n_len := PySem.W.mg_none_of X G z_len
      n_min := PySem.W.mg_none_of X G z_min
      n_max := PySem.W.mg_none_of X G z_max
      n_range := PySem.W.mg_none_of X G z_range
      n_repr := PySem.W.mg_none_of X G z_repr
      n_isinstance := PySem.W.mg_none_of X G z_isinstance
      n_int := PySem.W.mg_none_of X G z_int
      n_bool := PySem.W.mg_none_of X G z_bool
      n_tuple := PySem.W.mg_none_of X G z_tuple
      n_list := PySem.W.mg_none_of X G z_list
      n_sum := PySem.W.mg_none_of X G z_sum
      n_all := PySem.W.mg_none_of X G z_all
      n_enumerate := PySem.W.mg_none_of X G z_enumerate
      n_str := PySem.W.mg_none_of X G z_str }⟩

def drw (l c a : Int) : List (Key × V) := [(.inr "left", .int l), (.inr "cell", .int c), (.inr "at", .int a)]
theorem k_lc : ¬ (("left" : Str) = "cell") := by decide +kernel
theorem k_la : ¬ (("left" : Str) = "at") := by decide +kernel
theorem k_ca : ¬ (("cell" : Str) = "at") := by decide +kernel
theorem k_ne {a b : Str} (h : ¬ a = b) : ¬ ((Sum.inr a : Key) = Sum.inr b) := fun e => h (Sum.inr.inj e)
theorem drw_left (l c a : Int) : valV (drw l c a) (.inr "left") = some (.int l) := valV_pos rfl
theorem drw_cell (l c a : Int) : valV (drw l c a) (.inr "cell") = some (.int c) := (valV_neg (k_ne k_lc)).trans (valV_pos rfl)
theorem drw_at (l c a : Int) : valV (drw l c a) (.inr "at") = some (.int a) := (valV_neg (k_ne k_la)).trans ((valV_neg (k_ne k_ca)).trans (valV_pos rfl))
theorem put_left (l c a x : Int) : putK (drw l c a) (.inr "left") (.int x) = drw x c a := by
  unfold putK drw
  simp [show ¬ (("cell" : Str) = "left") from fun e => k_lc e.symm, show ¬ (("at" : Str) = "left") from fun e => k_la e.symm]
theorem put_at (l c a x : Int) : putK (drw l c a) (.inr "at") (.int x) = drw l c x := by
  unfold putK drw
  simp [k_ca, k_la]
theorem merge_drw (l c a : Int) : mergeK [] (toK [(.str "left", .int l), (.str "cell", .int c), (.str "at", .int a)]) = drw l c a := by
  simp only [toK, mergeK, List.foldl_cons, List.foldl_nil]
  unfold putK drw
  simp [k_lc, k_la, k_ca, show ¬ (("cell" : Str) = "left") from fun e => k_lc e.symm, show ¬ (("at" : Str) = "left") from fun e => k_la e.symm, show ¬ (("at" : Str) = "cell") from fun e => k_ca e.symm]
local macro_rules | `(tactic| walk_at "val") => `(tactic| first | exact drw_left _ _ _ | exact drw_cell _ _ _ | exact drw_at _ _ _)
local macro_rules | `(tactic| walk_at "put") => `(tactic| first | exact put_left _ _ _ _ | exact put_at _ _ _ _ | exact merge_drw _ _ _)
/-! what they compute -/
/-- a merge's paper that is right -/
structure VM (s m e a b : Int) (pk : List Int) : Prop where
  s0 : 0 ≤ s
  sm : s < m
  me : m < e
  e1 : e ≤ 4096
  a0 : 0 ≤ a
  b0 : 0 ≤ b
  am : a ≤ m - s
  bm : b ≤ e - m
  ev : pk.length % 2 = 0
  pos : ∀ x ∈ pk, 1 ≤ x ∧ x ≤ 4096
  len : pk.length ≤ 1000
  sec : (pickI pk none none 2).sum = e - m - b
  fst : (pickI pk (some 1) none 2).sum = m - s - a
structure MA (H : Hp) (p kq pq : Addr) (s m e a b : Int) (pk : List Int) : Prop where
  hp : H p = some (.tup [.int s, .int m, .int e, .ref kq, .ref pq])
  hk : H kq = some (.tup [.int a, .int b])
  hq : H pq = some (.tup (pk.map V.int))
  ne : kq ≠ pq
theorem MA.led {H : Hp} {p kq pq : Addr} {s m e a b : Int} {pk : List Int} (R : MA H p kq pq s m e a b pk) : Hs H [] H [(p, .tup [.int s, .int m, .int e, .ref kq, .ref pq]), (kq, .tup [.int a, .int b]), (pq, .tup (pk.map V.int))] := by
  have h1 : p ≠ kq := ne_of R.hp R.hk (by intro z; cases z)
  have h2 : p ≠ pq := ne_of R.hp R.hq (by
    intro z
    injection z with z
    have z1 := congrArg (fun l => l[3]?) z
    simp only [List.getElem?_map] at z1
    cases hx : pk[3]? <;> simp [hx] at z1)
  refine Hs.start H [] _ (by simp [h1, h2, R.ne]) ?_ (fun b hb => nomatch hb)
  intro q hq
  simp only [List.mem_cons, List.not_mem_nil, or_false] at hq
  rcases hq with rfl | rfl | rfl
  · exact R.hp
  · exact R.hk
  · exact R.hq
/-! the promises -/
def sp_whole : Sp := fun vs H Q _ => ∃ (t l m : Int), vs = [.int t, .int l, .int m] ∧ Q (.bl (decide (l ≤ t) && decide (t ≤ m))) H
def sp_kept : Sp := fun vs H Q _ => ∃ (k : Addr) (a b f g : Int), vs = [.ref k, .int f, .int g] ∧ H k = some (.tup [.int a, .int b]) ∧ 0 ≤ a ∧ a ≤ f ∧ 0 ≤ b ∧ b ≤ g ∧ Q (.bl true) H
def sp_picks : Sp := fun vs H Q _ => ∃ (q : Addr) (pk : List Int) (f g : Int), vs = [.ref q, .int f, .int g] ∧ H q = some (.tup (pk.map V.int)) ∧ pk.length % 2 = 0 ∧ (∀ x ∈ pk, 1 ≤ x ∧ x ≤ 4096) ∧ pk.length ≤ 1000 ∧ (pickI pk none none 2).sum = g ∧ (pickI pk (some 1) none 2).sum = f ∧ ∀ H', Same H H' → Q (.bl true) H'
def sp_ismerge : Sp := fun vs H Q _ => ∃ (p kq pq : Addr) (s m e a b M : Int) (pk : List Int), vs = [.ref p, .int M] ∧ MA H p kq pq s m e a b pk ∧ VM s m e a b pk ∧ e ≤ M ∧ ∀ H', Same H H' → Q (.bl true) H'
def sp_needmerge : Sp := fun vs H Q _ => ∃ (p kq pq : Addr) (s m e a b M : Int) (pk : List Int), vs = [.ref p, .int M] ∧ MA H p kq pq s m e a b pk ∧ VM s m e a b pk ∧ e ≤ M ∧ ∀ H', Same H H' → Q .non H'
def sp_row : Sp := fun vs H Q _ => ∃ (a : Addr) (xs : List V), vs = [.ref a] ∧ H a = some (.lst xs) ∧ xs.length ≤ 4096 ∧ Q .non H
section
variable {P : Program} {w : World} {K : PySem.W.Frag} {mg : Str → Option Value} {base : Heap} {A : Ad}
theorem ok_is_whole (T : Txt K mg w A) : FnOk P w K mg base CX0 1 A.f_is_whole A.d_is_whole ["thing", "least", "most"] sp_whole := by
  refine T.c_is_whole.F.ok sc_is_whole (fun vs H Q E h => ?_) (fun cdv Ar outer s H vs Q E hr h => ?_)
  · obtain ⟨t, l, m, rfl, _⟩ := h; rfl
  · obtain ⟨t, l, m, rfl, k⟩ := h
    refine ⟨_, (pss_one (ps_ret (pe_and (pe_callB call_isi (by rfl) T.n_isinstance PyProof.Rows.boot_isinstance (pa_cons (pv 0) (pa_cons (pe_bltn (v := .ty "int") rfl T.n_int PyProof.Rows.boot_int rfl) pa_nil))) (pe_and (pe_not (pe_callB call_isi (by rfl) T.n_isinstance PyProof.Rows.boot_isinstance (pa_cons (pv 0) (pa_cons (pe_bltn (v := .ty "bool") rfl T.n_bool PyProof.Rows.boot_bool rfl) pa_nil)))) (pe_one (pe_chain op_le op_le (pv 1) (pv 0) (pv 2))))))), ?_⟩
    walk_at "st"
    have ki := Kin.int (K := K) (H := H) t
    walk_at "rd"
    refine rd_isi ki (kit_int _) ?_
    walk_at "rd"
    walk_at "if1"
    refine rd_isi ki (kit_bool _) ?_
    walk_at "rd"
    walk_at "if1"
    refine rd_dec ?_ ?_ <;> intro h1
    · walk_at "rd"
      rw [decide_eq_true h1, Bool.true_and] at k
      exact k
    · rw [decide_eq_false h1, Bool.false_and] at k
      exact k
theorem kb_lm (T : Txt K mg w A) : ∃ mv : List Value, KBn K A.d_is_whole ["thing", "least", "most"] 1 ["least", "most"] (fun us ws => us ++ ws ++ mv) (fun vs zs => vs ++ zs ++ []) := by
  refine T.c_is_whole.F.kbinds0 1 ["least", "most"] [] (fun us mv ws => us ++ ws ++ mv) (by simp) (by simp) (fun r1 r2 r3 => (r1.append r3).append r2) ?_
  intro D doc pm an cdv ct us mv ws h1 h2 h3
  match us, h1, mv, h2, ws, h3 with
  | [u], _, [], _, [y, z], _ => rfl
theorem kb_l (T : Txt K mg w A) : ∃ mv : List Value, KBn K A.d_is_whole ["thing", "least", "most"] 1 ["least"] (fun us ws => us ++ ws ++ mv) (fun vs zs => vs ++ zs ++ [.int 4096]) := by
  refine T.c_is_whole.F.kbinds0 1 ["least"] [("most", .int 4096)] (fun us mv ws => us ++ ws ++ mv) (by simp) (by simp) (fun r1 r2 r3 => (r1.append r3).append r2) ?_
  intro D doc pm an cdv ct us mv ws h1 h2 h3
  match us, h1, mv, h2, ws, h3 with
  | [u], _, [m], _, [y], _ => exact ⟨_, _, _, _, _, _, rfl, rfl, rfl⟩
theorem kb_m (T : Txt K mg w A) : ∃ mv : List Value, KBn K A.d_is_whole ["thing", "least", "most"] 1 ["most"] (fun us ws => us ++ mv ++ ws) (fun vs zs => vs ++ [.int 0] ++ zs) := by
  refine T.c_is_whole.F.kbinds0 1 ["most"] [("least", .int 0)] (fun us mv ws => us ++ mv ++ ws) (by simp) (by simp) (fun r1 r2 r3 => (r1.append r2).append r3) ?_
  intro D doc pm an cdv ct us mv ws h1 h2 h3
  match us, h1, mv, h2, ws, h3 with
  | [u], _, [m], _, [y], _ => exact ⟨_, _, _, _, _, _, rfl, rfl, rfl⟩
theorem ok_kept (T : Txt K mg w A) : FnOk P w K mg base CX0 2 A.f_is_kept A.d_is_kept ["thing", "first", "second"] sp_kept := by
  have G_is_whole : FnOk P w K mg base CX0 1 A.f_is_whole A.d_is_whole ["thing", "least", "most"] sp_whole := ok_is_whole T
  obtain ⟨mv, kb_is_whole_most⟩ := kb_m T
  refine T.c_is_kept.F.ok sc_is_kept (fun vs H Q E h => ?_) (fun cdv Ar outer s H vs Q E hr h => ?_)
  · obtain ⟨p, a, b, f, g, rfl, _⟩ := h; rfl
  · obtain ⟨p, a, b, f, g, rfl, hp, h1, h2, h3, h4, k⟩ := h
    refine ⟨_, (pss_cons (ps_if (PW.pt (pw_or (pt_not (pt_val (pe_callB call_isi (by rfl) T.n_isinstance PyProof.Rows.boot_isinstance (pa_cons (pv 0) (pa_cons (pe_bltn (v := .ty "tuple") rfl T.n_tuple PyProof.Rows.boot_tuple rfl) pa_nil))))) (pw_or1 (pt_cmpR op_ne (pe_callB call_len_seq (by rfl) T.n_len PySem.boot_len (pa_cons (pv 0) pa_nil)) pe_int (nomark _)))))
        (pss_one (ps_ret pe_bl))
        pss_nil)
      (pss_one (ps_ret (pe_and (pe_callN G_is_whole (hr.mono (by decide)) rfl T.c_is_whole.m T.c_is_whole.F.kp kb_is_whole_most pass0 (pa_cons (pe_ix ix_tup (pv 0) pe_int (fun _ _ => rfl)) pa_nil) (pk_cons (pv 1) pk_nil)) (pe_one (pe_callN G_is_whole (hr.mono (by decide)) rfl T.c_is_whole.m T.c_is_whole.F.kp kb_is_whole_most pass0 (pa_cons (pe_ix ix_tup (pv 0) pe_int (fun _ _ => rfl)) pa_nil) (pk_cons (pv 2) pk_nil))))))), ?_⟩
    have ki := Kin.tup (K := K) hp
    have S := Hs.start1 hp [] (.inl rfl)
    walk_at "st"
    walk_at "rd"
    refine rd_isi ki (kit_tuple _) ?_
    walk_at "rd"
    walk_at "if0"
    refine rd_decF (by simp) ?_
    walk_at "rd"
    refine ⟨rfl, rfl, a, 0, f, rfl, ?_⟩
    rw [decide_eq_true h1, decide_eq_true h2]
    walk_at "rd"
    walk_at "if1"
    refine ⟨rfl, rfl, b, 0, g, rfl, ?_⟩
    rw [decide_eq_true h3, decide_eq_true h4]
    exact k
theorem ok_picks (T : Txt K mg w A) : FnOk P w K mg base CX0 2 A.f_are_picks A.d_are_picks ["thing", "first", "second"] sp_picks := by
  have G_is_whole : FnOk P w K mg base CX0 1 A.f_is_whole A.d_is_whole ["thing", "least", "most"] sp_whole := ok_is_whole T
  obtain ⟨mv, kb_is_whole_least⟩ := kb_l T
  refine T.c_are_picks.F.ok sc_are_picks (fun vs H Q E h => ?_) (fun cdv Ar outer s H vs Q E hr h => ?_)
  · obtain ⟨q, pk, f, g, rfl, _⟩ := h; rfl
  · obtain ⟨q, pk, f, g, rfl, hq, h1, h2, h3, h4, h5, k⟩ := h
    refine ⟨_, (pss_cons (ps_if (PW.pt (pw_or (pt_not (pt_val (pe_callB call_isi (by rfl) T.n_isinstance PyProof.Rows.boot_isinstance (pa_cons (pv 0) (pa_cons (pe_bltn (v := .ty "tuple") rfl T.n_tuple PyProof.Rows.boot_tuple rfl) pa_nil))))) (pw_or1 (pt_cmpR op_ne (pe_op op_mod (pe_callB call_len_seq (by rfl) T.n_len PySem.boot_len (pa_cons (pv 0) pa_nil)) pe_int) pe_int (nomark _)))))
        (pss_one (ps_ret pe_bl))
        pss_nil)
      (pss_cons (ps_if (pt_not (pt_val (pe_callB (cr_all rfl) (by rfl) T.n_all PyProof.Rows.boot_all (pa_cons (pe_lc (own := [("many", 3)]) (g := gName 3) (tt := tYes) rfl sc_are_picks.nd (pi_tup (pv 0)) (blkOk_by (N := ["thing", "first", "second", "many"]) (sc := defScope s_are_picks) (by decide +kernel)) (fun _ _ _ _ _ => (pg_name (i := 3) sc_are_picks.nd rfl (Or.inl rfl))) (fun _ _ _ _ _ => pts_nil) (fun _ _ _ _ _ => (pe_callN G_is_whole (hr.mono (by decide)) rfl T.c_is_whole.m T.c_is_whole.F.kp kb_is_whole_least pass0 (pa_cons (pv 3) pa_nil) (pk_cons pe_int pk_nil)))) pa_nil))))
        (pss_one (ps_ret pe_bl))
        pss_nil)
      (pss_one (ps_ret (pe_and (pe_cmpR op_eq (pe_callB (cr_sumT rfl) (by rfl) T.n_sum PyProof.Rows.boot_sum (pa_cons (pe_slT3 (pv 0) po_none po_none (po_some pe_int)) pa_nil)) (pv 2) (nomark _)) (pe_one (pe_cmpR op_eq (pe_callB (cr_sumT rfl) (by rfl) T.n_sum PyProof.Rows.boot_sum (pa_cons (pe_slT3 (pv 0) (po_some pe_int) po_none (po_some pe_int)) pa_nil)) (pv 1) (nomark _)))))))), ?_⟩
    have ki := Kin.tup (K := K) hq
    have S := Hs.start1 hq [] (.inl rfl)
    walk_at "st"
    walk_at "rd"
    refine rd_isi ki (kit_tuple _) ?_
    walk_at "rd"
    walk_at "if0"
    refine rd_decF (by rename_i r e _ _; rw [List.length_map] at e; omega) ?_
    walk_at "rd"
    refine lcw_tup (xs := pk.map V.int) S (fun i acc => acc = (List.replicate i true).map V.bl) rfl (fun H' acc D S => S.tup (by walk_at "mem")) ?_ ?_
    · rintro D i x acc H1 hi rfl hD S
      obtain ⟨z, hz, rfl⟩ := List.mem_map.mp (List.mem_of_getElem? hi)
      have hz2 := h2 z hz
      have hil : i < 1000 := by
        have := (List.getElem?_eq_some_iff.mp hi).1
        rw [List.length_map] at this
        omega
      walk_at "lc"
      refine ⟨rfl, rfl, z, 1, 4096, rfl, ?_⟩
      rw [decide_eq_true hz2.1, decide_eq_true hz2.2]
      refine rd_lcPut S (by walk_at "chg") hD (by walk_at "size1") (by walk_at "sub") ?_
      rw [List.replicate_succ']
      simp
    · rintro D acc H1 rfl hD S
      rw [List.length_map] at S
      walk_at "rd"
      refine rd_all S (by walk_at "mem") rfl ?_
      rw [show (List.replicate pk.length true).all id = true by simp]
      walk_at "rd"
      walk_at "if0"
      refine rd_slR3 S (by walk_at "mem") rfl (by decide) (by decide) (Rs.sz (by have := pick_le pk none (Or.inl rfl); omega)) fun p H2 hp S2 => ?_
      walk_at "rd"
      refine rd_decT h4 ?_
      walk_at "rd"
      refine rd_slR3 S2 (by walk_at "mem") rfl (by decide) (by decide) (Rs.sz (by have := pick_le pk (some 1) (Or.inr rfl); omega)) fun p H2 hp S2 => ?_
      walk_at "rd"
      rw [decide_eq_true h5]
      apply k
      all_goals walk_at "end"
theorem take_more {ns : List Int} {i : Nat} {x : V} (h : (ns.map V.int)[i]? = some x) : ∃ z, x = .int z ∧ ns.take (i + 1) = ns.take i ++ [z] ∧ z ∈ ns ∧ i < ns.length := by
  obtain ⟨hl, e⟩ := List.getElem?_eq_some_iff.mp h
  rw [List.length_map] at hl
  rw [List.getElem_map] at e
  refine ⟨ns[i], e.symm, ?_, List.getElem_mem hl, hl⟩
  rw [List.take_succ, List.getElem?_eq_getElem hl]
  rfl
theorem ok_ismerge (T : Txt K mg w A) : FnOk P w K mg base CX0 3 A.f_is_merge A.d_is_merge ["thing", "most"] sp_ismerge := by
  have G_is_whole : FnOk P w K mg base CX0 1 A.f_is_whole A.d_is_whole ["thing", "least", "most"] sp_whole := ok_is_whole T
  have G_is_kept : FnOk P w K mg base CX0 2 A.f_is_kept A.d_is_kept ["thing", "first", "second"] sp_kept := ok_kept T
  have G_are_picks : FnOk P w K mg base CX0 2 A.f_are_picks A.d_are_picks ["thing", "first", "second"] sp_picks := ok_picks T
  obtain ⟨mv, kb_is_whole_least_most⟩ := kb_lm T
  obtain ⟨mv2, kb_is_whole_most⟩ := kb_m T
  refine T.c_is_merge.F.ok sc_is_merge (fun vs H Q E h => ?_) (fun cdv Ar outer s H vs Q E hr h => ?_)
  · obtain ⟨p, kq, pq, s, m, e, a, b, M, pk, rfl, _⟩ := h; rfl
  · obtain ⟨p, kq, pq, s, m, e, a, b, M, pk, rfl, R, W, hM, k⟩ := h
    obtain ⟨w1, w2, w3, w4, w5, w6, w7, w8, w9, w10, w11, w12, w13⟩ := W
    refine ⟨_, (pss_cons (ps_if (PW.pt (pw_or (pt_not (pt_val (pe_callB call_isi (by rfl) T.n_isinstance PyProof.Rows.boot_isinstance (pa_cons (pv 0) (pa_cons (pe_bltn (v := .ty "tuple") rfl T.n_tuple PyProof.Rows.boot_tuple rfl) pa_nil))))) (pw_or1 (pt_cmpR op_ne (pe_callB call_len_seq (by rfl) T.n_len PySem.boot_len (pa_cons (pv 0) pa_nil)) pe_int (nomark _)))))
        (pss_one (ps_ret pe_bl))
        pss_nil)
      (pss_cons (ps_asg (pv 0) (pg_tup rfl (pgs_cons (pg_name (i := 2) sc_is_merge.nd rfl (Or.inl rfl)) (pgs_cons (pg_name (i := 3) sc_is_merge.nd rfl (Or.inl rfl)) (pgs_cons (pg_name (i := 4) sc_is_merge.nd rfl (Or.inl rfl)) (pgs_cons (pg_name (i := 5) sc_is_merge.nd rfl (Or.inl rfl)) (pgs_cons (pg_name (i := 6) sc_is_merge.nd rfl (Or.inl rfl)) pgs_nil)))))))
      (pss_cons (ps_if (PW.pt (pw_or (pt_not (pt_val (pe_callN G_is_whole (hr.mono (by decide)) rfl T.c_is_whole.m T.c_is_whole.F.kp kb_is_whole_least_most pass0 (pa_cons (pv 4) pa_nil) (pk_cons pe_int (pk_cons (pv 1) pk_nil))))) (pw_or1 (pt_not (pt_val (pe_callN G_is_whole (hr.mono (by decide)) rfl T.c_is_whole.m T.c_is_whole.F.kp kb_is_whole_least_most pass0 (pa_cons (pv 3) pa_nil) (pk_cons pe_int (pk_cons (pe_op op_sub (pv 4) pe_int) pk_nil))))))))
        (pss_one (ps_ret pe_bl))
        pss_nil)
      (pss_cons (ps_if (PW.pt (pw_or (pt_not (pt_val (pe_callN G_is_whole (hr.mono (by decide)) rfl T.c_is_whole.m T.c_is_whole.F.kp kb_is_whole_most pass0 (pa_cons (pv 2) pa_nil) (pk_cons (pe_op op_sub (pv 3) pe_int) pk_nil)))) (pw_or1 (pt_not (pt_val (pe_call G_is_kept (hr.mono (by decide)) rfl T.c_is_kept.m T.c_is_kept.F.kp T.c_is_kept.b .nil pass0 (pa_cons (pv 5) (pa_cons (pe_op op_sub (pv 3) (pv 2)) (pa_cons (pe_op op_sub (pv 4) (pv 3)) pa_nil)))))))))
        (pss_one (ps_ret pe_bl))
        pss_nil)
      (pss_one (ps_ret (pe_call G_are_picks (hr.mono (by decide)) rfl T.c_are_picks.m T.c_are_picks.F.kp T.c_are_picks.b .nil pass0 (pa_cons (pv 6) (pa_cons (pe_op op_sub (pe_op op_sub (pv 3) (pv 2)) (pe_ix ix_tup (pv 5) pe_int (fun _ _ => rfl))) (pa_cons (pe_op op_sub (pe_op op_sub (pv 4) (pv 3)) (pe_ix ix_tup (pv 5) pe_int (fun _ _ => rfl))) pa_nil)))))))))), ?_⟩
    have ki := Kin.tup (K := K) R.hp
    have S := R.led
    walk_at "st"
    walk_at "rd"
    refine rd_isi ki (kit_tuple _) ?_
    walk_at "rd"
    walk_at "if0"
    refine rd_decF (by simp) ?_
    walk_at "rd"
    refine ⟨rfl, rfl, e, 2, M, rfl, ?_⟩
    rw [decide_eq_true (show 2 ≤ e by omega), decide_eq_true hM]
    walk_at "rd"
    walk_at "if0"
    refine ⟨rfl, rfl, m, 1, e - 1, rfl, ?_⟩
    rw [decide_eq_true (show 1 ≤ m by omega), decide_eq_true (show m ≤ e - 1 by omega)]
    walk_at "rd"
    walk_at "if0"
    refine ⟨rfl, rfl, s, 0, m - 1, rfl, ?_⟩
    rw [decide_eq_true w1, decide_eq_true (show s ≤ m - 1 by omega)]
    walk_at "rd"
    walk_at "if0"
    refine ⟨kq, a, b, m - s, e - m, rfl, R.hk, w5, w7, w6, w8, ?_⟩
    walk_at "rd"
    walk_at "if0"
    refine ⟨pq, pk, _, _, rfl, R.hq, w9, w10, w11, w12, w13, fun H' sm => ?_⟩
    exact k H' sm
theorem kb_mm (T : Txt K mg w A) : ∃ mv : List Value, KBn K A.d_is_merge ["thing", "most"] 1 ["most"] (fun us ws => us ++ ws ++ mv) (fun vs zs => vs ++ zs ++ []) := by
  refine T.c_is_merge.F.kbinds0 1 ["most"] [] (fun us mv ws => us ++ ws ++ mv) (by simp) (by simp) (fun r1 r2 r3 => (r1.append r3).append r2) ?_
  intro D doc pm an cdv ct us mv ws h1 h2 h3
  match us, h1, mv, h2, ws, h3 with
  | [u], _, [], _, [y], _ => rfl
theorem ok_needmerge (T : Txt K mg w A) : FnOk P w K mg base CX0 4 A.f_need_merge A.d_need_merge ["thing", "most"] sp_needmerge := by
  have G_is_merge : FnOk P w K mg base CX0 3 A.f_is_merge A.d_is_merge ["thing", "most"] sp_ismerge := ok_ismerge T
  obtain ⟨mv, kb_is_merge_most⟩ := kb_mm T
  refine T.c_need_merge.F.ok sc_need_merge (fun vs H Q E h => ?_) (fun cdv Ar outer s H vs Q E hr h => ?_)
  · obtain ⟨p, kq, pq, s, m, e, a, b, M, pk, rfl, _⟩ := h; rfl
  · obtain ⟨p, kq, pq, s, m, e, a, b, M, pk, rfl, R, W, hM, k⟩ := h
    refine ⟨_, (pss_one (ps_if (pt_not (pt_val (pe_callN G_is_merge (hr.mono (by decide)) rfl T.c_is_merge.m T.c_is_merge.F.kp kb_is_merge_most pass0 (pa_cons (pv 0) pa_nil) (pk_cons (pv 1) pk_nil))))
        (pss_one ps_never)
        pss_nil)), ?_⟩
    walk_at "st"
    walk_at "rd"
    refine ⟨rfl, rfl, p, kq, pq, s, m, e, a, b, M, pk, rfl, R, W, hM, fun H' sm => ?_⟩
    walk_at "rd"
    walk_at "if0"
    exact k H' sm
theorem ok_row (T : Txt K mg w A) : FnOk P w K mg base CX0 1 A.f_need_row A.d_need_row ["thing"] sp_row := by
  refine T.c_need_row.F.ok sc_need_row (fun vs H Q E h => ?_) (fun cdv Ar outer s H vs Q E hr h => ?_)
  · obtain ⟨a, xs, rfl, _⟩ := h; rfl
  · obtain ⟨a, xs, rfl, ha, hl, q⟩ := h
    refine ⟨_, (pss_cons (ps_if (pt_not (pt_val (pe_callB call_isi (by rfl) T.n_isinstance PyProof.Rows.boot_isinstance (pa_cons (pv 0) (pa_cons (pe_bltn (v := .ty "list") rfl T.n_list PyProof.Rows.boot_list rfl) pa_nil)))))
        (pss_one ps_never)
        pss_nil)
      (pss_one (ps_if (pt_cmpR op_gt (pe_callB call_len_seq (by rfl) T.n_len PySem.boot_len (pa_cons (pv 0) pa_nil)) (pe_gl rfl T.g_MOST_THINGS) (nomark _))
        (pss_one ps_never)
        pss_nil))), ?_⟩
    have S := Hs.start1 ha [] (.inl rfl)
    walk_at "st"
    walk_at "rd"
    refine rd_isi (Kin.lst ha) (kit_list _) ?_
    walk_at "rd"
    walk_at "if0"
    refine rd_decF (by omega) ?_
    walk_at "rd"
    exact q
end
end K29

namespace K29
open PySem L2 Rs Xc Xd
theorem VM.fit {s m e a b : Int} {pk : List Int} (W : VM s m e a b pk) {n : Nat} (hn : e ≤ n) : Fit (pk.map Int.toNat) (s + a).toNat m.toNat (e - b).toNat n := by
  obtain ⟨w1, w2, w3, w4, w5, w6, w7, w8, w9, w10, w11, w12, w13⟩ := W
  obtain ⟨q1, q2⟩ := ssum_pick pk fun z hz => by have := w10 z hz; omega
  exact ⟨by omega, by omega, by omega, by omega, by omega⟩
theorem MA.ledR {H : Hp} {p kq pq r : Addr} {s m e a b : Int} {pk : List Int} {xs : List V} (R : MA H p kq pq s m e a b pk) (hr : H r = some (.lst xs)) : Hs H [r] H [(r, .lst xs), (p, .tup [.int s, .int m, .int e, .ref kq, .ref pq]), (kq, .tup [.int a, .int b]), (pq, .tup (pk.map V.int))] := by
  have S := R.led
  have h1 : r ≠ p := ne_of hr R.hp (by intro z; cases z)
  have h2 : r ≠ kq := ne_of hr R.hk (by intro z; cases z)
  have h3 : r ≠ pq := ne_of hr R.hq (by intro z; cases z)
  refine Hs.start H [r] _ ?_ ?_ (fun b hb => by obtain rfl : b = r := by simpa using hb
                                                rw [hr]; simp)
  · rw [List.map_cons, List.nodup_cons]
    exact ⟨by simp [h1, h2, h3], S.nd⟩
  · intro q hq
    rcases List.mem_cons.mp hq with rfl | hq
    · exact hr
    · exact S.is q hq
theorem MA.more {H H' : Hp} {p kq pq r : Addr} {s m e a b : Int} {pk : List Int} {xs : List V} (R : MA H p kq pq s m e a b pk) (hr : H r = some (.lst xs)) (k : ∀ x o, H x = some o → x ≠ r → H' x = some o) : MA H' p kq pq s m e a b pk := by
  have h1 : p ≠ r := fun z => (ne_of hr R.hp (by intro z; cases z)) z.symm
  have h2 : kq ≠ r := fun z => (ne_of hr R.hk (by intro z; cases z)) z.symm
  have h3 : pq ≠ r := fun z => (ne_of hr R.hq (by intro z; cases z)) z.symm
  exact ⟨k _ _ R.hp h1, k _ _ R.hk h2, k _ _ R.hq h3, R.ne⟩
theorem MA.same {H H' : Hp} {p kq pq : Addr} {s m e a b : Int} {pk : List Int} (R : MA H p kq pq s m e a b pk) (k : Same H H') : MA H' p kq pq s m e a b pk :=
  ⟨k _ _ R.hp, k _ _ R.hk, k _ _ R.hq, R.ne⟩
theorem drop_more {pk : List Int} {i : Nat} {x : V} (h : (pk.map V.int)[i]? = some x) : ∃ z, x = .int z ∧ (pk.map Int.toNat).drop i = z.toNat :: (pk.map Int.toNat).drop (i + 1) ∧ z ∈ pk ∧ i < pk.length := by
  obtain ⟨hl, e⟩ := List.getElem?_eq_some_iff.mp h
  rw [List.length_map] at hl
  rw [List.getElem_map] at e
  refine ⟨pk[i], e.symm, ?_, List.getElem_mem hl, hl⟩
  rw [List.drop_eq_getElem_cons (by rw [List.length_map]; exact hl), List.getElem_map]
def sp_moved : Sp := fun vs H Q _ => ∃ (r p kq pq : Addr) (s m e a b : Int) (pk : List Int) (xs : List V), vs = [.ref r, .ref p] ∧ MA H p kq pq s m e a b pk ∧ VM s m e a b pk ∧ H r = some (.lst xs) ∧ xs.length ≤ 4096 ∧
  ∀ q H', H q = none → H' q = some (.lst (mix (pk.map Int.toNat) (xs.drop m.toNat) (xs.drop (s + a).toNat))) → Same H H' → Q (.ref q) H'
def sp_fwd : Sp := fun vs H Q _ => ∃ (r p kq pq : Addr) (s m e a b : Int) (pk : List Int) (xs : List V), vs = [.ref r, .ref p] ∧ MA H p kq pq s m e a b pk ∧ VM s m e a b pk ∧ H r = some (.lst xs) ∧ e ≤ xs.length ∧ xs.length ≤ 4096 ∧
  ∀ H', H' r = some (.lst (fwd (pk.map Int.toNat) (s + a).toNat m.toNat (e - b).toNat xs)) → (∀ x o, H x = some o → x ≠ r → H' x = some o) → Q .non H'
def sp_bck : Sp := fun vs H Q _ => ∃ (r p kq pq : Addr) (s m e a b : Int) (pk : List Int) (xs : List V), vs = [.ref r, .ref p] ∧ MA H p kq pq s m e a b pk ∧ VM s m e a b pk ∧ H r = some (.lst xs) ∧ e ≤ xs.length ∧ xs.length ≤ 4096 ∧
  ∀ H', H' r = some (.lst (bck (pk.map Int.toNat) (s + a).toNat (e - b).toNat xs)) → (∀ x o, H x = some o → x ≠ r → H' x = some o) → Q .non H'
theorem cutI_run (xs : List V) {x : Nat} {z : Int} (hz : 0 ≤ z) : cutV xs (some (x : Int)) (some ((x : Int) + z)) = (xs.drop x).take z.toNat := by
  have e : ((x : Int) + z) = ((x + z.toNat : Nat) : Int) := by omega
  rw [e, cut_run]
theorem par_next (i : Nat) : ((i : Int) % 2 = 0 ∧ i % 2 = 0 ∧ (i + 1) % 2 = 1) ∨ ((i : Int) % 2 = 1 ∧ i % 2 = 1 ∧ (i + 1) % 2 = 0) := by omega
section
variable {P : Program} {w : World} {K : PySem.W.Frag} {mg : Str → Option Value} {base : Heap} {A : Ad}
theorem ok_moved (T : Txt K mg w A) : FnOk P w K mg base CX0 5 A.f_moved_things A.d_moved_things ["row", "merge"] sp_moved := by
  refine T.c_moved_things.F.ok sc_moved_things (fun vs H Q E h => ?_) (fun cdv Ar outer s H vs Q E hr h => ?_)
  · obtain ⟨r, p, kq, pq, s, m, e, a, b, pk, xs, rfl, _⟩ := h; rfl
  · obtain ⟨r, p, kq, pq, s, m, e, a, b, pk, xs, rfl, R, W, hx, hl, k⟩ := h
    obtain ⟨w1, w2, w3, w4, w5, w6, w7, w8, w9, w10, w11, w12, w13⟩ := W
    refine ⟨_, (pss_cons (ps_par (i := 2) (j := 3) rfl sc_moved_things.nd rfl rfl (by decide) rfl rfl (pa_cons (pe_op op_add (pe_ix ix_tup (pv 1) pe_int (fun _ _ => rfl)) (pe_ix ix_tup (pe_ix ix_tup (pv 1) pe_int (fun _ _ => rfl)) pe_int (fun _ _ => rfl))) (pa_cons (pe_ix ix_tup (pv 1) pe_int (fun _ _ => rfl)) pa_nil)) (by rfl))
      (pss_cons (ps_set (i := 4) sc_moved_things.nd rfl (Or.inl rfl) (pe_lst pa_nil))
      (pss_cons (ps_for PassesOwn.never rfl (Xd.pi_enT (by rfl) T.n_enumerate (pa_cons (pe_ix ix_tup (pv 1) pe_int (fun _ _ => rfl)) pa_nil)) (pg_tup rfl (pgs_cons (pg_name (i := 5) sc_moved_things.nd rfl (Or.inl rfl)) (pgs_cons (pg_name (i := 6) sc_moved_things.nd rfl (Or.inl rfl)) pgs_nil)))
        (pss_one (ps_if (pt_cmpR op_eq (pe_op op_mod (pv 5) pe_int) pe_int (nomark _))
          (pss_cons (ps_aug (i := 4) sc_moved_things.nd rfl (Or.inl rfl) (pe_slice sl_list (pv 0) (po_some (pv 3)) (po_some (pe_op op_add (pv 3) (pv 6)))) Xd.ip_ext)
          (pss_one (ps_aug (i := 3) sc_moved_things.nd rfl (Or.inl rfl) (pv 6) ip_add)))
          (pss_cons (ps_aug (i := 4) sc_moved_things.nd rfl (Or.inl rfl) (pe_slice sl_list (pv 0) (po_some (pv 2)) (po_some (pe_op op_add (pv 2) (pv 6)))) Xd.ip_ext)
          (pss_one (ps_aug (i := 2) sc_moved_things.nd rfl (Or.inl rfl) (pv 6) ip_add))))))
      (pss_one (ps_ret (pv 4)))))), ?_⟩
    have e3 : atI [V.int s, V.int m, V.int e, V.ref kq, V.ref pq] 3 = some (V.ref kq) := atI_nat (j := 3) rfl
    have e4 : atI [V.int s, V.int m, V.int e, V.ref kq, V.ref pq] 4 = some (V.ref pq) := atI_nat (j := 4) rfl
    have S0 := R.ledR hx
    have S : Hs H [] H [(r, .lst xs), (p, .tup [.int s, .int m, .int e, .ref kq, .ref pq]), (kq, .tup [.int a, .int b]), (pq, .tup (pk.map V.int))] := ⟨S0.nd, S0.is, fun b o e _ => e, fun b hb => nomatch hb⟩
    clear S0
    generalize hN : pk.map Int.toNat = pN at k
    walk_at "st"
    walk_at "rd"
    rename_i q H1 hq S1
    clear S
    refine rd_enT ?_
    walk_at "rd"
    refine rd_enTI S1 (by walk_at "mem") ?_
    obtain ⟨f, hf⟩ : ∃ f : Nat, s + a = f := Int.eq_ofNat_of_zero_le (by omega)
    obtain ⟨m', rfl⟩ : ∃ m' : Nat, m = m' := Int.eq_ofNat_of_zero_le (by omega)
    rw [hf] at k ⊢
    simp only [Int.toNat_natCast] at k
    refine fw_enT (xs := pk.map V.int) (fun i σ H' => ∃ (x y : Nat) (zs : List V) (o1 o2 : Option V), σ = [some (.ref r), some (.ref p), some (.int x), some (.int y), some (.ref q), o1, o2] ∧ Hs H [] H' [(q, .lst zs), (r, .lst xs), (p, .tup [.int s, .int m', .int e, .ref kq, .ref pq]), (kq, .tup [.int a, .int b]), (pq, .tup (pk.map V.int))] ∧
      zs ++ (if i % 2 = 0 then mix (pN.drop i) (xs.drop y) (xs.drop x) else mix (pN.drop i) (xs.drop x) (xs.drop y)) = mix pN (xs.drop m') (xs.drop f) ∧ zs.length ≤ i * 4096) ⟨f, m', [], _, _, rfl, S1, by simp, by simp⟩ (fun i σ H' _ h => by
        obtain ⟨x, y, zs, o1, o2, _, S, _⟩ := h
        exact S.tup (by walk_at "mem")) ?_ ?_
    · rintro i v σ H2 T hi ⟨x, y, zs, o1, o2, rfl, S, e1, e2⟩ hT
      obtain ⟨z, rfl, dm, hz, hil⟩ := drop_more hi
      rw [hN] at dm
      have hz2 := w10 z hz
      obtain ⟨_, S2⟩ := S.new hT (.tup [.int (i : Nat), .int z])
      clear S
      have hi3 : i * 4096 ≤ 4096000 := by omega
      walk_at "rd"
      rcases par_next i with ⟨j1, j2, j3⟩ | ⟨j1, j2, j3⟩
      · refine rd_decT (by omega) ?_
        walk_at "rd"
        refine rd_slVx S2 (by walk_at "mem") fun g H3 hg S3 => ?_
        rw [cutI_run xs (by omega)] at S3
        refine rd_ext2 S3 (by walk_at "chg") (by walk_at "mem") (by walk_at "own") (by rw [sizeLine_eq]; simp only [List.length_take, List.length_drop]; omega) rfl fun H4 S4 => ?_
        walk_at "rd"
        refine ⟨x, y + z.toNat, _, _, _, by congr 4; rw [show (((y + z.toNat : Nat)) : Int) = (y : Int) + z by omega], S4.sub (by walk_at "sub"), ?_, ?_⟩
        · rw [if_pos j2, dm] at e1
          rw [if_neg (by omega), ← e1, List.append_assoc]
          simp only [mix, List.drop_drop]
        · simp only [List.length_append, List.length_take, List.length_drop]; omega
      · refine rd_decF (by omega) ?_
        walk_at "rd"
        refine rd_slVx S2 (by walk_at "mem") fun g H3 hg S3 => ?_
        rw [cutI_run xs (by omega)] at S3
        refine rd_ext2 S3 (by walk_at "chg") (by walk_at "mem") (by walk_at "own") (by rw [sizeLine_eq]; simp only [List.length_take, List.length_drop]; omega) rfl fun H4 S4 => ?_
        walk_at "rd"
        refine ⟨x + z.toNat, y, _, _, _, by congr 3; rw [show (((x + z.toNat : Nat)) : Int) = (x : Int) + z by omega], S4.sub (by walk_at "sub"), ?_, ?_⟩
        · rw [if_neg (by omega), dm] at e1
          rw [if_pos j3, ← e1, List.append_assoc]
          simp only [mix, List.drop_drop]
        · simp only [List.length_append, List.length_take, List.length_drop]; omega
    · rintro σ H2 ⟨x, y, zs, o1, o2, rfl, S, e1, e2⟩
      walk_at "rd"
      have en : pN.drop (pk.map V.int).length = [] := List.drop_of_length_le (by rw [← hN, List.length_map, List.length_map]; exact Nat.le_refl _)
      have e0 : zs = mix pN (xs.drop m') (xs.drop f) := by
        rw [← e1, en]
        simp [mix]
      subst e0
      exact k q H2 (by assumption) (S.get (by walk_at "mem")) S.same
theorem kb_nm (T : Txt K mg w A) : ∃ mv : List Value, KBn K A.d_need_merge ["thing", "most"] 1 ["most"] (fun us ws => us ++ ws ++ mv) (fun vs zs => vs ++ zs ++ []) := by
  refine T.c_need_merge.F.kbinds0 1 ["most"] [] (fun us mv ws => us ++ ws ++ mv) (by simp) (by simp) (fun r1 r2 r3 => (r1.append r3).append r2) ?_
  intro D doc pm an cdv ct us mv ws h1 h2 h3
  match us, h1, mv, h2, ws, h3 with
  | [u], _, [], _, [y], _ => rfl
theorem ok_fwd (T : Txt K mg w A) : FnOk P w K mg base CX0 6 A.f_move_merge A.d_move_merge ["row", "merge"] sp_fwd := by
  have G_need_row : FnOk P w K mg base CX0 1 A.f_need_row A.d_need_row ["thing"] sp_row := ok_row T
  have G_need_merge : FnOk P w K mg base CX0 4 A.f_need_merge A.d_need_merge ["thing", "most"] sp_needmerge := ok_needmerge T
  have G_moved_things : FnOk P w K mg base CX0 5 A.f_moved_things A.d_moved_things ["row", "merge"] sp_moved := ok_moved T
  obtain ⟨mv, kb_need_merge_most⟩ := kb_nm T
  refine T.c_move_merge.F.ok sc_move_merge (fun vs H Q E h => ?_) (fun cdv Ar outer s H vs Q E hr h => ?_)
  · obtain ⟨r, p, kq, pq, s, m, e, a, b, pk, xs, rfl, _⟩ := h; rfl
  · obtain ⟨r, p, kq, pq, s, m, e, a, b, pk, xs, rfl, R, W, hx, he, hl, k⟩ := h
    refine ⟨_, (pss_cons (ps_expr (pe_call G_need_row (hr.mono (by decide)) rfl T.c_need_row.m T.c_need_row.F.kp T.c_need_row.b .nil pass0 (pa_cons (pv 0) pa_nil)))
      (pss_cons (ps_expr (pe_callN G_need_merge (hr.mono (by decide)) rfl T.c_need_merge.m T.c_need_merge.F.kp kb_need_merge_most pass0 (pa_cons (pv 1) pa_nil) (pk_cons (pe_callB call_len_seq (by rfl) T.n_len PySem.boot_len (pa_cons (pv 0) pa_nil)) pk_nil)))
      (pss_cons (ps_asg (pv 1) (pg_tup rfl (pgs_cons (pg_name (i := 2) sc_move_merge.nd rfl (Or.inl rfl)) (pgs_cons (pg_name (i := 3) sc_move_merge.nd rfl (Or.inl rfl)) (pgs_cons (pg_name (i := 4) sc_move_merge.nd rfl (Or.inl rfl)) (pgs_cons (pg_name (i := 5) sc_move_merge.nd rfl (Or.inl rfl)) (pgs_cons (pg_name (i := 6) sc_move_merge.nd rfl (Or.inl rfl)) pgs_nil)))))))
      (pss_one (ps_asg (pe_call G_moved_things (hr.mono (by decide)) rfl T.c_moved_things.m T.c_moved_things.F.kp T.c_moved_things.b .nil pass0 (pa_cons (pv 0) (pa_cons (pv 1) pa_nil))) (pg_slc (pv 0) (po_some (pe_op op_add (pv 2) (pe_ix ix_tup (pv 5) pe_int (fun _ _ => rfl)))) (po_some (pe_op op_sub (pv 4) (pe_ix ix_tup (pv 5) pe_int (fun _ _ => rfl)))))))))), ?_⟩
    have S := R.ledR hx
    walk_at "st"
    walk_at "rd"
    refine ⟨r, xs, rfl, hx, hl, ?_⟩
    walk_at "rd"
    refine ⟨rfl, rfl, p, kq, pq, s, m, e, a, b, _, pk, rfl, R, W, by omega, fun H1 sm => ?_⟩
    have S1 := S.more sm
    clear S
    walk_at "rd"
    refine ⟨r, p, kq, pq, s, m, e, a, b, pk, xs, rfl, R.same sm, W, sm _ _ hx, hl, fun q H2 hq hq2 sm2 => ?_⟩
    obtain ⟨_, S2⟩ := S1.more1 sm2 hq hq2
    clear S1
    walk_at "rd"
    have F := W.fit (n := xs.length) he
    obtain ⟨w1, w2, w3, w4, w5, w6, w7, w8, w9, w10, w11, w12, w13⟩ := W
    have fl := fwd_len F
    refine gt_slcV S2 (zs := fwd (pk.map Int.toNat) (s + a).toNat m.toNat (e - b).toNat xs) (by walk_at "chg") (by walk_at "mem") (fun z => by
      have := S2.nd
      simp [z] at this) (by walk_at "own") (by omega) (by omega) (by omega) ?_ rfl fun H3 S3 => ?_
    · have := mix_len (pk.map Int.toNat) (xs.drop m.toNat) (xs.drop (s + a).toNat) (by rw [List.length_drop, F.s1]; omega) (by rw [List.length_drop, F.s2]; omega)
      rw [this, F.s1, F.s2, sizeLine_eq]
      omega
    · walk_at "rd"
      exact k H3 (S3.get (by walk_at "mem")) fun x o ho hxr => S3.old1 ho hxr
theorem ok_bck (T : Txt K mg w A) : FnOk P w K mg base CX0 6 A.f_move_back A.d_move_back ["row", "merge"] sp_bck := by
  have G_need_row : FnOk P w K mg base CX0 1 A.f_need_row A.d_need_row ["thing"] sp_row := ok_row T
  have G_need_merge : FnOk P w K mg base CX0 4 A.f_need_merge A.d_need_merge ["thing", "most"] sp_needmerge := ok_needmerge T
  obtain ⟨mv, kb_need_merge_most⟩ := kb_nm T
  refine T.c_move_back.F.ok sc_move_back (fun vs H Q E h => ?_) (fun cdv Ar outer s H vs Q E hr h => ?_)
  · obtain ⟨r, p, kq, pq, s, m, e, a, b, pk, xs, rfl, _⟩ := h; rfl
  · obtain ⟨r, p, kq, pq, s, m, e, a, b, pk, xs, rfl, R, W, hx, he, hl, k⟩ := h
    refine ⟨_, (pss_cons (ps_expr (pe_call G_need_row (hr.mono (by decide)) rfl T.c_need_row.m T.c_need_row.F.kp T.c_need_row.b .nil pass0 (pa_cons (pv 0) pa_nil)))
      (pss_cons (ps_expr (pe_callN G_need_merge (hr.mono (by decide)) rfl T.c_need_merge.m T.c_need_merge.F.kp kb_need_merge_most pass0 (pa_cons (pv 1) pa_nil) (pk_cons (pe_callB call_len_seq (by rfl) T.n_len PySem.boot_len (pa_cons (pv 0) pa_nil)) pk_nil)))
      (pss_cons (ps_asg (pv 1) (pg_tup rfl (pgs_cons (pg_name (i := 2) sc_move_back.nd rfl (Or.inl rfl)) (pgs_cons (pg_name (i := 3) sc_move_back.nd rfl (Or.inl rfl)) (pgs_cons (pg_name (i := 4) sc_move_back.nd rfl (Or.inl rfl)) (pgs_cons (pg_name (i := 5) sc_move_back.nd rfl (Or.inl rfl)) (pgs_cons (pg_name (i := 6) sc_move_back.nd rfl (Or.inl rfl)) pgs_nil)))))))
      (pss_cons (ps_asg2 (pe_op op_add (pv 2) (pe_ix ix_tup (pv 5) pe_int (fun _ _ => rfl))) (pg_name (i := 7) sc_move_back.nd rfl (Or.inl rfl)) (pg_name (i := 8) sc_move_back.nd rfl (Or.inl rfl)))
      (pss_cons (ps_set (i := 9) sc_move_back.nd rfl (Or.inl rfl) (pe_tup (pa_cons (pe_lst pa_nil) (pa_cons (pe_lst pa_nil) pa_nil))))
      (pss_cons (ps_for PassesOwn.never rfl (Xd.pi_enT (by rfl) T.n_enumerate (pa_cons (pv 6) pa_nil)) (pg_tup rfl (pgs_cons (pg_name (i := 10) sc_move_back.nd rfl (Or.inl rfl)) (pgs_cons (pg_name (i := 11) sc_move_back.nd rfl (Or.inl rfl)) pgs_nil)))
        (pss_cons (ps_expr (pe_bm PySem.F.plainAttrs_list PySem.F.slot_list_extend PySem.F.type_list_extend mt_extend (pe_ix ix_tup (pv 9) (pe_op op_mod (pv 10) pe_int) (fun _ _ => rfl)) (pa_cons (pe_slice sl_list (pv 0) (po_some (pv 8)) (po_some (pe_op op_add (pv 8) (pv 11)))) pa_nil)))
        (pss_one (ps_aug (i := 8) sc_move_back.nd rfl (Or.inl rfl) (pv 11) ip_add))))
      (pss_one (ps_asg (pe_op op_cat (pe_ix ix_tup (pv 9) pe_int (fun _ _ => rfl)) (pe_ix ix_tup (pv 9) pe_int (fun _ _ => rfl))) (pg_slc (pv 0) (po_some (pv 7)) (po_some (pe_op op_sub (pv 4) (pe_ix ix_tup (pv 5) pe_int (fun _ _ => rfl))))))))))))), ?_⟩
    have S := R.ledR hx
    walk_at "st"
    walk_at "rd"
    refine ⟨r, xs, rfl, hx, hl, ?_⟩
    walk_at "rd"
    refine ⟨rfl, rfl, p, kq, pq, s, m, e, a, b, _, pk, rfl, R, W, by omega, fun H1 sm => ?_⟩
    have S1 := S.more sm
    clear S
    have F := W.fit (n := xs.length) he
    obtain ⟨w1, w2, w3, w4, w5, w6, w7, w8, w9, w10, w11, w12, w13⟩ := W
    generalize hN : pk.map Int.toNat = pN at k F
    walk_at "rd"
    unfold tAsg2
    walk_at "rd"
    rename_i q0 H2 hq0 S2 q1 H3 hq1 S3 t H4 ht S4
    clear S1 S2 S3
    refine rd_enT ?_
    walk_at "rd"
    refine rd_enTI S4 (by walk_at "mem") ?_
    obtain ⟨f, hf⟩ : ∃ f : Nat, s + a = f := Int.eq_ofNat_of_zero_le (by omega)
    rw [hf] at k F ⊢
    simp only [Int.toNat_natCast] at k F
    refine fw_enT (xs := pk.map V.int) (fun i σ H' => ∃ (x : Nat) (z0 z1 : List V) (o1 o2 : Option V), σ = [some (.ref r), some (.ref p), some (.int s), some (.int m), some (.int e), some (.ref kq), some (.ref pq), some (.int f), some (.int x), some (.ref t), o1, o2] ∧ Hs H [r] H' [(t, .tup [.ref q0, .ref q1]), (q1, .lst z1), (q0, .lst z0), (r, .lst xs), (p, .tup [.int s, .int m, .int e, .ref kq, .ref pq]), (kq, .tup [.int a, .int b]), (pq, .tup (pk.map V.int))] ∧
      (z0 ++ (if i % 2 = 0 then (spl (pN.drop i) (xs.drop x)).1 else (spl (pN.drop i) (xs.drop x)).2) = (spl pN (xs.drop f)).1) ∧ (z1 ++ (if i % 2 = 0 then (spl (pN.drop i) (xs.drop x)).2 else (spl (pN.drop i) (xs.drop x)).1) = (spl pN (xs.drop f)).2) ∧ z0.length ≤ i * 4096 ∧ z1.length ≤ i * 4096) ⟨f, [], [], _, _, rfl, S4, by simp, by simp, by simp, by simp⟩ (fun i σ H' _ h => by
        obtain ⟨x, z0, z1, o1, o2, _, S, _⟩ := h
        exact S.tup (by walk_at "mem")) ?_ ?_
    · rintro i v σ H2 T hi ⟨x, z0, z1, o1, o2, rfl, S, e1, e2, b1, b2⟩ hT
      obtain ⟨z, rfl, dm, hz, hil⟩ := drop_more hi
      rw [hN] at dm
      have hz2 := w10 z hz
      obtain ⟨_, S2⟩ := S.new hT (.tup [.int (i : Nat), .int z])
      clear S
      have hi3 : i * 4096 ≤ 4096000 := by omega
      rcases par_next i with ⟨j1, j2, j3⟩ | ⟨j1, j2, j3⟩
      · walk_at "rd"
        rename_i rr hr1 hr2 hr3
        obtain rfl : rr = 0 := by omega
        refine rd_ixT S2 (v := .ref q0) (by walk_at "mem") (atI_nat (j := 0) rfl) ?_
        walk_at "rd"
        refine rd_slVx S2 (by walk_at "mem") fun g H3 hg S3 => ?_
        rw [cutI_run xs (by omega)] at S3
        walk_at "rd"
        refine rd_extM S3 (by walk_at "chg") (by walk_at "mem") (by walk_at "own") (by rw [sizeLine_eq]; simp only [List.length_take, List.length_drop]; omega) rfl fun H4 S4 => ?_
        walk_at "rd"
        refine ⟨x + z.toNat, _, _, _, _, by congr 9; rw [show (((x + z.toNat : Nat)) : Int) = (x : Int) + z by omega], S4.sub (by walk_at "sub"), ?_, ?_, ?_, ?_⟩
        · rw [if_pos j2, dm] at e1
          rw [if_neg (by omega), ← e1, List.append_assoc]
          simp only [spl, List.drop_drop]
        · rw [if_pos j2, dm] at e2
          rw [if_neg (by omega), ← e2]
          simp only [spl, List.drop_drop]
        · simp only [List.length_append, List.length_take, List.length_drop]; omega
        · omega
      · walk_at "rd"
        rename_i rr hr1 hr2 hr3
        obtain rfl : rr = 1 := by omega
        refine rd_ixT S2 (v := .ref q1) (by walk_at "mem") (atI_nat (j := 1) rfl) ?_
        walk_at "rd"
        refine rd_slVx S2 (by walk_at "mem") fun g H3 hg S3 => ?_
        rw [cutI_run xs (by omega)] at S3
        walk_at "rd"
        refine rd_extM S3 (by walk_at "chg") (by walk_at "mem") (by walk_at "own") (by rw [sizeLine_eq]; simp only [List.length_take, List.length_drop]; omega) rfl fun H4 S4 => ?_
        walk_at "rd"
        refine ⟨x + z.toNat, _, _, _, _, by congr 9; rw [show (((x + z.toNat : Nat)) : Int) = (x : Int) + z by omega], S4.sub (by walk_at "sub"), ?_, ?_, ?_, ?_⟩
        · rw [if_neg (by omega), dm] at e1
          rw [if_pos j3, ← e1]
          simp only [spl, List.drop_drop]
        · rw [if_neg (by omega), dm] at e2
          rw [if_pos j3, ← e2, List.append_assoc]
          simp only [spl, List.drop_drop]
        · omega
        · simp only [List.length_append, List.length_take, List.length_drop]; omega
    · rintro σ H5 ⟨x, z0, z1, o1, o2, rfl, S, e1, e2, b1, b2⟩
      have en : pN.drop (pk.map V.int).length = [] := List.drop_of_length_le (by rw [← hN, List.length_map, List.length_map]; exact Nat.le_refl _)
      rw [List.length_map] at en b1 b2
      have f1 : z0 = (spl pN (xs.drop f)).1 := by
        rw [← e1, List.length_map, en]
        simp [spl]
      have f2 : z1 = (spl pN (xs.drop f)).2 := by
        rw [← e2, List.length_map, en]
        simp [spl]
      clear S4 e1 e2
      have hl2 := spl_len pN (xs.drop f) (by rw [List.length_drop, F.s1, F.s2]; have := F.fm; have := F.me; have := F.en; omega)
      rw [← f1, ← f2, F.s1, F.s2] at hl2
      walk_at "rd"
      rename_i q H6 hq S6
      refine gt_slcV S6 (zs := bck pN f (e - b).toNat xs) (by walk_at "chg") (by walk_at "mem") (fun z => by
        have := S6.nd
        simp [z] at this) (by walk_at "own") (by omega) (by omega) (by omega) (by rw [sizeLine_eq, List.length_append]; omega) (by unfold bck; rw [← f1, ← f2, Int.toNat_natCast]) fun H7 S7 => ?_
      walk_at "rd"
      exact k H7 (S7.get (by walk_at "mem")) fun x o ho hxr => S7.old1 ho hxr
end
end K29

namespace K29
open PySem L2 Rs Xc Xd
local macro_rules | `(tactic| walk_at "val") => `(tactic| first | exact drw_left _ _ _ | exact drw_cell _ _ _ | exact drw_at _ _ _)
local macro_rules | `(tactic| walk_at "put") => `(tactic| first | exact put_left _ _ _ _ | exact put_at _ _ _ _ | exact merge_drw _ _ _)
def sp_begun (K : PySem.W.Frag) : Sp := fun vs H Q _ => ∃ (s : Addr) (ns : List Int) (k : Int), vs = [.ref s, .int k] ∧ SqL K H s (ns.map V.int) ∧ 0 ≤ k ∧ k ≤ 100 ∧ ∀ (d : Addr) (l c : Int) (H' : Hp), H d = none → H' d = some (.dK (drw l c 0)) → Same H H' → Q (.ref d) H'
def sp_draw : Sp := fun vs H Q _ => ∃ (d : Addr) (l c a n : Int), vs = [.ref d, .int n] ∧ H d = some (.dK (drw l c a)) ∧ 1 ≤ n ∧ n < 2 ^ 60 ∧ 0 ≤ a ∧ a < 2 ^ 40 ∧
  ∀ (r l' a' : Int) (H' : Hp), H' d = some (.dK (drw l' c a')) → (∀ b o, H b = some o → b ≠ d → H' b = some o) → 0 ≤ r → r < n → a ≤ a' → a' ≤ a + 1 → Q (.int r) H'
structure PK (a b : Int) (pk : List Int) : Prop where
  a0 : 0 ≤ a
  a1 : a ≤ 70
  b0 : 0 ≤ b
  b1 : b ≤ 70
  ev : pk.length % 2 = 0
  len : pk.length ≤ 12
  pos : ∀ x ∈ pk, 1 ≤ x ∧ x ≤ 80
  em : pk = [] → 1 ≤ a ∧ 1 ≤ b
def sp_lengths : Sp := fun vs H Q _ => ∃ (d : Addr) (l c a0 : Int), vs = [.ref d] ∧ H d = some (.dK (drw l c a0)) ∧ 0 ≤ a0 ∧ a0 < 2 ^ 39 ∧
  ∀ (q kq pq : Addr) (a b : Int) (pk : List Int) (l' a' : Int) (H' : Hp), NewL H H' [(q, .tup [.ref kq, .ref pq]), (pq, .tup (pk.map V.int)), (kq, .tup [.int a, .int b])] → H' d = some (.dK (drw l' c a')) → (∀ x o, H x = some o → x ≠ d → H' x = some o) → a0 ≤ a' → a' ≤ a0 + 40 → PK a b pk → Q (.ref q) H'
def sp_lmerge : Sp := fun vs H Q _ => ∃ (d : Addr) (l c a0 : Int), vs = [.ref d] ∧ H d = some (.dK (drw l c a0)) ∧ 0 ≤ a0 ∧ a0 < 2 ^ 39 ∧
  ∀ (t p kq pq : Addr) (s m e a b n : Int) (pk : List Int) (l' a' : Int) (H' : Hp), NewL H H' [(t, .tup [.ref p, .int n]), (p, .tup [.int s, .int m, .int e, .ref kq, .ref pq]), (pq, .tup (pk.map V.int)), (kq, .tup [.int a, .int b])] → H' d = some (.dK (drw l' c a')) → (∀ x o, H x = some o → x ≠ d → H' x = some o) → a0 ≤ a' → a' ≤ a0 + 60 → VM s m e a b pk → e ≤ n → n ≤ 1160 → (∀ x ∈ pk, x ≤ 80) → pk.length ≤ 12 → a ≤ 70 → b ≤ 70 → Q (.ref t) H'
theorem sum_le80 : ∀ {l : List Int}, (∀ x ∈ l, 1 ≤ x ∧ x ≤ 80) → 0 ≤ l.sum ∧ l.sum ≤ 80 * l.length ∧ (l ≠ [] → 1 ≤ l.sum)
  | [], _ => by simp
  | x :: l, h => by
    obtain ⟨a, b, _⟩ := sum_le80 (l := l) fun z hz => h z (List.mem_cons_of_mem _ hz)
    have := h x List.mem_cons_self
    simp
    omega
theorem sum_pk : ∀ pk : List Int, (∀ x ∈ pk, 1 ≤ x ∧ x ≤ 80) → (pickI pk none none 2).sum + (pickI pk (some 1) none 2).sum ≤ 80 * pk.length
  | [], _ => by rw [pick_nil, pick_nil]; simp
  | z :: r, h => by
    have h1 := sum_pk r fun y hy => h y (List.mem_cons_of_mem _ hy)
    have hz := h z List.mem_cons_self
    rw [pick_even, pick_odd, List.sum_cons, List.length_cons]
    omega
theorem pick_ne {pk : List Int} (h : 2 ≤ pk.length) : pickI pk none none 2 ≠ [] ∧ pickI pk (some 1) none 2 ≠ [] := by
  constructor
  · refine List.ne_nil_of_mem (a := pk[0]) (List.mem_filterMap.mpr ⟨0, ?_, by simp⟩)
    unfold ixT
    refine List.mem_map.mpr ⟨0, ?_, by simp [Builtin.Slice.sliceAdjust]⟩
    simp [Builtin.Slice.sliceAdjust, Builtin.Slice.slicePlaces]
    split <;> omega
  · refine List.ne_nil_of_mem (a := pk[1]) (List.mem_filterMap.mpr ⟨1, ?_, by simp⟩)
    unfold ixT
    have e1 : min (1 : Int) pk.length = 1 := by omega
    refine List.mem_map.mpr ⟨0, ?_, by simp [Builtin.Slice.sliceAdjust, e1]⟩
    simp [Builtin.Slice.sliceAdjust, Builtin.Slice.slicePlaces, e1]
    split <;> omega
/-- what stands in a list that is changed -/
def PlE (v : V) : Prop := v = .non ∨ ∃ i : Int, v = .int i ∧ i.natAbs < 10 ^ 4
/-- a thing -/
inductive Th (n : Nat) (H : Hp) : V → Prop
  | int (i : Int) (h : i.natAbs < 10 ^ 4) : Th n H (.int i)
  | str (x : Str) (h1 : x.cps.size ≤ 40) (h2 : ∀ c ∈ x.cps.toList, c < 16 ^ 8) : Th n H (.str x)
  | bl (b : Bool) : Th n H (.bl b)
  | lst (a : Addr) (ys : List V) (h : H a = some (.lst ys)) (hl : ys.length ≤ n) (hp : ∀ y ∈ ys, PlE y) : Th n H (.ref a)
  | tup (a : Addr) (i : Int) (h : H a = some (.tup [.non, .int i])) (hi : i.natAbs < 10 ^ 4) : Th n H (.ref a)
theorem Th.more {n m : Nat} {H H' : Hp} {v : V} (h : Th n H v) (hn : n ≤ m) (k : ∀ a o, v = .ref a → H a = some o → H' a = some o) : Th m H' v := by
  cases h with
  | int i h => exact .int i h
  | str x h1 h2 => exact .str x h1 h2
  | bl b => exact .bl b
  | lst a ys h hl hp => exact .lst a ys (k _ _ rfl h) (Nat.le_trans hl hn) hp
  | tup a i h hi => exact .tup a i (k _ _ rfl h) hi
theorem Th.there {n : Nat} {H : Hp} {a : Addr} (h : Th n H (.ref a)) : H a ≠ none := by
  cases h with
  | lst _ ys h hl hp => rw [h]; simp
  | tup _ i h hi => rw [h]; simp
theorem Hs.trans {H0 H H' : Hp} {M M2 : List Addr} {L L' : Led} (S : Hs H0 M H L) (T : Hs H M2 H' L') (hM : ∀ b ∈ M2, H0 b = none ∨ b ∈ M) : Hs H0 M H' L' := by
  refine ⟨T.nd, T.is, fun b o e hb => ?_, fun b hb => ?_⟩
  · refine T.old b o (S.old b o e hb) fun h2 => ?_
    rcases hM b h2 with z | z
    · rw [e] at z; cases z
    · exact hb z
  · by_cases h2 : b ∈ M2
    · exact T.mu b h2
    · intro z
      cases e : H b with
      | none => exact S.mu b hb e
      | some o => rw [T.old b o e h2] at z; cases z
theorem ofs_lt (s : String) : ∀ c ∈ (Str.ofString s).cps.toList, c < 16 ^ 8 := by
  rw [Str.ofString_eq_toList]
  intro c hc
  simp only [List.mem_map] at hc
  obtain ⟨x, _, rfl⟩ := hc
  have h := x.valid
  have : x.toNat < 0x110000 := by
    rcases h with h | h
    · exact Nat.lt_trans h (by decide)
    · exact h.2
  exact Nat.lt_trans this (by decide)
theorem t_len (i : Nat) (h : i < 1160) : (Str.ofString (toString (i : Int))).length ≤ 13 := PyData.shown_int_le (by rw [Int.natAbs_natCast]; omega)
theorem Th.text {n : Nat} {H : Hp} (i : Nat) (h : i < 1160) : Th n H (.str (Str.ofString "t" ++ Str.ofString (toString (i : Int)))) := by
  refine .str _ ?_ ?_
  · have := t_len i h
    show ((Str.ofString "t").cps ++ (Str.ofString (toString (i : Int))).cps).size ≤ 40
    rw [Array.size_append]
    have e : (Str.ofString "t").cps.size = 1 := by decide +kernel
    have e2 : (Str.ofString (toString (i : Int))).cps.size = (Str.ofString (toString (i : Int))).length := rfl
    omega
  · intro c hc
    have hc2 : c ∈ ((Str.ofString "t").cps ++ (Str.ofString (toString (i : Int))).cps).toList := hc
    rw [Array.toList_append] at hc2
    rcases List.mem_append.mp hc2 with z | z <;> exact ofs_lt _ c z
theorem log_small {i : Nat} (h : i < 1160) : (i : Int).natAbs.log2 < 1920 := by
  rw [Int.natAbs_natCast]
  by_cases z : i = 0
  · rw [z]; decide
  · have := (Nat.log2_lt z (k := 11)).mpr (by omega)
    omega
def sp_things : Sp := fun vs H Q _ => ∃ (d : Addr) (l c a0 : Int) (n : Nat), vs = [.ref d, .int n] ∧ H d = some (.dK (drw l c a0)) ∧ 0 ≤ a0 ∧ a0 < 2 ^ 39 ∧ n ≤ 1160 ∧
  ∀ (f : Addr) (xs : List V) (l' a' : Int) (H' : Hp), H f = none → H' f = some (.lst xs) → xs.length = n → (∀ v ∈ xs, Th 2 H' v ∧ ∀ a, v = .ref a → H a = none ∧ a ≠ f) → H' d = some (.dK (drw l' c a')) → (∀ x o, H x = some o → x ≠ d → H' x = some o) → a0 ≤ a' → a' ≤ a0 + n → Q (.ref f) H'
section
variable {P : Program} {w : World} {K : PySem.W.Frag} {mg : Str → Option Value} {base : Heap} {A : Ad} {H H0 : Hp} {M : List Addr} {L L' : Led} {Q : VK} {E : XK}
theorem ok_draw (T : Txt K mg w A) : FnOk P w K mg base CX0 1 A.f__law_draw A.d__law_draw ["_law_state", "_law_many"] sp_draw := by
  refine T.c__law_draw.F.ok sc_l_draw (fun vs H Q E h => ?_) (fun cdv Ar outer s H vs Q E hr h => ?_)
  · obtain ⟨d, l, c, a, n, rfl, _⟩ := h; rfl
  · obtain ⟨d, l, c, a, n, rfl, hd, hn1, hn2, ha1, ha2, k⟩ := h
    have hu := hu_of hr
    refine ⟨_, (pss_cons (ps_if (pt_cmpR op_gt (pe_dget hu (pv 0) pe_str (fun _ _ => rfl)) pe_int (nomark _))
        (pss_cons (ps_set (i := 2) sc_l_draw.nd rfl (Or.inl rfl) (pe_op op_mod (pe_dget hu (pv 0) pe_str (fun _ _ => rfl)) (pv 1)))
        (pss_cons (ps_dput hu (pv 0) pe_str (pe_op op_fdivW (pe_dget hu (pv 0) pe_str (fun _ _ => rfl)) (pv 1)) rfl)
        (pss_one (ps_ret (pv 2)))))
        pss_nil)
      (pss_cons (ps_set (i := 3) sc_l_draw.nd rfl (Or.inl rfl) (pe_op op_add (pe_dget hu (pv 0) pe_str (fun _ _ => rfl)) pe_int))
      (pss_cons (ps_dput hu (pv 0) pe_str (pv 3) rfl)
      (pss_cons (ps_set (i := 4) sc_l_draw.nd rfl (Or.inl rfl) (pe_ix ix_list (pe_lst (pa_cons pe_int (pa_cons pe_int (pa_cons pe_int (pa_cons pe_int (pa_cons pe_int pa_nil)))))) (pe_op op_mod (pv 3) pe_int) (fun _ _ => rfl)))
      (pss_cons (ps_set (i := 5) sc_l_draw.nd rfl (Or.inl rfl) (pe_op op_mod (pe_op op_mul (pe_op op_add (pe_op op_add (pe_op op_add (pe_op op_mod (pe_dget hu (pv 0) pe_str (fun _ _ => rfl)) (pv 4)) (pe_op op_mul (pe_op op_mul pe_int (pv 3)) (pv 3))) (pe_op op_mul pe_int (pv 3))) pe_int) pe_int) (pv 4)))
      (pss_one (ps_ret (pe_op op_mod (pe_op op_fdivW (pe_op op_mod (pe_op op_mul (pv 5) (pe_op op_add (pe_op op_mod (pv 5) pe_int) pe_int)) pe_int) pe_int) (pv 1))))))))), ?_⟩
    have S := Hs.start1 hd [d] (.inr rfl)
    walk_at "st"
    walk_at "rd"
    refine rd_dec ?_ ?_ <;> intro hb
    · walk_at "rd"
      apply k
      all_goals walk_at "end"
    · walk_at "rd"
      refine rd_ixAny (by assumption) (by walk_at "mem") (by assumption) (by simpa using (by assumption)) fun v hv _ => ?_
      obtain ⟨q, rfl, hq1, hq2⟩ : ∃ q, v = V.int q ∧ 0 < q ∧ q < 2 ^ 31 := by
        simp only [List.mem_cons, List.not_mem_nil, or_false] at hv
        rcases hv with rfl | rfl | rfl | rfl | rfl <;> exact ⟨_, rfl, by decide, by decide⟩
      walk_at "rd"
      apply k
      all_goals walk_at "end"
theorem use_draw {d : Addr} {l c a n : Int} {F : HO → Led} (S : Hs H0 M H L) (ch : ∀ o', Chg d (.dK (drw l c a)) o' L (F o')) (own : H0 d = none ∨ d ∈ M) (h1 : 1 ≤ n) (h2 : n < 2 ^ 60) (h3 : 0 ≤ a) (h4 : a < 2 ^ 40)
    (h : ∀ (r l' a' : Int) (H' : Hp), Hs H0 M H' (F (.dK (drw l' c a'))) → 0 ≤ r → r < n → a ≤ a' → a' ≤ a + 1 → Q (.int r) H') : sp_draw [.ref d, .int n] H Q E :=
  ⟨d, l, c, a, n, rfl, S.is _ (ch (.dK [])).mem, h1, h2, h3, h4, fun r l' a' H' e k b1 b2 b3 b4 => h r l' a' H' (S.one (ch _) own k e) b1 b2 b3 b4⟩
theorem ok_begun (T : Txt K mg w A) : FnOk P w K mg base CX0 1 A.f__law_begun A.d__law_begun ["_law_script", "_law_turn"] (sp_begun K) := by
  refine T.c__law_begun.F.ok sc_l_begun (fun vs H Q E h => ?_) (fun cdv Ar outer s H vs Q E hr h => ?_)
  · obtain ⟨x, ns, kk, rfl, _⟩ := h; rfl
  · obtain ⟨x, ns, kk, rfl, hs, hk1, hk2, k⟩ := h
    refine ⟨_, (pss_cons (ps_set (i := 2) sc_l_begun.nd rfl (Or.inl rfl) (pe_op op_add (pv 1) pe_int))
      (pss_cons (ps_for PassesOwn.never rfl (pi_list (pv 0)) (pg_name (i := 3) sc_l_begun.nd rfl (Or.inl rfl))
        (pss_one (ps_set (i := 2) sc_l_begun.nd rfl (Or.inl rfl) (pe_op op_add (pe_op op_mul (pv 2) pe_int) (pv 3)))))
      (pss_cons (ps_set (i := 4) sc_l_begun.nd rfl (Or.inl rfl) (pe_ifExp (pt_cmpR op_lt (pv 1) (pe_callB call_len_seq (by rfl) T.n_len PySem.boot_len (pa_cons (pv 0) pa_nil)) (nomark _)) (pe_ix ix_list (pv 0) (pv 1) (fun _ _ => rfl)) pe_int))
      (pss_one (ps_ret (pe_disp (pps_cons pe_str (pe_ifExp (pt_cmpR op_ge (pv 4) (pe_op op_pow pe_int pe_int) (nomark _)) (pv 4) pe_int) (pps_cons pe_str (pv 2) (pps_cons pe_str pe_int pps_nil))) (by rfl) (by rfl) (fun z => by cases z) (by decide))))))), ?_⟩
    have S := Hs.start0 H
    walk_at "st"
    walk_at "rd"
    refine ⟨x, rfl, ⟨_, S.sq hs (by simp)⟩, ?_⟩
    refine fw_list (xs := ns.map V.int) (fun i σ H' => ∃ (f : Int) (o : Option V), σ = [some (.ref x), some (.int kk), some (.int f), o, none] ∧ Hs H [] H' []) ⟨_, _, rfl, S⟩ (fun i σ H' _ h => by
      obtain ⟨f, o, _, S⟩ := h
      exact S.sq hs (by simp)) ?_ ?_
    · rintro i y σ H' hi ⟨f, o, rfl, S⟩
      obtain ⟨z, _, rfl⟩ := List.mem_map.mp (List.mem_of_getElem? hi)
      walk_at "rd"
      exact ⟨_, _, rfl, S⟩
    · rintro σ H' ⟨f, o, rfl, S⟩
      walk_at "rd"
      refine ⟨x, _, rfl, Or.inl (S.sq hs (by simp)), ?_⟩
      rw [List.length_map]
      walk_at "rd"
      have fin : ∀ own : Int, True := fun _ => trivial
      refine rd_dec ?_ ?_ <;> intro hc
      · obtain ⟨j, rfl⟩ := Int.eq_ofNat_of_zero_le hk1
        have hj : j < ns.length := by omega
        walk_at "rd"
        refine ⟨x, _, _, .int (ns.getD j 0), rfl, rfl, S.sq hs (by simp), ?_, ?_⟩
        · refine atI_nat (j := j) ?_
          rw [List.getElem?_map, List.getD_eq_getElem?_getD, List.getElem?_eq_getElem hj]
          rfl
        walk_at "rd"
        refine rd_dec ?_ ?_ <;> intro hd <;> walk_at "rd"
        · apply k
          all_goals walk_at "end"
        · apply k
          all_goals walk_at "end"
      · walk_at "rd"
        refine rd_dec ?_ ?_ <;> intro hd <;> walk_at "rd"
        · apply k
          all_goals walk_at "end"
        · apply k
          all_goals walk_at "end"
local macro_rules | `(tactic| walk_at "rd1") => `(tactic| ((with_reducible refine' K29.use_draw (by assumption) ?c ?o ?b1 ?b2 ?b3 ?b4 ?_); (case c => walk_at "chgF"); (case o => walk_at "own"); (case b1 => omega); (case b2 => omega); (case b3 => omega); (case b4 => omega); intro r l a H S h0 h1 h2 h3))
theorem ok_lengths (T : Txt K mg w A) : FnOk P w K mg base CX0 2 A.f__law_lengths A.d__law_lengths ["_law_state"] sp_lengths := by
  have G__law_draw : FnOk P w K mg base CX0 1 A.f__law_draw A.d__law_draw ["_law_state", "_law_many"] sp_draw := ok_draw T
  refine T.c__law_lengths.F.ok sc_l_lengths (fun vs H Q E h => ?_) (fun cdv Ar outer s H vs Q E hr h => ?_)
  · obtain ⟨d, l, c, a0, rfl, _⟩ := h; rfl
  · obtain ⟨d, l, c, a0, rfl, hd, h0, h1, k⟩ := h
    refine ⟨_, (pss_cons (ps_par (i := 1) (j := 2) rfl sc_l_lengths.nd rfl rfl (by decide) rfl rfl (pa_cons (pe_lst pa_nil) (pa_cons (pe_lst pa_nil) pa_nil)) (by rfl))
      (pss_cons (ps_for PassesOwn.never rfl (pi_range1 rfl T.n_range (pa_cons (pe_op op_mul pe_int (pe_call G__law_draw (hr.mono (by decide)) rfl T.c__law_draw.m T.c__law_draw.F.kp T.c__law_draw.b .nil pass0 (pa_cons (pv 0) (pa_cons pe_int pa_nil)))) pa_nil)) (pg_name (i := 3) sc_l_lengths.nd rfl (Or.inl rfl))
        (pss_cons (ps_set (i := 4) sc_l_lengths.nd rfl (Or.inl rfl) (pe_ix ix_list (pe_lst (pa_cons pe_int (pa_cons pe_int (pa_cons pe_int (pa_cons pe_int (pa_cons pe_int pa_nil)))))) (pe_call G__law_draw (hr.mono (by decide)) rfl T.c__law_draw.m T.c__law_draw.F.kp T.c__law_draw.b .nil pass0 (pa_cons (pv 0) (pa_cons pe_int pa_nil))) (fun _ _ => rfl)))
        (pss_one (ps_expr (pe_bm PySem.F.plainAttrs_list PySem.F.slot_list_append PySem.F.type_list_append mt_append (pv 1) (pa_cons (pe_op op_add pe_int (pe_call G__law_draw (hr.mono (by decide)) rfl T.c__law_draw.m T.c__law_draw.F.kp T.c__law_draw.b .nil pass0 (pa_cons (pv 0) (pa_cons (pv 4) pa_nil)))) pa_nil))))))
      (pss_cons (ps_for PassesOwn.never rfl (pi_range1 rfl T.n_range (pa_cons pe_int pa_nil)) (pg_name (i := 3) sc_l_lengths.nd rfl (Or.inl rfl))
        (pss_cons (ps_set (i := 4) sc_l_lengths.nd rfl (Or.inl rfl) (pe_ix ix_list (pe_lst (pa_cons pe_int (pa_cons pe_int (pa_cons pe_int (pa_cons pe_int (pa_cons pe_int pa_nil)))))) (pe_call G__law_draw (hr.mono (by decide)) rfl T.c__law_draw.m T.c__law_draw.F.kp T.c__law_draw.b .nil pass0 (pa_cons (pv 0) (pa_cons pe_int pa_nil))) (fun _ _ => rfl)))
        (pss_one (ps_expr (pe_bm PySem.F.plainAttrs_list PySem.F.slot_list_append PySem.F.type_list_append mt_append (pv 2) (pa_cons (pe_op op_add (pe_call G__law_draw (hr.mono (by decide)) rfl T.c__law_draw.m T.c__law_draw.F.kp T.c__law_draw.b .nil pass0 (pa_cons (pv 0) (pa_cons (pv 4) pa_nil))) (pe_callTy call_int1 (by rfl) T.n_int (by decide +kernel) (pa_cons (pe_cmpR (op_eqD hr.units) (pv 1) (pe_lst pa_nil) (nomark _)) pa_nil))) pa_nil))))))
      (pss_one (ps_ret (pe_tup (pa_cons (pe_callTy call_tuple_of (by rfl) T.n_tuple (by decide +kernel) (pa_cons (pv 2) pa_nil)) (pa_cons (pe_callTy call_tuple_of (by rfl) T.n_tuple (by decide +kernel) (pa_cons (pv 1) pa_nil)) pa_nil)))))))), ?_⟩
    have S := Hs.start1 hd [d] (.inr rfl)
    walk_at "st"
    walk_at "rd"
    rename_i p1 H1 hp1 S1 k1 H2 hk1 S2 r l1 a1 H3 S3 g0 g1 g2 g3
    obtain ⟨r', rfl⟩ := Int.eq_ofNat_of_zero_le g0
    clear S1 S2
    have hz12 : 2 * (r' : Int) ≤ 12 := by omega
    refine fw_range (fun i σ H' => ∃ o3 o4 l' a' pk, σ = [some (.ref d), some (.ref p1), some (.ref k1), o3, o4] ∧ Hs H [d] H' [(k1, .lst []), (p1, .lst (pk.map V.int)), (d, .dK (drw l' c a'))] ∧ pk.length = i ∧ (∀ x ∈ pk, 1 ≤ x ∧ x ≤ 80) ∧ a0 ≤ a' ∧ a' ≤ a0 + 1 + 2 * i) ⟨_, _, _, _, [], rfl, S3, rfl, by simp, by omega, by omega⟩ ?_ ?_
    · rintro i σ H4 hi ⟨o3, o4, l2, a2, pk, rfl, S, hl, hp, b1, b2⟩
      have hi2 : (i : Int) < 12 := by omega
      walk_at "rd"
      refine rd_ixAny (by assumption) (by walk_at "mem") (by assumption) (by simpa using (by assumption)) fun v hv _ => ?_
      obtain ⟨q, rfl, hq1, hq2⟩ : ∃ q, v = V.int q ∧ 1 ≤ q ∧ q ≤ 80 := by
        simp only [List.mem_cons, List.not_mem_nil, or_false] at hv
        rcases hv with rfl | rfl | rfl | rfl | rfl <;> exact ⟨_, rfl, by decide, by decide⟩
      walk_at "rd"
      rename_i r5 l5 a5 H5 S5 c0 c1 c2 c3 H6 S6
      have e : pk.map V.int ++ [V.int (1 + r5)] = (pk ++ [1 + r5]).map V.int := by simp
      rw [e] at S6
      refine ⟨_, _, _, _, pk ++ [1 + r5], rfl, S6.sub (by walk_at "sub"), by simp [hl], ?_, by omega, by omega⟩
      intro x hx
      rcases List.mem_append.mp hx with z | z
      · exact hp x z
      · obtain rfl : x = 1 + r5 := by simpa using z
        omega
    · rintro σ H4 ⟨o3, o4, l2, a2, pk, rfl, S, hl, hp, b1, b2⟩
      have hl2 : pk.length = 2 * r' := by omega
      clear S3
      walk_at "rd"
      refine fw_range (fun i σ H' => ∃ o3 o4 l' a' ks, σ = [some (.ref d), some (.ref p1), some (.ref k1), o3, o4] ∧ Hs H [d] H' [(k1, .lst (ks.map V.int)), (p1, .lst (pk.map V.int)), (d, .dK (drw l' c a'))] ∧ ks.length = i ∧ (∀ x ∈ ks, 0 ≤ x ∧ x ≤ 70 ∧ (pk = [] → 1 ≤ x)) ∧ a0 ≤ a' ∧ a' ≤ a0 + 26 + 2 * i) ⟨_, _, _, _, [], rfl, S, rfl, by simp, by omega, by omega⟩ ?_ ?_
      · rintro i σ H4 hi ⟨o3, o4, l2, a2, ks, rfl, S, hlk, hp, b1, b2⟩
        have hi2 : i < 2 := hi
        walk_at "rd"
        refine rd_ixAny (by assumption) (by walk_at "mem") (by assumption) (by simpa using (by assumption)) fun v hv _ => ?_
        obtain ⟨q, rfl, hq1, hq2⟩ : ∃ q, v = V.int q ∧ 1 ≤ q ∧ q ≤ 70 := by
          simp only [List.mem_cons, List.not_mem_nil, or_false] at hv
          rcases hv with rfl | rfl | rfl | rfl | rfl <;> exact ⟨_, rfl, by decide, by decide⟩
        walk_at "rd"
        refine rd_eqIs (ns := pk) (ms := []) (by assumption) (by walk_at "mem") (by walk_at "mem") (by rfl) (by rfl) ?_
        walk_at "rd"
        refine rd_int1b ?_
        walk_at "rd"
        rename_i r6 l6 a6 H6 S6 f0 f1 f2 f3 p7 H7 hp7 S7 H8 S8
        have e : ks.map V.int ++ [V.int (r6 + if decide (pk = []) = true then 1 else 0)] = (ks ++ [r6 + if decide (pk = []) = true then 1 else 0]).map V.int := by simp
        rw [e] at S8
        refine ⟨_, _, _, _, _, rfl, S8.sub (by walk_at "sub"), by simp [hlk], ?_, by omega, by omega⟩
        intro x hx
        rcases List.mem_append.mp hx with z | z
        · exact hp x z
        · have ex : x = r6 + if decide (pk = []) = true then 1 else 0 := by simpa using z
          by_cases hpk : pk = []
          · rw [decide_eq_true hpk, if_pos rfl] at ex
            exact ⟨by omega, by omega, fun _ => by omega⟩
          · rw [decide_eq_false hpk, if_neg (by simp)] at ex
            exact ⟨by omega, by omega, fun z => absurd z hpk⟩
      · rintro σ H4 ⟨o3, o4, l2, a2, ks, rfl, S, hlk, hpk, b1, b2⟩
        obtain ⟨x, y, rfl⟩ : ∃ x y, ks = [x, y] := by
          match ks, hlk with
          | [x, y], _ => exact ⟨x, y, rfl⟩
        obtain ⟨x0, x1, x2⟩ := hpk x (by simp)
        obtain ⟨y0, y1, y2⟩ := hpk y (by simp)
        have h26 : a2 ≤ a0 + 40 := by simp at b2; omega
        walk_at "rd"
        refine ⟨k1, _, rfl, Or.inl ⟨S.lst (by walk_at "mem"), fun kt hkt => ?_⟩⟩
        obtain ⟨hk0, S5⟩ := S.new hkt (.tup ([x, y].map V.int))
        walk_at "rd"
        refine ⟨p1, _, rfl, Or.inl ⟨S5.lst (by walk_at "mem"), fun pt hpt => ?_⟩⟩
        obtain ⟨hp0, S6⟩ := S5.new hpt (.tup (pk.map V.int))
        clear S5 S
        walk_at "rd"
        rename_i q H7 hq S7
        simp only [List.map_cons, List.map_nil] at S7
        refine k q kt pt x y pk l2 a2 H7 (S7.news (by walk_at "sub") ?_) (S7.get (by walk_at "mem")) (fun b o e hb => S7.old1 e hb) (by omega) (by omega) ⟨x0, x1, y0, y1, by omega, by omega, hp, fun z => ⟨x2 z, y2 z⟩⟩
        intro z hz
        simp only [List.mem_cons, List.not_mem_nil, or_false] at hz
        rcases hz with rfl | rfl | rfl <;> assumption
theorem ok_lmerge (T : Txt K mg w A) : FnOk P w K mg base CX0 3 A.f__law_merge A.d__law_merge ["_law_state"] sp_lmerge := by
  have G__law_lengths : FnOk P w K mg base CX0 2 A.f__law_lengths A.d__law_lengths ["_law_state"] sp_lengths := ok_lengths T
  have G__law_draw : FnOk P w K mg base CX0 1 A.f__law_draw A.d__law_draw ["_law_state", "_law_many"] sp_draw := ok_draw T
  refine T.c__law_merge.F.ok sc_l_merge (fun vs H Q E h => ?_) (fun cdv Ar outer s H vs Q E hr h => ?_)
  · obtain ⟨d, l, c, a0, rfl, _⟩ := h; rfl
  · obtain ⟨d, l, c, a0, rfl, hd, h0, h1, k⟩ := h
    refine ⟨_, (pss_cons (ps_asg (pe_call G__law_lengths (hr.mono (by decide)) rfl T.c__law_lengths.m T.c__law_lengths.F.kp T.c__law_lengths.b .nil pass0 (pa_cons (pv 0) pa_nil)) (pg_tup rfl (pgs_cons (pg_name (i := 1) sc_l_merge.nd rfl (Or.inl rfl)) (pgs_cons (pg_name (i := 2) sc_l_merge.nd rfl (Or.inl rfl)) pgs_nil))))
      (pss_cons (ps_par (i := 3) (j := 4) rfl sc_l_merge.nd rfl rfl (by decide) rfl rfl (pa_cons (pe_op op_add (pe_ix ix_tup (pv 1) pe_int (fun _ _ => rfl)) (pe_callB (cr_sumT rfl) (by rfl) T.n_sum PyProof.Rows.boot_sum (pa_cons (pe_slT3 (pv 2) (po_some pe_int) po_none (po_some pe_int)) pa_nil))) (pa_cons (pe_op op_add (pe_ix ix_tup (pv 1) pe_int (fun _ _ => rfl)) (pe_callB (cr_sumT rfl) (by rfl) T.n_sum PyProof.Rows.boot_sum (pa_cons (pe_slT3 (pv 2) po_none po_none (po_some pe_int)) pa_nil))) pa_nil)) (by rfl))
      (pss_cons (ps_set (i := 5) sc_l_merge.nd rfl (Or.inl rfl) (pe_call G__law_draw (hr.mono (by decide)) rfl T.c__law_draw.m T.c__law_draw.F.kp T.c__law_draw.b .nil pass0 (pa_cons (pv 0) (pa_cons (pe_ix ix_list (pe_lst (pa_cons pe_int (pa_cons pe_int (pa_cons pe_int pa_nil)))) (pe_call G__law_draw (hr.mono (by decide)) rfl T.c__law_draw.m T.c__law_draw.F.kp T.c__law_draw.b .nil pass0 (pa_cons (pv 0) (pa_cons pe_int pa_nil))) (fun _ _ => rfl)) pa_nil))))
      (pss_cons (ps_set (i := 6) sc_l_merge.nd rfl (Or.inl rfl) (pe_op op_add (pe_op op_add (pv 5) (pv 3)) (pv 4)))
      (pss_one (ps_ret (pe_tup (pa_cons (pe_tup (pa_cons (pv 5) (pa_cons (pe_op op_add (pv 5) (pv 3)) (pa_cons (pv 6) (pa_cons (pv 1) (pa_cons (pv 2) pa_nil)))))) (pa_cons (pe_op op_add (pv 6) (pe_call G__law_draw (hr.mono (by decide)) rfl T.c__law_draw.m T.c__law_draw.F.kp T.c__law_draw.b .nil pass0 (pa_cons (pv 0) (pa_cons (pe_ix ix_list (pe_lst (pa_cons pe_int (pa_cons pe_int (pa_cons pe_int pa_nil)))) (pe_call G__law_draw (hr.mono (by decide)) rfl T.c__law_draw.m T.c__law_draw.F.kp T.c__law_draw.b .nil pass0 (pa_cons (pv 0) (pa_cons pe_int pa_nil))) (fun _ _ => rfl)) pa_nil)))) pa_nil))))))))), ?_⟩
    have S := Hs.start1 hd [d] (.inr rfl)
    walk_at "st"
    walk_at "rd"
    refine ⟨d, l, c, a0, rfl, hd, h0, h1, fun q kq pq a b pk l1 a1 H1 n hd1 old b1 b2 W => ?_⟩
    obtain ⟨n0, S1⟩ := S.oneN .here (Or.inr (by simp)) old hd1 n
    simp only [List.cons_append, List.nil_append] at S1
    obtain ⟨w1, w2, w3, w4, w5, w6, w7, w8⟩ := W
    have nk : H kq = none := n.nw (kq, .tup [.int a, .int b]) (by simp)
    have np : H pq = none := n.nw (pq, .tup (pk.map V.int)) (by simp)
    clear S
    have e0 : atI [V.int a, V.int b] 0 = some (V.int a) := atI_nat (j := 0) rfl
    have e1 : atI [V.int a, V.int b] 1 = some (V.int b) := atI_nat (j := 1) rfl
    have q1 := sum_le80 (l := pickI pk (some 1) none 2) fun x hx => w7 x (pick_mem hx)
    have q0 := sum_le80 (l := pickI pk none none 2) fun x hx => w7 x (pick_mem hx)
    have l1' := pick_le pk (some 1) (Or.inr rfl)
    have l0' := pick_le pk none (Or.inl rfl)
    have u1 := sum_pk pk w7
    have f1 : 1 ≤ a + (pickI pk (some 1) none 2).sum ∧ 1 ≤ b + (pickI pk none none 2).sum := by
      by_cases z : pk = []
      · have := w8 z; omega
      · have : 2 ≤ pk.length := by
          have : pk.length ≠ 0 := fun y => z (List.eq_nil_of_length_eq_zero y)
          omega
        obtain ⟨y0, y1⟩ := pick_ne this
        have := q1.2.2 y1
        have := q0.2.2 y0
        omega
    walk_at "rd"
    refine rd_slR3 (ns := pk) S1 (by walk_at "mem") rfl (by decide) (by decide) (Rs.sz (by omega)) fun p2 H2 hp2 S2 => ?_
    clear S1
    walk_at "rd"
    refine rd_slR3 (ns := pk) S2 (by walk_at "mem") rfl (by decide) (by decide) (Rs.sz (by omega)) fun p3 H3 hp3 S3 => ?_
    clear S2
    walk_at "rd"
    rename_i r4 l4 a4 H4 S4 g0 g1 g2 g3
    refine rd_ixAny S4 (by walk_at "mem") (by assumption) (by simpa using (by assumption)) fun v hv _ => ?_
    obtain ⟨z1, rfl, y1, y2⟩ : ∃ q, v = V.int q ∧ 1 ≤ q ∧ q ≤ 31 := by
      simp only [List.mem_cons, List.not_mem_nil, or_false] at hv
      rcases hv with rfl | rfl | rfl <;> exact ⟨_, rfl, by decide, by decide⟩
    walk_at "rd"
    rename_i r5 l5 a5 H5 S5 c0 c1 c2 c3 p6 H6 hp6 S6 p7 H7 hp7 S7 r8 l8 a8 H8 S8 d0 d1 d2 d3
    refine rd_ixAny S8 (by walk_at "mem") (by assumption) (by simpa using (by assumption)) fun v hv _ => ?_
    obtain ⟨z2, rfl, x1, x2⟩ : ∃ q, v = V.int q ∧ 1 ≤ q ∧ q ≤ 31 := by
      simp only [List.mem_cons, List.not_mem_nil, or_false] at hv
      rcases hv with rfl | rfl | rfl <;> exact ⟨_, rfl, by decide, by decide⟩
    walk_at "rd"
    rename_i r9 l9 a9 H9 S9 m0 m1 m2 m3 t H10 ht S10
    refine k t p6 kq pq r5 (r5 + (a + (pickI pk (some 1) none 2).sum)) (r5 + (a + (pickI pk (some 1) none 2).sum) + (b + (pickI pk none none 2).sum)) a b _ pk l9 a9 H10 (S10.news (by walk_at "sub") ?_) (S10.get (by walk_at "mem")) (fun b o e hb => S10.old1 e hb) (by omega) (by omega) ⟨by omega, by omega, by omega, by omega, by omega, by omega, by omega, by omega, by omega, fun x hx => by have := w7 x hx; omega, by omega, by omega, by omega⟩ (by omega) (by omega) (fun x hx => (w7 x hx).2) w6 (by omega) (by omega)
    intro z hz
    simp only [List.mem_cons, List.not_mem_nil, or_false] at hz
    rcases hz with rfl | rfl | rfl | rfl <;> assumption
theorem ok_things (T : Txt K mg w A) : FnOk P w K mg base CX0 2 A.f__law_things A.d__law_things ["_law_state", "_law_many"] sp_things := by
  have G__law_draw : FnOk P w K mg base CX0 1 A.f__law_draw A.d__law_draw ["_law_state", "_law_many"] sp_draw := ok_draw T
  refine T.c__law_things.F.ok sc_l_things (fun vs H Q E h => ?_) (fun cdv Ar outer s H vs Q E hr h => ?_)
  · obtain ⟨d, l, c, a0, n, rfl, _⟩ := h; rfl
  · obtain ⟨d, l, c, a0, n, rfl, hd, h0, h1, hn, k⟩ := h
    refine ⟨_, (pss_cons (ps_par (i := 2) (j := 3) rfl sc_l_things.nd rfl rfl (by decide) rfl rfl (pa_cons (pe_lst (pa_cons pe_non (pa_cons pe_int pa_nil))) (pa_cons (pe_lst pa_nil) pa_nil)) (by rfl))
      (pss_cons (ps_for PassesOwn.never rfl (pi_range1 rfl T.n_range (pa_cons (pv 1) pa_nil)) (pg_name (i := 4) sc_l_things.nd rfl (Or.inl rfl))
        (pss_cons (ps_set (i := 5) sc_l_things.nd rfl (Or.inl rfl) (pe_call G__law_draw (hr.mono (by decide)) rfl T.c__law_draw.m T.c__law_draw.F.kp T.c__law_draw.b .nil pass0 (pa_cons (pv 0) (pa_cons pe_int pa_nil))))
        (pss_one (ps_expr (pe_bm PySem.F.plainAttrs_list PySem.F.slot_list_append PySem.F.type_list_append mt_append (pv 3) (pa_cons (pe_ix ix_list (pe_lst (pa_cons (pv 4) (pa_cons (pe_op op_add_str pe_str (pe_callTy call_str_int (by rfl) T.n_str (by decide +kernel) (pa_cons (pv 4) pa_nil))) (pa_cons (pe_lst (pa_cons (pv 4) (pa_cons pe_non pa_nil))) (pa_cons (pv 2) (pa_cons (pe_tup (pa_cons pe_non (pa_cons (pv 4) pa_nil))) (pa_cons (pe_op op_mod (pv 4) pe_int) (pa_cons (pe_cmpR op_eq (pe_op op_mod (pv 4) pe_int) pe_int (nomark _)) pa_nil)))))))) (pv 5) (fun _ _ => rfl)) pa_nil))))))
      (pss_one (ps_ret (pv 3))))), ?_⟩
    have S := Hs.start1 hd [d] (.inr rfl)
    walk_at "st"
    walk_at "rd"
    rename_i sh H1 hsh S1 f H2 hf S2
    clear S S1
    rw [Int.toNat_natCast]
    refine fw_range (fun i σ H' => ∃ o1 o2 l' a' xs, σ = [some (.ref d), some (.int n), some (.ref sh), some (.ref f), o1, o2] ∧ Hs H [d] H' [(f, .lst xs), (sh, .lst [.non, .int 0]), (d, .dK (drw l' c a'))] ∧ xs.length = i ∧ (∀ v ∈ xs, Th 2 H' v ∧ ∀ a, v = .ref a → H a = none ∧ a ≠ f ∧ a ≠ d) ∧ a0 ≤ a' ∧ a' ≤ a0 + i) ⟨_, _, _, _, [], rfl, S2, rfl, by simp, by omega, by omega⟩ ?_ ?_
    · rintro i σ H4 hi ⟨o1, o2, l2, a2, xs, rfl, S, hl, ht, b1, b2⟩
      have hi2 : i < n := hi
      have nz : ∀ {x : Addr}, H4 x = none → H x = none := fun h => (S.new h (.lst [])).1
      have hf4 := S.get (a := f) (by walk_at "mem")
      have hd4 := S.get (a := d) (by walk_at "mem")
      have S4 : Hs H4 [f, d] H4 [(f, .lst xs), (sh, .lst [.non, .int 0]), (d, .dK (drw l2 c a2))] := Hs.start H4 [f, d] _ S.nd S.is (fun b hb => by
        simp only [List.mem_cons, List.not_mem_nil, or_false] at hb
        rcases hb with rfl | rfl
        · rw [hf4]; simp
        · rw [hd4]; simp)
      simp only [Int.zero_add]
      walk_at "rd"
      rename_i r5 l5 a5 H5 S5 c0 c1 c2 c3
      refine ⟨_, rfl, log_small (by omega), _, _, rfl, rfl, ?_, ?_⟩
      · have := t_len i (by omega)
        have e : (Str.ofString "t").length = 1 := by decide +kernel
        rw [sizeLine_eq]
        omega
      walk_at "rd"
      rename_i p6 H6 hp6 S6 p7 H7 hp7 S7 y1 u1 u2 u3 y2 w1 w2 w3 p8 H8 hp8 S8
      refine rd_ixAny S8 (by walk_at "mem") (by assumption) (by simpa using (by assumption)) fun v hv _ => ?_
      walk_at "rd"
      rename_i H9 S9
      have S10 := K29.Hs.trans S S9 (fun b hb => by
        simp only [List.mem_cons, List.not_mem_nil, or_false] at hb
        rcases hb with rfl | rfl
        · exact Or.inl hf
        · exact Or.inr (by simp))
      have kept : ∀ x ∈ xs, Th 2 H9 x := fun x hx => (ht x hx).1.more (Nat.le_refl _) fun a o e ho => S9.old a o ho (by simp [((ht x hx).2 a e).2.1, ((ht x hx).2 a e).2.2])
      have nn : ∀ {x : Addr}, H4 x = none → H x = none ∧ x ≠ f ∧ x ≠ d := fun h => ⟨nz h, (fun z => by rw [z, hf4] at h; cases h), (fun z => by rw [z, hd4] at h; cases h)⟩
      have hi4 : (i : Int).natAbs < 10 ^ 4 := by omega
      have new : Th 2 H9 v ∧ ∀ a, v = .ref a → H a = none ∧ a ≠ f ∧ a ≠ d := by
        simp only [List.mem_cons, List.not_mem_nil, or_false] at hv
        rcases hv with rfl | rfl | rfl | rfl | rfl | rfl | rfl
        · exact ⟨.int _ hi4, fun a e => by cases e⟩
        · exact ⟨.text i (by omega), fun a e => by cases e⟩
        · refine ⟨.lst p6 _ (S9.get (by walk_at "mem")) (Nat.le_refl _) (fun y hy => ?_), fun a e => by cases e; exact nn hp6⟩
          simp only [List.mem_cons, List.not_mem_nil, or_false] at hy
          rcases hy with rfl | rfl
          · exact .inr ⟨_, rfl, hi4⟩
          · exact .inl rfl
        · refine ⟨.lst sh _ (S9.get (by walk_at "mem")) (Nat.le_refl _) (fun y hy => ?_), fun a e => by
            cases e
            have nd := S.nd
            simp only [List.map_cons, List.map_nil, List.nodup_cons, List.mem_cons, List.not_mem_nil, or_false, not_or] at nd
            exact ⟨hsh, fun z => nd.1.1 z.symm, nd.2.1⟩⟩
          simp only [List.mem_cons, List.not_mem_nil, or_false] at hy
          rcases hy with rfl | rfl
          · exact .inl rfl
          · exact .inr ⟨_, rfl, by decide⟩
        · exact ⟨.tup p7 _ (S9.get (by walk_at "mem")) hi4, fun a e => by cases e; exact nn hp7⟩
        · exact ⟨.int _ (by omega), fun a e => by cases e⟩
        · exact ⟨.bl _, fun a e => by cases e⟩
      refine ⟨_, _, _, _, _, rfl, S10.sub (by walk_at "sub"), by simp [hl], ?_, by omega, by omega⟩
      intro x hx
      rcases List.mem_append.mp hx with z | z
      · exact ⟨kept x z, (ht x z).2⟩
      · obtain rfl : x = v := by simpa using z
        exact new
    · rintro σ H4 ⟨o1, o2, l2, a2, xs, rfl, S, hl, ht, b1, b2⟩
      walk_at "rd"
      exact k f xs l2 a2 H4 hf (S.get (by walk_at "mem")) hl (fun v hv => ⟨(ht v hv).1, fun a e => ⟨((ht v hv).2 a e).1, ((ht v hv).2 a e).2.1⟩⟩) (S.get (by walk_at "mem")) (fun b o e hb => S.old1 e hb) (by omega) (by omega)
end
end K29

namespace K29
open PySem L2 Rs Xc Xd
def sp_lmoved : Sp := fun vs H Q _ => ∃ (r p kq pq : Addr) (s m e a b : Int) (pk : List Int) (xs : List V), vs = [.ref r, .ref p] ∧ MA H p kq pq s m e a b pk ∧ VM s m e a b pk ∧ H r = some (.lst xs) ∧ e ≤ xs.length ∧ xs.length ≤ 4096 ∧
  ∀ q H', H q = none → H' q = some (.lst (fwd (pk.map Int.toNat) (s + a).toNat m.toNat (e - b).toNat xs)) → Same H H' → Q (.ref q) H'
def sp_lchanged : Sp := fun vs H Q _ => ∃ (f : Addr) (xs : List V), vs = [.ref f] ∧ H f = some (.lst xs) ∧ V.ref f ∉ xs ∧ (∀ v ∈ xs, Th 2 H v) ∧ xs.length ≤ 1160 ∧
  ∀ H', (∀ v ∈ xs, Th (2 + xs.length) H' v) → (∀ x o, H x = some o → V.ref x ∉ xs → H' x = some o) → Q .non H'
section
variable {P : Program} {w : World} {K : PySem.W.Frag} {mg : Str → Option Value} {base : Heap} {A : Ad}
theorem ok_lmoved (T : Txt K mg w A) : FnOk P w K mg base CX0 1 A.f__law_moved A.d__law_moved ["_law_things_here", "_law_paper"] sp_lmoved := by
  refine T.c__law_moved.F.ok sc_l_moved (fun vs H Q E h => ?_) (fun cdv Ar outer s H vs Q E hr h => ?_)
  · obtain ⟨r, p, kq, pq, s, m, e, a, b, pk, xs, rfl, _⟩ := h; rfl
  · obtain ⟨r, p, kq, pq, s, m, e, a, b, pk, xs, rfl, R, W, hx, he, hl, k⟩ := h
    refine ⟨_, (pss_cons (ps_asg (pv 1) (pg_tup rfl (pgs_cons (pg_name (i := 2) sc_l_moved.nd rfl (Or.inl rfl)) (pgs_cons (pg_name (i := 3) sc_l_moved.nd rfl (Or.inl rfl)) (pgs_cons (pg_name (i := 4) sc_l_moved.nd rfl (Or.inl rfl)) (pgs_cons (pg_name (i := 5) sc_l_moved.nd rfl (Or.inl rfl)) (pgs_cons (pg_name (i := 6) sc_l_moved.nd rfl (Or.inl rfl)) pgs_nil)))))))
      (pss_cons (ps_par (i := 7) (j := 8) rfl sc_l_moved.nd rfl rfl (by decide) rfl rfl (pa_cons (pe_lst (pa_cons (pe_op op_add (pv 2) (pe_ix ix_tup (pv 5) pe_int (fun _ _ => rfl))) (pa_cons (pv 3) pa_nil))) (pa_cons (pe_slice sl_list (pv 0) po_none (po_some (pe_op op_add (pv 2) (pe_ix ix_tup (pv 5) pe_int (fun _ _ => rfl))))) pa_nil)) (by rfl))
      (pss_cons (ps_for PassesOwn.never rfl (Xd.pi_enT (by rfl) T.n_enumerate (pa_cons (pv 6) pa_nil)) (pg_tup rfl (pgs_cons (pg_name (i := 9) sc_l_moved.nd rfl (Or.inl rfl)) (pgs_cons (pg_name (i := 10) sc_l_moved.nd rfl (Or.inl rfl)) pgs_nil)))
        (pss_cons (ps_set (i := 11) sc_l_moved.nd rfl (Or.inl rfl) (pe_op op_sub pe_int (pe_op op_mod (pv 9) pe_int)))
        (pss_cons (ps_set (i := 8) sc_l_moved.nd rfl (Or.inl rfl) (pe_op op_cat (pv 8) (pe_slice sl_list (pv 0) (po_some (pe_ix ix_list (pv 7) (pv 11) (fun _ _ => rfl))) (po_some (pe_op op_add (pe_ix ix_list (pv 7) (pv 11) (fun _ _ => rfl)) (pv 10))))))
        (pss_one (ps_asg (pe_op op_add (pe_ix ix_list (pv 7) (pv 11) (fun _ _ => rfl)) (pv 10)) (pg_sub (pv 7) (pv 11) set_list))))))
      (pss_one (ps_ret (pe_op op_cat (pv 8) (pe_slice sl_list (pv 0) (po_some (pe_op op_sub (pv 4) (pe_ix ix_tup (pv 5) pe_int (fun _ _ => rfl)))) po_none))))))), ?_⟩
    have S0 := R.ledR hx
    have S : Hs H [] H [(r, .lst xs), (p, .tup [.int s, .int m, .int e, .ref kq, .ref pq]), (kq, .tup [.int a, .int b]), (pq, .tup (pk.map V.int))] := ⟨S0.nd, S0.is, fun b o e _ => e, fun b hb => nomatch hb⟩
    clear S0
    have F := W.fit (n := xs.length) he
    obtain ⟨w1, w2, w3, w4, w5, w6, w7, w8, w9, w10, w11, w12, w13⟩ := W
    generalize hN : pk.map Int.toNat = pN at k F
    walk_at "st"
    walk_at "rd"
    rename_i t H1 ht S1
    clear S
    obtain ⟨f, hf⟩ : ∃ f : Nat, s + a = f := Int.eq_ofNat_of_zero_le (by omega)
    obtain ⟨m', rfl⟩ : ∃ m' : Nat, m = m' := Int.eq_ofNat_of_zero_le (by omega)
    obtain ⟨e', he'⟩ : ∃ e' : Nat, e - b = e' := Int.eq_ofNat_of_zero_le (by omega)
    rw [hf] at k F S1 ⊢
    rw [he'] at k F
    simp only [Int.toNat_natCast] at k F
    refine rd_slVx S1 (by walk_at "mem") fun u H2 hu S2 => ?_
    rw [cut_to] at S2
    walk_at "rd"
    clear S1
    refine rd_enT ?_
    walk_at "rd"
    refine rd_enTI S2 (by walk_at "mem") ?_
    refine fw_enT (xs := pk.map V.int) (fun i σ H' => ∃ (u : Addr) (x y : Nat) (zs : List V) (o1 o2 o3 : Option V), σ = [some (.ref r), some (.ref p), some (.int s), some (.int m'), some (.int e), some (.ref kq), some (.ref pq), some (.ref t), some (.ref u), o1, o2, o3] ∧ Hs H [] H' [(u, .lst zs), (t, .lst [.int x, .int y]), (r, .lst xs), (p, .tup [.int s, .int m', .int e, .ref kq, .ref pq]), (kq, .tup [.int a, .int b]), (pq, .tup (pk.map V.int))] ∧
      zs ++ (if i % 2 = 0 then mix (pN.drop i) (xs.drop y) (xs.drop x) else mix (pN.drop i) (xs.drop x) (xs.drop y)) = xs.take f ++ mix pN (xs.drop m') (xs.drop f) ∧ zs.length ≤ i * 4096 + 4096) ⟨u, f, m', _, _, _, _, rfl, S2, by simp, by simp; omega⟩ (fun i σ H' _ h => by
        obtain ⟨u, x, y, zs, o1, o2, o3, _, S, _⟩ := h
        exact S.tup (by walk_at "mem")) ?_ ?_
    · rintro i v σ H2 T hi ⟨u, x, y, zs, o1, o2, o3, rfl, S, e1, e2⟩ hT
      obtain ⟨z, rfl, dm, hz, hil⟩ := drop_more hi
      rw [hN] at dm
      have hz2 := w10 z hz
      obtain ⟨_, S3⟩ := S.new hT (.tup [.int (i : Nat), .int z])
      clear S
      have hi3 : i * 4096 ≤ 4096000 := by omega
      rcases par_next i with ⟨j1, j2, j3⟩ | ⟨j1, j2, j3⟩
      · walk_at "rd"
        rename_i rr hr1 hr2 hr3
        obtain rfl : rr = 0 := by omega
        simp only [show (1 : Int) - 0 = 1 from rfl]
        have a1 : atI [V.int (x : Int), V.int (y : Int)] 1 = some (V.int (y : Int)) := atI_nat (j := 1) rfl
        walk_at "rd"
        refine rd_slVx S3 (by walk_at "mem") fun g H5 hg S5 => ?_
        rw [cutI_run xs (by omega)] at S5
        walk_at "rd"
        refine rd_catL S5 (by walk_at "mem") (by walk_at "mem") (by rw [sizeLine_eq]; simp only [List.length_take, List.length_drop]; omega) fun u2 H6 hu2 S6 => ?_
        walk_at "rd"
        refine gt_setL S6 (j := 1) (by walk_at "chg") (by walk_at "own") rfl fun H7 S7 => ?_
        walk_at "rd"
        dsimp only [List.set] at S7
        refine ⟨u2, x, y + z.toNat, zs ++ (xs.drop y).take z.toNat, _, _, _, rfl, ?_, ?_, ?_⟩
        · rw [show (((y + z.toNat : Nat)) : Int) = (y : Int) + z by omega]
          exact S7.sub (by walk_at "sub")
        · rw [if_pos j2, dm] at e1
          rw [if_neg (by omega), ← e1, List.append_assoc]
          simp only [mix, List.drop_drop]
        · simp only [List.length_append, List.length_take, List.length_drop]; omega
      · walk_at "rd"
        rename_i rr hr1 hr2 hr3
        obtain rfl : rr = 1 := by omega
        simp only [show (1 : Int) - 1 = 0 from rfl]
        have a1 : atI [V.int (x : Int), V.int (y : Int)] 0 = some (V.int (x : Int)) := atI_nat (j := 0) rfl
        walk_at "rd"
        refine rd_slVx S3 (by walk_at "mem") fun g H5 hg S5 => ?_
        rw [cutI_run xs (by omega)] at S5
        walk_at "rd"
        refine rd_catL S5 (by walk_at "mem") (by walk_at "mem") (by rw [sizeLine_eq]; simp only [List.length_take, List.length_drop]; omega) fun u2 H6 hu2 S6 => ?_
        walk_at "rd"
        refine gt_setL S6 (j := 0) (by walk_at "chg") (by walk_at "own") rfl fun H7 S7 => ?_
        walk_at "rd"
        dsimp only [List.set] at S7
        refine ⟨u2, x + z.toNat, y, zs ++ (xs.drop x).take z.toNat, _, _, _, rfl, ?_, ?_, ?_⟩
        · rw [show (((x + z.toNat : Nat)) : Int) = (x : Int) + z by omega]
          exact S7.sub (by walk_at "sub")
        · rw [if_neg (by omega), dm] at e1
          rw [if_pos j3, ← e1, List.append_assoc]
          simp only [mix, List.drop_drop]
        · simp only [List.length_append, List.length_take, List.length_drop]; omega
    · rintro σ H3 ⟨u, x, y, zs, o1, o2, o3, rfl, S, e1, e2⟩
      have en : pN.drop (pk.map V.int).length = [] := List.drop_of_length_le (by rw [← hN, List.length_map, List.length_map]; exact Nat.le_refl _)
      have e0 : zs = xs.take f ++ mix pN (xs.drop m') (xs.drop f) := by
        rw [← e1, en]
        simp [mix]
      rw [List.length_map] at e2
      walk_at "rd"
      rw [he']
      refine rd_slVx S (by walk_at "mem") fun g H5 hg S5 => ?_
      rw [cut_from] at S5
      refine rd_catL S5 (by walk_at "mem") (by walk_at "mem") (by rw [sizeLine_eq]; simp only [List.length_drop]; omega) fun u2 H6 hu2 S6 => ?_
      exact k u2 H6 hu2 (by rw [S6.get (a := u2) (o := .lst (zs ++ xs.drop e')) (by walk_at "mem"), e0]; rfl) S6.same
theorem ok_lchanged (T : Txt K mg w A) : FnOk P w K mg base CX0 1 A.f__law_changed A.d__law_changed ["_law_things_here"] sp_lchanged := by
  refine T.c__law_changed.F.ok sc_l_changed (fun vs H Q E h => ?_) (fun cdv Ar outer s H vs Q E hr h => ?_)
  · obtain ⟨f, xs, rfl, _⟩ := h; rfl
  · obtain ⟨f, xs, rfl, hf, hn, ht, hl, k⟩ := h
    refine ⟨_, (pss_one (ps_for PassesOwn.never rfl (pi_list (pv 0)) (pg_name (i := 1) sc_l_changed.nd rfl (Or.inl rfl))
        (pss_one (ps_if (pt_val (pe_callB call_isi (by rfl) T.n_isinstance PyProof.Rows.boot_isinstance (pa_cons (pv 1) (pa_cons (pe_bltn (v := .ty "list") rfl T.n_list PyProof.Rows.boot_list rfl) pa_nil))))
          (pss_one (ps_expr (pe_bm PySem.F.plainAttrs_list PySem.F.slot_list_append PySem.F.type_list_append mt_append (pv 1) (pa_cons (pe_callB call_len_seq (by rfl) T.n_len PySem.boot_len (pa_cons (pv 1) pa_nil)) pa_nil))))
          pss_nil)))), ?_⟩
    have S := Hs.start1 hf [] (.inl rfl)
    walk_at "st"
    walk_at "rd"
    refine fw_list (xs := xs) (fun i σ H' => ∃ o, σ = [some (.ref f), o] ∧ (∀ v ∈ xs, Th (2 + i) H' v) ∧ ∀ x o, H x = some o → V.ref x ∉ xs → H' x = some o) ⟨_, rfl, ht, fun x o e _ => e⟩ (fun i σ H' _ h => by
      obtain ⟨o, _, _, k⟩ := h
      exact SqL.of (k _ _ hf hn)) ?_ ?_
    · rintro i v σ H1 hi ⟨o, rfl, h1, h2⟩
      have hv := List.mem_of_getElem? hi
      have hil : i < xs.length := (List.getElem?_eq_some_iff.mp hi).1
      have skip : ∃ o, ([some (.ref f), some v] : List (Option V)) = [some (.ref f), o] ∧ (∀ v ∈ xs, Th (2 + (i + 1)) H1 v) ∧ ∀ x o, H x = some o → V.ref x ∉ xs → H1 x = some o :=
        ⟨_, rfl, fun v hv => (h1 v hv).more (by omega) fun _ _ _ e => e, h2⟩
      walk_at "rd"
      have hv0 := hv
      cases h1 v hv with
      | int z hz =>
        refine rd_isi (Kin.int z) (kit_list _) ?_
        walk_at "rd"
        walk_at "if0"
        exact skip
      | str x x1 x2 =>
        refine rd_isi (Kin.str x) (kit_list _) ?_
        walk_at "rd"
        walk_at "if0"
        exact skip
      | bl b =>
        refine rd_isi (Kin.bl b) (kit_list _) ?_
        walk_at "rd"
        walk_at "if0"
        exact skip
      | tup a z ha hz =>
        refine rd_isi (Kin.tup ha) (kit_list _) ?_
        walk_at "rd"
        walk_at "if0"
        exact skip
      | lst a ys ha hy hp =>
        refine rd_isi (Kin.lst ha) (kit_list _) ?_
        have S1 := Hs.start1 ha [a] (.inr rfl)
        walk_at "rd"
        walk_at "if1"
        rename_i H2 S2
        refine ⟨_, rfl, fun v hv => ?_, fun x o ho hx => S2.old1 (h2 x o ho hx) fun z => hx (by rw [z]; exact hv0)⟩
        by_cases e : v = .ref a
        · subst e
          refine .lst a _ (S2.get (by walk_at "mem")) (by rw [List.length_append]; simp; omega) fun y hy => ?_
          rcases List.mem_append.mp hy with z | z
          · exact hp y z
          · obtain rfl : y = V.int ys.length := by simpa using z
            exact .inr ⟨_, rfl, by omega⟩
        · exact (h1 v hv).more (by omega) fun b o eb ho => S2.old1 ho fun z => e (by rw [eb, z])
    · rintro σ H1 ⟨o, rfl, h1, h2⟩
      walk_at "rd"
      exact k H1 h1 h2
end
end K29

namespace K29
open PySem L2 Rs Xc Xd PyProof.Rows
/-- the data of what is small -/
def de : V → PyData
  | .int i => .int i
  | .str x => .str x
  | .bl b => .bool b
  | _ => .none
def dat (H : Hp) : V → PyData
  | .ref a => match H a with
    | some (.lst ys) => .list (ys.map de)
    | some (.tup ys) => .tuple (ys.map de)
    | _ => .none
  | v => de v
def txt (H : Hp) (xs : List V) : Str := (PyData.list (xs.map (dat H))).shown
theorem int_short {i : Int} (h : i.natAbs < 10 ^ 4) : (PyData.int i).showable = true ∧ (PyData.shown (.int i)).length ≤ 5 := by
  constructor
  · have h2 : i.natAbs.log2 < 1920 := by
      by_cases z : i.natAbs = 0
      · rw [z]; decide
      · have := (Nat.log2_lt z (k := 14)).mpr (by omega)
        omega
    simp only [PyData.showable, decide_eq_true_eq]
    exact h2
  · have e := int_text_length_le10 (k := 4) (by decide) h
    rw [PyData.shown_int]
    have e2 : ((toString i : String) : Str).length = (toString i).length := PySem.ofString_length _
    omega
theorem PlE.short {v : V} (h : PlE v) : (de v).showable = true ∧ (de v).shown.length ≤ 5 := by
  rcases h with rfl | ⟨i, rfl, hi⟩
  · exact ⟨rfl, by decide +kernel⟩
  · exact int_short hi
section
variable {K : PySem.W.Frag} {H H' H0 : Hp} {M : List Addr} {L : Led} {Q : VK}
theorem PlE.dp {v : V} (h : PlE v) : Dp K H v (de v) := by
  rcases h with rfl | ⟨i, rfl, hi⟩
  · exact .non
  · exact .int i
theorem dps_pl : ∀ ys : List V, (∀ y ∈ ys, PlE y) → DpAll K H ys (ys.map de)
  | [], _ => .nil
  | y :: ys, h => .cons (h y List.mem_cons_self).dp (dps_pl ys fun z hz => h z (List.mem_cons_of_mem _ hz))
theorem pls_depth : ∀ ys : List V, (∀ y ∈ ys, PlE y) → PyData.depthAll (ys.map de) = 0
  | [], _ => by simp only [List.map_nil, PyData.depthAll]
  | y :: ys, h => by
    have e := pls_depth ys fun z hz => h z (List.mem_cons_of_mem _ hz)
    have e2 : (de y).depth = 0 := by
      rcases h y List.mem_cons_self with rfl | ⟨i, rfl, hi⟩ <;> simp only [de, PyData.depth]
    simp only [List.map_cons, PyData.depthAll, e, e2, Nat.max_self]
theorem pls_short : ∀ ys : List V, (∀ y ∈ ys, PlE y) → PyData.showableAll (ys.map de) = true ∧ ((PyData.shownAll (ys.map de)).map (·.length)).sum ≤ 5 * ys.length
  | [], _ => by simp [PyData.showableAll, PyData.shownAll]
  | y :: ys, h => by
    obtain ⟨a, b⟩ := pls_short ys fun z hz => h z (List.mem_cons_of_mem _ hz)
    obtain ⟨c, d⟩ := (h y List.mem_cons_self).short
    simp only [List.map_cons, PyData.showableAll, PyData.shownAll, a, c, Bool.and_self, List.sum_cons, List.length_cons, true_and]
    omega
theorem Th.dp {n : Nat} {v : V} (h : Th n H v) : Dp K H v (dat H v) ∧ (dat H v).depth ≤ 1 := by
  cases h with
  | int i h => exact ⟨.int i, by simp only [dat, de, PyData.depth]; omega⟩
  | str x h1 h2 => exact ⟨.str x, by simp only [dat, de, PyData.depth]; omega⟩
  | bl b => exact ⟨.bl b, by simp only [dat, de, PyData.depth]; omega⟩
  | lst a ys h hl hp =>
    simp only [dat, h]
    exact ⟨.lst (SqL.of h) (dps_pl ys hp), by simp only [PyData.depth, pls_depth ys hp]; omega⟩
  | tup a i h hi =>
    have hp : ∀ y ∈ [V.non, .int i], PlE y := fun y hy => by
      simp only [List.mem_cons, List.not_mem_nil, or_false] at hy
      rcases hy with rfl | rfl
      · exact .inl rfl
      · exact .inr ⟨_, rfl, hi⟩
    simp only [dat, h]
    exact ⟨.tup (SqT.of h) (dps_pl _ hp), by simp only [PyData.depth, pls_depth _ hp]; omega⟩
theorem Th.short {n : Nat} {v : V} (h : Th n H v) : (dat H v).showable = true ∧ (dat H v).shown.length ≤ 7 * n + 410 := by
  cases h with
  | int i h =>
    obtain ⟨a, b⟩ := int_short h
    exact ⟨a, by show (PyData.shown (.int i)).length ≤ _; omega⟩
  | str x h1 h2 =>
    refine ⟨rfl, ?_⟩
    show (PyData.shown (.str x)).length ≤ _
    rw [PyData.shown_str]
    have := StrLaws.reprText_len x h2
    have e : x.length = x.cps.size := rfl
    omega
  | bl b =>
    refine ⟨rfl, ?_⟩
    have e : (PyData.shown (.bool b)).length ≤ 5 := by cases b <;> decide +kernel
    show (PyData.shown (.bool b)).length ≤ _
    omega
  | lst a ys h hl hp =>
    obtain ⟨c, d⟩ := pls_short ys hp
    have h2 := listText_len_le (PyData.shownAll (ys.map de))
    have h3 := PyData.shownAll_length (ys.map de)
    rw [List.length_map] at h3
    simp only [dat, h, PyData.showable, c, PyData.shown, true_and]
    omega
  | tup a i h hi =>
    have hp : ∀ y ∈ [V.non, .int i], PlE y := fun y hy => by
      simp only [List.mem_cons, List.not_mem_nil, or_false] at hy
      rcases hy with rfl | rfl
      · exact .inl rfl
      · exact .inr ⟨_, rfl, hi⟩
    obtain ⟨c, d⟩ := pls_short _ hp
    have h2 := tupleText_len_le (PyData.shownAll ([V.non, .int i].map de))
    have h3 := PyData.shownAll_length ([V.non, .int i].map de)
    rw [List.length_map] at h3
    simp only [dat, h, PyData.showable, c, PyData.shown, true_and]
    simp only [List.length_cons, List.length_nil] at d h3
    omega
theorem ths_dp {n : Nat} : ∀ xs : List V, (∀ v ∈ xs, Th n H v) → DpAll K H xs (xs.map (dat H)) ∧ PyData.depthAll (xs.map (dat H)) ≤ 1
  | [], _ => ⟨.nil, by simp only [List.map_nil, PyData.depthAll]; omega⟩
  | v :: xs, h => by
    obtain ⟨a, b⟩ := ths_dp xs fun z hz => h z (List.mem_cons_of_mem _ hz)
    obtain ⟨c, d⟩ := (h v List.mem_cons_self).dp (K := K)
    exact ⟨.cons c a, by simp only [List.map_cons, PyData.depthAll]; omega⟩
theorem ths_short {n : Nat} : ∀ xs : List V, (∀ v ∈ xs, Th n H v) → PyData.showableAll (xs.map (dat H)) = true ∧ ((PyData.shownAll (xs.map (dat H))).map (·.length)).sum ≤ (7 * n + 410) * xs.length
  | [], _ => by simp [PyData.showableAll, PyData.shownAll]
  | v :: xs, h => by
    obtain ⟨a, b⟩ := ths_short xs fun z hz => h z (List.mem_cons_of_mem _ hz)
    obtain ⟨c, d⟩ := (h v List.mem_cons_self).short
    simp only [List.map_cons, PyData.showableAll, PyData.shownAll, a, c, Bool.and_self, List.sum_cons, List.length_cons, true_and, Nat.mul_add, Nat.mul_one]
    omega
theorem dat_same {n : Nat} {v : V} (h : Th n H v) (k : ∀ a o, v = .ref a → H a = some o → H' a = some o) : dat H' v = dat H v := by
  cases h with
  | int i h => rfl
  | str x h1 h2 => rfl
  | bl b => rfl
  | lst a ys h hl hp => simp only [dat, h, k a _ rfl h]
  | tup a i h hi => simp only [dat, h, k a _ rfl h]
theorem txt_same {n : Nat} {xs : List V} (h : ∀ v ∈ xs, Th n H v) (k : ∀ v ∈ xs, ∀ a o, v = .ref a → H a = some o → H' a = some o) : txt H' xs = txt H xs := by
  unfold txt
  rw [List.map_congr_left fun v hv => dat_same (h v hv) (k v hv)]
/-- repr of a list of things -/
theorem rd_reprTh {n : Nat} {a : Addr} {xs : List V} (S : Hs H0 M H L) (m : (a, HO.lst xs) ∈ L) (h : ∀ v ∈ xs, Th n H v) (hn : n ≤ 1162) (hl : xs.length ≤ 1160) (k : Q (.str (txt H xs)) H) : rRepr K [.ref a] H Q := by
  obtain ⟨d1, d2⟩ := ths_dp (K := K) xs h
  obtain ⟨s1, s2⟩ := ths_short xs h
  refine ⟨.ref a, .list (xs.map (dat H)), rfl, .lst (S.lst m) d1, ⟨by simpa only [PyData.showable] using s1, ?_⟩, by simp only [PyData.depth]; omega, k⟩
  have h2 := listText_len_le (PyData.shownAll (xs.map (dat H)))
  have h3 := PyData.shownAll_length (xs.map (dat H))
  rw [List.length_map] at h3
  have h4 : (7 * n + 410) * xs.length ≤ (7 * 1162 + 410) * 1160 := Nat.mul_le_mul (by omega) hl
  simp only [PyData.shown]
  rw [sizeLine_eq]
  omega
/-- a merge's paper -/
def dPp (s m e a b : Int) (pk : List Int) : PyData := .tuple [.int s, .int m, .int e, .tuple [.int a, .int b], .tuple (pk.map .int)]
theorem rd_reprPp {p kq pq : Addr} {s m e a b : Int} {pk : List Int} (R : MA H p kq pq s m e a b pk) (W : VM s m e a b pk) {t : Str} (ez : (dPp s m e a b pk).shown = t) (k : Q (.str t) H) : rRepr K [.ref p] H Q := by
  subst ez
  obtain ⟨w1, w2, w3, w4, w5, w6, w7, w8, w9, w10, w11, w12, w13⟩ := W
  have hd : Dp K H (.ref p) (dPp s m e a b pk) := .tup (SqT.of R.hp) (.cons (.int s) (.cons (.int m) (.cons (.int e) (.cons (.tup (SqT.of R.hk) (.cons (.int a) (.cons (.int b) .nil))) (.cons (.tup (SqT.of R.hq) (dps_ints pk)) .nil)))))
  have ht := tames_ints pk fun z hz => by have := w10 z hz; omega
  refine ⟨.ref p, _, rfl, hd, shw_of ?_ ?_, ?_, k⟩
  · simp only [dPp, tame, tames, ht, Bool.and_true, Bool.and_eq_true, decide_eq_true_eq]
    omega
  · simp only [dPp, Rs.cnt, Rs.cnts, cnts_ints]
    omega
  · simp only [dPp, PyData.depth, PyData.depthAll, depth_ints]
    decide
end
end K29

namespace K29
open PySem L2 Rs Xc Xd
def sp_told : Sp := fun vs H Q _ => ∃ (d p kq pq : Addr) (l c a0 s m e a b : Int) (n : Nat) (pk : List Int), vs = [.ref d, .ref p, .int n] ∧ H d = some (.dK (drw l c a0)) ∧ 0 ≤ a0 ∧ a0 < 2 ^ 39 ∧ MA H p kq pq s m e a b pk ∧ VM s m e a b pk ∧ e ≤ n ∧ n ≤ 1160 ∧
  ∀ (l' a' : Int) (H' : Hp), H' d = some (.dK (drw l' c a')) → (∀ x o, H x = some o → x ≠ d → H' x = some o) → a0 ≤ a' → a' ≤ a0 + 1160 → Q (.bl true) H'
section
variable {P : Program} {w : World} {K : PySem.W.Frag} {mg : Str → Option Value} {base : Heap} {A : Ad} {H H0 : Hp} {M : List Addr} {L L' : Led} {Q : VK} {E : XK}
theorem use_fwd {r p kq pq : Addr} {s m e a b : Int} {pk : List Int} {xs ys : List V} (S : Hs H0 M H L) (c : Chg r (.lst xs) (.lst ys) L L') (mp : (p, HO.tup [.int s, .int m, .int e, .ref kq, .ref pq]) ∈ L) (mk : (kq, HO.tup [.int a, .int b]) ∈ L) (mq : (pq, HO.tup (pk.map V.int)) ∈ L) (ne : kq ≠ pq)
    (own : H0 r = none ∨ r ∈ M) (W : VM s m e a b pk) (he : e ≤ xs.length) (hl : xs.length ≤ 4096) (ez : fwd (pk.map Int.toNat) (s + a).toNat m.toNat (e - b).toNat xs = ys) (h : ∀ H', Hs H0 M H' L' → Q .non H') : sp_fwd [.ref r, .ref p] H Q E :=
  ⟨r, p, kq, pq, s, m, e, a, b, pk, xs, rfl, ⟨S.get mp, S.get mk, S.get mq, ne⟩, W, S.get c.mem, he, hl, fun H' hr k => h H' (S.one c own k (by rw [hr, ez]))⟩
theorem use_bck {r p kq pq : Addr} {s m e a b : Int} {pk : List Int} {xs ys : List V} (S : Hs H0 M H L) (c : Chg r (.lst xs) (.lst ys) L L') (mp : (p, HO.tup [.int s, .int m, .int e, .ref kq, .ref pq]) ∈ L) (mk : (kq, HO.tup [.int a, .int b]) ∈ L) (mq : (pq, HO.tup (pk.map V.int)) ∈ L) (ne : kq ≠ pq)
    (own : H0 r = none ∨ r ∈ M) (W : VM s m e a b pk) (he : e ≤ xs.length) (hl : xs.length ≤ 4096) (ez : bck (pk.map Int.toNat) (s + a).toNat (e - b).toNat xs = ys) (h : ∀ H', Hs H0 M H' L' → Q .non H') : sp_bck [.ref r, .ref p] H Q E :=
  ⟨r, p, kq, pq, s, m, e, a, b, pk, xs, rfl, ⟨S.get mp, S.get mk, S.get mq, ne⟩, W, S.get c.mem, he, hl, fun H' hr k => h H' (S.one c own k (by rw [hr, ez]))⟩
theorem use_lmoved {r p kq pq : Addr} {s m e a b : Int} {pk : List Int} {xs ys : List V} (S : Hs H0 M H L) (mr : (r, HO.lst xs) ∈ L) (mp : (p, HO.tup [.int s, .int m, .int e, .ref kq, .ref pq]) ∈ L) (mk : (kq, HO.tup [.int a, .int b]) ∈ L) (mq : (pq, HO.tup (pk.map V.int)) ∈ L) (ne : kq ≠ pq)
    (W : VM s m e a b pk) (he : e ≤ xs.length) (hl : xs.length ≤ 4096) (ez : fwd (pk.map Int.toNat) (s + a).toNat m.toNat (e - b).toNat xs = ys) (h : ∀ q H', H0 q = none → Hs H0 M H' ((q, .lst ys) :: L) → Q (.ref q) H') : sp_lmoved [.ref r, .ref p] H Q E :=
  ⟨r, p, kq, pq, s, m, e, a, b, pk, xs, rfl, ⟨S.get mp, S.get mk, S.get mq, ne⟩, W, S.get mr, he, hl, fun q H' hq hq2 k => by
    obtain ⟨h0, S2⟩ := S.more1 k hq hq2
    exact h q H' h0 (by rw [ez] at S2; exact S2)⟩
theorem kb_move_merge (T : Txt K mg w A) : KBn K A.d_move_merge ["row", "merge"] 0 ["merge", "row"] (fun us ws => us ++ [1, 0].filterMap (ws[·]?)) (fun us ws => us ++ [1, 0].filterMap (ws[·]?)) :=
  kb_of T.c_move_merge.F _ fun _ _ _ _ _ _ us ws h1 h2 => match us, h1, ws, h2 with | [], _, [_, _], _ => rfl
theorem kb_move_back (T : Txt K mg w A) : KBn K A.d_move_back ["row", "merge"] 0 ["merge", "row"] (fun us ws => us ++ [1, 0].filterMap (ws[·]?)) (fun us ws => us ++ [1, 0].filterMap (ws[·]?)) :=
  kb_of T.c_move_back.F _ fun _ _ _ _ _ _ us ws h1 h2 => match us, h1, ws, h2 with | [], _, [_, _], _ => rfl
theorem ok_told (T : Txt K mg w A) : FnG P w K mg base 7 A.f__law_told_right A.d__law_told_right ["_law_state", "_law_paper", "_law_many"] sp_told := by
  have G_move_merge : FnOk P w K mg base CX0 6 A.f_move_merge A.d_move_merge ["row", "merge"] sp_fwd := ok_fwd T
  have G_move_back : FnOk P w K mg base CX0 6 A.f_move_back A.d_move_back ["row", "merge"] sp_bck := ok_bck T
  have G__law_things : FnOk P w K mg base CX0 2 A.f__law_things A.d__law_things ["_law_state", "_law_many"] sp_things := ok_things T
  have G__law_moved : FnOk P w K mg base CX0 1 A.f__law_moved A.d__law_moved ["_law_things_here", "_law_paper"] sp_lmoved := ok_lmoved T
  have G__law_changed : FnOk P w K mg base CX0 1 A.f__law_changed A.d__law_changed ["_law_things_here"] sp_lchanged := ok_lchanged T
  refine defG T.c__law_told_right.F sc_l_told_right (fun vs H Q E h => ?_) (fun cdv Ar outer s H vs Q E cl hr h => ?_)
  · obtain ⟨d, p, kq, pq, l, c, a0, s, m, e, a, b, n, pk, rfl, _⟩ := h; rfl
  · obtain ⟨d, p, kq, pq, l, c, a0, s, m, e, a, b, n, pk, rfl, hd, h0, h1, R, W, he, hn, k⟩ := h
    refine ⟨_, (pss_cons (ps_set (i := 3) sc_l_told_right.nd rfl (Or.inl rfl) (pe_call G__law_things (hr.mono (by decide)) rfl T.c__law_things.m T.c__law_things.F.kp T.c__law_things.b .nil pass0 (pa_cons (pv 0) (pa_cons (pv 2) pa_nil))))
      (pss_cons (ps_par3 (i := 4) (j := 5) (l := 6) rfl sc_l_told_right.nd rfl rfl rfl (by decide) (by decide) (by decide) rfl rfl rfl (pa_cons (pe_call G__law_moved (hr.mono (by decide)) rfl T.c__law_moved.m T.c__law_moved.F.kp T.c__law_moved.b .nil pass0 (pa_cons (pv 3) (pa_cons (pv 1) pa_nil))) (pa_cons (pe_callTy call_list_of (by rfl) T.n_list (by decide +kernel) (pa_cons (pv 3) pa_nil)) (pa_cons (pe_callB (call_repr cl hr) (by rfl) T.n_repr PyProof.Rows.boot_repr (pa_cons (pv 1) pa_nil)) pa_nil))) (by rfl))
      (pss_cons (ps_if (PW.pt (pw_or (pt_cmpR op_notN (pe_call G_move_merge (hr.mono (by decide)) rfl T.c_move_merge.m T.c_move_merge.F.kp T.c_move_merge.b .nil pass0 (pa_cons (pv 5) (pa_cons (pv 1) pa_nil))) pe_non (nomark _)) (pw_or1 (pt_cmpR op_ne (pe_callB (call_repr cl hr) (by rfl) T.n_repr PyProof.Rows.boot_repr (pa_cons (pv 5) pa_nil)) (pe_callB (call_repr cl hr) (by rfl) T.n_repr PyProof.Rows.boot_repr (pa_cons (pv 4) pa_nil)) (nomark _)))))
        (pss_one (ps_ret pe_bl))
        pss_nil)
      (pss_cons (ps_if (PW.pt (pw_or (pt_cmpR op_notN (pe_call G_move_back (hr.mono (by decide)) rfl T.c_move_back.m T.c_move_back.F.kp T.c_move_back.b .nil pass0 (pa_cons (pv 5) (pa_cons (pv 1) pa_nil))) pe_non (nomark _)) (pw_or1 (pt_cmpR op_ne (pe_callB (call_repr cl hr) (by rfl) T.n_repr PyProof.Rows.boot_repr (pa_cons (pv 5) pa_nil)) (pe_callB (call_repr cl hr) (by rfl) T.n_repr PyProof.Rows.boot_repr (pa_cons (pv 3) pa_nil)) (nomark _)))))
        (pss_one (ps_ret pe_bl))
        pss_nil)
      (pss_cons (ps_if (PW.pt (pw_or (pt_cmpR op_notN (pe_callK0 G_move_back (hr.mono (by decide)) rfl T.c_move_back.m T.c_move_back.F.kp (kb_move_back T) pass0 (pk_cons (pv 1) (pk_cons (pv 5) pk_nil))) pe_non (nomark _)) (pw_or1 (pt_cmpR op_notN (pe_callK0 G_move_merge (hr.mono (by decide)) rfl T.c_move_merge.m T.c_move_merge.F.kp (kb_move_merge T) pass0 (pk_cons (pv 1) (pk_cons (pv 5) pk_nil))) pe_non (nomark _)))))
        (pss_one (ps_ret pe_bl))
        pss_nil)
      (pss_cons (ps_if (PW.pt (pw_or (pt_cmpR op_ne (pe_callB (call_repr cl hr) (by rfl) T.n_repr PyProof.Rows.boot_repr (pa_cons (pv 5) pa_nil)) (pe_callB (call_repr cl hr) (by rfl) T.n_repr PyProof.Rows.boot_repr (pa_cons (pv 3) pa_nil)) (nomark _)) (pw_or1 (pt_cmpR op_ne (pe_callB (call_repr cl hr) (by rfl) T.n_repr PyProof.Rows.boot_repr (pa_cons (pv 1) pa_nil)) (pv 6) (nomark _)))))
        (pss_one (ps_ret pe_bl))
        pss_nil)
      (pss_cons (ps_expr (pe_call G_move_merge (hr.mono (by decide)) rfl T.c_move_merge.m T.c_move_merge.F.kp T.c_move_merge.b .nil pass0 (pa_cons (pv 5) (pa_cons (pv 1) pa_nil))))
      (pss_cons (ps_expr (pe_call G_move_merge (hr.mono (by decide)) rfl T.c_move_merge.m T.c_move_merge.F.kp T.c_move_merge.b .nil pass0 (pa_cons (pv 5) (pa_cons (pv 1) pa_nil))))
      (pss_cons (ps_if (pt_cmpR op_ne (pe_callB (call_repr cl hr) (by rfl) T.n_repr PyProof.Rows.boot_repr (pa_cons (pv 5) pa_nil)) (pe_callB (call_repr cl hr) (by rfl) T.n_repr PyProof.Rows.boot_repr (pa_cons (pe_call G__law_moved (hr.mono (by decide)) rfl T.c__law_moved.m T.c__law_moved.F.kp T.c__law_moved.b .nil pass0 (pa_cons (pv 4) (pa_cons (pv 1) pa_nil))) pa_nil)) (nomark _))
        (pss_one (ps_ret pe_bl))
        pss_nil)
      (pss_cons (ps_expr (pe_call G_move_back (hr.mono (by decide)) rfl T.c_move_back.m T.c_move_back.F.kp T.c_move_back.b .nil pass0 (pa_cons (pv 5) (pa_cons (pv 1) pa_nil))))
      (pss_cons (ps_expr (pe_call G__law_changed (hr.mono (by decide)) rfl T.c__law_changed.m T.c__law_changed.F.kp T.c__law_changed.b .nil pass0 (pa_cons (pv 3) pa_nil)))
      (pss_one (ps_ret (pe_cmpR op_eq (pe_callB (call_repr cl hr) (by rfl) T.n_repr PyProof.Rows.boot_repr (pa_cons (pv 5) pa_nil)) (pe_callB (call_repr cl hr) (by rfl) T.n_repr PyProof.Rows.boot_repr (pa_cons (pv 4) pa_nil)) (nomark _))))))))))))))), ?_⟩
    walk_at "st"
    walk_at "rd"
    refine ⟨d, l, c, a0, n, rfl, hd, h0, h1, hn, fun f xs l' a' H1 hf hf1 hlx hth hd1 hk hb1 hb2 => ?_⟩
    have R1 : MA H1 p kq pq s m e a b pk := ⟨hk _ _ R.hp (ne_of R.hp hd (by intro z; cases z)), hk _ _ R.hk (ne_of R.hk hd (by intro z; cases z)), hk _ _ R.hq (ne_of R.hq hd (by intro z; cases z)), R.ne⟩
    have S0 := R1.ledR hf1
    have S1 : Hs H1 [] H1 [(f, .lst xs), (p, .tup [.int s, .int m, .int e, .ref kq, .ref pq]), (kq, .tup [.int a, .int b]), (pq, .tup (pk.map V.int))] := ⟨S0.nd, S0.is, fun b o e _ => e, fun b hb => nomatch hb⟩
    clear S0
    have ne := R.ne
    have F := W.fit (n := xs.length) (by omega)
    obtain ⟨ys, hys⟩ : ∃ ys, fwd (pk.map Int.toNat) (s + a).toNat m.toNat (e - b).toNat xs = ys := ⟨_, rfl⟩
    have yl : ys.length = xs.length := by rw [← hys]; exact fwd_len F
    have yb : bck (pk.map Int.toNat) (s + a).toNat (e - b).toNat ys = xs := by rw [← hys]; exact bck_fwd F
    obtain ⟨ws, hws⟩ : ∃ ws, bck (pk.map Int.toNat) (s + a).toNat (e - b).toNat xs = ws := ⟨_, rfl⟩
    have wl : ws.length = xs.length := by rw [← hws]; exact bck_len F
    have wf : fwd (pk.map Int.toNat) (s + a).toNat m.toNat (e - b).toNat ws = xs := by rw [← hws]; exact fwd_bck F
    have F2 := W.fit (n := ys.length) (by omega)
    obtain ⟨zs, hzs⟩ : ∃ zs, fwd (pk.map Int.toNat) (s + a).toNat m.toNat (e - b).toNat ys = zs := ⟨_, rfl⟩
    have zl : zs.length = xs.length := by rw [← hzs, ← yl]; exact fwd_len F2
    have zb : bck (pk.map Int.toNat) (s + a).toNat (e - b).toNat zs = ys := by rw [← hzs]; exact bck_fwd F2
    have ym : ∀ v ∈ ys, v ∈ xs := fun v hv => by rw [← hys] at hv; exact fwd_mem hv
    have zm : ∀ v ∈ zs, v ∈ xs := fun v hv => by rw [← hzs] at hv; exact ym v (fwd_mem hv)
    have th : ∀ {H' : Hp}, Same H1 H' → ∀ v ∈ xs, Th 2 H' v := fun sm v hv => (hth v hv).1.more (Nat.le_refl _) fun a o _ ho => sm a o ho
    walk_at "rd"
    refine use_lmoved S1 (by walk_at "mem") (by walk_at "mem") (by walk_at "mem") (by walk_at "mem") ne W (by omega) (by omega) hys fun u H2 hu S2 => ?_
    clear S1
    walk_at "rd"
    intro r hr0
    obtain ⟨hr, S3⟩ := S2.new hr0 (.lst xs)
    revert S3
    generalize upd H2 r (.lst xs) = H3
    intro S3
    clear S2
    walk_at "rd"
    obtain ⟨kp, hkp⟩ : ∃ kp, (dPp s m e a b pk).shown = kp := ⟨_, rfl⟩
    refine rd_reprPp (R1.same S3.same) W hkp ?_
    walk_at "rd"
    have nn : (!decide (V.non = V.non)) = false := by decide
    refine use_fwd S3 (by walk_at "chg") (by walk_at "mem") (by walk_at "mem") (by walk_at "mem") ne (Or.inl hr) W (by omega) (by omega) hys fun H4 S4 => ?_
    clear S3
    walk_at "rd"
    rw [nn]
    walk_at "if0"
    refine rd_reprTh S4 (by walk_at "mem") (fun v hv => th S4.same v (ym v hv)) (by omega) (by omega) ?_
    walk_at "rd"
    refine rd_reprTh S4 (by walk_at "mem") (fun v hv => th S4.same v (ym v hv)) (by omega) (by omega) ?_
    walk_at "rd"
    refine rd_decF (by simp) ?_
    walk_at "rd"
    refine use_bck S4 (by walk_at "chg") (by walk_at "mem") (by walk_at "mem") (by walk_at "mem") ne (Or.inl hr) W (by omega) (by omega) yb fun H5 S5 => ?_
    clear S4
    walk_at "rd"
    rw [nn]
    walk_at "if0"
    refine rd_reprTh S5 (by walk_at "mem") (fun v hv => th S5.same v hv) (by omega) (by omega) ?_
    walk_at "rd"
    refine rd_reprTh S5 (by walk_at "mem") (fun v hv => th S5.same v hv) (by omega) (by omega) ?_
    walk_at "rd"
    refine rd_decF (by simp) ?_
    walk_at "rd"
    refine ⟨rfl, rfl, ?_⟩
    show sp_bck [V.ref r, V.ref p] _ _ _
    refine use_bck S5 (by walk_at "chg") (by walk_at "mem") (by walk_at "mem") (by walk_at "mem") ne (Or.inl hr) W (by omega) (by omega) hws fun H6 S6 => ?_
    clear S5
    walk_at "rd"
    rw [nn]
    walk_at "if0"
    refine ⟨rfl, rfl, ?_⟩
    show sp_fwd [V.ref r, V.ref p] _ _ _
    refine use_fwd S6 (by walk_at "chg") (by walk_at "mem") (by walk_at "mem") (by walk_at "mem") ne (Or.inl hr) W (by omega) (by omega) wf fun H7 S7 => ?_
    clear S6
    walk_at "rd"
    rw [nn]
    walk_at "if0"
    refine rd_reprTh S7 (by walk_at "mem") (fun v hv => th S7.same v hv) (by omega) (by omega) ?_
    walk_at "rd"
    refine rd_reprTh S7 (by walk_at "mem") (fun v hv => th S7.same v hv) (by omega) (by omega) ?_
    walk_at "rd"
    refine rd_decF (by simp) ?_
    walk_at "rd"
    refine rd_reprPp (R1.same S7.same) W hkp ?_
    walk_at "rd"
    refine rd_decF (by simp) ?_
    walk_at "rd"
    refine use_fwd S7 (by walk_at "chg") (by walk_at "mem") (by walk_at "mem") (by walk_at "mem") ne (Or.inl hr) W (by omega) (by omega) hys fun H8 S8 => ?_
    clear S7
    walk_at "rd"
    refine use_fwd S8 (by walk_at "chg") (by walk_at "mem") (by walk_at "mem") (by walk_at "mem") ne (Or.inl hr) W (by omega) (by omega) hzs fun H9 S9 => ?_
    clear S8
    walk_at "rd"
    refine rd_reprTh S9 (by walk_at "mem") (fun v hv => th S9.same v (zm v hv)) (by omega) (by omega) ?_
    walk_at "rd"
    refine use_lmoved S9 (by walk_at "mem") (by walk_at "mem") (by walk_at "mem") (by walk_at "mem") ne W (by omega) (by omega) hzs fun u2 H10 hu2 S10 => ?_
    have et : txt H10 zs = txt H9 zs := by
      rw [txt_same (H := H1) (fun v hv => (hth v (zm v hv)).1) fun v hv a o _ ho => S10.same a o ho, txt_same (H := H1) (fun v hv => (hth v (zm v hv)).1) fun v hv a o _ ho => S9.same a o ho]
    clear S9
    walk_at "rd"
    refine rd_reprTh S10 (by walk_at "mem") (fun v hv => th S10.same v (zm v hv)) (by omega) (by omega) ?_
    rw [et]
    walk_at "rd"
    refine rd_decF (by simp) ?_
    walk_at "rd"
    refine use_bck S10 (by walk_at "chg") (by walk_at "mem") (by walk_at "mem") (by walk_at "mem") ne (Or.inl hr) W (by omega) (by omega) zb fun H11 S11 => ?_
    clear S10
    walk_at "rd"
    refine ⟨f, xs, rfl, S11.get (by walk_at "mem"), fun hv => ((hth _ hv).2 f rfl).2 rfl, th S11.same, by omega, fun H12 t12 k12 => ?_⟩
    have nr : ∀ {x : Addr}, H1 x = none → V.ref x ∉ xs := fun hx hv => (hth _ hv).1.there hx
    have hu12 := k12 u _ (S11.get (by walk_at "mem")) (nr hu)
    have hr12 := k12 r _ (S11.get (by walk_at "mem")) (nr hr)
    have hru : r ≠ u := by
      have nd := S11.nd
      simp only [List.map_cons, List.nodup_cons, List.mem_cons, not_or] at nd
      exact fun z => by simp [z] at nd
    have S12 : Hs H12 [] H12 [(r, .lst ys), (u, .lst ys)] := Hs.start H12 [] _ (by simp [hru]) (fun q hq => by
      simp only [List.mem_cons, List.not_mem_nil, or_false] at hq
      rcases hq with rfl | rfl
      · exact hr12
      · exact hu12) (fun b hb => nomatch hb)
    have s11 := S11.same
    clear S11
    walk_at "rd"
    refine rd_reprTh S12 (by walk_at "mem") (fun v hv => t12 v (ym v hv)) (by omega) (by omega) ?_
    walk_at "rd"
    refine rd_reprTh S12 (by walk_at "mem") (fun v hv => t12 v (ym v hv)) (by omega) (by omega) ?_
    walk_at "rd"
    rw [decide_eq_true (rfl : txt H12 ys = txt H12 ys)]
    refine k l' a' H12 (k12 d _ (s11 _ _ hd1) fun hv => ?_) (fun x o hx hxd => k12 x _ (s11 _ _ (hk x o hx hxd)) fun hv => ?_) hb1 (by omega)
    · have := ((hth _ hv).2 d rfl).1
      rw [hd] at this; cases this
    · have := ((hth _ hv).2 x rfl).1
      rw [hx] at this; cases this
end
end K29

/-! K29p: the moves by hand, worked out -/
namespace K29
open PySem L2 Rs
theorem mix_map {α β : Type} (g : α → β) : ∀ (pk : List Nat) (B A : List α), mix pk (B.map g) (A.map g) = (mix pk B A).map g
  | [], _, _ => rfl
  | n :: r, B, A => by
    simp only [mix, List.map_append, ← List.map_take, ← List.map_drop, mix_map g r]
theorem fwd_map {α β : Type} (g : α → β) (pk : List Nat) (f m e : Nat) (xs : List α) : fwd pk f m e (xs.map g) = (fwd pk f m e xs).map g := by
  unfold fwd
  simp only [List.map_append, ← List.map_take, ← List.map_drop, mix_map]
def rng (n : Nat) : List Int := (List.range n).map fun i => ((i : Nat) : Int)
theorem rg_rng (n : Nat) : rgV 0 (n : Int) = (rng n).map V.int := by
  unfold rgV rng
  rw [List.map_map, show ((n : Int) - 0).toNat = n by omega]
  refine List.map_congr_left fun i _ => ?_
  simp
theorem rng_len (n : Nat) : (rng n).length = n := by simp [rng]
theorem rng_at {n i : Nat} (h : i < n) : (rng n)[i]? = some (i : Int) := by
  unfold rng
  rw [List.getElem?_map, List.getElem?_range h]
  rfl
theorem cutI_mid (ns : List Int) (i k : Nat) : cutI ns (some (i : Nat)) (some ((i + k : Nat) : Int)) = (ns.drop i).take k := by
  have e := Xd.cut_run (ns.map V.int) i k
  rw [cutV_map, ← List.map_drop, ← List.map_take] at e
  exact (List.map_inj_right fun a b z => by cases z; rfl).mp e
theorem cutI_to (ns : List Int) (i : Nat) : cutI ns none (some (i : Nat)) = ns.take i := by
  have e := Xd.cut_to (ns.map V.int) i
  rw [cutV_map, ← List.map_take] at e
  exact (List.map_inj_right fun a b z => by cases z; rfl).mp e
theorem cutI_from (ns : List Int) (i : Nat) : cutI ns (some (i : Nat)) none = ns.drop i := by
  have e := Xd.cut_from (ns.map V.int) i
  rw [cutV_map, ← List.map_drop] at e
  exact (List.map_inj_right fun a b z => by cases z; rfl).mp e
theorem hand1 (R : List Int) : fwd [1000, 1, 1000, 1989] 10 2000 4000 R = ((cutI R none (some 10) ++ cutI R (some 2000) (some 3000)) ++ cutI R (some 10) (some 11)) ++ cutI R (some 3000) (some 4000) ++ cutI R (some 11) (some 2000) ++ cutI R (some 4000) none := by
  have e1 : cutI R none (some 10) = R.take 10 := cutI_to R 10
  have e2 : cutI R (some 2000) (some 3000) = (R.drop 2000).take 1000 := cutI_mid R 2000 1000
  have e3 : cutI R (some 10) (some 11) = (R.drop 10).take 1 := cutI_mid R 10 1
  have e4 : cutI R (some 3000) (some 4000) = (R.drop 3000).take 1000 := cutI_mid R 3000 1000
  have e5 : cutI R (some 11) (some 2000) = (R.drop 11).take 1989 := cutI_mid R 11 1989
  have e6 : cutI R (some 4000) none = R.drop 4000 := cutI_from R 4000
  rw [e1, e2, e3, e4, e5, e6]
  simp only [fwd, mix, List.drop_drop, List.append_assoc, List.append_nil]
def half (k : Nat) : Int := (k : Int) / 2 + 200 * (if (k : Int) % 2 = 0 then 1 else 0)
theorem hand2 : fwd (List.replicate 400 1) 0 200 400 (rng 400) = (List.range 400).map half := by decide +kernel
end K29
namespace K29
open PySem L2 Rs PyProof.Rows
section
variable {K : PySem.W.Frag} {H H0 : Hp} {M : List Addr} {L L' : Led} {Q : VK} {a b : Addr}
theorem dps_strs : ∀ ss : List Str, DpAll K H (ss.map V.str) (ss.map .str)
  | [] => .nil
  | s :: ss => .cons (.str s) (dps_strs ss)
theorem eqv_strs : ∀ ss : List Str, PyData.eqvAll (ss.map .str) (ss.map .str) = true
  | [] => by simp [PyData.eqvAll]
  | s :: ss => by simp [PyData.eqvAll, PyData.eqv, eqv_strs ss]
theorem rd_eqSs {ss : List Str} (S : Hs H0 M H L) (m1 : (a, HO.lst (ss.map V.str)) ∈ L) (m2 : (b, HO.lst (ss.map V.str)) ∈ L) (sh : SeqAt.shaped (.list (ss.map .str)) = true) (h : Q (.bl true) H) : rEqD K (.ref a) (.ref b) H Q :=
  ⟨_, _, .lst (S.lst m1) (dps_strs ss), .lst (S.lst m2) (dps_strs ss), sh, sh, by simp only [PyData.eqv, eqv_strs]; exact h⟩
theorem rd_neSs {ss : List Str} (S : Hs H0 M H L) (m1 : (a, HO.lst (ss.map V.str)) ∈ L) (m2 : (b, HO.lst (ss.map V.str)) ∈ L) (sh : SeqAt.shaped (.list (ss.map .str)) = true) (h : Q (.bl false) H) : rNeD K (.ref a) (.ref b) H Q :=
  ⟨_, _, .lst (S.lst m1) (dps_strs ss), .lst (S.lst m2) (dps_strs ss), sh, sh, by simp only [PyData.eqv, eqv_strs, Bool.not_true]; exact h⟩
end
def row0 : List Str := signs (Str.ofString "abcdef")
def row1 : List Str := fwd [1, 2] 0 2 3 row0
def row2 : List Str := fwd [1, 1] 3 4 5 row1
def row3 : List Str := fwd [3, 2] 1 3 6 row2
def row4 : List Str := fwd [] 5 5 5 row3
theorem row0_ok : SeqAt.shaped (.list (row0.map .str)) = true ∧ row0.length = 6 := by decide +kernel
theorem row1_ok : SeqAt.shaped (.list (row1.map .str)) = true ∧ row1.length = 6 := by decide +kernel
theorem row2_ok : SeqAt.shaped (.list (row2.map .str)) = true ∧ row2.length = 6 := by decide +kernel
theorem row3_ok : SeqAt.shaped (.list (row3.map .str)) = true ∧ row3.length = 6 := by decide +kernel
theorem row4_ok : SeqAt.shaped (.list (row4.map .str)) = true ∧ row4.length = 6 := by decide +kernel
end K29
namespace K29
open PySem L2 Rs
theorem rep_eq : (List.replicate 400 (1 : Int)).map V.int = (List.replicate (Int.toNat 400) [V.int 1]).flatten := by
  rw [List.flatten_replicate_singleton, List.map_replicate]
  rfl
theorem fit1 {n : Nat} (h : n = 4096) : Fit [1000, 1, 1000, 1989] 10 2000 4000 n := ⟨by decide, by decide, by rw [h]; decide, by decide, by decide⟩
theorem fit2 {n : Nat} (h : n = 400) : Fit (List.replicate 400 1) 0 200 400 n := ⟨by decide, by decide, by rw [h]; decide, by decide +kernel, by decide +kernel⟩
theorem toN2 : (List.replicate 400 (1 : Int)).map Int.toNat = List.replicate 400 1 := by rw [List.map_replicate]; rfl
end K29

namespace K29
open PySem L2 Rs Xc Xd
def sp_hand : Sp := fun vs H Q _ => vs = [] ∧ ∀ H', Same H H' → Q (.bl true) H'
namespace G
section
variable {P : Program} {w : World} {K : PySem.W.Frag} {mg : Str → Option Value} {base : Heap} {A : Ad} {H H0 : Hp} {M : List Addr} {L L' : Led} {Q : VK} {E : XK}
theorem kb_move_merge (T : Txt K mg w A) : KBn K A.d_move_merge ["row", "merge"] 0 ["row", "merge"] (fun us ws => us ++ [0, 1].filterMap (ws[·]?)) (fun us ws => us ++ [0, 1].filterMap (ws[·]?)) :=
  kb_of T.c_move_merge.F _ fun _ _ _ _ _ _ us ws h1 h2 => match us, h1, ws, h2 with | [], _, [_, _], _ => rfl
theorem kb_move_back (T : Txt K mg w A) : KBn K A.d_move_back ["row", "merge"] 0 ["row", "merge"] (fun us ws => us ++ [0, 1].filterMap (ws[·]?)) (fun us ws => us ++ [0, 1].filterMap (ws[·]?)) :=
  kb_of T.c_move_back.F _ fun _ _ _ _ _ _ us ws h1 h2 => match us, h1, ws, h2 with | [], _, [_, _], _ => rfl
theorem use_fwdC {r p kq pq : Addr} {s m e a b : Int} {pk : List Int} {qs xs ys : List V} (S : Hs H0 M H L) (c : Chg r (.lst xs) (.lst ys) L L') (mp : (p, HO.tup [.int s, .int m, .int e, .ref kq, .ref pq]) ∈ L) (mk : (kq, HO.tup [.int a, .int b]) ∈ L) (mq : (pq, HO.tup qs) ∈ L) (eq : pk.map V.int = qs) (ne : kq ≠ pq)
    (own : H0 r = none ∨ r ∈ M) (W : VM s m e a b pk) (he : e ≤ xs.length) (hl : xs.length ≤ 4096) (ez : fwd (pk.map Int.toNat) (s + a).toNat m.toNat (e - b).toNat xs = ys) (h : ∀ H', Hs H0 M H' L' → Q .non H') : sp_fwd [.ref r, .ref p] H Q E :=
  use_fwd S c mp mk (eq ▸ mq) ne own W he hl ez h
theorem use_bckC {r p kq pq : Addr} {s m e a b : Int} {pk : List Int} {qs xs ys : List V} (S : Hs H0 M H L) (c : Chg r (.lst xs) (.lst ys) L L') (mp : (p, HO.tup [.int s, .int m, .int e, .ref kq, .ref pq]) ∈ L) (mk : (kq, HO.tup [.int a, .int b]) ∈ L) (mq : (pq, HO.tup qs) ∈ L) (eq : pk.map V.int = qs) (ne : kq ≠ pq)
    (own : H0 r = none ∨ r ∈ M) (W : VM s m e a b pk) (he : e ≤ xs.length) (hl : xs.length ≤ 4096) (ez : bck (pk.map Int.toNat) (s + a).toNat (e - b).toNat xs = ys) (h : ∀ H', Hs H0 M H' L' → Q .non H') : sp_bck [.ref r, .ref p] H Q E :=
  use_bck S c mp mk (eq ▸ mq) ne own W he hl ez h
theorem use_lmovedC {r p kq pq : Addr} {s m e a b : Int} {pk : List Int} {qs xs ys : List V} (S : Hs H0 M H L) (mr : (r, HO.lst xs) ∈ L) (mp : (p, HO.tup [.int s, .int m, .int e, .ref kq, .ref pq]) ∈ L) (mk : (kq, HO.tup [.int a, .int b]) ∈ L) (mq : (pq, HO.tup qs) ∈ L) (eq : pk.map V.int = qs) (ne : kq ≠ pq)
    (W : VM s m e a b pk) (he : e ≤ xs.length) (hl : xs.length ≤ 4096) (ez : fwd (pk.map Int.toNat) (s + a).toNat m.toNat (e - b).toNat xs = ys) (h : ∀ q H', H0 q = none → Hs H0 M H' ((q, .lst ys) :: L) → Q (.ref q) H') : sp_lmoved [.ref r, .ref p] H Q E :=
  use_lmoved S mr mp mk (eq ▸ mq) ne W he hl ez h
theorem vm1 : VM 1 2000 4095 9 95 [1000, 1, 1000, 1989] := by constructor <;> decide +kernel
theorem vm2 : VM 0 200 400 0 0 (List.replicate 400 1) := by constructor <;> decide +kernel
theorem vma : VM 0 2 3 0 0 [1, 2] := by constructor <;> decide +kernel
theorem vmb : VM 3 4 6 0 1 [1, 1] := by constructor <;> decide +kernel
theorem vmc : VM 0 3 6 1 0 [3, 2] := by constructor <;> decide +kernel
theorem vmd : VM 4 5 6 1 1 [] := by constructor <;> decide +kernel
theorem ok_hand (T : Txt K mg w A) : FnG P w K mg base 7 A.f__law_by_hand_right A.d__law_by_hand_right [] sp_hand := by
  have G_move_merge : FnOk P w K mg base CX0 6 A.f_move_merge A.d_move_merge ["row", "merge"] sp_fwd := ok_fwd T
  have G_move_back : FnOk P w K mg base CX0 6 A.f_move_back A.d_move_back ["row", "merge"] sp_bck := ok_bck T
  have G__law_moved : FnOk P w K mg base CX0 1 A.f__law_moved A.d__law_moved ["_law_things_here", "_law_paper"] sp_lmoved := ok_lmoved T
  refine defG T.c__law_by_hand_right.F sc_l_by_hand_right (fun vs H Q E h => ?_) (fun cdv Ar outer s H vs Q E cl hr h => ?_)
  · obtain ⟨rfl, _⟩ := h; rfl
  · obtain ⟨rfl, k⟩ := h
    have hu := hu_of hr
    refine ⟨_, (pss_cons (ps_par (i := 0) (j := 1) rfl sc_l_by_hand_right.nd rfl rfl (by decide) rfl rfl (pa_cons (pe_tup (pa_cons pe_int (pa_cons pe_int (pa_cons pe_int (pa_cons (pe_tup (pa_cons pe_int (pa_cons pe_int pa_nil))) (pa_cons (pe_tup (pa_cons pe_int (pa_cons pe_int (pa_cons pe_int (pa_cons pe_int pa_nil))))) pa_nil)))))) (pa_cons (pe_listRg rfl rfl T.n_list (prg_1 rfl T.n_range pe_int)) pa_nil)) (by rfl))
      (pss_cons (ps_set (i := 2) sc_l_by_hand_right.nd rfl (Or.inl rfl) (pe_callTy call_list_of (by rfl) T.n_list (by decide +kernel) (pa_cons (pv 1) pa_nil)))
      (pss_cons (ps_expr (pe_call G_move_merge (hr.mono (by decide)) rfl T.c_move_merge.m T.c_move_merge.F.kp T.c_move_merge.b .nil pass0 (pa_cons (pv 2) (pa_cons (pv 0) pa_nil))))
      (pss_cons (ps_set (i := 3) sc_l_by_hand_right.nd rfl (Or.inl rfl) (pe_op op_cat (pe_op op_cat (pe_slice sl_list (pv 1) po_none (po_some pe_int)) (pe_slice sl_list (pv 1) (po_some pe_int) (po_some pe_int))) (pe_slice sl_list (pv 1) (po_some pe_int) (po_some pe_int))))
      (pss_cons (ps_set (i := 3) sc_l_by_hand_right.nd rfl (Or.inl rfl) (pe_op op_cat (pe_op op_cat (pe_op op_cat (pv 3) (pe_slice sl_list (pv 1) (po_some pe_int) (po_some pe_int))) (pe_slice sl_list (pv 1) (po_some pe_int) (po_some pe_int))) (pe_slice sl_list (pv 1) (po_some pe_int) po_none)))
      (pss_cons (ps_if (pt_cmpR (op_neD hr.units) (pv 2) (pv 3) (nomark _))
        (pss_one (ps_ret pe_bl))
        pss_nil)
      (pss_cons (ps_expr (pe_call G_move_back (hr.mono (by decide)) rfl T.c_move_back.m T.c_move_back.F.kp T.c_move_back.b .nil pass0 (pa_cons (pv 2) (pa_cons (pv 0) pa_nil))))
      (pss_cons (ps_if (pt_cmpR (op_neD hr.units) (pv 2) (pv 1) (nomark _))
        (pss_one (ps_ret pe_bl))
        pss_nil)
      (pss_cons (ps_par (i := 0) (j := 1) rfl sc_l_by_hand_right.nd rfl rfl (by decide) rfl rfl (pa_cons (pe_tup (pa_cons pe_int (pa_cons pe_int (pa_cons pe_int (pa_cons (pe_tup (pa_cons pe_int (pa_cons pe_int pa_nil))) (pa_cons (pe_op op_repT (pe_tup (pa_cons pe_int pa_nil)) pe_int) pa_nil)))))) (pa_cons (pe_listRg rfl rfl T.n_list (prg_1 rfl T.n_range pe_int)) pa_nil)) (by rfl))
      (pss_cons (ps_set (i := 2) sc_l_by_hand_right.nd rfl (Or.inl rfl) (pe_callTy call_list_of (by rfl) T.n_list (by decide +kernel) (pa_cons (pv 1) pa_nil)))
      (pss_cons (ps_expr (pe_call G_move_merge (hr.mono (by decide)) rfl T.c_move_merge.m T.c_move_merge.F.kp T.c_move_merge.b .nil pass0 (pa_cons (pv 2) (pa_cons (pv 0) pa_nil))))
      (pss_cons (ps_if (pt_cmpR (op_neD hr.units) (pv 2) (pe_lc (own := [("_law_k", 4)]) (g := gName 4) (tt := tYes) rfl sc_l_by_hand_right.nd (pi_range1 rfl T.n_range (pa_cons pe_int pa_nil)) (blkOk_by (N := ["_law_paper", "_law_first", "_law_things_here", "_law_due", "_law_k", "_law_merges", "_law_rows", "_law_each"]) (sc := defScope s_l_by_hand_right) (by decide +kernel)) (fun _ _ _ _ _ => (pg_name (i := 4) sc_l_by_hand_right.nd rfl (Or.inl rfl))) (fun _ _ _ _ _ => pts_nil) (fun _ _ _ _ _ => (pe_op op_add (pe_op op_fdivW (pv 4) pe_int) (pe_op op_mul pe_int (pe_callTy call_int1 (by rfl) T.n_int (by decide +kernel) (pa_cons (pe_cmpR op_eq (pe_op op_mod (pv 4) pe_int) pe_int (nomark _)) pa_nil)))))) (nomark _))
        (pss_one (ps_ret pe_bl))
        pss_nil)
      (pss_cons (ps_expr (pe_call G_move_back (hr.mono (by decide)) rfl T.c_move_back.m T.c_move_back.F.kp T.c_move_back.b .nil pass0 (pa_cons (pv 2) (pa_cons (pv 0) pa_nil))))
      (pss_cons (ps_if (pt_cmpR (op_neD hr.units) (pv 2) (pv 1) (nomark _))
        (pss_one (ps_ret pe_bl))
        pss_nil)
      (pss_cons (ps_set (i := 5) sc_l_by_hand_right.nd rfl (Or.inl rfl) (pe_lst (pa_cons (pe_tup (pa_cons pe_int (pa_cons pe_int (pa_cons pe_int (pa_cons (pe_tup (pa_cons pe_int (pa_cons pe_int pa_nil))) (pa_cons (pe_tup (pa_cons pe_int (pa_cons pe_int pa_nil))) pa_nil)))))) (pa_cons (pe_tup (pa_cons pe_int (pa_cons pe_int (pa_cons pe_int (pa_cons (pe_tup (pa_cons pe_int (pa_cons pe_int pa_nil))) (pa_cons (pe_tup (pa_cons pe_int (pa_cons pe_int pa_nil))) pa_nil)))))) (pa_cons (pe_tup (pa_cons pe_int (pa_cons pe_int (pa_cons pe_int (pa_cons (pe_tup (pa_cons pe_int (pa_cons pe_int pa_nil))) (pa_cons (pe_tup (pa_cons pe_int (pa_cons pe_int pa_nil))) pa_nil)))))) (pa_cons (pe_tup (pa_cons pe_int (pa_cons pe_int (pa_cons pe_int (pa_cons (pe_tup (pa_cons pe_int (pa_cons pe_int pa_nil))) (pa_cons (pe_tup pa_nil) pa_nil)))))) pa_nil))))))
      (pss_cons (ps_set (i := 6) sc_l_by_hand_right.nd rfl (Or.inl rfl) (pe_lst (pa_cons (pe_callTy (Xd.call_listS rfl) (by rfl) T.n_list (by decide +kernel) (pa_cons pe_str pa_nil)) pa_nil)))
      (pss_cons (ps_for PassesOwn.never rfl (pi_list (pv 5)) (pg_name (i := 7) sc_l_by_hand_right.nd rfl (Or.inl rfl))
        (pss_one (ps_expr (pe_bm PySem.F.plainAttrs_list PySem.F.slot_list_append PySem.F.type_list_append mt_append (pv 6) (pa_cons (pe_call G__law_moved (hr.mono (by decide)) rfl T.c__law_moved.m T.c__law_moved.F.kp T.c__law_moved.b .nil pass0 (pa_cons (pe_ix ix_list (pv 6) (pe_un un_neg pe_int) (fun _ _ => rfl)) (pa_cons (pv 7) pa_nil))) pa_nil)))))
      (pss_cons (ps_set (i := 2) sc_l_by_hand_right.nd rfl (Or.inl rfl) (pe_callTy (Xd.call_listS rfl) (by rfl) T.n_list (by decide +kernel) (pa_cons pe_str pa_nil)))
      (pss_cons (ps_for PassesOwn.never rfl (pi_list (pv 5)) (pg_name (i := 7) sc_l_by_hand_right.nd rfl (Or.inl rfl))
        (pss_one (ps_expr (pe_callK0 G_move_merge (hr.mono (by decide)) rfl T.c_move_merge.m T.c_move_merge.F.kp (kb_move_merge T) pass0 (pk_cons (pv 2) (pk_cons (pv 7) pk_nil))))))
      (pss_cons (ps_for PassesOwn.never rfl (pi_enum (by rfl) T.n_enumerate (pa_cons (pe_revL (pv 5)) pa_nil)) (pg_tup rfl (pgs_cons (pg_name (i := 4) sc_l_by_hand_right.nd rfl (Or.inl rfl)) (pgs_cons (pg_name (i := 7) sc_l_by_hand_right.nd rfl (Or.inl rfl)) pgs_nil)))
        (pss_cons (ps_if (pt_cmpR (op_neD hr.units) (pv 2) (pe_ix ix_list (pv 6) (pe_op op_sub (pe_callB call_len_seq (by rfl) T.n_len PySem.boot_len (pa_cons (pv 5) pa_nil)) (pv 4)) (fun _ _ => rfl)) (nomark _))
          (pss_one (ps_ret pe_bl))
          pss_nil)
        (pss_one (ps_expr (pe_callK0 G_move_back (hr.mono (by decide)) rfl T.c_move_back.m T.c_move_back.F.kp (kb_move_back T) pass0 (pk_cons (pv 2) (pk_cons (pv 7) pk_nil)))))))
      (pss_one (ps_ret (pe_cmpR (op_eqD hr.units) (pv 2) (pe_ix ix_list (pv 6) pe_int (fun _ _ => rfl)) (nomark _)))))))))))))))))))))))), ?_⟩
    have S0 := Hs.start0 H
    walk_at "st"
    walk_at "rd"
    rename_i k1 H1 hk1 S1 q1 H2 hq1 S2 p1 H3 hp1 S3
    clear S0 S1 S2
    have ne1 : k1 ≠ q1 := fun z => by have := S3.nd; simp [z] at this
    refine rd_lstRg ?_
    refine rd_rg1 ?_
    walk_at "rd"
    refine ⟨RgOk.of_le (by omega) (by omega) (by omega) (by omega), ?_⟩
    intro f hf0
    obtain ⟨hf, S4⟩ := S3.new hf0 (.lst (rgV 0 4096))
    revert S4
    generalize upd H3 f (.lst (rgV 0 4096)) = H4
    intro S4
    clear S3
    rw [show rgV 0 4096 = (rng 4096).map V.int from rg_rng 4096] at S4
    have rl := rng_len 4096
    generalize rng 4096 = R at S4 rl
    walk_at "rd"
    intro r hr0
    obtain ⟨hr, S5⟩ := S4.new hr0 (.lst (R.map V.int))
    revert S5
    generalize upd H4 r (.lst (R.map V.int)) = H5
    intro S5
    clear S4
    walk_at "rd"
    have F1 := vm1.fit (n := (R.map V.int).length) (by rw [List.length_map, rl]; decide)
    have lm : (R.map V.int).length ≤ 4096 := by rw [List.length_map, rl]; decide
    refine use_fwdC S5 (pk := [1000, 1, 1000, 1989]) (ys := (fwd [1000, 1, 1000, 1989] 10 2000 4000 R).map V.int) (by walk_at "chg") (by walk_at "mem") (by walk_at "mem") (by walk_at "mem") (by rfl) ne1 (Or.inl hr) vm1 (by rw [List.length_map, rl]; decide) lm (fwd_map V.int _ _ _ _ R) fun H6 S6 => ?_
    clear S5
    have hc : ∀ lo hi, (cutI R lo hi).length ≤ 4096 := fun lo hi => rl ▸ cutI_le R lo hi
    have a1 := hc none (some 10)
    have a2 := hc (some 2000) (some 3000)
    have a3 := hc (some 10) (some 11)
    have a4 := hc (some 3000) (some 4000)
    have a5 := hc (some 11) (some 2000)
    have a6 := hc (some 4000) none
    walk_at "rd"
    rename_i d7 H7 hd7 S7
    have S8 := S7.sub (L' := [(r, HO.lst ((fwd [1000, 1, 1000, 1989] 10 2000 4000 R).map V.int)), (f, HO.lst (R.map V.int)), (p1, HO.tup [V.int 1, V.int 2000, V.int 4095, V.ref k1, V.ref q1]), (q1, HO.tup [V.int 1000, V.int 1, V.int 1000, V.int 1989]), (k1, HO.tup [V.int 9, V.int 95])]) (by walk_at "sub")
    refine rd_neIs S7 (ns := fwd [1000, 1, 1000, 1989] 10 2000 4000 R) (ms := ((cutI R none (some 10) ++ cutI R (some 2000) (some 3000)) ++ cutI R (some 10) (some 11)) ++ cutI R (some 3000) (some 4000) ++ cutI R (some 11) (some 2000) ++ cutI R (some 4000) none) (by walk_at "mem") (by walk_at "mem") rfl (by simp only [List.map_append]) ?_
    refine rd_bl ?_
    refine rd_decF (fun h => h (hand1 R)) ?_
    clear S7 a1 a2 a3 a4 a5 a6
    walk_at "rd"
    have F1 := fit1 rl
    have fl : ((fwd [1000, 1, 1000, 1989] 10 2000 4000 R).map V.int).length = 4096 := by rw [List.length_map, fwd_len F1, rl]
    have bz : bck [1000, 1, 1000, 1989] 10 4000 ((fwd [1000, 1, 1000, 1989] 10 2000 4000 R).map V.int) = R.map V.int := by
      rw [← fwd_map]
      exact bck_fwd (fit1 (by rw [List.length_map, rl]))
    refine use_bckC S8 (pk := [1000, 1, 1000, 1989]) (ys := R.map V.int) (by walk_at "chg") (by walk_at "mem") (by walk_at "mem") (by walk_at "mem") (by rfl) ne1 (Or.inl hr) vm1 (by rw [fl]; decide) (by rw [fl]; decide) bz fun H9 S9 => ?_
    clear S8 bz fl
    walk_at "rd"
    refine rd_neIs S9 (ns := R) (ms := R) (by walk_at "mem") (by walk_at "mem") rfl rfl ?_
    refine rd_bl ?_
    refine rd_decF (fun h => h rfl) ?_
    have T0 := S9.sub (L' := []) (by walk_at "sub")
    clear S9
    repeat (rename_i z9; clear z9)
    clear F1 S6 hc lm rl
    walk_at "rd"
    rename_i k2 T1h hk2 T1 o2 T2h ho2 T2
    refine rd_repT T2 (by walk_at "mem") (by simp) (by omega) (by omega) (by simp) fun q2 T3h hq2 T3 => ?_
    clear T0 T1 T2
    walk_at "rd"
    rename_i p2 T4h hp2 T4
    have T4 := T4.sub (L' := [(p2, HO.tup [V.int 0, V.int 200, V.int 400, V.ref k2, V.ref q2]), (q2, .tup (List.replicate (Int.toNat 400) [V.int 1]).flatten), (k2, HO.tup [V.int 0, V.int 0])]) (by walk_at "sub")
    clear T3
    have ne2 : k2 ≠ q2 := fun z => by have := T4.nd; simp [z] at this
    refine rd_lstRg ?_
    refine rd_rg1 ?_
    walk_at "rd"
    refine ⟨RgOk.of_le (by omega) (by omega) (by omega) (by omega), ?_⟩
    intro f2 hf20
    obtain ⟨hf2, T5⟩ := T4.new hf20 (.lst (rgV 0 400))
    rw [show rgV 0 400 = (rng 400).map V.int from rg_rng 400] at T5 ⊢
    revert T5
    generalize upd T4h f2 (.lst ((rng 400).map V.int)) = T5h
    intro T5
    clear T4
    walk_at "rd"
    intro r2 hr20
    obtain ⟨hr2, T6⟩ := T5.new hr20 (.lst ((rng 400).map V.int))
    revert T6
    generalize upd T5h r2 (.lst ((rng 400).map V.int)) = T6h
    intro T6
    clear T5
    walk_at "rd"
    have rl2 := rng_len 400
    refine use_fwdC T6 (pk := List.replicate 400 1) (ys := ((List.range 400).map half).map V.int) (by walk_at "chg") (by walk_at "mem") (by walk_at "mem") (by walk_at "mem") rep_eq ne2 (Or.inl hr2) vm2 (by rw [List.length_map, rl2]; decide) (by rw [List.length_map, rl2]; decide) (by rw [fwd_map, toN2]; exact congrArg _ hand2) fun T7h T7 => ?_
    clear T6
    walk_at "rd"
    refine lcw_range T7 (fun i acc => acc = ((List.range i).map half).map V.int) rfl ?_ ?_
    · rintro D i acc G1 hi rfl hD U
      have hi4 : i < 400 := hi
      walk_at "lc"
      refine rd_int1b ?_
      walk_at "rd"
      rename_i rr er _ _
      subst er
      refine rd_lcPut U (by walk_at "chg") hD (Rs.sz' (by simp only [List.length_map, List.length_range]; omega)) (by walk_at "sub") ?_
      have e : ((0 + (i : Int)) / 2 + 200 * (if decide ((0 + (i : Int)) % 2 = 0) = true then 1 else 0)) = half i := by
        unfold half
        simp only [Int.zero_add, decide_eq_true_eq]
      rw [e, List.range_succ, List.map_append, List.map_append]
      rfl
    rintro D acc G1 rfl hD U
    rw [show List.range (Int.toNat 400) = List.range 400 from rfl] at U
    walk_at "rd"
    refine rd_neIs U (ns := (List.range 400).map half) (ms := (List.range 400).map half) (by walk_at "mem") (by walk_at "mem") rfl rfl ?_
    refine rd_bl ?_
    refine rd_decF (fun h => h rfl) ?_
    walk_at "rd"
    have bz : bck (List.replicate 400 1) 0 400 (((List.range 400).map half).map V.int) = (rng 400).map V.int := by
      rw [← hand2, ← fwd_map]
      exact bck_fwd (fit2 (by rw [List.length_map, rl2]))
    have hl4 : (((List.range 400).map half).map V.int).length = 400 := by rw [List.length_map, List.length_map, List.length_range]
    refine use_bckC U (pk := List.replicate 400 1) (ys := (rng 400).map V.int) (by walk_at "chg") (by walk_at "mem") (by walk_at "mem") (by walk_at "mem") rep_eq ne2 (Or.inl hr2) vm2 (by rw [hl4]; decide) (by rw [hl4]; decide) (by rw [toN2]; exact bz) fun T8h T8 => ?_
    clear U
    walk_at "rd"
    refine rd_neIs T8 (ns := rng 400) (ms := rng 400) (by walk_at "mem") (by walk_at "mem") rfl rfl ?_
    refine rd_bl ?_
    refine rd_decF (fun h => h rfl) ?_
    have V0 := T8.sub (L' := []) (by walk_at "sub")
    clear T8 bz hl4 T7 rl2
    repeat (rename_i z9; clear z9)
    walk_at "rd"
    rename_i ka Wka hka Ska qa Wqa hqa Sqa pa Wpa hpa Spa kb Wkb hkb Skb qb Wqb hqb Sqb pb Wpb hpb Spb kc Wkc hkc Skc qc Wqc hqc Sqc pc Wpc hpc Spc kd Wkd hkd Skd qd Wqd hqd Sqd pd Wpd hpd Spd ml Wml hml U0
    have U1 := U0.sub (L' := [(ml, HO.lst [V.ref pa, V.ref pb, V.ref pc, V.ref pd]), (pd, HO.tup [V.int 4, V.int 5, V.int 6, V.ref kd, V.ref qd]), (qd, HO.tup []), (kd, HO.tup [V.int 1, V.int 1]), (pc, HO.tup [V.int 0, V.int 3, V.int 6, V.ref kc, V.ref qc]), (qc, HO.tup [V.int 3, V.int 2]), (kc, HO.tup [V.int 1, V.int 0]), (pb, HO.tup [V.int 3, V.int 4, V.int 6, V.ref kb, V.ref qb]), (qb, HO.tup [V.int 1, V.int 1]), (kb, HO.tup [V.int 0, V.int 1]), (pa, HO.tup [V.int 0, V.int 2, V.int 3, V.ref ka, V.ref qa]), (qa, HO.tup [V.int 1, V.int 2]), (ka, HO.tup [V.int 0, V.int 0])]) (by walk_at "sub")
    clear Ska Sqa Spa Skb Sqb Spb Skc Sqc Spc Skd Sqd Spd U0 V0
    have na : ka ≠ qa := fun z => by have := U1.nd; simp [z] at this
    have nb : kb ≠ qb := fun z => by have := U1.nd; simp [z] at this
    have nc : kc ≠ qc := fun z => by have := U1.nd; simp [z] at this
    have nd : kd ≠ qd := fun z => by have := U1.nd; simp [z] at this
    refine ⟨Str.ofString "abcdef", rfl, by decide +kernel, ?_⟩
    intro x0 hx00
    obtain ⟨hx0, U2⟩ := U1.new hx00 (.lst ((PyProof.Rows.signs (Str.ofString "abcdef")).map V.str))
    revert U2
    generalize upd Wml x0 (.lst ((PyProof.Rows.signs (Str.ofString "abcdef")).map V.str)) = Wx0
    intro U2
    rw [show PyProof.Rows.signs (Str.ofString "abcdef") = row0 from rfl] at U2
    clear U1
    walk_at "rd"
    rename_i rw Wrw hrw U3
    clear U2
    refine fw_list (xs := [V.ref pa, V.ref pb, V.ref pc, V.ref pd]) (fun i σ H' => match i with
      | 0 => ∃ (o : Option V), σ = [some (.ref p2), some (.ref f2), some (.ref r2), some (.ref d7), none, some (.ref ml), some (.ref rw), o] ∧ Hs H [] H' [(rw, HO.lst [V.ref x0]), (x0, HO.lst (row0.map V.str)), (ml, HO.lst [V.ref pa, V.ref pb, V.ref pc, V.ref pd]), (pd, HO.tup [V.int 4, V.int 5, V.int 6, V.ref kd, V.ref qd]), (qd, HO.tup []), (kd, HO.tup [V.int 1, V.int 1]), (pc, HO.tup [V.int 0, V.int 3, V.int 6, V.ref kc, V.ref qc]), (qc, HO.tup [V.int 3, V.int 2]), (kc, HO.tup [V.int 1, V.int 0]), (pb, HO.tup [V.int 3, V.int 4, V.int 6, V.ref kb, V.ref qb]), (qb, HO.tup [V.int 1, V.int 1]), (kb, HO.tup [V.int 0, V.int 1]), (pa, HO.tup [V.int 0, V.int 2, V.int 3, V.ref ka, V.ref qa]), (qa, HO.tup [V.int 1, V.int 2]), (ka, HO.tup [V.int 0, V.int 0])]
      | 1 => ∃ (o : Option V) (x1 : Addr), σ = [some (.ref p2), some (.ref f2), some (.ref r2), some (.ref d7), none, some (.ref ml), some (.ref rw), o] ∧ Hs H [] H' [(x1, HO.lst (row1.map V.str)), (rw, HO.lst [V.ref x0, V.ref x1]), (x0, HO.lst (row0.map V.str)), (ml, HO.lst [V.ref pa, V.ref pb, V.ref pc, V.ref pd]), (pd, HO.tup [V.int 4, V.int 5, V.int 6, V.ref kd, V.ref qd]), (qd, HO.tup []), (kd, HO.tup [V.int 1, V.int 1]), (pc, HO.tup [V.int 0, V.int 3, V.int 6, V.ref kc, V.ref qc]), (qc, HO.tup [V.int 3, V.int 2]), (kc, HO.tup [V.int 1, V.int 0]), (pb, HO.tup [V.int 3, V.int 4, V.int 6, V.ref kb, V.ref qb]), (qb, HO.tup [V.int 1, V.int 1]), (kb, HO.tup [V.int 0, V.int 1]), (pa, HO.tup [V.int 0, V.int 2, V.int 3, V.ref ka, V.ref qa]), (qa, HO.tup [V.int 1, V.int 2]), (ka, HO.tup [V.int 0, V.int 0])]
      | 2 => ∃ (o : Option V) (x1 x2 : Addr), σ = [some (.ref p2), some (.ref f2), some (.ref r2), some (.ref d7), none, some (.ref ml), some (.ref rw), o] ∧ Hs H [] H' [(x2, HO.lst (row2.map V.str)), (x1, HO.lst (row1.map V.str)), (rw, HO.lst [V.ref x0, V.ref x1, V.ref x2]), (x0, HO.lst (row0.map V.str)), (ml, HO.lst [V.ref pa, V.ref pb, V.ref pc, V.ref pd]), (pd, HO.tup [V.int 4, V.int 5, V.int 6, V.ref kd, V.ref qd]), (qd, HO.tup []), (kd, HO.tup [V.int 1, V.int 1]), (pc, HO.tup [V.int 0, V.int 3, V.int 6, V.ref kc, V.ref qc]), (qc, HO.tup [V.int 3, V.int 2]), (kc, HO.tup [V.int 1, V.int 0]), (pb, HO.tup [V.int 3, V.int 4, V.int 6, V.ref kb, V.ref qb]), (qb, HO.tup [V.int 1, V.int 1]), (kb, HO.tup [V.int 0, V.int 1]), (pa, HO.tup [V.int 0, V.int 2, V.int 3, V.ref ka, V.ref qa]), (qa, HO.tup [V.int 1, V.int 2]), (ka, HO.tup [V.int 0, V.int 0])]
      | 3 => ∃ (o : Option V) (x1 x2 x3 : Addr), σ = [some (.ref p2), some (.ref f2), some (.ref r2), some (.ref d7), none, some (.ref ml), some (.ref rw), o] ∧ Hs H [] H' [(x3, HO.lst (row3.map V.str)), (x2, HO.lst (row2.map V.str)), (x1, HO.lst (row1.map V.str)), (rw, HO.lst [V.ref x0, V.ref x1, V.ref x2, V.ref x3]), (x0, HO.lst (row0.map V.str)), (ml, HO.lst [V.ref pa, V.ref pb, V.ref pc, V.ref pd]), (pd, HO.tup [V.int 4, V.int 5, V.int 6, V.ref kd, V.ref qd]), (qd, HO.tup []), (kd, HO.tup [V.int 1, V.int 1]), (pc, HO.tup [V.int 0, V.int 3, V.int 6, V.ref kc, V.ref qc]), (qc, HO.tup [V.int 3, V.int 2]), (kc, HO.tup [V.int 1, V.int 0]), (pb, HO.tup [V.int 3, V.int 4, V.int 6, V.ref kb, V.ref qb]), (qb, HO.tup [V.int 1, V.int 1]), (kb, HO.tup [V.int 0, V.int 1]), (pa, HO.tup [V.int 0, V.int 2, V.int 3, V.ref ka, V.ref qa]), (qa, HO.tup [V.int 1, V.int 2]), (ka, HO.tup [V.int 0, V.int 0])]
      | 4 => ∃ (o : Option V) (x1 x2 x3 x4 : Addr), σ = [some (.ref p2), some (.ref f2), some (.ref r2), some (.ref d7), none, some (.ref ml), some (.ref rw), o] ∧ Hs H [] H' [(x4, HO.lst (row4.map V.str)), (x3, HO.lst (row3.map V.str)), (x2, HO.lst (row2.map V.str)), (x1, HO.lst (row1.map V.str)), (rw, HO.lst [V.ref x0, V.ref x1, V.ref x2, V.ref x3, V.ref x4]), (x0, HO.lst (row0.map V.str)), (ml, HO.lst [V.ref pa, V.ref pb, V.ref pc, V.ref pd]), (pd, HO.tup [V.int 4, V.int 5, V.int 6, V.ref kd, V.ref qd]), (qd, HO.tup []), (kd, HO.tup [V.int 1, V.int 1]), (pc, HO.tup [V.int 0, V.int 3, V.int 6, V.ref kc, V.ref qc]), (qc, HO.tup [V.int 3, V.int 2]), (kc, HO.tup [V.int 1, V.int 0]), (pb, HO.tup [V.int 3, V.int 4, V.int 6, V.ref kb, V.ref qb]), (qb, HO.tup [V.int 1, V.int 1]), (kb, HO.tup [V.int 0, V.int 1]), (pa, HO.tup [V.int 0, V.int 2, V.int 3, V.ref ka, V.ref qa]), (qa, HO.tup [V.int 1, V.int 2]), (ka, HO.tup [V.int 0, V.int 0])]
      | _ => False) ⟨_, rfl, U3⟩ (fun i σ H' _ h => by
        rcases i with _ | _ | _ | _ | _ | i
        · obtain ⟨o, _, S⟩ := h; exact S.lst (by walk_at "mem")
        · obtain ⟨o, x1, _, S⟩ := h; exact S.lst (by walk_at "mem")
        · obtain ⟨o, x1, x2, _, S⟩ := h; exact S.lst (by walk_at "mem")
        · obtain ⟨o, x1, x2, x3, _, S⟩ := h; exact S.lst (by walk_at "mem")
        · obtain ⟨o, x1, x2, x3, x4, _, S⟩ := h; exact S.lst (by walk_at "mem")
        · exact h.elim) ?_ ?_
    · intro i v σ G hi h
      rcases i with _ | _ | _ | _ | i
      · obtain ⟨o, rfl, S⟩ := h
        obtain rfl : V.ref pa = v := Option.some.inj hi
        walk_at "rd"
        refine use_lmovedC S (pk := [1, 2]) (ys := row1.map V.str) (by walk_at "mem") (by walk_at "mem") (by walk_at "mem") (by walk_at "mem") (by rfl) na vma (by rw [List.length_map, row0_ok.2]; decide) (by rw [List.length_map, row0_ok.2]; decide) (fwd_map V.str [1, 2] 0 2 3 row0) fun y G1 hy S1 => ?_
        clear S
        walk_at "rd"
        rename_i G2 S2
        exact ⟨_, y, rfl, S2⟩
      · obtain ⟨o, x1, rfl, S⟩ := h
        obtain rfl : V.ref pb = v := Option.some.inj hi
        walk_at "rd"
        refine use_lmovedC S (pk := [1, 1]) (ys := row2.map V.str) (by walk_at "mem") (by walk_at "mem") (by walk_at "mem") (by walk_at "mem") (by rfl) nb vmb (by rw [List.length_map, row1_ok.2]; decide) (by rw [List.length_map, row1_ok.2]; decide) (fwd_map V.str [1, 1] 3 4 5 row1) fun y G1 hy S1 => ?_
        clear S
        walk_at "rd"
        rename_i G2 S2
        exact ⟨_, x1, y, rfl, S2⟩
      · obtain ⟨o, x1, x2, rfl, S⟩ := h
        obtain rfl : V.ref pc = v := Option.some.inj hi
        walk_at "rd"
        refine use_lmovedC S (pk := [3, 2]) (ys := row3.map V.str) (by walk_at "mem") (by walk_at "mem") (by walk_at "mem") (by walk_at "mem") (by rfl) nc vmc (by rw [List.length_map, row2_ok.2]; decide) (by rw [List.length_map, row2_ok.2]; decide) (fwd_map V.str [3, 2] 1 3 6 row2) fun y G1 hy S1 => ?_
        clear S
        walk_at "rd"
        rename_i G2 S2
        exact ⟨_, x1, x2, y, rfl, S2⟩
      · obtain ⟨o, x1, x2, x3, rfl, S⟩ := h
        obtain rfl : V.ref pd = v := Option.some.inj hi
        walk_at "rd"
        refine use_lmovedC S (pk := []) (ys := row4.map V.str) (by walk_at "mem") (by walk_at "mem") (by walk_at "mem") (by walk_at "mem") (by rfl) nd vmd (by rw [List.length_map, row3_ok.2]; decide) (by rw [List.length_map, row3_ok.2]; decide) (fwd_map V.str [] 5 5 5 row3) fun y G1 hy S1 => ?_
        clear S
        walk_at "rd"
        rename_i G2 S2
        exact ⟨_, x1, x2, x3, y, rfl, S2⟩
      · exact absurd hi (by simp)
    intro σ G h
    obtain ⟨o, x1, x2, x3, x4, rfl, U4⟩ := h
    clear U3
    walk_at "rd"
    refine ⟨Str.ofString "abcdef", rfl, by decide +kernel, ?_⟩
    intro th hth0
    obtain ⟨hth, U5⟩ := U4.new hth0 (.lst ((PyProof.Rows.signs (Str.ofString "abcdef")).map V.str))
    revert U5
    generalize upd G th (.lst ((PyProof.Rows.signs (Str.ofString "abcdef")).map V.str)) = Wth
    intro U5
    rw [show PyProof.Rows.signs (Str.ofString "abcdef") = row0 from rfl] at U5
    clear U4
    walk_at "rd"
    refine fw_list (xs := [V.ref pa, V.ref pb, V.ref pc, V.ref pd]) (fun i σ H' => ∃ (o : Option V), σ = [some (.ref p2), some (.ref f2), some (.ref th), some (.ref d7), none, some (.ref ml), some (.ref rw), o] ∧ match i with
      | 0 => Hs H [] H' [(th, HO.lst (row0.map V.str)), (x4, HO.lst (row4.map V.str)), (x3, HO.lst (row3.map V.str)), (x2, HO.lst (row2.map V.str)), (x1, HO.lst (row1.map V.str)), (rw, HO.lst [V.ref x0, V.ref x1, V.ref x2, V.ref x3, V.ref x4]), (x0, HO.lst (row0.map V.str)), (ml, HO.lst [V.ref pa, V.ref pb, V.ref pc, V.ref pd]), (pd, HO.tup [V.int 4, V.int 5, V.int 6, V.ref kd, V.ref qd]), (qd, HO.tup []), (kd, HO.tup [V.int 1, V.int 1]), (pc, HO.tup [V.int 0, V.int 3, V.int 6, V.ref kc, V.ref qc]), (qc, HO.tup [V.int 3, V.int 2]), (kc, HO.tup [V.int 1, V.int 0]), (pb, HO.tup [V.int 3, V.int 4, V.int 6, V.ref kb, V.ref qb]), (qb, HO.tup [V.int 1, V.int 1]), (kb, HO.tup [V.int 0, V.int 1]), (pa, HO.tup [V.int 0, V.int 2, V.int 3, V.ref ka, V.ref qa]), (qa, HO.tup [V.int 1, V.int 2]), (ka, HO.tup [V.int 0, V.int 0])]
      | 1 => Hs H [] H' [(th, HO.lst (row1.map V.str)), (x4, HO.lst (row4.map V.str)), (x3, HO.lst (row3.map V.str)), (x2, HO.lst (row2.map V.str)), (x1, HO.lst (row1.map V.str)), (rw, HO.lst [V.ref x0, V.ref x1, V.ref x2, V.ref x3, V.ref x4]), (x0, HO.lst (row0.map V.str)), (ml, HO.lst [V.ref pa, V.ref pb, V.ref pc, V.ref pd]), (pd, HO.tup [V.int 4, V.int 5, V.int 6, V.ref kd, V.ref qd]), (qd, HO.tup []), (kd, HO.tup [V.int 1, V.int 1]), (pc, HO.tup [V.int 0, V.int 3, V.int 6, V.ref kc, V.ref qc]), (qc, HO.tup [V.int 3, V.int 2]), (kc, HO.tup [V.int 1, V.int 0]), (pb, HO.tup [V.int 3, V.int 4, V.int 6, V.ref kb, V.ref qb]), (qb, HO.tup [V.int 1, V.int 1]), (kb, HO.tup [V.int 0, V.int 1]), (pa, HO.tup [V.int 0, V.int 2, V.int 3, V.ref ka, V.ref qa]), (qa, HO.tup [V.int 1, V.int 2]), (ka, HO.tup [V.int 0, V.int 0])]
      | 2 => Hs H [] H' [(th, HO.lst (row2.map V.str)), (x4, HO.lst (row4.map V.str)), (x3, HO.lst (row3.map V.str)), (x2, HO.lst (row2.map V.str)), (x1, HO.lst (row1.map V.str)), (rw, HO.lst [V.ref x0, V.ref x1, V.ref x2, V.ref x3, V.ref x4]), (x0, HO.lst (row0.map V.str)), (ml, HO.lst [V.ref pa, V.ref pb, V.ref pc, V.ref pd]), (pd, HO.tup [V.int 4, V.int 5, V.int 6, V.ref kd, V.ref qd]), (qd, HO.tup []), (kd, HO.tup [V.int 1, V.int 1]), (pc, HO.tup [V.int 0, V.int 3, V.int 6, V.ref kc, V.ref qc]), (qc, HO.tup [V.int 3, V.int 2]), (kc, HO.tup [V.int 1, V.int 0]), (pb, HO.tup [V.int 3, V.int 4, V.int 6, V.ref kb, V.ref qb]), (qb, HO.tup [V.int 1, V.int 1]), (kb, HO.tup [V.int 0, V.int 1]), (pa, HO.tup [V.int 0, V.int 2, V.int 3, V.ref ka, V.ref qa]), (qa, HO.tup [V.int 1, V.int 2]), (ka, HO.tup [V.int 0, V.int 0])]
      | 3 => Hs H [] H' [(th, HO.lst (row3.map V.str)), (x4, HO.lst (row4.map V.str)), (x3, HO.lst (row3.map V.str)), (x2, HO.lst (row2.map V.str)), (x1, HO.lst (row1.map V.str)), (rw, HO.lst [V.ref x0, V.ref x1, V.ref x2, V.ref x3, V.ref x4]), (x0, HO.lst (row0.map V.str)), (ml, HO.lst [V.ref pa, V.ref pb, V.ref pc, V.ref pd]), (pd, HO.tup [V.int 4, V.int 5, V.int 6, V.ref kd, V.ref qd]), (qd, HO.tup []), (kd, HO.tup [V.int 1, V.int 1]), (pc, HO.tup [V.int 0, V.int 3, V.int 6, V.ref kc, V.ref qc]), (qc, HO.tup [V.int 3, V.int 2]), (kc, HO.tup [V.int 1, V.int 0]), (pb, HO.tup [V.int 3, V.int 4, V.int 6, V.ref kb, V.ref qb]), (qb, HO.tup [V.int 1, V.int 1]), (kb, HO.tup [V.int 0, V.int 1]), (pa, HO.tup [V.int 0, V.int 2, V.int 3, V.ref ka, V.ref qa]), (qa, HO.tup [V.int 1, V.int 2]), (ka, HO.tup [V.int 0, V.int 0])]
      | 4 => Hs H [] H' [(th, HO.lst (row4.map V.str)), (x4, HO.lst (row4.map V.str)), (x3, HO.lst (row3.map V.str)), (x2, HO.lst (row2.map V.str)), (x1, HO.lst (row1.map V.str)), (rw, HO.lst [V.ref x0, V.ref x1, V.ref x2, V.ref x3, V.ref x4]), (x0, HO.lst (row0.map V.str)), (ml, HO.lst [V.ref pa, V.ref pb, V.ref pc, V.ref pd]), (pd, HO.tup [V.int 4, V.int 5, V.int 6, V.ref kd, V.ref qd]), (qd, HO.tup []), (kd, HO.tup [V.int 1, V.int 1]), (pc, HO.tup [V.int 0, V.int 3, V.int 6, V.ref kc, V.ref qc]), (qc, HO.tup [V.int 3, V.int 2]), (kc, HO.tup [V.int 1, V.int 0]), (pb, HO.tup [V.int 3, V.int 4, V.int 6, V.ref kb, V.ref qb]), (qb, HO.tup [V.int 1, V.int 1]), (kb, HO.tup [V.int 0, V.int 1]), (pa, HO.tup [V.int 0, V.int 2, V.int 3, V.ref ka, V.ref qa]), (qa, HO.tup [V.int 1, V.int 2]), (ka, HO.tup [V.int 0, V.int 0])]
      | _ => False) ⟨_, rfl, U5⟩ (fun i σ H' _ h => by
        obtain ⟨o, _, S⟩ := h
        rcases i with _ | _ | _ | _ | _ | i
        · exact Hs.lst (L := [(th, HO.lst (row0.map V.str)), (x4, HO.lst (row4.map V.str)), (x3, HO.lst (row3.map V.str)), (x2, HO.lst (row2.map V.str)), (x1, HO.lst (row1.map V.str)), (rw, HO.lst [V.ref x0, V.ref x1, V.ref x2, V.ref x3, V.ref x4]), (x0, HO.lst (row0.map V.str)), (ml, HO.lst [V.ref pa, V.ref pb, V.ref pc, V.ref pd]), (pd, HO.tup [V.int 4, V.int 5, V.int 6, V.ref kd, V.ref qd]), (qd, HO.tup []), (kd, HO.tup [V.int 1, V.int 1]), (pc, HO.tup [V.int 0, V.int 3, V.int 6, V.ref kc, V.ref qc]), (qc, HO.tup [V.int 3, V.int 2]), (kc, HO.tup [V.int 1, V.int 0]), (pb, HO.tup [V.int 3, V.int 4, V.int 6, V.ref kb, V.ref qb]), (qb, HO.tup [V.int 1, V.int 1]), (kb, HO.tup [V.int 0, V.int 1]), (pa, HO.tup [V.int 0, V.int 2, V.int 3, V.ref ka, V.ref qa]), (qa, HO.tup [V.int 1, V.int 2]), (ka, HO.tup [V.int 0, V.int 0])]) S (by walk_at "mem")
        · exact Hs.lst (L := [(th, HO.lst (row1.map V.str)), (x4, HO.lst (row4.map V.str)), (x3, HO.lst (row3.map V.str)), (x2, HO.lst (row2.map V.str)), (x1, HO.lst (row1.map V.str)), (rw, HO.lst [V.ref x0, V.ref x1, V.ref x2, V.ref x3, V.ref x4]), (x0, HO.lst (row0.map V.str)), (ml, HO.lst [V.ref pa, V.ref pb, V.ref pc, V.ref pd]), (pd, HO.tup [V.int 4, V.int 5, V.int 6, V.ref kd, V.ref qd]), (qd, HO.tup []), (kd, HO.tup [V.int 1, V.int 1]), (pc, HO.tup [V.int 0, V.int 3, V.int 6, V.ref kc, V.ref qc]), (qc, HO.tup [V.int 3, V.int 2]), (kc, HO.tup [V.int 1, V.int 0]), (pb, HO.tup [V.int 3, V.int 4, V.int 6, V.ref kb, V.ref qb]), (qb, HO.tup [V.int 1, V.int 1]), (kb, HO.tup [V.int 0, V.int 1]), (pa, HO.tup [V.int 0, V.int 2, V.int 3, V.ref ka, V.ref qa]), (qa, HO.tup [V.int 1, V.int 2]), (ka, HO.tup [V.int 0, V.int 0])]) S (by walk_at "mem")
        · exact Hs.lst (L := [(th, HO.lst (row2.map V.str)), (x4, HO.lst (row4.map V.str)), (x3, HO.lst (row3.map V.str)), (x2, HO.lst (row2.map V.str)), (x1, HO.lst (row1.map V.str)), (rw, HO.lst [V.ref x0, V.ref x1, V.ref x2, V.ref x3, V.ref x4]), (x0, HO.lst (row0.map V.str)), (ml, HO.lst [V.ref pa, V.ref pb, V.ref pc, V.ref pd]), (pd, HO.tup [V.int 4, V.int 5, V.int 6, V.ref kd, V.ref qd]), (qd, HO.tup []), (kd, HO.tup [V.int 1, V.int 1]), (pc, HO.tup [V.int 0, V.int 3, V.int 6, V.ref kc, V.ref qc]), (qc, HO.tup [V.int 3, V.int 2]), (kc, HO.tup [V.int 1, V.int 0]), (pb, HO.tup [V.int 3, V.int 4, V.int 6, V.ref kb, V.ref qb]), (qb, HO.tup [V.int 1, V.int 1]), (kb, HO.tup [V.int 0, V.int 1]), (pa, HO.tup [V.int 0, V.int 2, V.int 3, V.ref ka, V.ref qa]), (qa, HO.tup [V.int 1, V.int 2]), (ka, HO.tup [V.int 0, V.int 0])]) S (by walk_at "mem")
        · exact Hs.lst (L := [(th, HO.lst (row3.map V.str)), (x4, HO.lst (row4.map V.str)), (x3, HO.lst (row3.map V.str)), (x2, HO.lst (row2.map V.str)), (x1, HO.lst (row1.map V.str)), (rw, HO.lst [V.ref x0, V.ref x1, V.ref x2, V.ref x3, V.ref x4]), (x0, HO.lst (row0.map V.str)), (ml, HO.lst [V.ref pa, V.ref pb, V.ref pc, V.ref pd]), (pd, HO.tup [V.int 4, V.int 5, V.int 6, V.ref kd, V.ref qd]), (qd, HO.tup []), (kd, HO.tup [V.int 1, V.int 1]), (pc, HO.tup [V.int 0, V.int 3, V.int 6, V.ref kc, V.ref qc]), (qc, HO.tup [V.int 3, V.int 2]), (kc, HO.tup [V.int 1, V.int 0]), (pb, HO.tup [V.int 3, V.int 4, V.int 6, V.ref kb, V.ref qb]), (qb, HO.tup [V.int 1, V.int 1]), (kb, HO.tup [V.int 0, V.int 1]), (pa, HO.tup [V.int 0, V.int 2, V.int 3, V.ref ka, V.ref qa]), (qa, HO.tup [V.int 1, V.int 2]), (ka, HO.tup [V.int 0, V.int 0])]) S (by walk_at "mem")
        · exact Hs.lst (L := [(th, HO.lst (row4.map V.str)), (x4, HO.lst (row4.map V.str)), (x3, HO.lst (row3.map V.str)), (x2, HO.lst (row2.map V.str)), (x1, HO.lst (row1.map V.str)), (rw, HO.lst [V.ref x0, V.ref x1, V.ref x2, V.ref x3, V.ref x4]), (x0, HO.lst (row0.map V.str)), (ml, HO.lst [V.ref pa, V.ref pb, V.ref pc, V.ref pd]), (pd, HO.tup [V.int 4, V.int 5, V.int 6, V.ref kd, V.ref qd]), (qd, HO.tup []), (kd, HO.tup [V.int 1, V.int 1]), (pc, HO.tup [V.int 0, V.int 3, V.int 6, V.ref kc, V.ref qc]), (qc, HO.tup [V.int 3, V.int 2]), (kc, HO.tup [V.int 1, V.int 0]), (pb, HO.tup [V.int 3, V.int 4, V.int 6, V.ref kb, V.ref qb]), (qb, HO.tup [V.int 1, V.int 1]), (kb, HO.tup [V.int 0, V.int 1]), (pa, HO.tup [V.int 0, V.int 2, V.int 3, V.ref ka, V.ref qa]), (qa, HO.tup [V.int 1, V.int 2]), (ka, HO.tup [V.int 0, V.int 0])]) S (by walk_at "mem")
        · exact S.elim) ?_ ?_
    · intro i v σ G5 hi h
      obtain ⟨o, rfl, S0⟩ := h
      rcases i with _ | _ | _ | _ | i
      · have S : Hs H [] G5 [(th, HO.lst (row0.map V.str)), (x4, HO.lst (row4.map V.str)), (x3, HO.lst (row3.map V.str)), (x2, HO.lst (row2.map V.str)), (x1, HO.lst (row1.map V.str)), (rw, HO.lst [V.ref x0, V.ref x1, V.ref x2, V.ref x3, V.ref x4]), (x0, HO.lst (row0.map V.str)), (ml, HO.lst [V.ref pa, V.ref pb, V.ref pc, V.ref pd]), (pd, HO.tup [V.int 4, V.int 5, V.int 6, V.ref kd, V.ref qd]), (qd, HO.tup []), (kd, HO.tup [V.int 1, V.int 1]), (pc, HO.tup [V.int 0, V.int 3, V.int 6, V.ref kc, V.ref qc]), (qc, HO.tup [V.int 3, V.int 2]), (kc, HO.tup [V.int 1, V.int 0]), (pb, HO.tup [V.int 3, V.int 4, V.int 6, V.ref kb, V.ref qb]), (qb, HO.tup [V.int 1, V.int 1]), (kb, HO.tup [V.int 0, V.int 1]), (pa, HO.tup [V.int 0, V.int 2, V.int 3, V.ref ka, V.ref qa]), (qa, HO.tup [V.int 1, V.int 2]), (ka, HO.tup [V.int 0, V.int 0])] := S0
        clear S0
        obtain rfl : V.ref pa = v := Option.some.inj hi
        walk_at "rd"
        refine ⟨rfl, rfl, ?_⟩
        show sp_fwd [V.ref th, V.ref pa] _ _ _
        refine use_fwdC S (pk := [1, 2]) (ys := row1.map V.str) (by walk_at "chg") (by walk_at "mem") (by walk_at "mem") (by walk_at "mem") (by rfl) na (Or.inl hth) vma (by rw [List.length_map, row0_ok.2]; decide) (by rw [List.length_map, row0_ok.2]; decide) (fwd_map V.str [1, 2] 0 2 3 row0) fun G1 S1 => ?_
        clear S
        walk_at "rd"
        exact ⟨_, rfl, S1⟩
      · have S : Hs H [] G5 [(th, HO.lst (row1.map V.str)), (x4, HO.lst (row4.map V.str)), (x3, HO.lst (row3.map V.str)), (x2, HO.lst (row2.map V.str)), (x1, HO.lst (row1.map V.str)), (rw, HO.lst [V.ref x0, V.ref x1, V.ref x2, V.ref x3, V.ref x4]), (x0, HO.lst (row0.map V.str)), (ml, HO.lst [V.ref pa, V.ref pb, V.ref pc, V.ref pd]), (pd, HO.tup [V.int 4, V.int 5, V.int 6, V.ref kd, V.ref qd]), (qd, HO.tup []), (kd, HO.tup [V.int 1, V.int 1]), (pc, HO.tup [V.int 0, V.int 3, V.int 6, V.ref kc, V.ref qc]), (qc, HO.tup [V.int 3, V.int 2]), (kc, HO.tup [V.int 1, V.int 0]), (pb, HO.tup [V.int 3, V.int 4, V.int 6, V.ref kb, V.ref qb]), (qb, HO.tup [V.int 1, V.int 1]), (kb, HO.tup [V.int 0, V.int 1]), (pa, HO.tup [V.int 0, V.int 2, V.int 3, V.ref ka, V.ref qa]), (qa, HO.tup [V.int 1, V.int 2]), (ka, HO.tup [V.int 0, V.int 0])] := S0
        clear S0
        obtain rfl : V.ref pb = v := Option.some.inj hi
        walk_at "rd"
        refine ⟨rfl, rfl, ?_⟩
        show sp_fwd [V.ref th, V.ref pb] _ _ _
        refine use_fwdC S (pk := [1, 1]) (ys := row2.map V.str) (by walk_at "chg") (by walk_at "mem") (by walk_at "mem") (by walk_at "mem") (by rfl) nb (Or.inl hth) vmb (by rw [List.length_map, row1_ok.2]; decide) (by rw [List.length_map, row1_ok.2]; decide) (fwd_map V.str [1, 1] 3 4 5 row1) fun G1 S1 => ?_
        clear S
        walk_at "rd"
        exact ⟨_, rfl, S1⟩
      · have S : Hs H [] G5 [(th, HO.lst (row2.map V.str)), (x4, HO.lst (row4.map V.str)), (x3, HO.lst (row3.map V.str)), (x2, HO.lst (row2.map V.str)), (x1, HO.lst (row1.map V.str)), (rw, HO.lst [V.ref x0, V.ref x1, V.ref x2, V.ref x3, V.ref x4]), (x0, HO.lst (row0.map V.str)), (ml, HO.lst [V.ref pa, V.ref pb, V.ref pc, V.ref pd]), (pd, HO.tup [V.int 4, V.int 5, V.int 6, V.ref kd, V.ref qd]), (qd, HO.tup []), (kd, HO.tup [V.int 1, V.int 1]), (pc, HO.tup [V.int 0, V.int 3, V.int 6, V.ref kc, V.ref qc]), (qc, HO.tup [V.int 3, V.int 2]), (kc, HO.tup [V.int 1, V.int 0]), (pb, HO.tup [V.int 3, V.int 4, V.int 6, V.ref kb, V.ref qb]), (qb, HO.tup [V.int 1, V.int 1]), (kb, HO.tup [V.int 0, V.int 1]), (pa, HO.tup [V.int 0, V.int 2, V.int 3, V.ref ka, V.ref qa]), (qa, HO.tup [V.int 1, V.int 2]), (ka, HO.tup [V.int 0, V.int 0])] := S0
        clear S0
        obtain rfl : V.ref pc = v := Option.some.inj hi
        walk_at "rd"
        refine ⟨rfl, rfl, ?_⟩
        show sp_fwd [V.ref th, V.ref pc] _ _ _
        refine use_fwdC S (pk := [3, 2]) (ys := row3.map V.str) (by walk_at "chg") (by walk_at "mem") (by walk_at "mem") (by walk_at "mem") (by rfl) nc (Or.inl hth) vmc (by rw [List.length_map, row2_ok.2]; decide) (by rw [List.length_map, row2_ok.2]; decide) (fwd_map V.str [3, 2] 1 3 6 row2) fun G1 S1 => ?_
        clear S
        walk_at "rd"
        exact ⟨_, rfl, S1⟩
      · have S : Hs H [] G5 [(th, HO.lst (row3.map V.str)), (x4, HO.lst (row4.map V.str)), (x3, HO.lst (row3.map V.str)), (x2, HO.lst (row2.map V.str)), (x1, HO.lst (row1.map V.str)), (rw, HO.lst [V.ref x0, V.ref x1, V.ref x2, V.ref x3, V.ref x4]), (x0, HO.lst (row0.map V.str)), (ml, HO.lst [V.ref pa, V.ref pb, V.ref pc, V.ref pd]), (pd, HO.tup [V.int 4, V.int 5, V.int 6, V.ref kd, V.ref qd]), (qd, HO.tup []), (kd, HO.tup [V.int 1, V.int 1]), (pc, HO.tup [V.int 0, V.int 3, V.int 6, V.ref kc, V.ref qc]), (qc, HO.tup [V.int 3, V.int 2]), (kc, HO.tup [V.int 1, V.int 0]), (pb, HO.tup [V.int 3, V.int 4, V.int 6, V.ref kb, V.ref qb]), (qb, HO.tup [V.int 1, V.int 1]), (kb, HO.tup [V.int 0, V.int 1]), (pa, HO.tup [V.int 0, V.int 2, V.int 3, V.ref ka, V.ref qa]), (qa, HO.tup [V.int 1, V.int 2]), (ka, HO.tup [V.int 0, V.int 0])] := S0
        clear S0
        obtain rfl : V.ref pd = v := Option.some.inj hi
        walk_at "rd"
        refine ⟨rfl, rfl, ?_⟩
        show sp_fwd [V.ref th, V.ref pd] _ _ _
        refine use_fwdC S (pk := []) (ys := row4.map V.str) (by walk_at "chg") (by walk_at "mem") (by walk_at "mem") (by walk_at "mem") (by rfl) nd (Or.inl hth) vmd (by rw [List.length_map, row3_ok.2]; decide) (by rw [List.length_map, row3_ok.2]; decide) (fwd_map V.str [] 5 5 5 row3) fun G1 S1 => ?_
        clear S
        walk_at "rd"
        exact ⟨_, rfl, S1⟩
      · exact absurd hi (by simp)
    intro σ G6 h
    obtain ⟨o2, rfl, U6'⟩ := h
    have U6 : Hs H [] G6 [(th, HO.lst (row4.map V.str)), (x4, HO.lst (row4.map V.str)), (x3, HO.lst (row3.map V.str)), (x2, HO.lst (row2.map V.str)), (x1, HO.lst (row1.map V.str)), (rw, HO.lst [V.ref x0, V.ref x1, V.ref x2, V.ref x3, V.ref x4]), (x0, HO.lst (row0.map V.str)), (ml, HO.lst [V.ref pa, V.ref pb, V.ref pc, V.ref pd]), (pd, HO.tup [V.int 4, V.int 5, V.int 6, V.ref kd, V.ref qd]), (qd, HO.tup []), (kd, HO.tup [V.int 1, V.int 1]), (pc, HO.tup [V.int 0, V.int 3, V.int 6, V.ref kc, V.ref qc]), (qc, HO.tup [V.int 3, V.int 2]), (kc, HO.tup [V.int 1, V.int 0]), (pb, HO.tup [V.int 3, V.int 4, V.int 6, V.ref kb, V.ref qb]), (qb, HO.tup [V.int 1, V.int 1]), (kb, HO.tup [V.int 0, V.int 1]), (pa, HO.tup [V.int 0, V.int 2, V.int 3, V.ref ka, V.ref qa]), (qa, HO.tup [V.int 1, V.int 2]), (ka, HO.tup [V.int 0, V.int 0])] := U6'
    clear U5 U6'
    walk_at "rd"
    rename_i ml2 Wml2 hml2 U7
    have U8 : Hs H [] Wml2 [(ml2, HO.lst [V.ref pd, V.ref pc, V.ref pb, V.ref pa]), (th, HO.lst (row4.map V.str)), (x4, HO.lst (row4.map V.str)), (x3, HO.lst (row3.map V.str)), (x2, HO.lst (row2.map V.str)), (x1, HO.lst (row1.map V.str)), (rw, HO.lst [V.ref x0, V.ref x1, V.ref x2, V.ref x3, V.ref x4]), (x0, HO.lst (row0.map V.str)), (ml, HO.lst [V.ref pa, V.ref pb, V.ref pc, V.ref pd]), (pd, HO.tup [V.int 4, V.int 5, V.int 6, V.ref kd, V.ref qd]), (qd, HO.tup []), (kd, HO.tup [V.int 1, V.int 1]), (pc, HO.tup [V.int 0, V.int 3, V.int 6, V.ref kc, V.ref qc]), (qc, HO.tup [V.int 3, V.int 2]), (kc, HO.tup [V.int 1, V.int 0]), (pb, HO.tup [V.int 3, V.int 4, V.int 6, V.ref kb, V.ref qb]), (qb, HO.tup [V.int 1, V.int 1]), (kb, HO.tup [V.int 0, V.int 1]), (pa, HO.tup [V.int 0, V.int 2, V.int 3, V.ref ka, V.ref qa]), (qa, HO.tup [V.int 1, V.int 2]), (ka, HO.tup [V.int 0, V.int 0])] := U7
    clear U6 U7
    refine fw_enum (xs := [V.ref pd, V.ref pc, V.ref pb, V.ref pa]) (fun i σ H' => ∃ (o1 o : Option V), σ = [some (.ref p2), some (.ref f2), some (.ref th), some (.ref d7), o1, some (.ref ml), some (.ref rw), o] ∧ match i with
      | 0 => Hs H [] H' [(ml2, HO.lst [V.ref pd, V.ref pc, V.ref pb, V.ref pa]), (th, HO.lst (row4.map V.str)), (x4, HO.lst (row4.map V.str)), (x3, HO.lst (row3.map V.str)), (x2, HO.lst (row2.map V.str)), (x1, HO.lst (row1.map V.str)), (rw, HO.lst [V.ref x0, V.ref x1, V.ref x2, V.ref x3, V.ref x4]), (x0, HO.lst (row0.map V.str)), (ml, HO.lst [V.ref pa, V.ref pb, V.ref pc, V.ref pd]), (pd, HO.tup [V.int 4, V.int 5, V.int 6, V.ref kd, V.ref qd]), (qd, HO.tup []), (kd, HO.tup [V.int 1, V.int 1]), (pc, HO.tup [V.int 0, V.int 3, V.int 6, V.ref kc, V.ref qc]), (qc, HO.tup [V.int 3, V.int 2]), (kc, HO.tup [V.int 1, V.int 0]), (pb, HO.tup [V.int 3, V.int 4, V.int 6, V.ref kb, V.ref qb]), (qb, HO.tup [V.int 1, V.int 1]), (kb, HO.tup [V.int 0, V.int 1]), (pa, HO.tup [V.int 0, V.int 2, V.int 3, V.ref ka, V.ref qa]), (qa, HO.tup [V.int 1, V.int 2]), (ka, HO.tup [V.int 0, V.int 0])]
      | 1 => Hs H [] H' [(ml2, HO.lst [V.ref pd, V.ref pc, V.ref pb, V.ref pa]), (th, HO.lst (row3.map V.str)), (x4, HO.lst (row4.map V.str)), (x3, HO.lst (row3.map V.str)), (x2, HO.lst (row2.map V.str)), (x1, HO.lst (row1.map V.str)), (rw, HO.lst [V.ref x0, V.ref x1, V.ref x2, V.ref x3, V.ref x4]), (x0, HO.lst (row0.map V.str)), (ml, HO.lst [V.ref pa, V.ref pb, V.ref pc, V.ref pd]), (pd, HO.tup [V.int 4, V.int 5, V.int 6, V.ref kd, V.ref qd]), (qd, HO.tup []), (kd, HO.tup [V.int 1, V.int 1]), (pc, HO.tup [V.int 0, V.int 3, V.int 6, V.ref kc, V.ref qc]), (qc, HO.tup [V.int 3, V.int 2]), (kc, HO.tup [V.int 1, V.int 0]), (pb, HO.tup [V.int 3, V.int 4, V.int 6, V.ref kb, V.ref qb]), (qb, HO.tup [V.int 1, V.int 1]), (kb, HO.tup [V.int 0, V.int 1]), (pa, HO.tup [V.int 0, V.int 2, V.int 3, V.ref ka, V.ref qa]), (qa, HO.tup [V.int 1, V.int 2]), (ka, HO.tup [V.int 0, V.int 0])]
      | 2 => Hs H [] H' [(ml2, HO.lst [V.ref pd, V.ref pc, V.ref pb, V.ref pa]), (th, HO.lst (row2.map V.str)), (x4, HO.lst (row4.map V.str)), (x3, HO.lst (row3.map V.str)), (x2, HO.lst (row2.map V.str)), (x1, HO.lst (row1.map V.str)), (rw, HO.lst [V.ref x0, V.ref x1, V.ref x2, V.ref x3, V.ref x4]), (x0, HO.lst (row0.map V.str)), (ml, HO.lst [V.ref pa, V.ref pb, V.ref pc, V.ref pd]), (pd, HO.tup [V.int 4, V.int 5, V.int 6, V.ref kd, V.ref qd]), (qd, HO.tup []), (kd, HO.tup [V.int 1, V.int 1]), (pc, HO.tup [V.int 0, V.int 3, V.int 6, V.ref kc, V.ref qc]), (qc, HO.tup [V.int 3, V.int 2]), (kc, HO.tup [V.int 1, V.int 0]), (pb, HO.tup [V.int 3, V.int 4, V.int 6, V.ref kb, V.ref qb]), (qb, HO.tup [V.int 1, V.int 1]), (kb, HO.tup [V.int 0, V.int 1]), (pa, HO.tup [V.int 0, V.int 2, V.int 3, V.ref ka, V.ref qa]), (qa, HO.tup [V.int 1, V.int 2]), (ka, HO.tup [V.int 0, V.int 0])]
      | 3 => Hs H [] H' [(ml2, HO.lst [V.ref pd, V.ref pc, V.ref pb, V.ref pa]), (th, HO.lst (row1.map V.str)), (x4, HO.lst (row4.map V.str)), (x3, HO.lst (row3.map V.str)), (x2, HO.lst (row2.map V.str)), (x1, HO.lst (row1.map V.str)), (rw, HO.lst [V.ref x0, V.ref x1, V.ref x2, V.ref x3, V.ref x4]), (x0, HO.lst (row0.map V.str)), (ml, HO.lst [V.ref pa, V.ref pb, V.ref pc, V.ref pd]), (pd, HO.tup [V.int 4, V.int 5, V.int 6, V.ref kd, V.ref qd]), (qd, HO.tup []), (kd, HO.tup [V.int 1, V.int 1]), (pc, HO.tup [V.int 0, V.int 3, V.int 6, V.ref kc, V.ref qc]), (qc, HO.tup [V.int 3, V.int 2]), (kc, HO.tup [V.int 1, V.int 0]), (pb, HO.tup [V.int 3, V.int 4, V.int 6, V.ref kb, V.ref qb]), (qb, HO.tup [V.int 1, V.int 1]), (kb, HO.tup [V.int 0, V.int 1]), (pa, HO.tup [V.int 0, V.int 2, V.int 3, V.ref ka, V.ref qa]), (qa, HO.tup [V.int 1, V.int 2]), (ka, HO.tup [V.int 0, V.int 0])]
      | 4 => Hs H [] H' [(ml2, HO.lst [V.ref pd, V.ref pc, V.ref pb, V.ref pa]), (th, HO.lst (row0.map V.str)), (x4, HO.lst (row4.map V.str)), (x3, HO.lst (row3.map V.str)), (x2, HO.lst (row2.map V.str)), (x1, HO.lst (row1.map V.str)), (rw, HO.lst [V.ref x0, V.ref x1, V.ref x2, V.ref x3, V.ref x4]), (x0, HO.lst (row0.map V.str)), (ml, HO.lst [V.ref pa, V.ref pb, V.ref pc, V.ref pd]), (pd, HO.tup [V.int 4, V.int 5, V.int 6, V.ref kd, V.ref qd]), (qd, HO.tup []), (kd, HO.tup [V.int 1, V.int 1]), (pc, HO.tup [V.int 0, V.int 3, V.int 6, V.ref kc, V.ref qc]), (qc, HO.tup [V.int 3, V.int 2]), (kc, HO.tup [V.int 1, V.int 0]), (pb, HO.tup [V.int 3, V.int 4, V.int 6, V.ref kb, V.ref qb]), (qb, HO.tup [V.int 1, V.int 1]), (kb, HO.tup [V.int 0, V.int 1]), (pa, HO.tup [V.int 0, V.int 2, V.int 3, V.ref ka, V.ref qa]), (qa, HO.tup [V.int 1, V.int 2]), (ka, HO.tup [V.int 0, V.int 0])]
      | _ => False) ⟨_, _, rfl, U8⟩ (fun i σ H' _ h => by
        obtain ⟨o1, o, _, S⟩ := h
        rcases i with _ | _ | _ | _ | _ | i
        · exact Hs.lst (L := [(ml2, HO.lst [V.ref pd, V.ref pc, V.ref pb, V.ref pa]), (th, HO.lst (row4.map V.str)), (x4, HO.lst (row4.map V.str)), (x3, HO.lst (row3.map V.str)), (x2, HO.lst (row2.map V.str)), (x1, HO.lst (row1.map V.str)), (rw, HO.lst [V.ref x0, V.ref x1, V.ref x2, V.ref x3, V.ref x4]), (x0, HO.lst (row0.map V.str)), (ml, HO.lst [V.ref pa, V.ref pb, V.ref pc, V.ref pd]), (pd, HO.tup [V.int 4, V.int 5, V.int 6, V.ref kd, V.ref qd]), (qd, HO.tup []), (kd, HO.tup [V.int 1, V.int 1]), (pc, HO.tup [V.int 0, V.int 3, V.int 6, V.ref kc, V.ref qc]), (qc, HO.tup [V.int 3, V.int 2]), (kc, HO.tup [V.int 1, V.int 0]), (pb, HO.tup [V.int 3, V.int 4, V.int 6, V.ref kb, V.ref qb]), (qb, HO.tup [V.int 1, V.int 1]), (kb, HO.tup [V.int 0, V.int 1]), (pa, HO.tup [V.int 0, V.int 2, V.int 3, V.ref ka, V.ref qa]), (qa, HO.tup [V.int 1, V.int 2]), (ka, HO.tup [V.int 0, V.int 0])]) S (by walk_at "mem")
        · exact Hs.lst (L := [(ml2, HO.lst [V.ref pd, V.ref pc, V.ref pb, V.ref pa]), (th, HO.lst (row3.map V.str)), (x4, HO.lst (row4.map V.str)), (x3, HO.lst (row3.map V.str)), (x2, HO.lst (row2.map V.str)), (x1, HO.lst (row1.map V.str)), (rw, HO.lst [V.ref x0, V.ref x1, V.ref x2, V.ref x3, V.ref x4]), (x0, HO.lst (row0.map V.str)), (ml, HO.lst [V.ref pa, V.ref pb, V.ref pc, V.ref pd]), (pd, HO.tup [V.int 4, V.int 5, V.int 6, V.ref kd, V.ref qd]), (qd, HO.tup []), (kd, HO.tup [V.int 1, V.int 1]), (pc, HO.tup [V.int 0, V.int 3, V.int 6, V.ref kc, V.ref qc]), (qc, HO.tup [V.int 3, V.int 2]), (kc, HO.tup [V.int 1, V.int 0]), (pb, HO.tup [V.int 3, V.int 4, V.int 6, V.ref kb, V.ref qb]), (qb, HO.tup [V.int 1, V.int 1]), (kb, HO.tup [V.int 0, V.int 1]), (pa, HO.tup [V.int 0, V.int 2, V.int 3, V.ref ka, V.ref qa]), (qa, HO.tup [V.int 1, V.int 2]), (ka, HO.tup [V.int 0, V.int 0])]) S (by walk_at "mem")
        · exact Hs.lst (L := [(ml2, HO.lst [V.ref pd, V.ref pc, V.ref pb, V.ref pa]), (th, HO.lst (row2.map V.str)), (x4, HO.lst (row4.map V.str)), (x3, HO.lst (row3.map V.str)), (x2, HO.lst (row2.map V.str)), (x1, HO.lst (row1.map V.str)), (rw, HO.lst [V.ref x0, V.ref x1, V.ref x2, V.ref x3, V.ref x4]), (x0, HO.lst (row0.map V.str)), (ml, HO.lst [V.ref pa, V.ref pb, V.ref pc, V.ref pd]), (pd, HO.tup [V.int 4, V.int 5, V.int 6, V.ref kd, V.ref qd]), (qd, HO.tup []), (kd, HO.tup [V.int 1, V.int 1]), (pc, HO.tup [V.int 0, V.int 3, V.int 6, V.ref kc, V.ref qc]), (qc, HO.tup [V.int 3, V.int 2]), (kc, HO.tup [V.int 1, V.int 0]), (pb, HO.tup [V.int 3, V.int 4, V.int 6, V.ref kb, V.ref qb]), (qb, HO.tup [V.int 1, V.int 1]), (kb, HO.tup [V.int 0, V.int 1]), (pa, HO.tup [V.int 0, V.int 2, V.int 3, V.ref ka, V.ref qa]), (qa, HO.tup [V.int 1, V.int 2]), (ka, HO.tup [V.int 0, V.int 0])]) S (by walk_at "mem")
        · exact Hs.lst (L := [(ml2, HO.lst [V.ref pd, V.ref pc, V.ref pb, V.ref pa]), (th, HO.lst (row1.map V.str)), (x4, HO.lst (row4.map V.str)), (x3, HO.lst (row3.map V.str)), (x2, HO.lst (row2.map V.str)), (x1, HO.lst (row1.map V.str)), (rw, HO.lst [V.ref x0, V.ref x1, V.ref x2, V.ref x3, V.ref x4]), (x0, HO.lst (row0.map V.str)), (ml, HO.lst [V.ref pa, V.ref pb, V.ref pc, V.ref pd]), (pd, HO.tup [V.int 4, V.int 5, V.int 6, V.ref kd, V.ref qd]), (qd, HO.tup []), (kd, HO.tup [V.int 1, V.int 1]), (pc, HO.tup [V.int 0, V.int 3, V.int 6, V.ref kc, V.ref qc]), (qc, HO.tup [V.int 3, V.int 2]), (kc, HO.tup [V.int 1, V.int 0]), (pb, HO.tup [V.int 3, V.int 4, V.int 6, V.ref kb, V.ref qb]), (qb, HO.tup [V.int 1, V.int 1]), (kb, HO.tup [V.int 0, V.int 1]), (pa, HO.tup [V.int 0, V.int 2, V.int 3, V.ref ka, V.ref qa]), (qa, HO.tup [V.int 1, V.int 2]), (ka, HO.tup [V.int 0, V.int 0])]) S (by walk_at "mem")
        · exact Hs.lst (L := [(ml2, HO.lst [V.ref pd, V.ref pc, V.ref pb, V.ref pa]), (th, HO.lst (row0.map V.str)), (x4, HO.lst (row4.map V.str)), (x3, HO.lst (row3.map V.str)), (x2, HO.lst (row2.map V.str)), (x1, HO.lst (row1.map V.str)), (rw, HO.lst [V.ref x0, V.ref x1, V.ref x2, V.ref x3, V.ref x4]), (x0, HO.lst (row0.map V.str)), (ml, HO.lst [V.ref pa, V.ref pb, V.ref pc, V.ref pd]), (pd, HO.tup [V.int 4, V.int 5, V.int 6, V.ref kd, V.ref qd]), (qd, HO.tup []), (kd, HO.tup [V.int 1, V.int 1]), (pc, HO.tup [V.int 0, V.int 3, V.int 6, V.ref kc, V.ref qc]), (qc, HO.tup [V.int 3, V.int 2]), (kc, HO.tup [V.int 1, V.int 0]), (pb, HO.tup [V.int 3, V.int 4, V.int 6, V.ref kb, V.ref qb]), (qb, HO.tup [V.int 1, V.int 1]), (kb, HO.tup [V.int 0, V.int 1]), (pa, HO.tup [V.int 0, V.int 2, V.int 3, V.ref ka, V.ref qa]), (qa, HO.tup [V.int 1, V.int 2]), (ka, HO.tup [V.int 0, V.int 0])]) S (by walk_at "mem")
        · exact S.elim) ?_ ?_
    · intro i v σ G7 T hi h hT
      obtain ⟨o1, o, rfl, S0⟩ := h
      rcases i with _ | _ | _ | _ | i
      · have S : Hs H [] G7 [(ml2, HO.lst [V.ref pd, V.ref pc, V.ref pb, V.ref pa]), (th, HO.lst (row4.map V.str)), (x4, HO.lst (row4.map V.str)), (x3, HO.lst (row3.map V.str)), (x2, HO.lst (row2.map V.str)), (x1, HO.lst (row1.map V.str)), (rw, HO.lst [V.ref x0, V.ref x1, V.ref x2, V.ref x3, V.ref x4]), (x0, HO.lst (row0.map V.str)), (ml, HO.lst [V.ref pa, V.ref pb, V.ref pc, V.ref pd]), (pd, HO.tup [V.int 4, V.int 5, V.int 6, V.ref kd, V.ref qd]), (qd, HO.tup []), (kd, HO.tup [V.int 1, V.int 1]), (pc, HO.tup [V.int 0, V.int 3, V.int 6, V.ref kc, V.ref qc]), (qc, HO.tup [V.int 3, V.int 2]), (kc, HO.tup [V.int 1, V.int 0]), (pb, HO.tup [V.int 3, V.int 4, V.int 6, V.ref kb, V.ref qb]), (qb, HO.tup [V.int 1, V.int 1]), (kb, HO.tup [V.int 0, V.int 1]), (pa, HO.tup [V.int 0, V.int 2, V.int 3, V.ref ka, V.ref qa]), (qa, HO.tup [V.int 1, V.int 2]), (ka, HO.tup [V.int 0, V.int 0])] := S0
        clear S0
        obtain rfl : V.ref pd = v := Option.some.inj hi
        obtain ⟨_, S1⟩ := S.new hT (.tup [.int ((0 : Nat) : Int), V.ref pd])
        clear S
        have bz : bck [] 5 5 (row4.map V.str) = row3.map V.str := by
          show bck [] 5 5 ((fwd [] 5 5 5 row3).map V.str) = _
          rw [← fwd_map]
          exact bck_fwd ⟨by decide, by decide, by rw [List.length_map, row3_ok.2]; decide, by decide, by decide⟩
        walk_at "rd"
        refine rd_neSs S1 (ss := row4) (by walk_at "mem") (by walk_at "mem") row4_ok.1 ?_
        walk_at "rd"
        refine ⟨rfl, rfl, ?_⟩
        show sp_bck [V.ref th, V.ref pd] _ _ _
        refine use_bckC S1 (pk := []) (ys := row3.map V.str) (by walk_at "chg") (by walk_at "mem") (by walk_at "mem") (by walk_at "mem") (by rfl) nd (Or.inl hth) vmd (by rw [List.length_map, row4_ok.2]; decide) (by rw [List.length_map, row4_ok.2]; decide) bz fun G1 S2 => ?_
        clear S1
        walk_at "rd"
        exact ⟨_, _, rfl, S2.sub (L' := [(ml2, HO.lst [V.ref pd, V.ref pc, V.ref pb, V.ref pa]), (th, HO.lst (row3.map V.str)), (x4, HO.lst (row4.map V.str)), (x3, HO.lst (row3.map V.str)), (x2, HO.lst (row2.map V.str)), (x1, HO.lst (row1.map V.str)), (rw, HO.lst [V.ref x0, V.ref x1, V.ref x2, V.ref x3, V.ref x4]), (x0, HO.lst (row0.map V.str)), (ml, HO.lst [V.ref pa, V.ref pb, V.ref pc, V.ref pd]), (pd, HO.tup [V.int 4, V.int 5, V.int 6, V.ref kd, V.ref qd]), (qd, HO.tup []), (kd, HO.tup [V.int 1, V.int 1]), (pc, HO.tup [V.int 0, V.int 3, V.int 6, V.ref kc, V.ref qc]), (qc, HO.tup [V.int 3, V.int 2]), (kc, HO.tup [V.int 1, V.int 0]), (pb, HO.tup [V.int 3, V.int 4, V.int 6, V.ref kb, V.ref qb]), (qb, HO.tup [V.int 1, V.int 1]), (kb, HO.tup [V.int 0, V.int 1]), (pa, HO.tup [V.int 0, V.int 2, V.int 3, V.ref ka, V.ref qa]), (qa, HO.tup [V.int 1, V.int 2]), (ka, HO.tup [V.int 0, V.int 0])]) (by walk_at "sub")⟩
      · have S : Hs H [] G7 [(ml2, HO.lst [V.ref pd, V.ref pc, V.ref pb, V.ref pa]), (th, HO.lst (row3.map V.str)), (x4, HO.lst (row4.map V.str)), (x3, HO.lst (row3.map V.str)), (x2, HO.lst (row2.map V.str)), (x1, HO.lst (row1.map V.str)), (rw, HO.lst [V.ref x0, V.ref x1, V.ref x2, V.ref x3, V.ref x4]), (x0, HO.lst (row0.map V.str)), (ml, HO.lst [V.ref pa, V.ref pb, V.ref pc, V.ref pd]), (pd, HO.tup [V.int 4, V.int 5, V.int 6, V.ref kd, V.ref qd]), (qd, HO.tup []), (kd, HO.tup [V.int 1, V.int 1]), (pc, HO.tup [V.int 0, V.int 3, V.int 6, V.ref kc, V.ref qc]), (qc, HO.tup [V.int 3, V.int 2]), (kc, HO.tup [V.int 1, V.int 0]), (pb, HO.tup [V.int 3, V.int 4, V.int 6, V.ref kb, V.ref qb]), (qb, HO.tup [V.int 1, V.int 1]), (kb, HO.tup [V.int 0, V.int 1]), (pa, HO.tup [V.int 0, V.int 2, V.int 3, V.ref ka, V.ref qa]), (qa, HO.tup [V.int 1, V.int 2]), (ka, HO.tup [V.int 0, V.int 0])] := S0
        clear S0
        obtain rfl : V.ref pc = v := Option.some.inj hi
        obtain ⟨_, S1⟩ := S.new hT (.tup [.int ((1 : Nat) : Int), V.ref pc])
        clear S
        have bz : bck [3, 2] 1 6 (row3.map V.str) = row2.map V.str := by
          show bck [3, 2] 1 6 ((fwd [3, 2] 1 3 6 row2).map V.str) = _
          rw [← fwd_map]
          exact bck_fwd ⟨by decide, by decide, by rw [List.length_map, row2_ok.2]; decide, by decide, by decide⟩
        walk_at "rd"
        refine rd_neSs S1 (ss := row3) (by walk_at "mem") (by walk_at "mem") row3_ok.1 ?_
        walk_at "rd"
        refine ⟨rfl, rfl, ?_⟩
        show sp_bck [V.ref th, V.ref pc] _ _ _
        refine use_bckC S1 (pk := [3, 2]) (ys := row2.map V.str) (by walk_at "chg") (by walk_at "mem") (by walk_at "mem") (by walk_at "mem") (by rfl) nc (Or.inl hth) vmc (by rw [List.length_map, row3_ok.2]; decide) (by rw [List.length_map, row3_ok.2]; decide) bz fun G1 S2 => ?_
        clear S1
        walk_at "rd"
        exact ⟨_, _, rfl, S2.sub (L' := [(ml2, HO.lst [V.ref pd, V.ref pc, V.ref pb, V.ref pa]), (th, HO.lst (row2.map V.str)), (x4, HO.lst (row4.map V.str)), (x3, HO.lst (row3.map V.str)), (x2, HO.lst (row2.map V.str)), (x1, HO.lst (row1.map V.str)), (rw, HO.lst [V.ref x0, V.ref x1, V.ref x2, V.ref x3, V.ref x4]), (x0, HO.lst (row0.map V.str)), (ml, HO.lst [V.ref pa, V.ref pb, V.ref pc, V.ref pd]), (pd, HO.tup [V.int 4, V.int 5, V.int 6, V.ref kd, V.ref qd]), (qd, HO.tup []), (kd, HO.tup [V.int 1, V.int 1]), (pc, HO.tup [V.int 0, V.int 3, V.int 6, V.ref kc, V.ref qc]), (qc, HO.tup [V.int 3, V.int 2]), (kc, HO.tup [V.int 1, V.int 0]), (pb, HO.tup [V.int 3, V.int 4, V.int 6, V.ref kb, V.ref qb]), (qb, HO.tup [V.int 1, V.int 1]), (kb, HO.tup [V.int 0, V.int 1]), (pa, HO.tup [V.int 0, V.int 2, V.int 3, V.ref ka, V.ref qa]), (qa, HO.tup [V.int 1, V.int 2]), (ka, HO.tup [V.int 0, V.int 0])]) (by walk_at "sub")⟩
      · have S : Hs H [] G7 [(ml2, HO.lst [V.ref pd, V.ref pc, V.ref pb, V.ref pa]), (th, HO.lst (row2.map V.str)), (x4, HO.lst (row4.map V.str)), (x3, HO.lst (row3.map V.str)), (x2, HO.lst (row2.map V.str)), (x1, HO.lst (row1.map V.str)), (rw, HO.lst [V.ref x0, V.ref x1, V.ref x2, V.ref x3, V.ref x4]), (x0, HO.lst (row0.map V.str)), (ml, HO.lst [V.ref pa, V.ref pb, V.ref pc, V.ref pd]), (pd, HO.tup [V.int 4, V.int 5, V.int 6, V.ref kd, V.ref qd]), (qd, HO.tup []), (kd, HO.tup [V.int 1, V.int 1]), (pc, HO.tup [V.int 0, V.int 3, V.int 6, V.ref kc, V.ref qc]), (qc, HO.tup [V.int 3, V.int 2]), (kc, HO.tup [V.int 1, V.int 0]), (pb, HO.tup [V.int 3, V.int 4, V.int 6, V.ref kb, V.ref qb]), (qb, HO.tup [V.int 1, V.int 1]), (kb, HO.tup [V.int 0, V.int 1]), (pa, HO.tup [V.int 0, V.int 2, V.int 3, V.ref ka, V.ref qa]), (qa, HO.tup [V.int 1, V.int 2]), (ka, HO.tup [V.int 0, V.int 0])] := S0
        clear S0
        obtain rfl : V.ref pb = v := Option.some.inj hi
        obtain ⟨_, S1⟩ := S.new hT (.tup [.int ((2 : Nat) : Int), V.ref pb])
        clear S
        have bz : bck [1, 1] 3 5 (row2.map V.str) = row1.map V.str := by
          show bck [1, 1] 3 5 ((fwd [1, 1] 3 4 5 row1).map V.str) = _
          rw [← fwd_map]
          exact bck_fwd ⟨by decide, by decide, by rw [List.length_map, row1_ok.2]; decide, by decide, by decide⟩
        walk_at "rd"
        refine rd_neSs S1 (ss := row2) (by walk_at "mem") (by walk_at "mem") row2_ok.1 ?_
        walk_at "rd"
        refine ⟨rfl, rfl, ?_⟩
        show sp_bck [V.ref th, V.ref pb] _ _ _
        refine use_bckC S1 (pk := [1, 1]) (ys := row1.map V.str) (by walk_at "chg") (by walk_at "mem") (by walk_at "mem") (by walk_at "mem") (by rfl) nb (Or.inl hth) vmb (by rw [List.length_map, row2_ok.2]; decide) (by rw [List.length_map, row2_ok.2]; decide) bz fun G1 S2 => ?_
        clear S1
        walk_at "rd"
        exact ⟨_, _, rfl, S2.sub (L' := [(ml2, HO.lst [V.ref pd, V.ref pc, V.ref pb, V.ref pa]), (th, HO.lst (row1.map V.str)), (x4, HO.lst (row4.map V.str)), (x3, HO.lst (row3.map V.str)), (x2, HO.lst (row2.map V.str)), (x1, HO.lst (row1.map V.str)), (rw, HO.lst [V.ref x0, V.ref x1, V.ref x2, V.ref x3, V.ref x4]), (x0, HO.lst (row0.map V.str)), (ml, HO.lst [V.ref pa, V.ref pb, V.ref pc, V.ref pd]), (pd, HO.tup [V.int 4, V.int 5, V.int 6, V.ref kd, V.ref qd]), (qd, HO.tup []), (kd, HO.tup [V.int 1, V.int 1]), (pc, HO.tup [V.int 0, V.int 3, V.int 6, V.ref kc, V.ref qc]), (qc, HO.tup [V.int 3, V.int 2]), (kc, HO.tup [V.int 1, V.int 0]), (pb, HO.tup [V.int 3, V.int 4, V.int 6, V.ref kb, V.ref qb]), (qb, HO.tup [V.int 1, V.int 1]), (kb, HO.tup [V.int 0, V.int 1]), (pa, HO.tup [V.int 0, V.int 2, V.int 3, V.ref ka, V.ref qa]), (qa, HO.tup [V.int 1, V.int 2]), (ka, HO.tup [V.int 0, V.int 0])]) (by walk_at "sub")⟩
      · have S : Hs H [] G7 [(ml2, HO.lst [V.ref pd, V.ref pc, V.ref pb, V.ref pa]), (th, HO.lst (row1.map V.str)), (x4, HO.lst (row4.map V.str)), (x3, HO.lst (row3.map V.str)), (x2, HO.lst (row2.map V.str)), (x1, HO.lst (row1.map V.str)), (rw, HO.lst [V.ref x0, V.ref x1, V.ref x2, V.ref x3, V.ref x4]), (x0, HO.lst (row0.map V.str)), (ml, HO.lst [V.ref pa, V.ref pb, V.ref pc, V.ref pd]), (pd, HO.tup [V.int 4, V.int 5, V.int 6, V.ref kd, V.ref qd]), (qd, HO.tup []), (kd, HO.tup [V.int 1, V.int 1]), (pc, HO.tup [V.int 0, V.int 3, V.int 6, V.ref kc, V.ref qc]), (qc, HO.tup [V.int 3, V.int 2]), (kc, HO.tup [V.int 1, V.int 0]), (pb, HO.tup [V.int 3, V.int 4, V.int 6, V.ref kb, V.ref qb]), (qb, HO.tup [V.int 1, V.int 1]), (kb, HO.tup [V.int 0, V.int 1]), (pa, HO.tup [V.int 0, V.int 2, V.int 3, V.ref ka, V.ref qa]), (qa, HO.tup [V.int 1, V.int 2]), (ka, HO.tup [V.int 0, V.int 0])] := S0
        clear S0
        obtain rfl : V.ref pa = v := Option.some.inj hi
        obtain ⟨_, S1⟩ := S.new hT (.tup [.int ((3 : Nat) : Int), V.ref pa])
        clear S
        have bz : bck [1, 2] 0 3 (row1.map V.str) = row0.map V.str := by
          show bck [1, 2] 0 3 ((fwd [1, 2] 0 2 3 row0).map V.str) = _
          rw [← fwd_map]
          exact bck_fwd ⟨by decide, by decide, by rw [List.length_map, row0_ok.2]; decide, by decide, by decide⟩
        walk_at "rd"
        refine rd_neSs S1 (ss := row1) (by walk_at "mem") (by walk_at "mem") row1_ok.1 ?_
        walk_at "rd"
        refine ⟨rfl, rfl, ?_⟩
        show sp_bck [V.ref th, V.ref pa] _ _ _
        refine use_bckC S1 (pk := [1, 2]) (ys := row0.map V.str) (by walk_at "chg") (by walk_at "mem") (by walk_at "mem") (by walk_at "mem") (by rfl) na (Or.inl hth) vma (by rw [List.length_map, row1_ok.2]; decide) (by rw [List.length_map, row1_ok.2]; decide) bz fun G1 S2 => ?_
        clear S1
        walk_at "rd"
        exact ⟨_, _, rfl, S2.sub (L' := [(ml2, HO.lst [V.ref pd, V.ref pc, V.ref pb, V.ref pa]), (th, HO.lst (row0.map V.str)), (x4, HO.lst (row4.map V.str)), (x3, HO.lst (row3.map V.str)), (x2, HO.lst (row2.map V.str)), (x1, HO.lst (row1.map V.str)), (rw, HO.lst [V.ref x0, V.ref x1, V.ref x2, V.ref x3, V.ref x4]), (x0, HO.lst (row0.map V.str)), (ml, HO.lst [V.ref pa, V.ref pb, V.ref pc, V.ref pd]), (pd, HO.tup [V.int 4, V.int 5, V.int 6, V.ref kd, V.ref qd]), (qd, HO.tup []), (kd, HO.tup [V.int 1, V.int 1]), (pc, HO.tup [V.int 0, V.int 3, V.int 6, V.ref kc, V.ref qc]), (qc, HO.tup [V.int 3, V.int 2]), (kc, HO.tup [V.int 1, V.int 0]), (pb, HO.tup [V.int 3, V.int 4, V.int 6, V.ref kb, V.ref qb]), (qb, HO.tup [V.int 1, V.int 1]), (kb, HO.tup [V.int 0, V.int 1]), (pa, HO.tup [V.int 0, V.int 2, V.int 3, V.ref ka, V.ref qa]), (qa, HO.tup [V.int 1, V.int 2]), (ka, HO.tup [V.int 0, V.int 0])]) (by walk_at "sub")⟩
      · exact absurd hi (by simp)
    intro σ G8 h
    obtain ⟨o1, o3, rfl, U9'⟩ := h
    have U9 : Hs H [] G8 [(ml2, HO.lst [V.ref pd, V.ref pc, V.ref pb, V.ref pa]), (th, HO.lst (row0.map V.str)), (x4, HO.lst (row4.map V.str)), (x3, HO.lst (row3.map V.str)), (x2, HO.lst (row2.map V.str)), (x1, HO.lst (row1.map V.str)), (rw, HO.lst [V.ref x0, V.ref x1, V.ref x2, V.ref x3, V.ref x4]), (x0, HO.lst (row0.map V.str)), (ml, HO.lst [V.ref pa, V.ref pb, V.ref pc, V.ref pd]), (pd, HO.tup [V.int 4, V.int 5, V.int 6, V.ref kd, V.ref qd]), (qd, HO.tup []), (kd, HO.tup [V.int 1, V.int 1]), (pc, HO.tup [V.int 0, V.int 3, V.int 6, V.ref kc, V.ref qc]), (qc, HO.tup [V.int 3, V.int 2]), (kc, HO.tup [V.int 1, V.int 0]), (pb, HO.tup [V.int 3, V.int 4, V.int 6, V.ref kb, V.ref qb]), (qb, HO.tup [V.int 1, V.int 1]), (kb, HO.tup [V.int 0, V.int 1]), (pa, HO.tup [V.int 0, V.int 2, V.int 3, V.ref ka, V.ref qa]), (qa, HO.tup [V.int 1, V.int 2]), (ka, HO.tup [V.int 0, V.int 0])] := U9'
    clear U8 U9'
    walk_at "rd"
    refine rd_eqSs U9 (ss := row0) (by walk_at "mem") (by walk_at "mem") row0_ok.1 ?_
    exact k G8 U9.same
end
end G
end K29

namespace K29
open PySem L2 Rs Xc Xd
local macro_rules | `(tactic| walk_at "val") => `(tactic| first | exact drw_left _ _ _ | exact drw_cell _ _ _ | exact drw_at _ _ _)
local macro_rules | `(tactic| walk_at "put") => `(tactic| first | exact put_left _ _ _ _ | exact put_at _ _ _ _ | exact merge_drw _ _ _)
def sp_law (K : PySem.W.Frag) : Sp := fun vs H Q _ => ∃ (a : Addr) (ns : List Int), vs = [.ref a] ∧ SqL K H a (ns.map V.int) ∧ ns.length ≤ 63 ∧ ∀ H', Q (.bl true) H'
section
variable {P : Program} {w : World} {K : PySem.W.Frag} {mg : Str → Option Value} {base : Heap} {A : Ad} {H H0 : Hp} {M : List Addr} {L L' : Led} {Q : VK} {E : XK}
theorem use_lmerge {d : Addr} {l c a0 : Int} {F : HO → Led} (S : Hs H0 M H L) (ch : ∀ o', Chg d (.dK (drw l c a0)) o' L (F o')) (own : H0 d = none ∨ d ∈ M) (h0 : 0 ≤ a0) (h1 : a0 < 2 ^ 39)
    (h : ∀ (t p kq pq : Addr) (s m e a b : Int) (n : Nat) (pk : List Int) (l' a' : Int) (H' : Hp), kq ≠ pq → Hs H0 M H' ((t, .tup [.ref p, .int n]) :: (p, .tup [.int s, .int m, .int e, .ref kq, .ref pq]) :: (pq, .tup (pk.map V.int)) :: (kq, .tup [.int a, .int b]) :: F (.dK (drw l' c a'))) → a0 ≤ a' → a' ≤ a0 + 60 → VM s m e a b pk → e ≤ n → n ≤ 1160 → Q (.ref t) H') : sp_lmerge [.ref d] H Q E := by
  refine ⟨d, l, c, a0, rfl, S.is _ (ch (.dK [])).mem, h0, h1, fun t p kq pq s m e a b n pk l' a' H' nw hd old b1 b2 W z1 z2 _ _ _ _ => ?_⟩
  have ne : kq ≠ pq := fun z => by
    have := nw.nd
    simp [z] at this
  have w2 := W.s0
  have w3 := W.sm
  have w4 := W.me
  obtain ⟨n', rfl⟩ := Int.eq_ofNat_of_zero_le (show 0 ≤ n by omega)
  exact h t p kq pq s m e a b n' pk l' a' H' ne (S.oneN (ch _) own old hd nw).2 b1 b2 W z1 (by omega)
theorem use_told {d p kq pq : Addr} {l c a0 s m e a b : Int} {n : Nat} {pk : List Int} {F : HO → Led} (S : Hs H0 M H L) (ch : ∀ o', Chg d (.dK (drw l c a0)) o' L (F o')) (own : H0 d = none ∨ d ∈ M) (h0 : 0 ≤ a0) (h1 : a0 < 2 ^ 39) (mp : (p, HO.tup [.int s, .int m, .int e, .ref kq, .ref pq]) ∈ L) (mk : (kq, HO.tup [.int a, .int b]) ∈ L) (mq : (pq, HO.tup (pk.map V.int)) ∈ L) (ne : kq ≠ pq) (W : VM s m e a b pk) (he : e ≤ n) (hn : n ≤ 1160)
    (h : ∀ (l' a' : Int) (H' : Hp), Hs H0 M H' (F (.dK (drw l' c a'))) → a0 ≤ a' → a' ≤ a0 + 1160 → Q (.bl true) H') : sp_told [.ref d, .ref p, .int n] H Q E :=
  ⟨d, p, kq, pq, l, c, a0, s, m, e, a, b, n, pk, rfl, S.is _ (ch (.dK [])).mem, h0, h1, ⟨S.is _ mp, S.is _ mk, S.is _ mq, ne⟩, W, he, hn, fun l' a' H' hd old b1 b2 => h l' a' H' (S.one (ch _) own old hd) b1 b2⟩
theorem ok_law (T : Txt K mg w A) : FnG P w K mg base 8 A.f_law A.d_law ["_law_script"] (sp_law K) := by
  have G__law_begun : FnOk P w K mg base CX0 1 A.f__law_begun A.d__law_begun ["_law_script", "_law_turn"] (sp_begun K) := ok_begun T
  have G__law_merge : FnOk P w K mg base CX0 3 A.f__law_merge A.d__law_merge ["_law_state"] sp_lmerge := ok_lmerge T
  have G__law_told_right : FnG P w K mg base 7 A.f__law_told_right A.d__law_told_right ["_law_state", "_law_paper", "_law_many"] sp_told := ok_told T
  have G__law_by_hand_right : FnG P w K mg base 7 A.f__law_by_hand_right A.d__law_by_hand_right [] sp_hand := G.ok_hand T
  refine defG T.c_law.F sc_law (fun vs H Q E h => ?_) (fun cdv Ar outer s H vs Q E cl hr h => ?_)
  · obtain ⟨a, ns, rfl, _⟩ := h; rfl
  · obtain ⟨a, ns, rfl, hs, hn, k⟩ := h
    have hu := hu_of hr
    refine ⟨_, (pss_cons (ps_for PassesOwn.never rfl (pi_range1 rfl T.n_range (pa_cons (pe_callB (call_max2 rfl) (by rfl) T.n_max PyProof.Rows.boot_max (pa_cons pe_int (pa_cons (pe_callB (call_min2 rfl) (by rfl) T.n_min PyProof.Rows.boot_min (pa_cons (pe_callB call_len_seq (by rfl) T.n_len PySem.boot_len (pa_cons (pv 0) pa_nil)) (pa_cons pe_int pa_nil))) pa_nil))) pa_nil)) (pg_name (i := 1) sc_law.nd rfl (Or.inl rfl))
        (pss_cons (ps_set (i := 2) sc_law.nd rfl (Or.inl rfl) (pe_call G__law_begun (hr.mono (by decide)) rfl T.c__law_begun.m T.c__law_begun.F.kp T.c__law_begun.b .nil pass0 (pa_cons (pv 0) (pa_cons (pv 1) pa_nil))))
        (pss_one (ps_for PassesOwn.never rfl (pi_range1 rfl T.n_range (pa_cons pe_int pa_nil)) (pg_name (i := 3) sc_law.nd rfl (Or.inl rfl))
          (pss_cons (ps_asg (pe_call G__law_merge (hr.mono (by decide)) rfl T.c__law_merge.m T.c__law_merge.F.kp T.c__law_merge.b .nil pass0 (pa_cons (pv 2) pa_nil)) (pg_tup rfl (pgs_cons (pg_name (i := 4) sc_law.nd rfl (Or.inl rfl)) (pgs_cons (pg_name (i := 5) sc_law.nd rfl (Or.inl rfl)) pgs_nil))))
          (pss_one (ps_if (pt_not (pt_val (pe_callG G__law_told_right cl (hr.mono (by decide)) rfl T.c__law_told_right.m T.c__law_told_right.F.kp T.c__law_told_right.b .nil (pa_cons (pv 2) (pa_cons (pv 4) (pa_cons (pv 5) pa_nil))))))
            (pss_one (ps_ret pe_bl))
            pss_nil)))))))
      (pss_one (ps_ret (pe_callG0 G__law_by_hand_right cl (hr.mono (by decide)) rfl T.c__law_by_hand_right.m T.c__law_by_hand_right.F.kp T.c__law_by_hand_right.b .nil)))), ?_⟩
    have S := Hs.start0 H
    walk_at "st"
    walk_at "rd"
    refine ⟨a, _, rfl, Or.inl (S.sq hs (by simp)), ?_⟩
    rw [List.length_map]
    walk_at "rd"
    refine fw_range (fun _ σ H' => ∃ x1 x2 x3 x4 x5, σ = [some (.ref a), x1, x2, x3, x4, x5] ∧ Hs H [] H' []) ⟨_, _, _, _, _, rfl, S⟩ ?_ ?_
    · rintro i σ H1 hi ⟨x1, x2, x3, x4, x5, rfl, S⟩
      have hk : (i : Int) ≤ 10 := by split at hi <;> (try split at hi) <;> (try split at hi) <;> omega
      walk_at "rd"
      refine ⟨a, ns, _, rfl, S.sq hs (by simp), by omega, by omega, fun d l c H2 hd hd' hsm => ?_⟩
      obtain ⟨hd0, S2⟩ := S.more1 hsm hd hd'
      clear S
      walk_at "rd"
      refine fw_range (fun j σ H' => ∃ x3 x4 x5 l a', σ = [some (.ref a), some (.int (0 + i)), some (.ref d), x3, x4, x5] ∧ Hs H [] H' [(d, .dK (drw l c a'))] ∧ 0 ≤ a' ∧ a' ≤ 2000 * j) ⟨_, _, _, _, _, rfl, S2, by omega, by omega⟩ ?_ ?_
      · rintro j σ H1 hj ⟨x3, x4, x5, l, a', rfl, S, c0, c1⟩
        have hj5 : j < 4 := hj
        walk_at "rd"
        refine use_lmerge S (by walk_at "chgF") (Or.inl hd0) (by omega) (by omega) fun t p kq pq s m e a2 b2 n pk l2 a3 H3 ne S3 b3 b4 W hen hn2 => ?_
        clear S
        walk_at "rd"
        refine use_told S3 (by walk_at "chgF") (Or.inl hd0) (by omega) (by omega) (by walk_at "mem") (by walk_at "mem") (by walk_at "mem") ne W hen hn2 fun l4 a4 H4 S4 b5 b6 => ?_
        clear S3
        walk_at "rd"
        exact ⟨_, _, _, _, _, rfl, S4.sub (by walk_at "sub"), by omega, by omega⟩
      · rintro σ H1 ⟨x3, x4, x5, l, a', rfl, S, c0, c1⟩
        exact ⟨_, _, _, _, _, rfl, S.sub (by simp)⟩
    · rintro σ H1 ⟨x1, x2, x3, x4, x5, rfl, S⟩
      walk_at "rd"
      refine ⟨rfl, fun H2 sm => ?_⟩
      exact k _
theorem end_law (K : PySem.W.Frag) (H : Hp) (a : Addr) (ns : List Int) (hn : ns.length ≤ 63) (_ : ∀ z ∈ ns, Builtin.Int.intBits z ≤ 1048576) (h : SqL K H a (ns.map V.int)) : sp_law K [.ref a] H (fun v _ => v = .bl true) E0 :=
  ⟨a, ns, rfl, h, hn, fun _ => rfl⟩
end
end K29

namespace K29
end K29
open PySem PySem.W PyProof.Rows
set_option maxRecDepth 100000 in
set_option maxHeartbeats 0 in
theorem PySem.Challenge.cw_runsort_k29_moves_forth_and_back_holds : PySem.Challenge.rw_runsort_k29_moves_forth_and_back.Holds := by
  w_on; o_law; k_head; (case hw => w_witness2)
  k_fill
  refine Rs.walkE (n := 63) (k := 8) (st := K29.s_law) (x := "_law_script") (sp := K29.sp_law) rfl (by decide) rfl ⟨rfl, by decide, by decide⟩ (fun w h Y => PySem.W.kIn_of Y) rfl (fun _ _ _ _ _ _ _ => rfl) ?F K29.end_law
  case F =>
    intro w mg h KX G
    obtain ⟨A, T⟩ : ∃ A, K29.Txt _ mg w A := by
      refine' K29.all_mk (w := w) KX G ?a_is_whole ?l_is_whole ?e_is_whole ?k_is_whole ?dd_is_whole ?a_need_row ?l_need_row ?e_need_row ?k_need_row ?a_is_kept ?l_is_kept ?e_is_kept ?k_is_kept ?a_are_picks ?l_are_picks ?e_are_picks ?k_are_picks ?a_is_merge ?l_is_merge ?e_is_merge ?k_is_merge ?dd_is_merge ?a_need_merge ?l_need_merge ?e_need_merge ?k_need_merge ?dd_need_merge ?a_moved_things ?l_moved_things ?e_moved_things ?k_moved_things ?a_move_merge ?l_move_merge ?e_move_merge ?k_move_merge ?a_move_back ?l_move_back ?e_move_back ?k_move_back ?a__law_begun ?l__law_begun ?e__law_begun ?k__law_begun ?a__law_draw ?l__law_draw ?e__law_draw ?k__law_draw ?a__law_lengths ?l__law_lengths ?e__law_lengths ?k__law_lengths ?a__law_merge ?l__law_merge ?e__law_merge ?k__law_merge ?a__law_things ?l__law_things ?e__law_things ?k__law_things ?a__law_moved ?l__law_moved ?e__law_moved ?k__law_moved ?a__law_changed ?l__law_changed ?e__law_changed ?k__law_changed ?a__law_told_right ?l__law_told_right ?e__law_told_right ?k__law_told_right ?a__law_by_hand_right ?l__law_by_hand_right ?e__law_by_hand_right ?k__law_by_hand_right ?a_law ?l_law ?e_law ?k_law ?g_MOST_THINGS ?r_MOST_THINGS ?z_len ?z_min ?z_max ?z_range ?z_repr ?z_isinstance ?z_int ?z_bool ?z_tuple ?z_list ?z_sum ?z_all ?z_enumerate ?z_str
      (case a_is_whole => k_is)
      (case l_is_whole => k_is)
      (case e_is_whole => k_is)
      (case k_is_whole => k_is)
      (case dd_is_whole => (intro q hq; simp only [List.mem_cons, List.not_mem_nil, or_false] at hq; rcases hq with rfl | rfl <;> (dsimp only; refine' Rs.ex_u ?_ ?_; rotate_left; k_is; first | exact ⟨_, rfl⟩ | exact rfl)))
      (case a_need_row => k_is)
      (case l_need_row => k_is)
      (case e_need_row => k_is)
      (case k_need_row => k_is)
      (case a_is_kept => k_is)
      (case l_is_kept => k_is)
      (case e_is_kept => k_is)
      (case k_is_kept => k_is)
      (case a_are_picks => k_is)
      (case l_are_picks => k_is)
      (case e_are_picks => k_is)
      (case k_are_picks => k_is)
      (case a_is_merge => k_is)
      (case l_is_merge => k_is)
      (case e_is_merge => k_is)
      (case k_is_merge => k_is)
      (case dd_is_merge => (intro q hq; simp only [List.mem_cons, List.not_mem_nil, or_false] at hq; rcases hq with rfl <;> (dsimp only; refine' Rs.ex_u ?_ ?_; rotate_left; k_is; first | exact ⟨_, rfl⟩ | exact rfl)))
      (case a_need_merge => k_is)
      (case l_need_merge => k_is)
      (case e_need_merge => k_is)
      (case k_need_merge => k_is)
      (case dd_need_merge => (intro q hq; simp only [List.mem_cons, List.not_mem_nil, or_false] at hq; rcases hq with rfl <;> (dsimp only; refine' Rs.ex_u ?_ ?_; rotate_left; k_is; first | exact ⟨_, rfl⟩ | exact rfl)))
      (case a_moved_things => k_is)
      (case l_moved_things => k_is)
      (case e_moved_things => k_is)
      (case k_moved_things => k_is)
      (case a_move_merge => k_is)
      (case l_move_merge => k_is)
      (case e_move_merge => k_is)
      (case k_move_merge => k_is)
      (case a_move_back => k_is)
      (case l_move_back => k_is)
      (case e_move_back => k_is)
      (case k_move_back => k_is)
      (case a__law_begun => k_is)
      (case l__law_begun => k_is)
      (case e__law_begun => k_is)
      (case k__law_begun => k_is)
      (case a__law_draw => k_is)
      (case l__law_draw => k_is)
      (case e__law_draw => k_is)
      (case k__law_draw => k_is)
      (case a__law_lengths => k_is)
      (case l__law_lengths => k_is)
      (case e__law_lengths => k_is)
      (case k__law_lengths => k_is)
      (case a__law_merge => k_is)
      (case l__law_merge => k_is)
      (case e__law_merge => k_is)
      (case k__law_merge => k_is)
      (case a__law_things => k_is)
      (case l__law_things => k_is)
      (case e__law_things => k_is)
      (case k__law_things => k_is)
      (case a__law_moved => k_is)
      (case l__law_moved => k_is)
      (case e__law_moved => k_is)
      (case k__law_moved => k_is)
      (case a__law_changed => k_is)
      (case l__law_changed => k_is)
      (case e__law_changed => k_is)
      (case k__law_changed => k_is)
      (case a__law_told_right => k_is)
      (case l__law_told_right => k_is)
      (case e__law_told_right => k_is)
      (case k__law_told_right => k_is)
      (case a__law_by_hand_right => k_is)
      (case l__law_by_hand_right => k_is)
      (case e__law_by_hand_right => k_is)
      (case k__law_by_hand_right => k_is)
      (case a_law => k_is)
      (case l_law => k_is)
      (case e_law => k_is)
      (case k_law => k_is)
      (case g_MOST_THINGS => k_is)
      (case r_MOST_THINGS => first | exact ⟨_, rfl⟩ | exact rfl)
      (case z_len => k_is)
      (case z_min => k_is)
      (case z_max => k_is)
      (case z_range => k_is)
      (case z_repr => k_is)
      (case z_isinstance => k_is)
      (case z_int => k_is)
      (case z_bool => k_is)
      (case z_tuple => k_is)
      (case z_list => k_is)
      (case z_sum => k_is)
      (case z_all => k_is)
      (case z_enumerate => k_is)
      (case z_str => k_is)
    exact ⟨_, _, T.c_law, fun base => K29.ok_law T⟩
