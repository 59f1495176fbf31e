import PyProof.Rows.All
import Wide.All
import OpenK.AllK
import Wide.FinOn
import KE.BytesMake
import KE.KDictSum
import KE.KSlice
import KE.KSortKey
import KE.KSuper
import PySem.Challenge.RW_nu0183_01
set_option Elab.async false
set_option hygiene false
set_option compiler.extract_closed false
set_option maxRecDepth 100000
set_option linter.unusedVariables false
set_option linter.unusedSimpArgs false
set_option linter.deprecated false
set_option maxHeartbeats 8000000
open PySem PySem.W PyProof.Rows PySem.Calls Builtin Builtin.ObjectAttr
namespace Nu
local macro_rules | `(tactic| omega) => `(tactic| first | with_reducible assumption | lia)
section
inductive Ex2 {T0 T1 : Type} (p : T0 → T1 → Prop) : Prop | mk (a0 : T0) (a1 : T1) (h : p a0 a1) : Ex2 p
inductive Ex3 {T0 T1 T2 : Type} (p : T0 → T1 → T2 → Prop) : Prop | mk (a0 : T0) (a1 : T1) (a2 : T2) (h : p a0 a1 a2) : Ex3 p
inductive Ex4 {T0 T1 T2 T3 : Type} (p : T0 → T1 → T2 → T3 → Prop) : Prop | mk (a0 : T0) (a1 : T1) (a2 : T2) (a3 : T3) (h : p a0 a1 a2 a3) : Ex4 p
inductive Ex5 {T0 T1 T2 T3 T4 : Type} (p : T0 → T1 → T2 → T3 → T4 → Prop) : Prop | mk (a0 : T0) (a1 : T1) (a2 : T2) (a3 : T3) (a4 : T4) (h : p a0 a1 a2 a3 a4) : Ex5 p
inductive Ex6 {T0 T1 T2 T3 T4 T5 : Type} (p : T0 → T1 → T2 → T3 → T4 → T5 → Prop) : Prop | mk (a0 : T0) (a1 : T1) (a2 : T2) (a3 : T3) (a4 : T4) (a5 : T5) (h : p a0 a1 a2 a3 a4 a5) : Ex6 p
inductive Ex7 {T0 T1 T2 T3 T4 T5 T6 : Type} (p : T0 → T1 → T2 → T3 → T4 → T5 → T6 → Prop) : Prop | mk (a0 : T0) (a1 : T1) (a2 : T2) (a3 : T3) (a4 : T4) (a5 : T5) (a6 : T6) (h : p a0 a1 a2 a3 a4 a5 a6) : Ex7 p
inductive Ex8 {T0 T1 T2 T3 T4 T5 T6 T7 : Type} (p : T0 → T1 → T2 → T3 → T4 → T5 → T6 → T7 → Prop) : Prop | mk (a0 : T0) (a1 : T1) (a2 : T2) (a3 : T3) (a4 : T4) (a5 : T5) (a6 : T6) (a7 : T7) (h : p a0 a1 a2 a3 a4 a5 a6 a7) : Ex8 p
inductive Ex9 {T0 T1 T2 T3 T4 T5 T6 T7 T8 : Type} (p : T0 → T1 → T2 → T3 → T4 → T5 → T6 → T7 → T8 → Prop) : Prop | mk (a0 : T0) (a1 : T1) (a2 : T2) (a3 : T3) (a4 : T4) (a5 : T5) (a6 : T6) (a7 : T7) (a8 : T8) (h : p a0 a1 a2 a3 a4 a5 a6 a7 a8) : Ex9 p
inductive Ex10 {T0 T1 T2 T3 T4 T5 T6 T7 T8 T9 : Type} (p : T0 → T1 → T2 → T3 → T4 → T5 → T6 → T7 → T8 → T9 → Prop) : Prop | mk (a0 : T0) (a1 : T1) (a2 : T2) (a3 : T3) (a4 : T4) (a5 : T5) (a6 : T6) (a7 : T7) (a8 : T8) (a9 : T9) (h : p a0 a1 a2 a3 a4 a5 a6 a7 a8 a9) : Ex10 p
inductive Ex11 {T0 T1 T2 T3 T4 T5 T6 T7 T8 T9 T10 : Type} (p : T0 → T1 → T2 → T3 → T4 → T5 → T6 → T7 → T8 → T9 → T10 → Prop) : Prop | mk (a0 : T0) (a1 : T1) (a2 : T2) (a3 : T3) (a4 : T4) (a5 : T5) (a6 : T6) (a7 : T7) (a8 : T8) (a9 : T9) (a10 : T10) (h : p a0 a1 a2 a3 a4 a5 a6 a7 a8 a9 a10) : Ex11 p
inductive Ex12 {T0 T1 T2 T3 T4 T5 T6 T7 T8 T9 T10 T11 : Type} (p : T0 → T1 → T2 → T3 → T4 → T5 → T6 → T7 → T8 → T9 → T10 → T11 → Prop) : Prop | mk (a0 : T0) (a1 : T1) (a2 : T2) (a3 : T3) (a4 : T4) (a5 : T5) (a6 : T6) (a7 : T7) (a8 : T8) (a9 : T9) (a10 : T10) (a11 : T11) (h : p a0 a1 a2 a3 a4 a5 a6 a7 a8 a9 a10 a11) : Ex12 p
inductive Ex14 {T0 T1 T2 T3 T4 T5 T6 T7 T8 T9 T10 T11 T12 T13 : Type} (p : T0 → T1 → T2 → T3 → T4 → T5 → T6 → T7 → T8 → T9 → T10 → T11 → T12 → T13 → Prop) : Prop | mk (a0 : T0) (a1 : T1) (a2 : T2) (a3 : T3) (a4 : T4) (a5 : T5) (a6 : T6) (a7 : T7) (a8 : T8) (a9 : T9) (a10 : T10) (a11 : T11) (a12 : T12) (a13 : T13) (h : p a0 a1 a2 a3 a4 a5 a6 a7 a8 a9 a10 a11 a12 a13) : Ex14 p
inductive Ex15 {T0 T1 T2 T3 T4 T5 T6 T7 T8 T9 T10 T11 T12 T13 T14 : Type} (p : T0 → T1 → T2 → T3 → T4 → T5 → T6 → T7 → T8 → T9 → T10 → T11 → T12 → T13 → T14 → Prop) : Prop | mk (a0 : T0) (a1 : T1) (a2 : T2) (a3 : T3) (a4 : T4) (a5 : T5) (a6 : T6) (a7 : T7) (a8 : T8) (a9 : T9) (a10 : T10) (a11 : T11) (a12 : T12) (a13 : T13) (a14 : T14) (h : p a0 a1 a2 a3 a4 a5 a6 a7 a8 a9 a10 a11 a12 a13 a14) : Ex15 p
inductive Ex16 {T0 T1 T2 T3 T4 T5 T6 T7 T8 T9 T10 T11 T12 T13 T14 T15 : Type} (p : T0 → T1 → T2 → T3 → T4 → T5 → T6 → T7 → T8 → T9 → T10 → T11 → T12 → T13 → T14 → T15 → Prop) : Prop | mk (a0 : T0) (a1 : T1) (a2 : T2) (a3 : T3) (a4 : T4) (a5 : T5) (a6 : T6) (a7 : T7) (a8 : T8) (a9 : T9) (a10 : T10) (a11 : T11) (a12 : T12) (a13 : T13) (a14 : T14) (a15 : T15) (h : p a0 a1 a2 a3 a4 a5 a6 a7 a8 a9 a10 a11 a12 a13 a14 a15) : Ex16 p
inductive Ex17 {T0 T1 T2 T3 T4 T5 T6 T7 T8 T9 T10 T11 T12 T13 T14 T15 T16 : Type} (p : T0 → T1 → T2 → T3 → T4 → T5 → T6 → T7 → T8 → T9 → T10 → T11 → T12 → T13 → T14 → T15 → T16 → Prop) : Prop | mk (a0 : T0) (a1 : T1) (a2 : T2) (a3 : T3) (a4 : T4) (a5 : T5) (a6 : T6) (a7 : T7) (a8 : T8) (a9 : T9) (a10 : T10) (a11 : T11) (a12 : T12) (a13 : T13) (a14 : T14) (a15 : T15) (a16 : T16) (h : p a0 a1 a2 a3 a4 a5 a6 a7 a8 a9 a10 a11 a12 a13 a14 a15 a16) : Ex17 p
inductive An3 (p0 p1 p2 : Prop) : Prop | mk (h0 : p0) (h1 : p1) (h2 : p2) : An3 p0 p1 p2
inductive An4 (p0 p1 p2 p3 : Prop) : Prop | mk (h0 : p0) (h1 : p1) (h2 : p2) (h3 : p3) : An4 p0 p1 p2 p3
inductive An5 (p0 p1 p2 p3 p4 : Prop) : Prop | mk (h0 : p0) (h1 : p1) (h2 : p2) (h3 : p3) (h4 : p4) : An5 p0 p1 p2 p3 p4
inductive An6 (p0 p1 p2 p3 p4 p5 : Prop) : Prop | mk (h0 : p0) (h1 : p1) (h2 : p2) (h3 : p3) (h4 : p4) (h5 : p5) : An6 p0 p1 p2 p3 p4 p5
inductive An7 (p0 p1 p2 p3 p4 p5 p6 : Prop) : Prop | mk (h0 : p0) (h1 : p1) (h2 : p2) (h3 : p3) (h4 : p4) (h5 : p5) (h6 : p6) : An7 p0 p1 p2 p3 p4 p5 p6
inductive An8 (p0 p1 p2 p3 p4 p5 p6 p7 : Prop) : Prop | mk (h0 : p0) (h1 : p1) (h2 : p2) (h3 : p3) (h4 : p4) (h5 : p5) (h6 : p6) (h7 : p7) : An8 p0 p1 p2 p3 p4 p5 p6 p7
inductive An9 (p0 p1 p2 p3 p4 p5 p6 p7 p8 : Prop) : Prop | mk (h0 : p0) (h1 : p1) (h2 : p2) (h3 : p3) (h4 : p4) (h5 : p5) (h6 : p6) (h7 : p7) (h8 : p8) : An9 p0 p1 p2 p3 p4 p5 p6 p7 p8
inductive An10 (p0 p1 p2 p3 p4 p5 p6 p7 p8 p9 : Prop) : Prop | mk (h0 : p0) (h1 : p1) (h2 : p2) (h3 : p3) (h4 : p4) (h5 : p5) (h6 : p6) (h7 : p7) (h8 : p8) (h9 : p9) : An10 p0 p1 p2 p3 p4 p5 p6 p7 p8 p9
inductive An12 (p0 p1 p2 p3 p4 p5 p6 p7 p8 p9 p10 p11 : Prop) : Prop | mk (h0 : p0) (h1 : p1) (h2 : p2) (h3 : p3) (h4 : p4) (h5 : p5) (h6 : p6) (h7 : p7) (h8 : p8) (h9 : p9) (h10 : p10) (h11 : p11) : An12 p0 p1 p2 p3 p4 p5 p6 p7 p8 p9 p10 p11
inductive An13 (p0 p1 p2 p3 p4 p5 p6 p7 p8 p9 p10 p11 p12 : Prop) : Prop | mk (h0 : p0) (h1 : p1) (h2 : p2) (h3 : p3) (h4 : p4) (h5 : p5) (h6 : p6) (h7 : p7) (h8 : p8) (h9 : p9) (h10 : p10) (h11 : p11) (h12 : p12) : An13 p0 p1 p2 p3 p4 p5 p6 p7 p8 p9 p10 p11 p12
theorem ex2 {T0 T1 : Type} {p : T0 → T1 → Prop} (h : ∃ a0 a1, p a0 a1) : Ex2 p := by
  obtain ⟨a0, a1, x⟩ := h
  exact ⟨a0, a1, x⟩
theorem ex3 {T0 T1 T2 : Type} {p : T0 → T1 → T2 → Prop} (h : ∃ a0 a1 a2, p a0 a1 a2) : Ex3 p := by
  obtain ⟨a0, a1, a2, x⟩ := h
  exact ⟨a0, a1, a2, x⟩
theorem ex4 {T0 T1 T2 T3 : Type} {p : T0 → T1 → T2 → T3 → Prop} (h : ∃ a0 a1 a2 a3, p a0 a1 a2 a3) : Ex4 p := by
  obtain ⟨a0, a1, a2, a3, x⟩ := h
  exact ⟨a0, a1, a2, a3, x⟩
theorem ex5 {T0 T1 T2 T3 T4 : Type} {p : T0 → T1 → T2 → T3 → T4 → Prop} (h : ∃ a0 a1 a2 a3 a4, p a0 a1 a2 a3 a4) : Ex5 p := by
  obtain ⟨a0, a1, a2, a3, a4, x⟩ := h
  exact ⟨a0, a1, a2, a3, a4, x⟩
theorem ex6 {T0 T1 T2 T3 T4 T5 : Type} {p : T0 → T1 → T2 → T3 → T4 → T5 → Prop} (h : ∃ a0 a1 a2 a3 a4 a5, p a0 a1 a2 a3 a4 a5) : Ex6 p := by
  obtain ⟨a0, a1, a2, a3, a4, a5, x⟩ := h
  exact ⟨a0, a1, a2, a3, a4, a5, x⟩
theorem ex7 {T0 T1 T2 T3 T4 T5 T6 : Type} {p : T0 → T1 → T2 → T3 → T4 → T5 → T6 → Prop} (h : ∃ a0 a1 a2 a3 a4 a5 a6, p a0 a1 a2 a3 a4 a5 a6) : Ex7 p := by
  obtain ⟨a0, a1, a2, a3, a4, a5, a6, x⟩ := h
  exact ⟨a0, a1, a2, a3, a4, a5, a6, x⟩
open PySem PySem.W PyProof.Rows PySem.Calls
/-! The library's contexts do not exclude the codec frames that hold a bytearray. A logic of one's own for what is called from
a stack without them: no exception is let out. -/
noncomputable def isDec : Code → Bool
  | .builtin i _ => Builtin.Bytes.decodersThatHold.contains i
  | _ => false
noncomputable def ClB (l : List (Code × Pos)) : Prop := ∀ x ∈ l, isDec x.1 = false
structure Cl (Γ : Ctx) : Prop where
  code : isDec Γ.code = false
  below : ClB Γ.below
noncomputable def wpC {α : Type} (M : Model) (A : Around) (t : Sem α) (Q : α → Shared → Prop) (s : Shared) : Prop :=
  ∀ Γ p, Γ.In A → Cl Γ → Sem.wp M Γ t (fun a _ s' => Q a s') (fun _ _ _ => False) p s
noncomputable def codeC (M : Model) (A : Around) (c : Code) (R : Flow → Shared → Prop) (s : Shared) : Prop :=
  ∀ Γ p, Γ.code = c → Γ.Below A → ClB Γ.below → wpCode M Γ (fun r s' => match r with | .ok f => R f s' | .error _ => False) p s
section
variable {α β : Type} {M : Model} {A : Around} {s : Shared}
theorem wpC_of {t : Sem α} {Q : α → Shared → Prop} (h : wpAny M A t Q (fun _ _ => False) s) : wpC M A t Q s := fun Γ p hΓ _ => h Γ p hΓ
theorem wpC_mono {t : Sem α} {Q Q' : α → Shared → Prop} (h : wpC M A t Q s) (hq : ∀ a s', Q a s' → Q' a s') : wpC M A t Q' s := fun Γ p hΓ hC =>
  Sem.wp_mono M Γ t (fun a _ s' x => hq a s' x) (fun _ _ _ x => x) p s (h Γ p hΓ hC)
theorem wpC_pure {a : α} {Q : α → Shared → Prop} (h : Q a s) : wpC M A (pure a) Q s := wpC_of (wpAny_pure h)
theorem wpC_bind {m : Sem α} {f : α → Sem β} {Q : β → Shared → Prop} (h : wpC M A m (fun a s' => wpC M A (f a) Q s') s) : wpC M A (m >>= f) Q s := fun Γ p hΓ hC => by
  rw [Sem.wp_bind']
  exact Sem.wp_mono M Γ m (fun a p' s' h' => h' Γ p' hΓ hC) (fun _ _ _ h' => h') p s (h Γ p hΓ hC)
end
theorem caller_clean : Cl (⟨.builtin "claim.caller" {}, none, none, [], none⟩ : Ctx) := ⟨by show Builtin.Bytes.decodersThatHold.contains "claim.caller" = false; decide +kernel, fun _ h => nomatch h⟩
theorem thread_C {prog : Program} {w : World} {t : Sem Fin} {s : Shared} {R : Result → Shared → Prop} (hreg : s.asleep)
    (h : wpC (model prog w) callerA t (fun fin s' => ∃ f, fin = .done f ∧ (R (.ok f) s' ∧ leftWithCleanup s'.gens = false)) s) :
    Ex4 fun n r s' s'' => An4 (runN (denote table) prog w n s ⟨t, .builtin "claim.caller" {}, default, []⟩ = .halted (outcomeOf r) s')
      (schedN (denote table) prog w n (.single s ⟨t, .builtin "claim.caller" {}, default, []⟩) = .halted (outcomeOf r) s') (s'.forget = s''.forget) (R r s'') := by
  have h0 : Sem.wp (model prog w) ⟨.builtin "claim.caller" {}, none, none, [], none⟩ t (Sem.finPost (model prog w) ⟨.builtin "claim.caller" {}, none, none, [], none⟩ fun r s' => R r s' ∧ leftWithCleanup s'.gens = false)
      (fun e _ s' => R (.error e) s' ∧ leftWithCleanup s'.gens = false) default s := by
    refine Sem.wp_mono _ _ t (fun fin p' s' h' => ?_) (fun _ _ _ h' => h'.elim) default s (h _ _ caller_in caller_clean)
    obtain ⟨f, HH1⟩ := h'
    obtain rfl := HH1.1
    have hf := HH1.2
    clear HH1
    exact hf
  obtain ⟨n, r, s₁, s₂, HH1⟩ := ex4 (wp_halts_full (M := model prog w) (R := R) hreg h0)
  have hs := HH1.1
  have hn := HH1.2.1
  have hfo := HH1.2.2.1
  have hR := HH1.2.2.2
  clear HH1
  exact ⟨n, r, s₂, s₁, hn, hs, hfo, hR⟩
theorem callFrom_C {c : ClaimW} {tree : List Value → Sem Fin} {w : World} {s : Shared} {free : Addr → Prop} {gens : Prop} {kept : Heap → Prop} (hz : s.asleep) (hgens : s.gens = #[])
    (hspec : ∀ args, c.pre args = true → WData.layableAll args = true →
      ∀ ord : List DictEntry → List DictEntry, (∀ l, (ord l).Perm l) →
      ∃ vs s₁, layAllW c.records (classAt s.heap) w.params ord args s = some (vs, s₁) ∧
        wpC (model c.prog w) callerA (tree vs) (fun fin s' => ∃ f, fin = .done f ∧ (c.Ends s args vs s₁ (.ok f) s' ∧ s'.os = s.os ∧ AllBare s'.gens ∧ kept s'.heap)) s₁) :
    c.CallFrom (fun vs => ⟨tree vs, .builtin "claim.caller" {}, default, []⟩) w free gens kept s := by
  intro args hpre hlay ord hord
  obtain ⟨vs, s₁, HH1⟩ := ex2 (hspec args hpre hlay ord hord)
  have hlaid := HH1.1
  have hcode := HH1.2
  clear HH1
  have hal := layAllW_rest _ _ _ hlaid
  obtain ⟨k, r, s', s'', hrun, hsched, hfo, hcase, hos, hkp⟩ := thread_C (prog := c.prog) (w := w) (t := tree vs) (s := s₁)
    (R := fun r s' => c.Ends s args vs s₁ r s' ∧ s'.os = s.os ∧ kept s'.heap)
    (Shared.asleep_of_life hal.2.2.2 hz)
    (wpC_mono hcode (by
      rintro fin s' ⟨f, e, h1, h2, h3, h4⟩
      exact ⟨f, e, ⟨h1, h2, h4⟩, leftWithCleanup_false_of_bare h3⟩))
  have HH1 := Shared.forget_eq hfo
  have eh := HH1.1
  have eo := HH1.2.2.2.1
  clear HH1
  have hcase := hcase.congr eh
  rw [← eh] at hkp
  rw [← eo] at hos
  have hlife : s'.heap.life = s.heap.life := (runN_life _ _ _ hrun).trans hal.2.2.2
  exact ⟨vs, s₁, hlaid, k, _, s', hsched, hcase.imp (fun h => h.imp fun v q => ⟨congrArg outcomeOf q.1, q.2.1, q.2.2.1, q.2.2.2.1, fun b o y _ => q.2.2.2.2.1 b o y, q.2.2.2.2.2⟩) (fun h => h.imp fun e h => h.imp fun ob h => h.imp fun cls q => ⟨congrArg outcomeOf q.1, q.2.1, q.2.2.1, q.2.2.2.1, q.2.2.2.2.1, fun b o y _ => q.2.2.2.2.2 b o y⟩), (fun _ i x hx => by rw [hgens] at hx; simp at hx), hkp, by rw [hlife], Shared.rest_eq hos⟩
noncomputable abbrev WalkC (q : Program) (loose : List Str) (XP : (Str → Option Value) → Heap → Prop) (YP : World → Heap → Prop) (r : RowW) (d : DefRec) (kwd : List (Str × Expr)) : Prop :=
  ∀ (w : World) (s₀ s₁ : Shared) (mg mb : Str → Option Value), Ground q loose r.records XP w s₀ mg mb s₁.heap → YP w s₁.heap → ∀ (a : Addr) (o : Obj) (pm cd doc dV kV : Value), s₁.heap.get? a = some o →
    o.data = .func { docDef d.name d.params d.body d.scope pm cd doc with defaults := dV, kwdefaults := kV } → s₁.heap.CodeRec cd d.name → Dflts mg s₁.heap d.params kwd dV kV → mg d.name = some (.ref a) → s₁.gens = #[] →
    ∀ (args : List WData) (vals : List Value) (as : List Addr), r.claim.pre args = true → WData.layableAll args = true → ReadsAllW r.records (classAt s₀.heap) s₁.heap vals args as → WellAll w.params s₁.heap vals args → (∀ a ∈ as, (a == sysModules) = false) →
      wpC (model r.prog w) callerA (PySem.call (.ref a) vals) (fun v s' => GoodWG r.claim (classAt s₀.heap) (ExcName.means s₀.heap) args s₁ (.ok (.ret v)) s') s₁
theorem holds_openC {r : OpenRow} {q : Program} {loose : List Str} {Xt : Shared → Bool} {XP : (Str → Option Value) → Heap → Prop} {α : Type} {Yf : Shared → α} {Ya : World → α} {YP : World → Heap → Prop} {d : DefRec} {kwd : List (Str × Expr)} {N : Nat}
    (left : LeftO r.prog q loose Xt Yf Ya N) (hY : ∀ w s, Yf s = Ya w → YP w s.heap) (hYk : ∀ w h h', YP w h → (∀ b o, h.get? b = some o → h'.get? b = some o) → YP w h')
    (hX : ∀ s, Xt s = true → XP (s.heap.nsMap mainGlobals) s.heap) (hXk : ∀ mg h h', XP mg h → (∀ b o, h.get? b = some o → h'.get? b = some o) → XP mg h')
    (hdef : defOf q r.name = some (d, kwd)) (hp : r.prog.theDef r.name = some (d.params, d.body, d.scope)) (hk : kwWritten? d.params.kwonlyargs d.params.kw_defaults = some kwd) (hRf : ∀ s, Xt s = true → RecFacts r.records s.heap) (hwr : (!r.writes || r.records.isEmpty) = true)
    (k1 : r.wellSaid = true) (ok : (chainsOk q && opensWell r.prog && (frees r.toRowW && r.within.isEmpty)) = true) (hb : r.prog.bare) (hw : r.toRowW.promised)
    (call : WalkC q loose XP YP r.toRowW d kwd) : r.Holds := by
  refine ⟨k1, hw, ?_⟩
  obtain ⟨ok, k5⟩ := Bool.and_eq_true_iff.mp ok
  obtain ⟨hch, o1⟩ := Bool.and_eq_true_iff.mp ok
  obtain ⟨k5, k6⟩ := Bool.and_eq_true_iff.mp k5
  have HH1 := frees_parts k5
  have hsame := HH1.1
  have hu := HH1.2.1
  have ha := HH1.2.2.1
  have hap := HH1.2.2.2.1
  have hm := HH1.2.2.2.2
  clear HH1
  refine ⟨⟨hb, o1, by show r.toRowW.makers.map _ = []; rw [hm]; rfl⟩, hw.witness, fun w => ⟨(left.behind hX hch w).1, fun s' hs' => ?_⟩⟩
  obtain ⟨s₀, HH1⟩ := (left.behind (XP := fun mg h => XP mg h ∧ RecFacts r.records h) (fun s hs => ⟨hX s hs, hRf s hs⟩) hch w).2 s' hs'
  have hf := HH1.1
  have hg0 := HH1.2.1
  obtain ⟨s, HH2⟩ := HH1.2.2
  have hT := HH2.1
  have hz := HH2.2.1
  have hgens := HH2.2.2.1
  have hg := HH2.2.2.2.1
  have G00 := HH2.2.2.2.2.1
  have y := HH2.2.2.2.2.2
  clear HH1 HH2
  have G0 : Ground q loose [] XP w s (s.heap.nsMap mainGlobals) (s.heap.nsMap builtinsNs) s.heap := ⟨G00.T, G00.B, G00.D, G00.TE, G00.TD, G00.W, G00.X.1, G00.cls, G00.has, G00.apart, G00.once, G00.K⟩
  have RF := G00.X.2
  have hT' := hT
  have hgens : s.gens = #[] := Array.eq_empty_of_size_eq_zero (beq_iff_eq.mp hgens)
  have G : Ground q loose r.records XP w s _ _ s.heap := RF.ground G0
  refine ⟨s₀, hf, hg0, s, hT, fun n hn => ?_, RF.1, RF.2.1, ?_⟩
  · obtain rfl : n = r.name := by split at hn <;> simp_all
    exact pinned_of_view hg G0 hdef hp hk
  refine callFrom_C (c := r.toRowW.claim) hz hgens fun args hpre hlay ord hord => ?_
  obtain ⟨⟨vs, s₁⟩, hlaid⟩ := Option.isSome_iff_exists.mp (layAllW_isSome (P := w.params) (ord := ord) G.has args r.toRowW.args s (pre_splitW hpre).1)
  have keeps := layAllW_keeps _ _ _ hlaid
  have hal := layAllW_rest _ _ _ hlaid
  obtain ⟨as, HH1⟩ := reads_layAllW hord _ _ _ hlaid hlay s₁.heap (fun _ _ e => e)
  have hrd := HH1.1
  have hin := HH1.2.1
  have hold := HH1.2.2
  clear HH1
  have L : Laid r.toRowW.records w s s₁ args vs as := ⟨⟨ord, hord, hlaid⟩, hrd, hin, hold, keeps, hal.1.trans hgens, hal.2.2.1⟩
  have G₁ := G.keeps hXk keeps
  obtain ⟨a, o, pm, cd, doc, dV, kV, HH1⟩ := ex7 (G₁.fn hdef)
  have h1 := HH1.1
  have h2 := HH1.2.1
  have h3 := HH1.2.2.1
  have h4 := HH1.2.2.2.1
  have h5 := HH1.2.2.2.2
  clear HH1
  have h := call w s s₁ _ _ G₁ (hYk _ _ _ (hY w s y) keeps) a o pm cd doc dV kV h2 h3 h4 h5 (defOf_name hdef ▸ h1) L.gens args vs as hpre hlay L.reads L.well (L.low G.low)
  have hi := ident_freeW hu ha hap
  have hwi : r.toRowW.claim.within = [] := List.isEmpty_iff.mp k6
  refine ⟨vs, s₁, hlaid, wpC_bind (wpC_of (wpAny_nsGet G₁.T.g ?_))⟩
  rw [h1]
  refine wpC_bind (wpC_mono h fun v s' g => wpC_pure ⟨_, rfl, ?_⟩)
  have z := g.laid (c := r.toRowW.claim) hsame hwi hi L
  exact ⟨z.1, z.2.1, z.2.2, fun q => ⟨namesKept_of hT' hg _ keeps g.2.1.old, noTable hwr q⟩⟩
end
section
namespace hd
noncomputable abbrev PG : Program := PySem.Challenge.rw_nu0183_01.row.toRowW.prog
noncomputable abbrev V0 : Stmt := .Pass ⟨0, 0, 0, 0⟩
noncomputable def t (k : Nat) : Stmt := PG.main.body.getD k V0
noncomputable def m (k j : Nat) : Stmt := match t k with | .ClassDef _ _ _ b _ _ _ _ _ _ _ => b.getD j V0 | _ => V0
noncomputable abbrev r (a : Addr) : Value := .ref a
noncomputable abbrev s (x : Str) (n : Nat) : Value := .str x n
noncomputable abbrev i (n : Int) : Value := .int n 0
noncomputable abbrev e (P : Params) (x : Str) (n : Nat) (v : Value) : DictEntry := ⟨PyData.keyHash P x, .str x n, v⟩
noncomputable abbrev f {n : Str} {a : Arguments} {b : List Stmt} {d1 : List Expr} {d2 : Option Expr} {d3 : List TypeParam} {sc : Scope} {d4 : Option Scope} {d5 : Str} {p : Pos} (c : Value) (q : Str) (x : Stmt) (h : x = .FunctionDef n a b d1 d2 d3 sc d4 d5 p)
    (g : Addr) (cl : List (Str × Addr)) (dv kv dc pm : Value) (an : Option Addr) (cd ct : Value) (bi : Addr) (di : Option Addr) (sl : Array (Option Value)) : Obj := ⟨c, di, .func ⟨n, q, a, .stmts b, sc, g, cl, dv, kv, dc, pm, an, cd, ct, bi⟩, sl⟩
noncomputable abbrev N := BT.node
noncomputable abbrev E := BT.nil
noncomputable abbrev L (o : Obj) : BT := .node o .nil .nil
noncomputable def x0 : Obj := ⟨.type "tuple", none, .seq #[] 0, #[]⟩
noncomputable def x1 : Obj := ⟨.none, none, .fields #[], #[]⟩
noncomputable def x2 : Obj := ⟨.type "code", none, .fields #[s "<module>" 182, s "<module>" 183, s "/claim/cut.py" 184, i 1, i 0, i 0, i 0, i 0, r 11, .bool false, i 181, r 12, .none, .none, .none, .none, i 185, i 1, s "/claim/cut.py" 186], #[]⟩
noncomputable def x3 : Obj := ⟨.type "frame", none, .plain, #[some (r 13), some (r 3), some (r 3), none, some (s "__main__" 164), none, some (r 0)]⟩
noncomputable def y4 (P : Params) : Obj := ⟨.none, none, .dict #[e P "type.__subclasses__.Exception.0" 234 (i 48), e P "type.__subclasses__.Exception.n" 235 (i 1)] 2, #[]⟩
noncomputable def y5 (P : Params) : Obj := ⟨.type "dict", none, .dict #[e P "__name__" 165 (s "joinedhand.errors" 194), e P "__doc__" 166 .none, e P "__package__" 167 .none, e P "__loader__" 168 (.builtin "__main__.__loader__#opaque"), e P "__spec__" 169 .none, e P "__annotations__" 170 (r 6), e P "__builtins__" 171 (r 4), e P "__file__" 173 (s "/claim/cut.py" 172), e P "__cached__" 174 .none, e P "_wall" 193 (r 21), e P "ShapeError" 237 (r 48)] 11, #[]⟩
noncomputable def x6 : Obj := ⟨.none, none, .fields #[i 1, i 0, r 20, i 5, i 0, r 28], #[]⟩
noncomputable def x7 : Obj := ⟨.type "tuple", none, .seq #[s "k" 190] 0, #[]⟩
noncomputable def x8 : Obj := f .none "_wall" (t 0) rfl 0 [] .none .none .none .none none .none .none 0 none #[]
noncomputable def x9 : Obj := ⟨.type "code", none, .fields #[s "_wall" 187, s "_wall" 188, s "/claim/cut.py" 189, i 1, i 1, i 0, i 0, i 3, r 15, .bool true, i 181, r 16, .none, r 17, r 18, r 19, i 191, i 1, s "/claim/cut.py" 192], #[]⟩
noncomputable def x10 : Obj := f (.type "function") "_wall" (t 0) rfl 3 [] .none .none .none (s "__main__" 164) none (r 20) .none 0 none #[]
noncomputable def x11 : Obj := ⟨.type "tuple", none, .seq #[.type "Exception"] 0, #[]⟩
noncomputable def x12 : Obj := ⟨.type "builtin_function_or_method", none, .fields #[.builtin "type.__prepare__", .type "type"], #[]⟩
noncomputable def y13 (P : Params) : Obj := ⟨.type "dict", none, .dict #[e P "__module__" 203 (s "joinedhand.errors" 194), e P "__qualname__" 205 (s "ShapeError" 204), e P "__firstlineno__" 207 (.int 5 206), e P "__init__" 219 (r 38), e P "told" 226 (r 45), e P "__static_attributes__" 229 (r 46), e P "__classcell__" 230 (r 25)] 7, #[]⟩
noncomputable def x14 : Obj := ⟨.type "cell", none, .cell (some (r 48)), #[]⟩
noncomputable def x15 : Obj := ⟨.none, none, .fields #[i 7, i 4, r 37, i 12, i 4, r 44], #[]⟩
noncomputable def x16 : Obj := ⟨.type "code", none, .fields #[s "ShapeError" 198, s "ShapeError" 199, s "/claim/cut.py" 200, i 5, i 0, i 0, i 0, i 0, r 26, .bool false, i 181, r 27, .none, .none, .none, .none, i 201, i 5, s "/claim/cut.py" 202], #[]⟩
noncomputable def x17 : Obj := ⟨.type "frame", none, .plain, #[some (r 28), some (r 3), some (r 24), none, some (s "joinedhand.errors" 194), none, some (r 0)]⟩
noncomputable def x18 : Obj := ⟨.type "tuple", none, .seq #[.int (-1) 209] 0, #[]⟩
noncomputable def x19 : Obj := ⟨.type "tuple", none, .seq #[r 25] 0, #[]⟩
noncomputable def x20 : Obj := ⟨.type "tuple", none, .seq #[s "__class__" 213] 0, #[]⟩
noncomputable def x21 : Obj := ⟨.type "tuple", none, .seq #[s "self" 214, s "what" 215, s "at" 216] 0, #[]⟩
noncomputable def x22 : Obj := f .none "ShapeError.__init__" (m 2 0) rfl 0 [] .none .none .none .none none .none .none 0 none #[]
noncomputable def x23 : Obj := ⟨.type "code", none, .fields #[s "__init__" 210, s "ShapeError.__init__" 211, s "/claim/cut.py" 212, i 7, i 3, i 0, i 0, i 3, r 32, .bool true, i 181, r 33, .none, r 34, r 35, r 36, i 217, i 7, s "/claim/cut.py" 218], #[]⟩
noncomputable def x24 : Obj := f (.type "function") "ShapeError.__init__" (m 2 0) rfl 3 [("__class__", 25)] (r 30) .none .none (s "joinedhand.errors" 194) none (r 37) (r 31) 0 none #[]
noncomputable def x25 : Obj := ⟨.type "tuple", none, .seq #[s "self" 223] 0, #[]⟩
noncomputable def x26 : Obj := f .none "ShapeError.told" (m 2 1) rfl 0 [] .none .none .none .none none .none .none 0 none #[]
noncomputable def x27 : Obj := ⟨.type "code", none, .fields #[s "told" 220, s "ShapeError.told" 221, s "/claim/cut.py" 222, i 12, i 1, i 0, i 0, i 3, r 39, .bool true, i 181, r 40, .none, r 41, r 42, r 43, i 224, i 12, s "/claim/cut.py" 225], #[]⟩
noncomputable def x28 : Obj := f (.type "function") "ShapeError.told" (m 2 1) rfl 3 [] .none .none .none (s "joinedhand.errors" 194) none (r 44) .none 0 none #[]
noncomputable def x29 : Obj := ⟨.type "tuple", none, .seq #[s "at" 227, s "what" 228] 0, #[]⟩
noncomputable def y30 (P : Params) : Obj := ⟨.type "dict", none, .dict #[e P "__module__" 203 (s "joinedhand.errors" 194), e P "__firstlineno__" 207 (.int 5 206), e P "__init__" 219 (r 38), e P "told" 226 (r 45), e P "__static_attributes__" 229 (r 46), e P "__weakref__" 232 (r 49), e P "__doc__" 233 .none] 4, #[]⟩
noncomputable def x31 : Obj := ⟨.type "type", none, .cls ⟨"ShapeError", [.type "Exception"], [r 48, .type "Exception", .type "BaseException", .type "object"], 47, "ShapeError", true, [], [], false, none, false⟩, #[some (r 22), none, some (s "ShapeError" 196), some (s "ShapeError" 204), some (.builtin "Exception.__new__"), some (.bool true)]⟩
noncomputable def x32 : Obj := ⟨.type "getset_descriptor", none, .fields #[s "__weakref__" 231, r 48, .builtin "ExceptionGroup.__weakref__", .none], #[]⟩
noncomputable def x33 : Obj := ⟨.type "super", none, .fields #[r 48, r 48, r 48], #[]⟩
noncomputable def x34 : Obj := ⟨.type "builtin_function_or_method", none, .fields #[.builtin "object.__init_subclass__", r 48], #[]⟩
noncomputable def y35 (P : Params) : Obj := ⟨.type "dict", none, .dict #[e P "__name__" 165 (s "joinedhand.octets" 254), e P "__doc__" 166 .none, e P "__package__" 167 .none, e P "__loader__" 168 (.builtin "__main__.__loader__#opaque"), e P "__spec__" 169 .none, e P "__annotations__" 170 (r 6), e P "__builtins__" 171 (r 4), e P "__file__" 173 (s "/claim/cut.py" 172), e P "__cached__" 174 .none, e P "_wall" 193 (r 21), e P "ShapeError" 237 (r 48), e P "TableFault" 253 (r 61), e P "MOST_OFFSET" 257 (.int 65535 256), e P "check_room" 266 (r 70), e P "number_at" 277 (r 77)] 15, #[]⟩
noncomputable def x36 : Obj := ⟨.none, none, .fields #[i 1, i 0, r 20, i 5, i 0, r 28, i 14, i 0, r 57, i 18, i 0, r 69, i 21, i 0, r 76], #[]⟩
noncomputable def x37 : Obj := ⟨.type "type", none, .cls ⟨"ShapeError", [.type "Exception"], [r 48, .type "Exception", .type "BaseException", .type "object"], 47, "ShapeError", true, [], [r 61], false, none, false⟩, #[some (r 22), none, some (s "ShapeError" 196), some (s "ShapeError" 204), some (.builtin "Exception.__new__"), some (.bool true)]⟩
noncomputable def x38 : Obj := ⟨.type "tuple", none, .seq #[r 48] 0, #[]⟩
noncomputable def y39 (P : Params) : Obj := ⟨.type "dict", none, .dict #[e P "__module__" 245 (s "joinedhand.errors" 194), e P "__qualname__" 247 (s "TableFault" 246), e P "__firstlineno__" 249 (.int 14 248), e P "__static_attributes__" 250 (r 59)] 4, #[]⟩
noncomputable def x40 : Obj := ⟨.type "code", none, .fields #[s "TableFault" 240, s "TableFault" 241, s "/claim/cut.py" 242, i 14, i 0, i 0, i 0, i 0, r 55, .bool false, i 181, r 56, .none, .none, .none, .none, i 243, i 14, s "/claim/cut.py" 244], #[]⟩
noncomputable def x41 : Obj := ⟨.type "frame", none, .plain, #[some (r 57), some (r 3), some (r 54), none, some (s "joinedhand.errors" 194), none, some (r 0)]⟩
noncomputable def y42 (P : Params) : Obj := ⟨.type "dict", none, .dict #[e P "__module__" 245 (s "joinedhand.errors" 194), e P "__firstlineno__" 249 (.int 14 248), e P "__static_attributes__" 250 (r 59), e P "__doc__" 251 .none] 2, #[]⟩
noncomputable def x43 : Obj := ⟨.type "type", none, .cls ⟨"TableFault", [r 48], [r 61, r 48, .type "Exception", .type "BaseException", .type "object"], 60, "TableFault", true, [], [], false, none, false⟩, #[some (r 52), none, some (s "TableFault" 238), some (s "TableFault" 246), some (.builtin "Exception.__new__"), some (.bool true)]⟩
noncomputable def x44 : Obj := ⟨.type "super", none, .fields #[r 61, r 61, r 61], #[]⟩
noncomputable def x45 : Obj := ⟨.type "builtin_function_or_method", none, .fields #[.builtin "object.__init_subclass__", r 61], #[]⟩
noncomputable def x46 : Obj := ⟨.type "tuple", none, .seq #[s "data" 261, s "at" 262, s "count" 263] 0, #[]⟩
noncomputable def x47 : Obj := f .none "check_room" (t 6) rfl 0 [] .none .none .none .none none .none .none 0 none #[]
noncomputable def x48 : Obj := ⟨.type "code", none, .fields #[s "check_room" 258, s "check_room" 259, s "/claim/cut.py" 260, i 18, i 3, i 0, i 0, i 3, r 64, .bool true, i 181, r 65, .none, r 66, r 67, r 68, i 264, i 18, s "/claim/cut.py" 265], #[]⟩
noncomputable def x49 : Obj := f (.type "function") "check_room" (t 6) rfl 3 [] .none .none .none (s "joinedhand.octets" 254) none (r 69) .none 0 none #[]
noncomputable def x50 : Obj := ⟨.type "tuple", none, .seq #[s "data" 270, s "at" 271, s "count" 272, s "total" 273, s "code" 274] 0, #[]⟩
noncomputable def x51 : Obj := f .none "number_at" (t 7) rfl 0 [] .none .none .none .none none .none .none 0 none #[]
noncomputable def x52 : Obj := ⟨.type "code", none, .fields #[s "number_at" 267, s "number_at" 268, s "/claim/cut.py" 269, i 21, i 3, i 0, i 0, i 3, r 71, .bool true, i 181, r 72, .none, r 73, r 74, r 75, i 275, i 21, s "/claim/cut.py" 276], #[]⟩
noncomputable def x53 : Obj := f (.type "function") "number_at" (t 7) rfl 3 [] .none .none .none (s "joinedhand.octets" 254) none (r 76) .none 0 none #[]
noncomputable def y54 (P : Params) : Obj := ⟨.type "dict", none, .dict #[e P "__name__" 165 (s "joinedhand.octets" 254), e P "__doc__" 166 .none, e P "__package__" 167 .none, e P "__loader__" 168 (.builtin "__main__.__loader__#opaque"), e P "__spec__" 169 .none, e P "__annotations__" 170 (r 6), e P "__builtins__" 171 (r 4), e P "__file__" 173 (s "/claim/cut.py" 172), e P "__cached__" 174 .none, e P "_wall" 193 (r 21), e P "ShapeError" 237 (r 48), e P "TableFault" 253 (r 61), e P "MOST_OFFSET" 257 (.int 65535 256), e P "check_room" 266 (r 70), e P "number_at" 277 (r 77), e P "OctetsIn" 382 (r 163)] 16, #[]⟩
noncomputable def x55 : Obj := ⟨.none, none, .fields #[i 1, i 0, r 20, i 5, i 0, r 28, i 14, i 0, r 57, i 18, i 0, r 69, i 21, i 0, r 76, i 27, i 0, r 83], #[]⟩
noncomputable def y56 (P : Params) : Obj := ⟨.type "dict", none, .dict #[e P "__module__" 285 (s "joinedhand.octets" 254), e P "__qualname__" 287 (s "OctetsIn" 286), e P "__firstlineno__" 289 (.int 27 288), e P "__init__" 299 (r 92), e P "need" 307 (r 99), e P "number" 316 (r 106), e P "u8" 323 (r 113), e P "u16" 330 (r 120), e P "i16" 337 (r 127), e P "u24" 344 (r 134), e P "u32" 351 (r 141), e P "tag" 358 (r 148), e P "rows" 364 (r 153), e P "here" 372 (r 160), e P "__static_attributes__" 375 (r 161)] 15, #[]⟩
noncomputable def x57 : Obj := ⟨.none, none, .fields #[i 29, i 4, r 91, i 33, i 4, r 98, i 36, i 4, r 105, i 41, i 4, r 112, i 44, i 4, r 119, i 47, i 4, r 126, i 50, i 4, r 133, i 53, i 4, r 140, i 56, i 4, r 147, i 59, i 4, r 152, i 63, i 4, r 159], #[]⟩
noncomputable def x58 : Obj := ⟨.type "code", none, .fields #[s "OctetsIn" 280, s "OctetsIn" 281, s "/claim/cut.py" 282, i 27, i 0, i 0, i 0, i 0, r 81, .bool false, i 181, r 82, .none, .none, .none, .none, i 283, i 27, s "/claim/cut.py" 284], #[]⟩
noncomputable def x59 : Obj := ⟨.type "frame", none, .plain, #[some (r 83), some (r 3), some (r 80), none, some (s "joinedhand.octets" 254), none, some (r 0)]⟩
noncomputable def x60 : Obj := ⟨.type "tuple", none, .seq #[.int 0 290] 0, #[]⟩
noncomputable def x61 : Obj := ⟨.type "tuple", none, .seq #[s "self" 294, s "data" 295, s "at" 296] 0, #[]⟩
noncomputable def x62 : Obj := f .none "OctetsIn.__init__" (m 8 0) rfl 0 [] .none .none .none .none none .none .none 0 none #[]
noncomputable def x63 : Obj := ⟨.type "code", none, .fields #[s "__init__" 291, s "OctetsIn.__init__" 292, s "/claim/cut.py" 293, i 29, i 3, i 0, i 0, i 3, r 86, .bool true, i 181, r 87, .none, r 88, r 89, r 90, i 297, i 29, s "/claim/cut.py" 298], #[]⟩
noncomputable def x64 : Obj := f (.type "function") "OctetsIn.__init__" (m 8 0) rfl 3 [] (r 85) .none .none (s "joinedhand.octets" 254) none (r 91) .none 0 none #[]
noncomputable def x65 : Obj := ⟨.type "tuple", none, .seq #[s "self" 303, s "count" 304] 0, #[]⟩
noncomputable def x66 : Obj := f .none "OctetsIn.need" (m 8 1) rfl 0 [] .none .none .none .none none .none .none 0 none #[]
noncomputable def x67 : Obj := ⟨.type "code", none, .fields #[s "need" 300, s "OctetsIn.need" 301, s "/claim/cut.py" 302, i 33, i 2, i 0, i 0, i 3, r 93, .bool true, i 181, r 94, .none, r 95, r 96, r 97, i 305, i 33, s "/claim/cut.py" 306], #[]⟩
noncomputable def x68 : Obj := f (.type "function") "OctetsIn.need" (m 8 1) rfl 3 [] .none .none .none (s "joinedhand.octets" 254) none (r 98) .none 0 none #[]
noncomputable def x69 : Obj := ⟨.type "tuple", none, .seq #[s "self" 311, s "count" 312, s "found" 313] 0, #[]⟩
noncomputable def x70 : Obj := f .none "OctetsIn.number" (m 8 2) rfl 0 [] .none .none .none .none none .none .none 0 none #[]
noncomputable def x71 : Obj := ⟨.type "code", none, .fields #[s "number" 308, s "OctetsIn.number" 309, s "/claim/cut.py" 310, i 36, i 2, i 0, i 0, i 3, r 100, .bool true, i 181, r 101, .none, r 102, r 103, r 104, i 314, i 36, s "/claim/cut.py" 315], #[]⟩
noncomputable def x72 : Obj := f (.type "function") "OctetsIn.number" (m 8 2) rfl 3 [] .none .none .none (s "joinedhand.octets" 254) none (r 105) .none 0 none #[]
noncomputable def x73 : Obj := ⟨.type "tuple", none, .seq #[s "self" 320] 0, #[]⟩
noncomputable def x74 : Obj := f .none "OctetsIn.u8" (m 8 3) rfl 0 [] .none .none .none .none none .none .none 0 none #[]
noncomputable def x75 : Obj := ⟨.type "code", none, .fields #[s "u8" 317, s "OctetsIn.u8" 318, s "/claim/cut.py" 319, i 41, i 1, i 0, i 0, i 3, r 107, .bool true, i 181, r 108, .none, r 109, r 110, r 111, i 321, i 41, s "/claim/cut.py" 322], #[]⟩
noncomputable def x76 : Obj := f (.type "function") "OctetsIn.u8" (m 8 3) rfl 3 [] .none .none .none (s "joinedhand.octets" 254) none (r 112) .none 0 none #[]
noncomputable def x77 : Obj := ⟨.type "tuple", none, .seq #[s "self" 327] 0, #[]⟩
noncomputable def x78 : Obj := f .none "OctetsIn.u16" (m 8 4) rfl 0 [] .none .none .none .none none .none .none 0 none #[]
noncomputable def x79 : Obj := ⟨.type "code", none, .fields #[s "u16" 324, s "OctetsIn.u16" 325, s "/claim/cut.py" 326, i 44, i 1, i 0, i 0, i 3, r 114, .bool true, i 181, r 115, .none, r 116, r 117, r 118, i 328, i 44, s "/claim/cut.py" 329], #[]⟩
noncomputable def x80 : Obj := f (.type "function") "OctetsIn.u16" (m 8 4) rfl 3 [] .none .none .none (s "joinedhand.octets" 254) none (r 119) .none 0 none #[]
noncomputable def x81 : Obj := ⟨.type "tuple", none, .seq #[s "self" 334] 0, #[]⟩
noncomputable def x82 : Obj := f .none "OctetsIn.i16" (m 8 5) rfl 0 [] .none .none .none .none none .none .none 0 none #[]
noncomputable def x83 : Obj := ⟨.type "code", none, .fields #[s "i16" 331, s "OctetsIn.i16" 332, s "/claim/cut.py" 333, i 47, i 1, i 0, i 0, i 3, r 121, .bool true, i 181, r 122, .none, r 123, r 124, r 125, i 335, i 47, s "/claim/cut.py" 336], #[]⟩
noncomputable def x84 : Obj := f (.type "function") "OctetsIn.i16" (m 8 5) rfl 3 [] .none .none .none (s "joinedhand.octets" 254) none (r 126) .none 0 none #[]
noncomputable def x85 : Obj := ⟨.type "tuple", none, .seq #[s "self" 341] 0, #[]⟩
noncomputable def x86 : Obj := f .none "OctetsIn.u24" (m 8 6) rfl 0 [] .none .none .none .none none .none .none 0 none #[]
noncomputable def x87 : Obj := ⟨.type "code", none, .fields #[s "u24" 338, s "OctetsIn.u24" 339, s "/claim/cut.py" 340, i 50, i 1, i 0, i 0, i 3, r 128, .bool true, i 181, r 129, .none, r 130, r 131, r 132, i 342, i 50, s "/claim/cut.py" 343], #[]⟩
noncomputable def x88 : Obj := f (.type "function") "OctetsIn.u24" (m 8 6) rfl 3 [] .none .none .none (s "joinedhand.octets" 254) none (r 133) .none 0 none #[]
noncomputable def x89 : Obj := ⟨.type "tuple", none, .seq #[s "self" 348] 0, #[]⟩
noncomputable def x90 : Obj := f .none "OctetsIn.u32" (m 8 7) rfl 0 [] .none .none .none .none none .none .none 0 none #[]
noncomputable def x91 : Obj := ⟨.type "code", none, .fields #[s "u32" 345, s "OctetsIn.u32" 346, s "/claim/cut.py" 347, i 53, i 1, i 0, i 0, i 3, r 135, .bool true, i 181, r 136, .none, r 137, r 138, r 139, i 349, i 53, s "/claim/cut.py" 350], #[]⟩
noncomputable def x92 : Obj := f (.type "function") "OctetsIn.u32" (m 8 7) rfl 3 [] .none .none .none (s "joinedhand.octets" 254) none (r 140) .none 0 none #[]
noncomputable def x93 : Obj := ⟨.type "tuple", none, .seq #[s "self" 355] 0, #[]⟩
noncomputable def x94 : Obj := f .none "OctetsIn.tag" (m 8 8) rfl 0 [] .none .none .none .none none .none .none 0 none #[]
noncomputable def x95 : Obj := ⟨.type "code", none, .fields #[s "tag" 352, s "OctetsIn.tag" 353, s "/claim/cut.py" 354, i 56, i 1, i 0, i 0, i 3, r 142, .bool true, i 181, r 143, .none, r 144, r 145, r 146, i 356, i 56, s "/claim/cut.py" 357], #[]⟩
noncomputable def x96 : Obj := f (.type "function") "OctetsIn.tag" (m 8 8) rfl 3 [] .none .none .none (s "joinedhand.octets" 254) none (r 147) .none 0 none #[]
noncomputable def x97 : Obj := f .none "OctetsIn.rows" (m 8 9) rfl 0 [] .none .none .none .none none .none .none 0 none #[]
noncomputable def x98 : Obj := ⟨.type "code", none, .fields #[s "rows" 359, s "OctetsIn.rows" 360, s "/claim/cut.py" 361, i 59, i 2, i 0, i 0, i 3, r 149, .bool true, i 181, r 150, .none, .none, .none, r 151, i 362, i 59, s "/claim/cut.py" 363], #[]⟩
noncomputable def x99 : Obj := f (.type "function") "OctetsIn.rows" (m 8 9) rfl 3 [] .none .none .none (s "joinedhand.octets" 254) none (r 152) .none 0 none #[]
noncomputable def x100 : Obj := ⟨.type "tuple", none, .seq #[s "self" 368, s "offset" 369] 0, #[]⟩
noncomputable def x101 : Obj := f .none "OctetsIn.here" (m 8 10) rfl 0 [] .none .none .none .none none .none .none 0 none #[]
noncomputable def x102 : Obj := ⟨.type "code", none, .fields #[s "here" 365, s "OctetsIn.here" 366, s "/claim/cut.py" 367, i 63, i 2, i 0, i 0, i 3, r 154, .bool true, i 181, r 155, .none, r 156, r 157, r 158, i 370, i 63, s "/claim/cut.py" 371], #[]⟩
noncomputable def x103 : Obj := f (.type "function") "OctetsIn.here" (m 8 10) rfl 3 [] .none .none .none (s "joinedhand.octets" 254) none (r 159) .none 0 none #[]
noncomputable def x104 : Obj := ⟨.type "tuple", none, .seq #[s "at" 373, s "data" 374] 0, #[]⟩
noncomputable def y105 (P : Params) : Obj := ⟨.type "dict", none, .dict #[e P "__module__" 285 (s "joinedhand.octets" 254), e P "__firstlineno__" 289 (.int 27 288), e P "__init__" 299 (r 92), e P "need" 307 (r 99), e P "number" 316 (r 106), e P "u8" 323 (r 113), e P "u16" 330 (r 120), e P "i16" 337 (r 127), e P "u24" 344 (r 134), e P "u32" 351 (r 141), e P "tag" 358 (r 148), e P "rows" 364 (r 153), e P "here" 372 (r 160), e P "__static_attributes__" 375 (r 161), e P "__dict__" 377 (r 164), e P "__weakref__" 379 (r 165), e P "__doc__" 380 .none] 4, #[]⟩
noncomputable def x106 : Obj := ⟨.type "type", none, .cls ⟨"OctetsIn", [.type "object"], [r 163, .type "object"], 162, "OctetsIn", true, [], [], false, none, false⟩, #[none, none, some (s "OctetsIn" 278), some (s "OctetsIn" 286), some (.builtin "object.__new__"), some (.bool true)]⟩
noncomputable def x107 : Obj := ⟨.type "getset_descriptor", none, .fields #[s "__dict__" 376, r 163, .builtin "function.__dict__", .builtin "function.__dict__#set"], #[]⟩
noncomputable def x108 : Obj := ⟨.type "getset_descriptor", none, .fields #[s "__weakref__" 378, r 163, .builtin "ExceptionGroup.__weakref__", .none], #[]⟩
noncomputable def x109 : Obj := ⟨.type "super", none, .fields #[r 163, r 163, r 163], #[]⟩
noncomputable def x110 : Obj := ⟨.type "builtin_function_or_method", none, .fields #[.builtin "object.__init_subclass__", r 163], #[]⟩
noncomputable def y111 (P : Params) : Obj := ⟨.type "dict", none, .dict #[e P "__name__" 165 (s "joinedhand.octets" 254), e P "__doc__" 166 .none, e P "__package__" 167 .none, e P "__loader__" 168 (.builtin "__main__.__loader__#opaque"), e P "__spec__" 169 .none, e P "__annotations__" 170 (r 6), e P "__builtins__" 171 (r 4), e P "__file__" 173 (s "/claim/cut.py" 172), e P "__cached__" 174 .none, e P "_wall" 193 (r 21), e P "ShapeError" 237 (r 48), e P "TableFault" 253 (r 61), e P "MOST_OFFSET" 257 (.int 65535 256), e P "check_room" 266 (r 70), e P "number_at" 277 (r 77), e P "OctetsIn" 382 (r 163), e P "number_octets" 388 (r 172)] 17, #[]⟩
noncomputable def x112 : Obj := ⟨.none, none, .fields #[i 1, i 0, r 20, i 5, i 0, r 28, i 14, i 0, r 57, i 18, i 0, r 69, i 21, i 0, r 76, i 27, i 0, r 83, i 65, i 0, r 171], #[]⟩
noncomputable def x113 : Obj := f .none "number_octets" (t 9) rfl 0 [] .none .none .none .none none .none .none 0 none #[]
noncomputable def x114 : Obj := ⟨.type "code", none, .fields #[s "number_octets" 383, s "number_octets" 384, s "/claim/cut.py" 385, i 65, i 2, i 0, i 0, i 3, r 168, .bool true, i 181, r 169, .none, .none, .none, r 170, i 386, i 65, s "/claim/cut.py" 387], #[]⟩
noncomputable def x115 : Obj := f (.type "function") "number_octets" (t 9) rfl 3 [] .none .none .none (s "joinedhand.octets" 254) none (r 171) .none 0 none #[]
noncomputable def y116 (P : Params) : Obj := ⟨.type "dict", none, .dict #[e P "__name__" 165 (s "joinedhand.octets" 254), e P "__doc__" 166 .none, e P "__package__" 167 .none, e P "__loader__" 168 (.builtin "__main__.__loader__#opaque"), e P "__spec__" 169 .none, e P "__annotations__" 170 (r 6), e P "__builtins__" 171 (r 4), e P "__file__" 173 (s "/claim/cut.py" 172), e P "__cached__" 174 .none, e P "_wall" 193 (r 21), e P "ShapeError" 237 (r 48), e P "TableFault" 253 (r 61), e P "MOST_OFFSET" 257 (.int 65535 256), e P "check_room" 266 (r 70), e P "number_at" 277 (r 77), e P "OctetsIn" 382 (r 163), e P "number_octets" 388 (r 172), e P "OctetsOut" 495 (r 259)] 18, #[]⟩
noncomputable def x117 : Obj := ⟨.none, none, .fields #[i 1, i 0, r 20, i 5, i 0, r 28, i 14, i 0, r 57, i 18, i 0, r 69, i 21, i 0, r 76, i 27, i 0, r 83, i 65, i 0, r 171, i 69, i 0, r 178], #[]⟩
noncomputable def y118 (P : Params) : Obj := ⟨.type "dict", none, .dict #[e P "__module__" 396 (s "joinedhand.octets" 254), e P "__qualname__" 398 (s "OctetsOut" 397), e P "__firstlineno__" 400 (.int 69 399), e P "__init__" 407 (r 186), e P "u8" 415 (r 193), e P "u16" 423 (r 200), e P "i16" 431 (r 207), e P "u24" 439 (r 214), e P "u32" 447 (r 221), e P "tag" 455 (r 228), e P "rows" 464 (r 235), e P "add" 472 (r 242), e P "size" 479 (r 249), e P "octets" 486 (r 256), e P "__static_attributes__" 488 (r 257)] 15, #[]⟩
noncomputable def x119 : Obj := ⟨.none, none, .fields #[i 71, i 4, r 185, i 74, i 4, r 192, i 77, i 4, r 199, i 80, i 4, r 206, i 83, i 4, r 213, i 86, i 4, r 220, i 89, i 4, r 227, i 92, i 4, r 234, i 96, i 4, r 241, i 99, i 4, r 248, i 102, i 4, r 255], #[]⟩
noncomputable def x120 : Obj := ⟨.type "code", none, .fields #[s "OctetsOut" 391, s "OctetsOut" 392, s "/claim/cut.py" 393, i 69, i 0, i 0, i 0, i 0, r 176, .bool false, i 181, r 177, .none, .none, .none, .none, i 394, i 69, s "/claim/cut.py" 395], #[]⟩
noncomputable def x121 : Obj := ⟨.type "frame", none, .plain, #[some (r 178), some (r 3), some (r 175), none, some (s "joinedhand.octets" 254), none, some (r 0)]⟩
noncomputable def x122 : Obj := ⟨.type "tuple", none, .seq #[s "self" 404] 0, #[]⟩
noncomputable def x123 : Obj := f .none "OctetsOut.__init__" (m 10 0) rfl 0 [] .none .none .none .none none .none .none 0 none #[]
noncomputable def x124 : Obj := ⟨.type "code", none, .fields #[s "__init__" 401, s "OctetsOut.__init__" 402, s "/claim/cut.py" 403, i 71, i 1, i 0, i 0, i 3, r 180, .bool true, i 181, r 181, .none, r 182, r 183, r 184, i 405, i 71, s "/claim/cut.py" 406], #[]⟩
noncomputable def x125 : Obj := f (.type "function") "OctetsOut.__init__" (m 10 0) rfl 3 [] .none .none .none (s "joinedhand.octets" 254) none (r 185) .none 0 none #[]
noncomputable def x126 : Obj := ⟨.type "tuple", none, .seq #[s "self" 411, s "number" 412] 0, #[]⟩
noncomputable def x127 : Obj := f .none "OctetsOut.u8" (m 10 1) rfl 0 [] .none .none .none .none none .none .none 0 none #[]
noncomputable def x128 : Obj := ⟨.type "code", none, .fields #[s "u8" 408, s "OctetsOut.u8" 409, s "/claim/cut.py" 410, i 74, i 2, i 0, i 0, i 3, r 187, .bool true, i 181, r 188, .none, r 189, r 190, r 191, i 413, i 74, s "/claim/cut.py" 414], #[]⟩
noncomputable def x129 : Obj := f (.type "function") "OctetsOut.u8" (m 10 1) rfl 3 [] .none .none .none (s "joinedhand.octets" 254) none (r 192) .none 0 none #[]
noncomputable def x130 : Obj := ⟨.type "tuple", none, .seq #[s "self" 419, s "number" 420] 0, #[]⟩
noncomputable def x131 : Obj := f .none "OctetsOut.u16" (m 10 2) rfl 0 [] .none .none .none .none none .none .none 0 none #[]
noncomputable def x132 : Obj := ⟨.type "code", none, .fields #[s "u16" 416, s "OctetsOut.u16" 417, s "/claim/cut.py" 418, i 77, i 2, i 0, i 0, i 3, r 194, .bool true, i 181, r 195, .none, r 196, r 197, r 198, i 421, i 77, s "/claim/cut.py" 422], #[]⟩
noncomputable def x133 : Obj := f (.type "function") "OctetsOut.u16" (m 10 2) rfl 3 [] .none .none .none (s "joinedhand.octets" 254) none (r 199) .none 0 none #[]
noncomputable def x134 : Obj := ⟨.type "tuple", none, .seq #[s "self" 427, s "number" 428] 0, #[]⟩
noncomputable def x135 : Obj := f .none "OctetsOut.i16" (m 10 3) rfl 0 [] .none .none .none .none none .none .none 0 none #[]
noncomputable def x136 : Obj := ⟨.type "code", none, .fields #[s "i16" 424, s "OctetsOut.i16" 425, s "/claim/cut.py" 426, i 80, i 2, i 0, i 0, i 3, r 201, .bool true, i 181, r 202, .none, r 203, r 204, r 205, i 429, i 80, s "/claim/cut.py" 430], #[]⟩
noncomputable def x137 : Obj := f (.type "function") "OctetsOut.i16" (m 10 3) rfl 3 [] .none .none .none (s "joinedhand.octets" 254) none (r 206) .none 0 none #[]
noncomputable def x138 : Obj := ⟨.type "tuple", none, .seq #[s "self" 435, s "number" 436] 0, #[]⟩
noncomputable def x139 : Obj := f .none "OctetsOut.u24" (m 10 4) rfl 0 [] .none .none .none .none none .none .none 0 none #[]
noncomputable def x140 : Obj := ⟨.type "code", none, .fields #[s "u24" 432, s "OctetsOut.u24" 433, s "/claim/cut.py" 434, i 83, i 2, i 0, i 0, i 3, r 208, .bool true, i 181, r 209, .none, r 210, r 211, r 212, i 437, i 83, s "/claim/cut.py" 438], #[]⟩
noncomputable def x141 : Obj := f (.type "function") "OctetsOut.u24" (m 10 4) rfl 3 [] .none .none .none (s "joinedhand.octets" 254) none (r 213) .none 0 none #[]
noncomputable def x142 : Obj := ⟨.type "tuple", none, .seq #[s "self" 443, s "number" 444] 0, #[]⟩
noncomputable def x143 : Obj := f .none "OctetsOut.u32" (m 10 5) rfl 0 [] .none .none .none .none none .none .none 0 none #[]
noncomputable def x144 : Obj := ⟨.type "code", none, .fields #[s "u32" 440, s "OctetsOut.u32" 441, s "/claim/cut.py" 442, i 86, i 2, i 0, i 0, i 3, r 215, .bool true, i 181, r 216, .none, r 217, r 218, r 219, i 445, i 86, s "/claim/cut.py" 446], #[]⟩
noncomputable def x145 : Obj := f (.type "function") "OctetsOut.u32" (m 10 5) rfl 3 [] .none .none .none (s "joinedhand.octets" 254) none (r 220) .none 0 none #[]
noncomputable def x146 : Obj := ⟨.type "tuple", none, .seq #[s "self" 451, s "text" 452] 0, #[]⟩
noncomputable def x147 : Obj := f .none "OctetsOut.tag" (m 10 6) rfl 0 [] .none .none .none .none none .none .none 0 none #[]
noncomputable def x148 : Obj := ⟨.type "code", none, .fields #[s "tag" 448, s "OctetsOut.tag" 449, s "/claim/cut.py" 450, i 89, i 2, i 0, i 0, i 3, r 222, .bool true, i 181, r 223, .none, r 224, r 225, r 226, i 453, i 89, s "/claim/cut.py" 454], #[]⟩
noncomputable def x149 : Obj := f (.type "function") "OctetsOut.tag" (m 10 6) rfl 3 [] .none .none .none (s "joinedhand.octets" 254) none (r 227) .none 0 none #[]
noncomputable def x150 : Obj := ⟨.type "tuple", none, .seq #[s "self" 459, s "numbers" 460, s "number" 461] 0, #[]⟩
noncomputable def x151 : Obj := f .none "OctetsOut.rows" (m 10 7) rfl 0 [] .none .none .none .none none .none .none 0 none #[]
noncomputable def x152 : Obj := ⟨.type "code", none, .fields #[s "rows" 456, s "OctetsOut.rows" 457, s "/claim/cut.py" 458, i 92, i 2, i 0, i 0, i 3, r 229, .bool true, i 181, r 230, .none, r 231, r 232, r 233, i 462, i 92, s "/claim/cut.py" 463], #[]⟩
noncomputable def x153 : Obj := f (.type "function") "OctetsOut.rows" (m 10 7) rfl 3 [] .none .none .none (s "joinedhand.octets" 254) none (r 234) .none 0 none #[]
noncomputable def x154 : Obj := ⟨.type "tuple", none, .seq #[s "self" 468, s "octets" 469] 0, #[]⟩
noncomputable def x155 : Obj := f .none "OctetsOut.add" (m 10 8) rfl 0 [] .none .none .none .none none .none .none 0 none #[]
noncomputable def x156 : Obj := ⟨.type "code", none, .fields #[s "add" 465, s "OctetsOut.add" 466, s "/claim/cut.py" 467, i 96, i 2, i 0, i 0, i 3, r 236, .bool true, i 181, r 237, .none, r 238, r 239, r 240, i 470, i 96, s "/claim/cut.py" 471], #[]⟩
noncomputable def x157 : Obj := f (.type "function") "OctetsOut.add" (m 10 8) rfl 3 [] .none .none .none (s "joinedhand.octets" 254) none (r 241) .none 0 none #[]
noncomputable def x158 : Obj := ⟨.type "tuple", none, .seq #[s "self" 476] 0, #[]⟩
noncomputable def x159 : Obj := f .none "OctetsOut.size" (m 10 9) rfl 0 [] .none .none .none .none none .none .none 0 none #[]
noncomputable def x160 : Obj := ⟨.type "code", none, .fields #[s "size" 473, s "OctetsOut.size" 474, s "/claim/cut.py" 475, i 99, i 1, i 0, i 0, i 3, r 243, .bool true, i 181, r 244, .none, r 245, r 246, r 247, i 477, i 99, s "/claim/cut.py" 478], #[]⟩
noncomputable def x161 : Obj := f (.type "function") "OctetsOut.size" (m 10 9) rfl 3 [] .none .none .none (s "joinedhand.octets" 254) none (r 248) .none 0 none #[]
noncomputable def x162 : Obj := ⟨.type "tuple", none, .seq #[s "self" 483] 0, #[]⟩
noncomputable def x163 : Obj := f .none "OctetsOut.octets" (m 10 10) rfl 0 [] .none .none .none .none none .none .none 0 none #[]
noncomputable def x164 : Obj := ⟨.type "code", none, .fields #[s "octets" 480, s "OctetsOut.octets" 481, s "/claim/cut.py" 482, i 102, i 1, i 0, i 0, i 3, r 250, .bool true, i 181, r 251, .none, r 252, r 253, r 254, i 484, i 102, s "/claim/cut.py" 485], #[]⟩
noncomputable def x165 : Obj := f (.type "function") "OctetsOut.octets" (m 10 10) rfl 3 [] .none .none .none (s "joinedhand.octets" 254) none (r 255) .none 0 none #[]
noncomputable def x166 : Obj := ⟨.type "tuple", none, .seq #[s "made" 487] 0, #[]⟩
noncomputable def y167 (P : Params) : Obj := ⟨.type "dict", none, .dict #[e P "__module__" 396 (s "joinedhand.octets" 254), e P "__firstlineno__" 400 (.int 69 399), e P "__init__" 407 (r 186), e P "u8" 415 (r 193), e P "u16" 423 (r 200), e P "i16" 431 (r 207), e P "u24" 439 (r 214), e P "u32" 447 (r 221), e P "tag" 455 (r 228), e P "rows" 464 (r 235), e P "add" 472 (r 242), e P "size" 479 (r 249), e P "octets" 486 (r 256), e P "__static_attributes__" 488 (r 257), e P "__dict__" 490 (r 260), e P "__weakref__" 492 (r 261), e P "__doc__" 493 .none] 4, #[]⟩
noncomputable def x168 : Obj := ⟨.type "type", none, .cls ⟨"OctetsOut", [.type "object"], [r 259, .type "object"], 258, "OctetsOut", true, [], [], false, none, false⟩, #[none, none, some (s "OctetsOut" 389), some (s "OctetsOut" 397), some (.builtin "object.__new__"), some (.bool true)]⟩
noncomputable def x169 : Obj := ⟨.type "getset_descriptor", none, .fields #[s "__dict__" 489, r 259, .builtin "function.__dict__", .builtin "function.__dict__#set"], #[]⟩
noncomputable def x170 : Obj := ⟨.type "getset_descriptor", none, .fields #[s "__weakref__" 491, r 259, .builtin "ExceptionGroup.__weakref__", .none], #[]⟩
noncomputable def x171 : Obj := ⟨.type "super", none, .fields #[r 259, r 259, r 259], #[]⟩
noncomputable def x172 : Obj := ⟨.type "builtin_function_or_method", none, .fields #[.builtin "object.__init_subclass__", r 259], #[]⟩
noncomputable def y173 (P : Params) : Obj := ⟨.type "dict", none, .dict #[e P "__name__" 165 (s "joinedhand.coverage" 510), e P "__doc__" 166 .none, e P "__package__" 167 .none, e P "__loader__" 168 (.builtin "__main__.__loader__#opaque"), e P "__spec__" 169 .none, e P "__annotations__" 170 (r 6), e P "__builtins__" 171 (r 4), e P "__file__" 173 (s "/claim/cut.py" 172), e P "__cached__" 174 .none, e P "_wall" 193 (r 21), e P "ShapeError" 237 (r 48), e P "TableFault" 253 (r 61), e P "MOST_OFFSET" 257 (.int 65535 256), e P "check_room" 266 (r 70), e P "number_at" 277 (r 77), e P "OctetsIn" 382 (r 163), e P "number_octets" 388 (r 172), e P "OctetsOut" 495 (r 259), e P "laid" 509 (r 271), e P "Coverage" 566 (r 309), e P "coverage_of" 575 (r 320)] 21, #[]⟩
noncomputable def x174 : Obj := ⟨.none, none, .fields #[i 1, i 0, r 20, i 5, i 0, r 28, i 14, i 0, r 57, i 18, i 0, r 69, i 21, i 0, r 76, i 27, i 0, r 83, i 65, i 0, r 171, i 69, i 0, r 178, i 104, i 0, r 270, i 122, i 0, r 277, i 145, i 0, r 319], #[]⟩
noncomputable def x175 : Obj := ⟨.type "tuple", none, .seq #[.bool true] 0, #[]⟩
noncomputable def x176 : Obj := ⟨.type "tuple", none, .seq #[s "begin" 499, s "parts" 500, s "is_shared" 501, s "offsets" 502, s "places" 503, s "out" 504, s "part" 505, s "place" 506] 0, #[]⟩
noncomputable def x177 : Obj := f .none "laid" (t 11) rfl 0 [] .none .none .none .none none .none .none 0 none #[]
noncomputable def x178 : Obj := ⟨.type "code", none, .fields #[s "laid" 496, s "laid" 497, s "/claim/cut.py" 498, i 104, i 3, i 0, i 0, i 3, r 265, .bool true, i 181, r 266, .none, r 267, r 268, r 269, i 507, i 104, s "/claim/cut.py" 508], #[]⟩
noncomputable def x179 : Obj := f (.type "function") "laid" (t 11) rfl 3 [] (r 264) .none .none (s "joinedhand.octets" 254) none (r 270) .none 0 none #[]
noncomputable def y180 (P : Params) : Obj := ⟨.type "dict", none, .dict #[e P "__module__" 519 (s "joinedhand.coverage" 510), e P "__qualname__" 521 (s "Coverage" 520), e P "__firstlineno__" 523 (.int 122 522), e P "__init__" 531 (r 285), e P "index" 542 (r 292), e P "has" 550 (r 299), e P "told" 557 (r 306), e P "__static_attributes__" 559 (r 307)] 8, #[]⟩
noncomputable def x181 : Obj := ⟨.none, none, .fields #[i 124, i 4, r 284, i 127, i 4, r 291, i 140, i 4, r 298, i 143, i 4, r 305], #[]⟩
noncomputable def x182 : Obj := ⟨.type "code", none, .fields #[s "Coverage" 514, s "Coverage" 515, s "/claim/cut.py" 516, i 122, i 0, i 0, i 0, i 0, r 275, .bool false, i 181, r 276, .none, .none, .none, .none, i 517, i 122, s "/claim/cut.py" 518], #[]⟩
noncomputable def x183 : Obj := ⟨.type "frame", none, .plain, #[some (r 277), some (r 3), some (r 274), none, some (s "joinedhand.coverage" 510), none, some (r 0)]⟩
noncomputable def x184 : Obj := ⟨.type "tuple", none, .seq #[s "self" 527, s "glyphs" 528] 0, #[]⟩
noncomputable def x185 : Obj := f .none "Coverage.__init__" (m 13 0) rfl 0 [] .none .none .none .none none .none .none 0 none #[]
noncomputable def x186 : Obj := ⟨.type "code", none, .fields #[s "__init__" 524, s "Coverage.__init__" 525, s "/claim/cut.py" 526, i 124, i 2, i 0, i 0, i 3, r 279, .bool true, i 181, r 280, .none, r 281, r 282, r 283, i 529, i 124, s "/claim/cut.py" 530], #[]⟩
noncomputable def x187 : Obj := f (.type "function") "Coverage.__init__" (m 13 0) rfl 3 [] .none .none .none (s "joinedhand.coverage" 510) none (r 284) .none 0 none #[]
noncomputable def x188 : Obj := ⟨.type "tuple", none, .seq #[s "self" 535, s "glyph" 536, s "low" 537, s "high" 538, s "middle" 539] 0, #[]⟩
noncomputable def x189 : Obj := f .none "Coverage.index" (m 13 1) rfl 0 [] .none .none .none .none none .none .none 0 none #[]
noncomputable def x190 : Obj := ⟨.type "code", none, .fields #[s "index" 532, s "Coverage.index" 533, s "/claim/cut.py" 534, i 127, i 2, i 0, i 0, i 3, r 286, .bool true, i 181, r 287, .none, r 288, r 289, r 290, i 540, i 127, s "/claim/cut.py" 541], #[]⟩
noncomputable def x191 : Obj := f (.type "function") "Coverage.index" (m 13 1) rfl 3 [] .none .none .none (s "joinedhand.coverage" 510) none (r 291) .none 0 none #[]
noncomputable def x192 : Obj := ⟨.type "tuple", none, .seq #[s "self" 546, s "glyph" 547] 0, #[]⟩
noncomputable def x193 : Obj := f .none "Coverage.has" (m 13 2) rfl 0 [] .none .none .none .none none .none .none 0 none #[]
noncomputable def x194 : Obj := ⟨.type "code", none, .fields #[s "has" 543, s "Coverage.has" 544, s "/claim/cut.py" 545, i 140, i 2, i 0, i 0, i 3, r 293, .bool true, i 181, r 294, .none, r 295, r 296, r 297, i 548, i 140, s "/claim/cut.py" 549], #[]⟩
noncomputable def x195 : Obj := f (.type "function") "Coverage.has" (m 13 2) rfl 3 [] .none .none .none (s "joinedhand.coverage" 510) none (r 298) .none 0 none #[]
noncomputable def x196 : Obj := ⟨.type "tuple", none, .seq #[s "self" 554] 0, #[]⟩
noncomputable def x197 : Obj := f .none "Coverage.told" (m 13 3) rfl 0 [] .none .none .none .none none .none .none 0 none #[]
noncomputable def x198 : Obj := ⟨.type "code", none, .fields #[s "told" 551, s "Coverage.told" 552, s "/claim/cut.py" 553, i 143, i 1, i 0, i 0, i 3, r 300, .bool true, i 181, r 301, .none, r 302, r 303, r 304, i 555, i 143, s "/claim/cut.py" 556], #[]⟩
noncomputable def x199 : Obj := f (.type "function") "Coverage.told" (m 13 3) rfl 3 [] .none .none .none (s "joinedhand.coverage" 510) none (r 305) .none 0 none #[]
noncomputable def x200 : Obj := ⟨.type "tuple", none, .seq #[s "glyphs" 558] 0, #[]⟩
noncomputable def y201 (P : Params) : Obj := ⟨.type "dict", none, .dict #[e P "__module__" 519 (s "joinedhand.coverage" 510), e P "__firstlineno__" 523 (.int 122 522), e P "__init__" 531 (r 285), e P "index" 542 (r 292), e P "has" 550 (r 299), e P "told" 557 (r 306), e P "__static_attributes__" 559 (r 307), e P "__dict__" 561 (r 310), e P "__weakref__" 563 (r 311), e P "__doc__" 564 .none] 4, #[]⟩
noncomputable def x202 : Obj := ⟨.type "type", none, .cls ⟨"Coverage", [.type "object"], [r 309, .type "object"], 308, "Coverage", true, [], [], false, none, false⟩, #[none, none, some (s "Coverage" 512), some (s "Coverage" 520), some (.builtin "object.__new__"), some (.bool true)]⟩
noncomputable def x203 : Obj := ⟨.type "getset_descriptor", none, .fields #[s "__dict__" 560, r 309, .builtin "function.__dict__", .builtin "function.__dict__#set"], #[]⟩
noncomputable def x204 : Obj := ⟨.type "getset_descriptor", none, .fields #[s "__weakref__" 562, r 309, .builtin "ExceptionGroup.__weakref__", .none], #[]⟩
noncomputable def x205 : Obj := ⟨.type "super", none, .fields #[r 309, r 309, r 309], #[]⟩
noncomputable def x206 : Obj := ⟨.type "builtin_function_or_method", none, .fields #[.builtin "object.__init_subclass__", r 309], #[]⟩
noncomputable def x207 : Obj := ⟨.type "tuple", none, .seq #[s "glyphs" 570, s "found" 571, s "glyph" 572] 0, #[]⟩
noncomputable def x208 : Obj := f .none "coverage_of" (t 14) rfl 0 [] .none .none .none .none none .none .none 0 none #[]
noncomputable def x209 : Obj := ⟨.type "code", none, .fields #[s "coverage_of" 567, s "coverage_of" 568, s "/claim/cut.py" 569, i 145, i 1, i 0, i 0, i 3, r 314, .bool true, i 181, r 315, .none, r 316, r 317, r 318, i 573, i 145, s "/claim/cut.py" 574], #[]⟩
noncomputable def x210 : Obj := f (.type "function") "coverage_of" (t 14) rfl 3 [] .none .none .none (s "joinedhand.coverage" 510) none (r 319) .none 0 none #[]
noncomputable def y211 (P : Params) : Obj := ⟨.type "dict", none, .dict #[e P "__name__" 165 (s "joinedhand.reverse" 692), e P "__doc__" 166 .none, e P "__package__" 167 .none, e P "__loader__" 168 (.builtin "__main__.__loader__#opaque"), e P "__spec__" 169 .none, e P "__annotations__" 170 (r 6), e P "__builtins__" 171 (r 4), e P "__file__" 173 (s "/claim/cut.py" 172), e P "__cached__" 174 .none, e P "_wall" 193 (r 21), e P "ShapeError" 237 (r 48), e P "TableFault" 253 (r 61), e P "MOST_OFFSET" 257 (.int 65535 256), e P "check_room" 266 (r 70), e P "number_at" 277 (r 77), e P "OctetsIn" 382 (r 163), e P "number_octets" 388 (r 172), e P "OctetsOut" 495 (r 259), e P "laid" 509 (r 271), e P "Coverage" 566 (r 309), e P "coverage_of" 575 (r 320), e P "ranges_of" 584 (r 327), e P "read_ascending" 595 (r 334), e P "read_span" 606 (r 341), e P "read_spans" 619 (r 348), e P "read_coverage" 629 (r 355), e P "write_coverage" 644 (r 363), e P "by_glyph" 657 (r 371), e P "place_of" 669 (r 378), e P "read_coverages" 683 (r 385), e P "put_counted" 691 (r 392)] 31, #[]⟩
noncomputable def x212 : Obj := ⟨.none, none, .fields (i 1 :: i 0 :: r 20 :: i 5 :: i 0 :: r 28 :: i 14 :: i 0 :: r 57 :: i 18 :: i 0 :: r 69 :: i 21 :: i 0 :: r 76 :: i 27 :: i 0 :: r 83 :: i 65 :: i 0 :: r 171 :: i 69 :: i 0 :: r 178 :: i 104 :: i 0 :: r 270 :: i 122 :: i 0 :: r 277 :: i 145 :: i 0 :: r 319 :: i 150 :: i 0 :: r 326 :: i 158 :: i 0 :: r 333 :: i 167 :: i 0 :: r 340 :: i 177 :: i 0 :: r 347 :: i 188 :: i 0 :: r 354 :: i 196 :: i 0 :: r 362 :: i 217 :: i 0 :: r 370 :: i 225 :: i 0 :: r 377 :: i 231 :: i 0 :: r 384 :: i 240 :: i 0 :: r 391 :: []).toArray, #[]⟩
noncomputable def x213 : Obj := ⟨.type "tuple", none, .seq #[s "glyphs" 579, s "ranges" 580, s "glyph" 581] 0, #[]⟩
noncomputable def x214 : Obj := f .none "ranges_of" (t 15) rfl 0 [] .none .none .none .none none .none .none 0 none #[]
noncomputable def x215 : Obj := ⟨.type "code", none, .fields #[s "ranges_of" 576, s "ranges_of" 577, s "/claim/cut.py" 578, i 150, i 1, i 0, i 0, i 3, r 321, .bool true, i 181, r 322, .none, r 323, r 324, r 325, i 582, i 150, s "/claim/cut.py" 583], #[]⟩
noncomputable def x216 : Obj := f (.type "function") "ranges_of" (t 15) rfl 3 [] .none .none .none (s "joinedhand.coverage" 510) none (r 326) .none 0 none #[]
noncomputable def x217 : Obj := ⟨.type "tuple", none, .seq #[s "octets_in" 588, s "found" 589, s "step" 590, s "spot" 591, s "glyph" 592] 0, #[]⟩
noncomputable def x218 : Obj := f .none "read_ascending" (t 16) rfl 0 [] .none .none .none .none none .none .none 0 none #[]
noncomputable def x219 : Obj := ⟨.type "code", none, .fields #[s "read_ascending" 585, s "read_ascending" 586, s "/claim/cut.py" 587, i 158, i 1, i 0, i 0, i 3, r 328, .bool true, i 181, r 329, .none, r 330, r 331, r 332, i 593, i 158, s "/claim/cut.py" 594], #[]⟩
noncomputable def x220 : Obj := f (.type "function") "read_ascending" (t 16) rfl 3 [] .none .none .none (s "joinedhand.coverage" 510) none (r 333) .none 0 none #[]
noncomputable def x221 : Obj := ⟨.type "tuple", none, .seq #[s "octets_in" 599, s "least" 600, s "spot" 601, s "first" 602, s "last" 603] 0, #[]⟩
noncomputable def x222 : Obj := f .none "read_span" (t 17) rfl 0 [] .none .none .none .none none .none .none 0 none #[]
noncomputable def x223 : Obj := ⟨.type "code", none, .fields #[s "read_span" 596, s "read_span" 597, s "/claim/cut.py" 598, i 167, i 2, i 0, i 0, i 3, r 335, .bool true, i 181, r 336, .none, r 337, r 338, r 339, i 604, i 167, s "/claim/cut.py" 605], #[]⟩
noncomputable def x224 : Obj := f (.type "function") "read_span" (t 17) rfl 3 [] .none .none .none (s "joinedhand.coverage" 510) none (r 340) .none 0 none #[]
noncomputable def x225 : Obj := ⟨.type "tuple", none, .seq #[s "octets_in" 610, s "found" 611, s "least" 612, s "step" 613, s "first" 614, s "last" 615, s "spot" 616] 0, #[]⟩
noncomputable def x226 : Obj := f .none "read_spans" (t 18) rfl 0 [] .none .none .none .none none .none .none 0 none #[]
noncomputable def x227 : Obj := ⟨.type "code", none, .fields #[s "read_spans" 607, s "read_spans" 608, s "/claim/cut.py" 609, i 177, i 1, i 0, i 0, i 3, r 342, .bool true, i 181, r 343, .none, r 344, r 345, r 346, i 617, i 177, s "/claim/cut.py" 618], #[]⟩
noncomputable def x228 : Obj := f (.type "function") "read_spans" (t 18) rfl 3 [] .none .none .none (s "joinedhand.coverage" 510) none (r 347) .none 0 none #[]
noncomputable def x229 : Obj := ⟨.type "tuple", none, .seq #[s "data" 623, s "at" 624, s "octets_in" 625, s "form" 626] 0, #[]⟩
noncomputable def x230 : Obj := f .none "read_coverage" (t 19) rfl 0 [] .none .none .none .none none .none .none 0 none #[]
noncomputable def x231 : Obj := ⟨.type "code", none, .fields #[s "read_coverage" 620, s "read_coverage" 621, s "/claim/cut.py" 622, i 188, i 2, i 0, i 0, i 3, r 349, .bool true, i 181, r 350, .none, r 351, r 352, r 353, i 627, i 188, s "/claim/cut.py" 628], #[]⟩
noncomputable def x232 : Obj := f (.type "function") "read_coverage" (t 19) rfl 3 [] .none .none .none (s "joinedhand.coverage" 510) none (r 354) .none 0 none #[]
noncomputable def x233 : Obj := ⟨.type "tuple", none, .seq #[.int 0 630] 0, #[]⟩
noncomputable def x234 : Obj := ⟨.type "tuple", none, .seq #[s "coverage" 634, s "form" 635, s "ranges" 636, s "out" 637, s "glyph" 638, s "index" 639, s "first" 640, s "last" 641] 0, #[]⟩
noncomputable def x235 : Obj := f .none "write_coverage" (t 20) rfl 0 [] .none .none .none .none none .none .none 0 none #[]
noncomputable def x236 : Obj := ⟨.type "code", none, .fields #[s "write_coverage" 631, s "write_coverage" 632, s "/claim/cut.py" 633, i 196, i 2, i 0, i 0, i 3, r 357, .bool true, i 181, r 358, .none, r 359, r 360, r 361, i 642, i 196, s "/claim/cut.py" 643], #[]⟩
noncomputable def x237 : Obj := f (.type "function") "write_coverage" (t 20) rfl 3 [] (r 356) .none .none (s "joinedhand.coverage" 510) none (r 362) .none 0 none #[]
noncomputable def x238 : Obj := ⟨.type "tuple", none, .seq #[.int (-1) 646] 0, #[]⟩
noncomputable def x239 : Obj := ⟨.type "tuple", none, .seq #[s "coverage" 650, s "rows" 651, s "at" 652, s "found" 653, s "spot" 654] 0, #[]⟩
noncomputable def x240 : Obj := f .none "by_glyph" (t 21) rfl 0 [] .none .none .none .none none .none .none 0 none #[]
noncomputable def x241 : Obj := ⟨.type "code", none, .fields #[s "by_glyph" 647, s "by_glyph" 648, s "/claim/cut.py" 649, i 217, i 3, i 0, i 0, i 3, r 365, .bool true, i 181, r 366, .none, r 367, r 368, r 369, i 655, i 217, s "/claim/cut.py" 656], #[]⟩
noncomputable def x242 : Obj := f (.type "function") "by_glyph" (t 21) rfl 3 [] (r 364) .none .none (s "joinedhand.coverage" 510) none (r 370) .none 0 none #[]
noncomputable def x243 : Obj := ⟨.type "tuple", none, .seq #[s "head" 663, s "begin" 664, s "where" 665, s "offset" 666] 0, #[]⟩
noncomputable def x244 : Obj := f .none "place_of" (t 23) rfl 0 [] .none .none .none .none none .none .none 0 none #[]
noncomputable def x245 : Obj := ⟨.type "code", none, .fields #[s "place_of" 660, s "place_of" 661, s "/claim/cut.py" 662, i 225, i 2, i 0, i 0, i 3, r 372, .bool true, i 181, r 373, .none, r 374, r 375, r 376, i 667, i 225, s "/claim/cut.py" 668], #[]⟩
noncomputable def x246 : Obj := f (.type "function") "place_of" (t 23) rfl 3 [] .none .none .none (s "joinedhand.contexts" 658) none (r 377) .none 0 none #[]
noncomputable def x247 : Obj := ⟨.type "tuple", none, .seq #[s "data" 673, s "at" 674, s "head" 675, s "count" 676, s "first" 677, s "offsets" 678, s "found" 679, s "spot" 680] 0, #[]⟩
noncomputable def x248 : Obj := f .none "read_coverages" (t 24) rfl 0 [] .none .none .none .none none .none .none 0 none #[]
noncomputable def x249 : Obj := ⟨.type "code", none, .fields #[s "read_coverages" 670, s "read_coverages" 671, s "/claim/cut.py" 672, i 231, i 4, i 0, i 0, i 3, r 379, .bool true, i 181, r 380, .none, r 381, r 382, r 383, i 681, i 231, s "/claim/cut.py" 682], #[]⟩
noncomputable def x250 : Obj := f (.type "function") "read_coverages" (t 24) rfl 3 [] .none .none .none (s "joinedhand.contexts" 658) none (r 384) .none 0 none #[]
noncomputable def x251 : Obj := ⟨.type "tuple", none, .seq #[s "out" 687, s "row" 688] 0, #[]⟩
noncomputable def x252 : Obj := f .none "put_counted" (t 25) rfl 0 [] .none .none .none .none none .none .none 0 none #[]
noncomputable def x253 : Obj := ⟨.type "code", none, .fields #[s "put_counted" 684, s "put_counted" 685, s "/claim/cut.py" 686, i 240, i 2, i 0, i 0, i 3, r 386, .bool true, i 181, r 387, .none, r 388, r 389, r 390, i 689, i 240, s "/claim/cut.py" 690], #[]⟩
noncomputable def x254 : Obj := f (.type "function") "put_counted" (t 25) rfl 3 [] .none .none .none (s "joinedhand.contexts" 658) none (r 391) .none 0 none #[]
noncomputable def y255 (P : Params) : Obj := ⟨.type "dict", none, .dict #[e P "__name__" 165 (s "law_nu0183_01" 753), e P "__doc__" 166 .none, e P "__package__" 167 .none, e P "__loader__" 168 (.builtin "__main__.__loader__#opaque"), e P "__spec__" 169 .none, e P "__annotations__" 170 (r 6), e P "__builtins__" 171 (r 4), e P "__file__" 173 (s "/claim/cut.py" 172), e P "__cached__" 174 .none, e P "_wall" 193 (r 21), e P "ShapeError" 237 (r 48), e P "TableFault" 253 (r 61), e P "MOST_OFFSET" 257 (.int 65535 256), e P "check_room" 266 (r 70), e P "number_at" 277 (r 77), e P "OctetsIn" 382 (r 163), e P "number_octets" 388 (r 172), e P "OctetsOut" 495 (r 259), e P "laid" 509 (r 271), e P "Coverage" 566 (r 309), e P "coverage_of" 575 (r 320), e P "ranges_of" 584 (r 327), e P "read_ascending" 595 (r 334), e P "read_span" 606 (r 341), e P "read_spans" 619 (r 348), e P "read_coverage" 629 (r 355), e P "write_coverage" 644 (r 363), e P "by_glyph" 657 (r 371), e P "place_of" 669 (r 378), e P "read_coverages" 683 (r 385), e P "put_counted" 691 (r 392), e P "Reverse" 732 (r 414), e P "read_reverse" 746 (r 425), e P "write_reverse" 752 (r 430), e P "_law_taker" 764 (r 437), e P "_law_u16" 772 (r 444)] 36, #[]⟩
noncomputable def x256 : Obj := ⟨.none, none, .fields (i 1 :: i 0 :: r 20 :: i 5 :: i 0 :: r 28 :: i 14 :: i 0 :: r 57 :: i 18 :: i 0 :: r 69 :: i 21 :: i 0 :: r 76 :: i 27 :: i 0 :: r 83 :: i 65 :: i 0 :: r 171 :: i 69 :: i 0 :: r 178 :: i 104 :: i 0 :: r 270 :: i 122 :: i 0 :: r 277 :: i 145 :: i 0 :: r 319 :: i 150 :: i 0 :: r 326 :: i 158 :: i 0 :: r 333 :: i 167 :: i 0 :: r 340 :: i 177 :: i 0 :: r 347 :: i 188 :: i 0 :: r 354 :: i 196 :: i 0 :: r 362 :: i 217 :: i 0 :: r 370 :: i 225 :: i 0 :: r 377 :: i 231 :: i 0 :: r 384 :: i 240 :: i 0 :: r 391 :: i 244 :: i 0 :: r 398 :: i 255 :: i 0 :: r 424 :: i 267 :: i 0 :: r 429 :: i 281 :: i 0 :: r 436 :: i 293 :: i 0 :: r 443 :: []).toArray, #[]⟩
noncomputable def y257 (P : Params) : Obj := ⟨.type "dict", none, .dict #[e P "__module__" 701 (s "joinedhand.reverse" 692), e P "__qualname__" 703 (s "Reverse" 702), e P "__firstlineno__" 705 (.int 244 704), e P "__init__" 715 (r 406), e P "told" 721 (r 411), e P "__static_attributes__" 725 (r 412)] 6, #[]⟩
noncomputable def x258 : Obj := ⟨.none, none, .fields #[i 246, i 4, r 405, i 251, i 4, r 410], #[]⟩
noncomputable def x259 : Obj := ⟨.type "code", none, .fields #[s "Reverse" 696, s "Reverse" 697, s "/claim/cut.py" 698, i 244, i 0, i 0, i 0, i 0, r 396, .bool false, i 181, r 397, .none, .none, .none, .none, i 699, i 244, s "/claim/cut.py" 700], #[]⟩
noncomputable def x260 : Obj := ⟨.type "frame", none, .plain, #[some (r 398), some (r 3), some (r 395), none, some (s "joinedhand.reverse" 692), none, some (r 0)]⟩
noncomputable def x261 : Obj := ⟨.type "tuple", none, .seq #[s "self" 709, s "mapping" 710, s "back" 711, s "ahead" 712] 0, #[]⟩
noncomputable def x262 : Obj := f .none "Reverse.__init__" (m 27 0) rfl 0 [] .none .none .none .none none .none .none 0 none #[]
noncomputable def x263 : Obj := ⟨.type "code", none, .fields #[s "__init__" 706, s "Reverse.__init__" 707, s "/claim/cut.py" 708, i 246, i 4, i 0, i 0, i 3, r 400, .bool true, i 181, r 401, .none, r 402, r 403, r 404, i 713, i 246, s "/claim/cut.py" 714], #[]⟩
noncomputable def x264 : Obj := f (.type "function") "Reverse.__init__" (m 27 0) rfl 3 [] .none .none .none (s "joinedhand.reverse" 692) none (r 405) .none 0 none #[]
noncomputable def x265 : Obj := f .none "Reverse.told" (m 27 1) rfl 0 [] .none .none .none .none none .none .none 0 none #[]
noncomputable def x266 : Obj := ⟨.type "code", none, .fields #[s "told" 716, s "Reverse.told" 717, s "/claim/cut.py" 718, i 251, i 1, i 0, i 0, i 3, r 407, .bool true, i 181, r 408, .none, .none, .none, r 409, i 719, i 251, s "/claim/cut.py" 720], #[]⟩
noncomputable def x267 : Obj := f (.type "function") "Reverse.told" (m 27 1) rfl 3 [] .none .none .none (s "joinedhand.reverse" 692) none (r 410) .none 0 none #[]
noncomputable def x268 : Obj := ⟨.type "tuple", none, .seq #[s "ahead" 722, s "back" 723, s "mapping" 724] 0, #[]⟩
noncomputable def y269 (P : Params) : Obj := ⟨.type "dict", none, .dict #[e P "__module__" 701 (s "joinedhand.reverse" 692), e P "__firstlineno__" 705 (.int 244 704), e P "__init__" 715 (r 406), e P "told" 721 (r 411), e P "__static_attributes__" 725 (r 412), e P "__dict__" 727 (r 415), e P "__weakref__" 729 (r 416), e P "__doc__" 730 .none] 4, #[]⟩
noncomputable def x270 : Obj := ⟨.type "type", none, .cls ⟨"Reverse", [.type "object"], [r 414, .type "object"], 413, "Reverse", true, [], [], false, none, false⟩, #[none, none, some (s "Reverse" 694), some (s "Reverse" 702), some (.builtin "object.__new__"), some (.bool true)]⟩
noncomputable def x271 : Obj := ⟨.type "getset_descriptor", none, .fields #[s "__dict__" 726, r 414, .builtin "function.__dict__", .builtin "function.__dict__#set"], #[]⟩
noncomputable def x272 : Obj := ⟨.type "getset_descriptor", none, .fields #[s "__weakref__" 728, r 414, .builtin "ExceptionGroup.__weakref__", .none], #[]⟩
noncomputable def x273 : Obj := ⟨.type "super", none, .fields #[r 414, r 414, r 414], #[]⟩
noncomputable def x274 : Obj := ⟨.type "builtin_function_or_method", none, .fields #[.builtin "object.__init_subclass__", r 414], #[]⟩
noncomputable def x275 : Obj := ⟨.type "tuple", none, .seq #[s "data" 736, s "at" 737, s "head" 738, s "covered" 739, s "back" 740, s "ahead" 741, s "spot" 742, s "count" 743] 0, #[]⟩
noncomputable def x276 : Obj := f .none "read_reverse" (t 28) rfl 0 [] .none .none .none .none none .none .none 0 none #[]
noncomputable def x277 : Obj := ⟨.type "code", none, .fields #[s "read_reverse" 733, s "read_reverse" 734, s "/claim/cut.py" 735, i 255, i 2, i 0, i 0, i 3, r 419, .bool true, i 181, r 420, .none, r 421, r 422, r 423, i 744, i 255, s "/claim/cut.py" 745], #[]⟩
noncomputable def x278 : Obj := f (.type "function") "read_reverse" (t 28) rfl 3 [] .none .none .none (s "joinedhand.reverse" 692) none (r 424) .none 0 none #[]
noncomputable def x279 : Obj := f .none "write_reverse" (t 29) rfl 0 [] .none .none .none .none none .none .none 0 none #[]
noncomputable def x280 : Obj := ⟨.type "code", none, .fields #[s "write_reverse" 747, s "write_reverse" 748, s "/claim/cut.py" 749, i 267, i 1, i 0, i 0, i 3, r 426, .bool true, i 181, r 427, .none, .none, .none, r 428, i 750, i 267, s "/claim/cut.py" 751], #[]⟩
noncomputable def x281 : Obj := f (.type "function") "write_reverse" (t 29) rfl 3 [] .none .none .none (s "joinedhand.reverse" 692) none (r 429) .none 0 none #[]
noncomputable def x282 : Obj := ⟨.type "tuple", none, .seq #[s "script" 758, s "take" 759] 0, #[]⟩
noncomputable def x283 : Obj := ⟨.type "tuple", none, .seq #[s "cells" 760, s "place" 761] 0, #[]⟩
noncomputable def x284 : Obj := f .none "_law_taker" (t 31) rfl 0 [] .none .none .none .none none .none .none 0 none #[]
noncomputable def x285 : Obj := ⟨.type "code", none, .fields #[s "_law_taker" 755, s "_law_taker" 756, s "/claim/cut.py" 757, i 281, i 1, i 0, i 0, i 3, r 431, .bool true, i 181, r 432, .none, r 433, r 434, r 435, i 762, i 281, s "/claim/cut.py" 763], #[]⟩
noncomputable def x286 : Obj := f (.type "function") "_law_taker" (t 31) rfl 3 [] .none .none .none (s "law_nu0183_01" 753) none (r 436) .none 0 none #[]
noncomputable def x287 : Obj := ⟨.type "tuple", none, .seq #[s "data" 768, s "at" 769] 0, #[]⟩
noncomputable def x288 : Obj := f .none "_law_u16" (t 32) rfl 0 [] .none .none .none .none none .none .none 0 none #[]
noncomputable def x289 : Obj := ⟨.type "code", none, .fields #[s "_law_u16" 765, s "_law_u16" 766, s "/claim/cut.py" 767, i 293, i 2, i 0, i 0, i 3, r 438, .bool true, i 181, r 439, .none, r 440, r 441, r 442, i 770, i 293, s "/claim/cut.py" 771], #[]⟩
noncomputable def x290 : Obj := f (.type "function") "_law_u16" (t 32) rfl 3 [] .none .none .none (s "law_nu0183_01" 753) none (r 443) .none 0 none #[]
noncomputable def y291 (P : Params) : Obj := ⟨.type "dict", none, .dict #[e P "__name__" 165 (s "law_nu0183_01" 753), e P "__doc__" 166 .none, e P "__package__" 167 .none, e P "__loader__" 168 (.builtin "__main__.__loader__#opaque"), e P "__spec__" 169 .none, e P "__annotations__" 170 (r 6), e P "__builtins__" 171 (r 4), e P "__file__" 173 (s "/claim/cut.py" 172), e P "__cached__" 174 .none, e P "_wall" 193 (r 21), e P "ShapeError" 237 (r 48), e P "TableFault" 253 (r 61), e P "MOST_OFFSET" 257 (.int 65535 256), e P "check_room" 266 (r 70), e P "number_at" 277 (r 77), e P "OctetsIn" 382 (r 163), e P "number_octets" 388 (r 172), e P "OctetsOut" 495 (r 259), e P "laid" 509 (r 271), e P "Coverage" 566 (r 309), e P "coverage_of" 575 (r 320), e P "ranges_of" 584 (r 327), e P "read_ascending" 595 (r 334), e P "read_span" 606 (r 341), e P "read_spans" 619 (r 348), e P "read_coverage" 629 (r 355), e P "write_coverage" 644 (r 363), e P "by_glyph" 657 (r 371), e P "place_of" 669 (r 378), e P "read_coverages" 683 (r 385), e P "put_counted" 691 (r 392), e P "Reverse" 732 (r 414), e P "read_reverse" 746 (r 425), e P "write_reverse" 752 (r 430), e P "_law_taker" 764 (r 437), e P "_law_u16" 772 (r 444), e P "_law_numbers" 778 (r 449), e P "_law_want" 786 (r 456), e P "_law_cover" 801 (r 463), e P "_law_covers" 813 (r 470), e P "_law_table" 819 (r 475), e P "_law_answer" 829 (r 482), e P "_law_read" 838 (r 489), e P "law" 844 (r 494)] 44, #[]⟩
noncomputable def x292 : Obj := ⟨.none, none, .fields (i 1 :: i 0 :: r 20 :: i 5 :: i 0 :: r 28 :: i 14 :: i 0 :: r 57 :: i 18 :: i 0 :: r 69 :: i 21 :: i 0 :: r 76 :: i 27 :: i 0 :: r 83 :: i 65 :: i 0 :: r 171 :: i 69 :: i 0 :: r 178 :: i 104 :: i 0 :: r 270 :: i 122 :: i 0 :: r 277 :: i 145 :: i 0 :: r 319 :: i 150 :: i 0 :: r 326 :: i 158 :: i 0 :: r 333 :: i 167 :: i 0 :: r 340 :: i 177 :: i 0 :: r 347 :: i 188 :: i 0 :: r 354 :: i 196 :: i 0 :: r 362 :: i 217 :: i 0 :: r 370 :: i 225 :: i 0 :: r 377 :: i 231 :: i 0 :: r 384 :: i 240 :: i 0 :: r 391 :: i 244 :: i 0 :: r 398 :: i 255 :: i 0 :: r 424 :: i 267 :: i 0 :: r 429 :: i 281 :: i 0 :: r 436 :: i 293 :: i 0 :: r 443 :: i 297 :: i 0 :: r 448 :: i 301 :: i 0 :: r 455 :: i 304 :: i 0 :: r 462 :: i 322 :: i 0 :: r 469 :: i 329 :: i 0 :: r 474 :: i 340 :: i 0 :: r 481 :: i 345 :: i 0 :: r 488 :: i 348 :: i 0 :: r 493 :: []).toArray, #[]⟩
noncomputable def x293 : Obj := f .none "_law_numbers" (t 33) rfl 0 [] .none .none .none .none none .none .none 0 none #[]
noncomputable def x294 : Obj := ⟨.type "code", none, .fields #[s "_law_numbers" 773, s "_law_numbers" 774, s "/claim/cut.py" 775, i 297, i 3, i 0, i 0, i 3, r 445, .bool true, i 181, r 446, .none, .none, .none, r 447, i 776, i 297, s "/claim/cut.py" 777], #[]⟩
noncomputable def x295 : Obj := f (.type "function") "_law_numbers" (t 33) rfl 3 [] .none .none .none (s "law_nu0183_01" 753) none (r 448) .none 0 none #[]
noncomputable def x296 : Obj := ⟨.type "tuple", none, .seq #[s "is_right" 782, s "at" 783] 0, #[]⟩
noncomputable def x297 : Obj := f .none "_law_want" (t 34) rfl 0 [] .none .none .none .none none .none .none 0 none #[]
noncomputable def x298 : Obj := ⟨.type "code", none, .fields #[s "_law_want" 779, s "_law_want" 780, s "/claim/cut.py" 781, i 301, i 2, i 0, i 0, i 3, r 450, .bool true, i 181, r 451, .none, r 452, r 453, r 454, i 784, i 301, s "/claim/cut.py" 785], #[]⟩
noncomputable def x299 : Obj := f (.type "function") "_law_want" (t 34) rfl 3 [] .none .none .none (s "law_nu0183_01" 753) none (r 455) .none 0 none #[]
noncomputable def x300 : Obj := ⟨.type "tuple", none, .seq #[s "data" 790, s "at" 791, s "form" 792, s "glyphs" 793, s "fewest" 794, s "spot" 795, s "index" 796, s "first" 797, s "last" 798] 0, #[]⟩
noncomputable def x301 : Obj := f .none "_law_cover" (t 35) rfl 0 [] .none .none .none .none none .none .none 0 none #[]
noncomputable def x302 : Obj := ⟨.type "code", none, .fields #[s "_law_cover" 787, s "_law_cover" 788, s "/claim/cut.py" 789, i 304, i 2, i 0, i 0, i 3, r 457, .bool true, i 181, r 458, .none, r 459, r 460, r 461, i 799, i 304, s "/claim/cut.py" 800], #[]⟩
noncomputable def x303 : Obj := f (.type "function") "_law_cover" (t 35) rfl 3 [] .none .none .none (s "law_nu0183_01" 753) none (r 462) .none 0 none #[]
noncomputable def x304 : Obj := ⟨.type "tuple", none, .seq #[s "data" 805, s "at" 806, s "spot" 807, s "count" 808, s "found" 809, s "offset" 810] 0, #[]⟩
noncomputable def x305 : Obj := f .none "_law_covers" (t 36) rfl 0 [] .none .none .none .none none .none .none 0 none #[]
noncomputable def x306 : Obj := ⟨.type "code", none, .fields #[s "_law_covers" 802, s "_law_covers" 803, s "/claim/cut.py" 804, i 322, i 3, i 0, i 0, i 3, r 464, .bool true, i 181, r 465, .none, r 466, r 467, r 468, i 811, i 322, s "/claim/cut.py" 812], #[]⟩
noncomputable def x307 : Obj := f (.type "function") "_law_covers" (t 36) rfl 3 [] .none .none .none (s "law_nu0183_01" 753) none (r 469) .none 0 none #[]
noncomputable def x308 : Obj := f .none "_law_table" (t 37) rfl 0 [] .none .none .none .none none .none .none 0 none #[]
noncomputable def x309 : Obj := ⟨.type "code", none, .fields #[s "_law_table" 814, s "_law_table" 815, s "/claim/cut.py" 816, i 329, i 2, i 0, i 0, i 3, r 471, .bool true, i 181, r 472, .none, .none, .none, r 473, i 817, i 329, s "/claim/cut.py" 818], #[]⟩
noncomputable def x310 : Obj := f (.type "function") "_law_table" (t 37) rfl 3 [] .none .none .none (s "law_nu0183_01" 753) none (r 474) .none 0 none #[]
noncomputable def x311 : Obj := ⟨.type "tuple", none, .seq #[s "reader" 823, s "data" 824, s "at" 825, s "fault" 826] 0, #[]⟩
noncomputable def x312 : Obj := f .none "_law_answer" (t 38) rfl 0 [] .none .none .none .none none .none .none 0 none #[]
noncomputable def x313 : Obj := ⟨.type "code", none, .fields #[s "_law_answer" 820, s "_law_answer" 821, s "/claim/cut.py" 822, i 340, i 3, i 0, i 0, i 3, r 476, .bool true, i 181, r 477, .none, r 478, r 479, r 480, i 827, i 340, s "/claim/cut.py" 828], #[]⟩
noncomputable def x314 : Obj := f (.type "function") "_law_answer" (t 38) rfl 3 [] .none .none .none (s "law_nu0183_01" 753) none (r 481) .none 0 none #[]
noncomputable def x315 : Obj := ⟨.type "tuple", none, .seq #[s "data" 833, s "at" 834, s "table" 835] 0, #[]⟩
noncomputable def x316 : Obj := f .none "_law_read" (t 39) rfl 0 [] .none .none .none .none none .none .none 0 none #[]
noncomputable def x317 : Obj := ⟨.type "code", none, .fields #[s "_law_read" 830, s "_law_read" 831, s "/claim/cut.py" 832, i 345, i 2, i 0, i 0, i 3, r 483, .bool true, i 181, r 484, .none, r 485, r 486, r 487, i 836, i 345, s "/claim/cut.py" 837], #[]⟩
noncomputable def x318 : Obj := f (.type "function") "_law_read" (t 39) rfl 3 [] .none .none .none (s "law_nu0183_01" 753) none (r 488) .none 0 none #[]
noncomputable def x319 : Obj := f .none "law" (t 40) rfl 0 [] .none .none .none .none none .none .none 0 none #[]
noncomputable def x320 : Obj := ⟨.type "code", none, .fields #[s "law" 839, s "law" 840, s "/claim/cut.py" 841, i 348, i 1, i 0, i 0, i 3, r 490, .bool true, i 181, r 491, .none, .none, .none, r 492, i 842, i 348, s "/claim/cut.py" 843], #[]⟩
noncomputable def x321 : Obj := f (.type "function") "law" (t 40) rfl 3 [] .none .none .none (s "law_nu0183_01" 753) none (r 493) .none 0 none #[]
noncomputable def tree_47 (P : Params) : BT := N (boot_o_0 P) (N (boot_o_1 P) (N (boot_o_3 P) (L (boot_o_7 P)) (L x0)) (N (boot_o_5 P) (L (boot_o_9 P)) (L x2))) (N (boot_o_2 P) (N (boot_o_4 P) (L (boot_o_8 P)) (L x1)) (N (boot_o_6 P) (L (boot_o_10 P)) (L x3)))
noncomputable def tree_88 (P : Params) : BT := N (boot_o_0 P) (N (boot_o_1 P) (N (y5 P) (N (boot_o_7 P) (N x0 (L x19) (L (y30 P))) (N x12 (L x0) E)) (N x0 (N x8 (L x0) (L x34)) (N x15 (L x26) E))) (N (boot_o_5 P) (N (boot_o_9 P) (N x7 (L x1) (L x32)) (N x14 (L x25) E)) (N x2 (N x10 (L x23) E) (N x17 (L x28) E)))) (N (y4 P) (N (boot_o_4 P) (N (boot_o_8 P) (N x1 (L x20) (L x31)) (N (y13 P) (L x1) E)) (N x6 (N x9 (L x22) E) (N x16 (L x27) E))) (N (boot_o_6 P) (N (boot_o_10 P) (N x0 (L x21) (L x33)) (N x0 (L x0) E)) (N x3 (N x11 (L x24) E) (N x18 (L x29) E))))
noncomputable def tree_117 (P : Params) : BT := N (boot_o_0 P) (N (boot_o_1 P) (N (y35 P) (N (boot_o_7 P) (N x0 (N x19 (L x45) E) (L (y30 P))) (N x12 (N x0 (L x0) E) (L x0))) (N x0 (N x8 (N x0 (L x0) E) (L x34)) (N x15 (N x26 (L x51) E) (L x0)))) (N (boot_o_5 P) (N (boot_o_9 P) (N x7 (N x1 (L x1) E) (L x32)) (N x14 (N x25 (L x50) E) (L x40))) (N x2 (N x10 (N x23 (L x48) E) (L x12)) (N x17 (N x28 (L x53) E) (L x43))))) (N (y4 P) (N (boot_o_4 P) (N (boot_o_8 P) (N x1 (N x20 (L x0) E) (L x37)) (N (y13 P) (N x1 (L x1) E) (L x1))) (N x36 (N x9 (N x22 (L x47) E) (L x38)) (N x16 (N x27 (L x52) E) (L (y42 P))))) (N (boot_o_6 P) (N (boot_o_10 P) (N x0 (N x21 (L x46) E) (L x33)) (N x0 (N x0 (L x0) E) (L x41))) (N x3 (N x11 (N x24 (L x49) E) (L (y39 P))) (N x18 (L x29) (L x44)))))
noncomputable def tree_209 (P : Params) : BT := N (boot_o_0 P) (N (boot_o_1 P) (N (y54 P) (N (boot_o_7 P) (N x0 (N x19 (N x45 (L x84) E) (N x65 (L x102) E)) (N (y30 P) (N x12 (L x1) E) (L x74))) (N x12 (N x0 (N x0 (L x0) E) (N x0 (L x110) E)) (N x0 (N x1 (L x97) E) (L x79)))) (N x0 (N x8 (N x0 (N x0 (L x0) E) (N x68 (L x106) E)) (N x34 (N x58 (L x95) E) (L x1))) (N x15 (N x26 (N x51 (L x90) E) (L x0)) (N x0 (N x63 (L x1) E) (L x81))))) (N (boot_o_5 P) (N (boot_o_9 P) (N x7 (N x1 (N x1 (L x1) E) (N x66 (L x104) E)) (N x32 (N x0 (L x0) E) (L x76))) (N x14 (N x25 (N x50 (L x89) E) (L x71)) (N x40 (N x0 (L x99) E) (L x0)))) (N x2 (N x10 (N x23 (N x48 (L x87) E) (N x1 (L x108) E)) (N x12 (N x60 (L x0) E) (L x0))) (N x17 (N x28 (N x53 (L x92) E) (L x73)) (N x43 (N x0 (L x0) E) (L x82)))))) (N (y4 P) (N (boot_o_4 P) (N (boot_o_8 P) (N x1 (N x20 (N x0 (L x0) E) (N x0 (L x103) E)) (N x37 (N (y56 P) (L x93) E) (L x75))) (N (y13 P) (N x1 (N x1 (L x1) E) (L x70)) (N x1 (N x61 (L x98) E) (L x80)))) (N x55 (N x9 (N x22 (N x47 (L x86) E) (N x0 (L x107) E)) (N x38 (N x59 (L x96) E) (L x77))) (N x16 (N x27 (N x52 (L x91) E) (L x1)) (N (y42 P) (N x64 (L x100) E) (L x0))))) (N (boot_o_6 P) (N (boot_o_10 P) (N x0 (N x21 (N x46 (L x85) E) (N x67 (L (y105 P)) E)) (N x33 (N x57 (L x94) E) (L x0))) (N x0 (N x0 (N x0 (L x0) E) (L x72)) (N x41 (N x62 (L x0) E) (L x1)))) (N x3 (N x11 (N x24 (N x49 (L x88) E) (N x69 (L x109) E)) (N (y39 P) (N x0 (L x1) E) (L x78))) (N x18 (N x29 (N x0 (L x0) E) (L x0)) (N x44 (N x1 (L x101) E) (L x83))))))
noncomputable def tree_216 (P : Params) : BT := N (boot_o_0 P) (N (boot_o_1 P) (N (y111 P) (N (boot_o_7 P) (N x0 (N x19 (N x45 (L x84) E) (N x65 (L x102) E)) (N (y30 P) (N x12 (L x1) E) (L x74))) (N x12 (N x0 (N x0 (L x0) E) (N x0 (L x110) E)) (N x0 (N x1 (L x97) E) (L x79)))) (N x0 (N x8 (N x0 (N x0 (L x0) E) (N x68 (L x106) E)) (N x34 (N x58 (L x95) E) (L x1))) (N x15 (N x26 (N x51 (L x90) E) (N x0 (L x114) E)) (N x0 (N x63 (L x1) E) (L x81))))) (N (boot_o_5 P) (N (boot_o_9 P) (N x7 (N x1 (N x1 (L x1) E) (N x66 (L x104) E)) (N x32 (N x0 (L x0) E) (L x76))) (N x14 (N x25 (N x50 (L x89) E) (N x71 (L x1) E)) (N x40 (N x0 (L x99) E) (L x0)))) (N x2 (N x10 (N x23 (N x48 (L x87) E) (N x1 (L x108) E)) (N x12 (N x60 (L x0) E) (L x0))) (N x17 (N x28 (N x53 (L x92) E) (L x73)) (N x43 (N x0 (L x0) E) (L x82)))))) (N (y4 P) (N (boot_o_4 P) (N (boot_o_8 P) (N x1 (N x20 (N x0 (L x0) E) (N x0 (L x103) E)) (N x37 (N (y56 P) (L x93) E) (L x75))) (N (y13 P) (N x1 (N x1 (L x1) E) (N x70 (L x0) E)) (N x1 (N x61 (L x98) E) (L x80)))) (N x112 (N x9 (N x22 (N x47 (L x86) E) (N x0 (L x107) E)) (N x38 (N x59 (L x96) E) (L x77))) (N x16 (N x27 (N x52 (L x91) E) (N x1 (L x115) E)) (N (y42 P) (N x64 (L x100) E) (L x0))))) (N (boot_o_6 P) (N (boot_o_10 P) (N x0 (N x21 (N x46 (L x85) E) (N x67 (L (y105 P)) E)) (N x33 (N x57 (L x94) E) (L x0))) (N x0 (N x0 (N x0 (L x0) E) (N x72 (L x113) E)) (N x41 (N x62 (L x0) E) (L x1)))) (N x3 (N x11 (N x24 (N x49 (L x88) E) (N x69 (L x109) E)) (N (y39 P) (N x0 (L x1) E) (L x78))) (N x18 (N x29 (N x0 (L x0) E) (L x0)) (N x44 (N x1 (L x101) E) (L x83))))))
noncomputable def tree_309 (P : Params) : BT := N (boot_o_0 P) (N (boot_o_1 P) (N (y116 P) (N (boot_o_7 P) (N x0 (N x19 (N x45 (N x84 (L x164) E) (L x127)) (N x65 (L x102) (L x1))) (N (y30 P) (N x12 (L x1) (L x137)) (N x74 (L (y118 P)) (L x0)))) (N x12 (N x0 (N x0 (N x0 (L x172) E) (L x132)) (N x0 (L x110) (L x150))) (N x0 (N x1 (L x97) (L x0)) (N x79 (L x0) (L x159))))) (N x0 (N x8 (N x0 (N x0 (N x0 (L x168) E) (L x1)) (N x68 (L x106) (L x148))) (N x34 (N x58 (L x95) (L x0)) (N x1 (L x121) (L x0)))) (N x15 (N x26 (N x51 (L x90) (L x134)) (N x0 (L x114) (L x153))) (N x0 (N x63 (L x1) (L x143)) (N x81 (L x0) (L x1)))))) (N (boot_o_5 P) (N (boot_o_9 P) (N x7 (N x1 (N x1 (N x1 (L x166) E) (L x129)) (N x66 (L x104) (L x0))) (N x32 (N x0 (L x0) (L x1)) (N x76 (L x119) (L x156)))) (N x14 (N x25 (N x50 (L x89) (L x0)) (N x71 (L x1) (L x151))) (N x40 (N x0 (L x99) (L x142)) (N x0 (L x124) (L x161))))) (N x2 (N x10 (N x23 (N x48 (N x87 (L x170) E) (L x0)) (N x1 (L x108) (L x0))) (N x12 (N x60 (L x0) (L x140)) (N x0 (L x1) (L x158)))) (N x17 (N x28 (N x53 (L x92) (L x135)) (N x73 (L x0) (L x1))) (N x43 (N x0 (L x0) (L x145)) (N x82 (L x126) (L x0))))))) (N (y4 P) (N (boot_o_4 P) (N (boot_o_8 P) (N x1 (N x20 (N x0 (N x0 (L x165) E) (L x128)) (N x0 (L x103) (L x146))) (N x37 (N (y56 P) (L x93) (L x0)) (N x75 (L x0) (L x155)))) (N (y13 P) (N x1 (N x1 (L x1) (L x133)) (N x70 (L x0) (L x0))) (N x1 (N x61 (L x98) (L x1)) (N x80 (L x123) (L x160))))) (N x117 (N x9 (N x22 (N x47 (N x86 (L x169) E) (L x130)) (N x0 (L x107) (L x149))) (N x38 (N x59 (L x96) (L x139)) (N x77 (L x0) (L x1)))) (N x16 (N x27 (N x52 (L x91) (L x0)) (N x1 (L x115) (L x0))) (N (y42 P) (N x64 (L x100) (L x144)) (N x0 (L x1) (L x162)))))) (N (boot_o_6 P) (N (boot_o_10 P) (N x0 (N x21 (N x46 (N x85 (L (y167 P)) E) (L x0)) (N x67 (L (y105 P)) (L x147))) (N x33 (N x57 (L x94) (L x138)) (N x0 (L x120) (L x157)))) (N x0 (N x0 (N x0 (L x0) (L x1)) (N x72 (L x113) (L x152))) (N x41 (N x62 (L x0) (L x0)) (N x1 (L x125) (L x0))))) (N x3 (N x11 (N x24 (N x49 (N x88 (L x171) E) (L x131)) (N x69 (L x109) (L x1))) (N (y39 P) (N x0 (L x1) (L x141)) (N x78 (L x122) (L x0)))) (N x18 (N x29 (N x0 (L x0) (L x136)) (N x0 (L x12) (L x154))) (N x44 (N x1 (L x101) (L x0)) (N x83 (L x0) (L x163)))))))
noncomputable def tree_368 (P : Params) : BT := N (boot_o_0 P) (N (boot_o_1 P) (N (y173 P) (N (boot_o_7 P) (N x0 (N x19 (N x45 (N x84 (L x164) E) (N x127 (L x209) E)) (N x65 (N x102 (L x1) E) (L x1))) (N (y30 P) (N x12 (N x1 (L x179) E) (L x137)) (N x74 (N (y118 P) (L x0) E) (L x0)))) (N x12 (N x0 (N x0 (N x0 (L x172) E) (L x132)) (N x0 (N x110 (L x192) E) (L x150))) (N x0 (N x1 (N x97 (L x0) E) (L x0)) (N x79 (N x0 (L x204) E) (L x159))))) (N x0 (N x8 (N x0 (N x0 (N x0 (L x168) E) (L x1)) (N x68 (N x106 (L x190) E) (L x148))) (N x34 (N x58 (N x95 (L x0) E) (L x0)) (N x1 (N x121 (L x200) E) (L x0)))) (N x15 (N x26 (N x51 (N x90 (L x176) E) (L x134)) (N x0 (N x114 (L x195) E) (L x153))) (N x0 (N x63 (N x1 (L x185) E) (L x143)) (N x81 (N x0 (L x1) E) (L x1)))))) (N (boot_o_5 P) (N (boot_o_9 P) (N x7 (N x1 (N x1 (N x1 (L x166) E) (L x129)) (N x66 (N x104 (L x0) E) (L x0))) (N x32 (N x0 (N x0 (L x12) E) (L x1)) (N x76 (N x119 (L x198) E) (L x156)))) (N x14 (N x25 (N x50 (N x89 (L x0) E) (L x0)) (N x71 (N x1 (L x193) E) (L x151))) (N x40 (N x0 (N x99 (L x184) E) (L x142)) (N x0 (N x124 (L x206) E) (L x161))))) (N x2 (N x10 (N x23 (N x48 (N x87 (L x170) E) (L x0)) (N x1 (N x108 (L x0) E) (L x0))) (N x12 (N x60 (N x0 (L x182) E) (L x140)) (N x0 (N x1 (L x202) E) (L x158)))) (N x17 (N x28 (N x53 (N x92 (L x177) E) (L x135)) (N x73 (N x0 (L x1) E) (L x1))) (N x43 (N x0 (N x0 (L x187) E) (L x145)) (N x82 (N x126 (L x0) E) (L x0))))))) (N (y4 P) (N (boot_o_4 P) (N (boot_o_8 P) (N x1 (N x20 (N x0 (N x0 (L x165) E) (N x128 (L x210) E)) (N x0 (N x103 (L x188) E) (L x146))) (N x37 (N (y56 P) (N x93 (L x0) E) (L x0)) (N x75 (N x0 (L x197) E) (L x155)))) (N (y13 P) (N x1 (N x1 (N x1 (L x175) E) (L x133)) (N x70 (N x0 (L x0) E) (L x0))) (N x1 (N x61 (N x98 (L x1) E) (L x1)) (N x80 (N x123 (L x205) E) (L x160))))) (N x174 (N x9 (N x22 (N x47 (N x86 (L x169) E) (L x130)) (N x0 (N x107 (L x191) E) (L x149))) (N x38 (N x59 (N x96 (L x181) E) (L x139)) (N x77 (N x0 (L (y201 P)) E) (L x1)))) (N x16 (N x27 (N x52 (N x91 (L x0) E) (L x0)) (N x1 (N x115 (L x0) E) (L x0))) (N (y42 P) (N x64 (N x100 (L x186) E) (L x144)) (N x0 (N x1 (L x207) E) (L x162)))))) (N (boot_o_6 P) (N (boot_o_10 P) (N x0 (N x21 (N x46 (N x85 (L (y167 P)) E) (L x0)) (N x67 (N (y105 P) (L x189) E) (L x147))) (N x33 (N x57 (N x94 (L (y180 P)) E) (L x138)) (N x0 (N x120 (L x199) E) (L x157)))) (N x0 (N x0 (N x0 (N x0 (L x1) E) (L x1)) (N x72 (N x113 (L x194) E) (L x152))) (N x41 (N x62 (N x0 (L x0) E) (L x0)) (N x1 (N x125 (L x0) E) (L x0))))) (N x3 (N x11 (N x24 (N x49 (N x88 (L x171) E) (L x131)) (N x69 (N x109 (L x1) E) (L x1))) (N (y39 P) (N x0 (N x1 (L x183) E) (L x141)) (N x78 (N x122 (L x203) E) (L x0)))) (N x18 (N x29 (N x0 (N x0 (L x178) E) (L x136)) (N x0 (N x12 (L x196) E) (L x154))) (N x44 (N x1 (N x101 (L x0) E) (L x0)) (N x83 (N x0 (L x208) E) (L x163)))))))
noncomputable def tree_442 (P : Params) : BT := N (boot_o_0 P) (N (boot_o_1 P) (N (y211 P) (N (boot_o_7 P) (N x0 (N x19 (N x45 (N x84 (L x164) (L x248)) (N x127 (L x209) E)) (N x65 (N x102 (L x1) E) (N x1 (L x229) E))) (N (y30 P) (N x12 (N x1 (L x179) E) (N x137 (L x0) E)) (N x74 (N (y118 P) (L x0) E) (N x0 (L x239) E)))) (N x12 (N x0 (N x0 (N x0 (L x172) (L x253)) (N x132 (L x216) E)) (N x0 (N x110 (L x192) E) (N x150 (L x234) E))) (N x0 (N x1 (N x97 (L x0) E) (N x0 (L x1) E)) (N x79 (N x0 (L x204) E) (N x159 (L x0) E))))) (N x0 (N x8 (N x0 (N x0 (N x0 (L x168) (L x1)) (N x1 (L x213) E)) (N x68 (N x106 (L x190) E) (N x148 (L x232) E))) (N x34 (N x58 (N x95 (L x0) E) (N x0 (L x222) E)) (N x1 (N x121 (L x200) E) (N x0 (L x242) E)))) (N x15 (N x26 (N x51 (N x90 (L x176) E) (N x134 (L x0) E)) (N x0 (N x114 (L x195) E) (N x153 (L x237) E))) (N x0 (N x63 (N x1 (L x185) E) (N x143 (L x227) E)) (N x81 (N x0 (L x1) E) (N x1 (L x0) E)))))) (N (boot_o_5 P) (N (boot_o_9 P) (N x7 (N x1 (N x1 (N x1 (L x166) (L x250)) (N x129 (L x0) E)) (N x66 (N x104 (L x0) E) (N x0 (L x230) E))) (N x32 (N x0 (N x0 (L x12) E) (N x1 (L x221) E)) (N x76 (N x119 (L x198) E) (N x156 (L x240) E)))) (N x14 (N x25 (N x50 (N x89 (L x0) E) (N x0 (L x1) E)) (N x71 (N x1 (L x193) E) (N x151 (L x235) E))) (N x40 (N x0 (N x99 (L x184) E) (N x142 (L x0) E)) (N x0 (N x124 (L x206) E) (N x161 (L x245) E))))) (N x2 (N x10 (N x23 (N x48 (N x87 (L x170) (L x0)) (N x0 (L x214) E)) (N x1 (N x108 (L x0) E) (N x0 (L x0) E))) (N x12 (N x60 (N x0 (L x182) E) (N x140 (L x224) E)) (N x0 (N x1 (L x202) E) (N x158 (L x1) E)))) (N x17 (N x28 (N x53 (N x92 (L x177) E) (N x135 (L x219) E)) (N x73 (N x0 (L x1) E) (N x1 (L x0) E))) (N x43 (N x0 (N x0 (L x187) E) (N x145 (L x0) E)) (N x82 (N x126 (L x0) E) (N x0 (L x247) E))))))) (N (y4 P) (N (boot_o_4 P) (N (boot_o_8 P) (N x1 (N x20 (N x0 (N x0 (L x165) (L x249)) (N x128 (L x210) E)) (N x0 (N x103 (L x188) E) (N x146 (L x0) E))) (N x37 (N (y56 P) (N x93 (L x0) E) (N x0 (L x1) E)) (N x75 (N x0 (L x197) E) (N x155 (L x0) E)))) (N (y13 P) (N x1 (N x1 (N x1 (L x175) (L x254)) (N x133 (L x0) E)) (N x70 (N x0 (L x0) E) (N x0 (L x0) E))) (N x1 (N x61 (N x98 (L x1) E) (N x1 (L x225) E)) (N x80 (N x123 (L x205) E) (N x160 (L x244) E))))) (N x212 (N x9 (N x22 (N x47 (N x86 (L x169) (L x251)) (N x130 (L x0) E)) (N x0 (N x107 (L x191) E) (N x149 (L x233) E))) (N x38 (N x59 (N x96 (L x181) E) (N x139 (L x223) E)) (N x77 (N x0 (L (y201 P)) E) (N x1 (L x0) E)))) (N x16 (N x27 (N x52 (N x91 (L x0) E) (N x0 (L x218) E)) (N x1 (N x115 (L x0) E) (N x0 (L x238) E))) (N (y42 P) (N x64 (N x100 (L x186) E) (N x144 (L x228) E)) (N x0 (N x1 (L x207) E) (N x162 (L x1) E)))))) (N (boot_o_6 P) (N (boot_o_10 P) (N x0 (N x21 (N x46 (N x85 (L (y167 P)) (L x0)) (N x0 (L x1) E)) (N x67 (N (y105 P) (L x189) E) (N x147 (L x231) E))) (N x33 (N x57 (N x94 (L (y180 P)) E) (N x138 (L x0) E)) (N x0 (N x120 (L x199) E) (N x157 (L x241) E)))) (N x0 (N x0 (N x0 (N x0 (L x1) E) (N x1 (L x217) E)) (N x72 (N x113 (L x194) E) (N x152 (L x236) E))) (N x41 (N x62 (N x0 (L x0) E) (N x0 (L x226) E)) (N x1 (N x125 (L x0) E) (N x0 (L x246) E))))) (N x3 (N x11 (N x24 (N x49 (N x88 (L x171) (L x252)) (N x131 (L x215) E)) (N x69 (N x109 (L x1) E) (N x1 (L x1) E))) (N (y39 P) (N x0 (N x1 (L x183) E) (N x141 (L x0) E)) (N x78 (N x122 (L x203) E) (N x0 (L x243) E)))) (N x18 (N x29 (N x0 (N x0 (L x178) E) (N x136 (L x220) E)) (N x0 (N x12 (L x196) E) (N x154 (L x1) E))) (N x44 (N x1 (N x101 (L x0) E) (N x0 (L x1) E)) (N x83 (N x0 (L x208) E) (N x163 (L x0) E)))))))
noncomputable def tree_496 (P : Params) : BT := N (boot_o_0 P) (N (boot_o_1 P) (N (y255 P) (N (boot_o_7 P) (N x0 (N x19 (N x45 (N x84 (L x164) (L x248)) (N x127 (L x209) E)) (N x65 (N x102 (L x1) (L x271)) (N x1 (L x229) E))) (N (y30 P) (N x12 (N x1 (L x179) (L x260)) (N x137 (L x0) E)) (N x74 (N (y118 P) (L x0) (L x0)) (N x0 (L x239) E)))) (N x12 (N x0 (N x0 (N x0 (L x172) (L x253)) (N x132 (L x216) E)) (N x0 (N x110 (L x192) (L x276)) (N x150 (L x234) E))) (N x0 (N x1 (N x97 (L x0) (L x0)) (N x0 (L x1) E)) (N x79 (N x0 (L x204) (L x1)) (N x159 (L x0) E))))) (N x0 (N x8 (N x0 (N x0 (N x0 (L x168) (L x1)) (N x1 (L x213) E)) (N x68 (N x106 (L x190) (L x0)) (N x148 (L x232) E))) (N x34 (N x58 (N x95 (L x0) (L x0)) (N x0 (L x222) E)) (N x1 (N x121 (L x200) (L x284)) (N x0 (L x242) E)))) (N x15 (N x26 (N x51 (N x90 (L x176) (L (y257 P))) (N x134 (L x0) E)) (N x0 (N x114 (L x195) (L x1)) (N x153 (L x237) E))) (N x0 (N x63 (N x1 (L x185) (L x267)) (N x143 (L x227) E)) (N x81 (N x0 (L x1) (L x289)) (N x1 (L x0) E)))))) (N (boot_o_5 P) (N (boot_o_9 P) (N x7 (N x1 (N x1 (N x1 (L x166) (L x250)) (N x129 (L x0) E)) (N x66 (N x104 (L x0) (L x273)) (N x0 (L x230) E))) (N x32 (N x0 (N x0 (L x12) (L x1)) (N x1 (L x221) E)) (N x76 (N x119 (L x198) (L x282)) (N x156 (L x240) E)))) (N x14 (N x25 (N x50 (N x89 (L x0) (L x0)) (N x0 (L x1) E)) (N x71 (N x1 (L x193) (L x278)) (N x151 (L x235) E))) (N x40 (N x0 (N x99 (L x184) (L x265)) (N x142 (L x0) E)) (N x0 (N x124 (L x206) (L x0)) (N x161 (L x245) E))))) (N x2 (N x10 (N x23 (N x48 (N x87 (L x170) (L x0)) (N x0 (L x214) E)) (N x1 (N x108 (L x0) (L x275)) (N x0 (L x0) E))) (N x12 (N x60 (N x0 (L x182) (L x263)) (N x140 (L x224) E)) (N x0 (N x1 (L x202) (L x286)) (N x158 (L x1) E)))) (N x17 (N x28 (N x53 (N x92 (L x177) (L x258)) (N x135 (L x219) E)) (N x73 (N x0 (L x1) (L x280)) (N x1 (L x0) E))) (N x43 (N x0 (N x0 (L x187) (L (y269 P))) (N x145 (L x0) E)) (N x82 (N x126 (L x0) E) (N x0 (L x247) E))))))) (N (y4 P) (N (boot_o_4 P) (N (boot_o_8 P) (N x1 (N x20 (N x0 (N x0 (L x165) (L x249)) (N x128 (L x210) E)) (N x0 (N x103 (L x188) (L x272)) (N x146 (L x0) E))) (N x37 (N (y56 P) (N x93 (L x0) (L x0)) (N x0 (L x1) E)) (N x75 (N x0 (L x197) (L x1)) (N x155 (L x0) E)))) (N (y13 P) (N x1 (N x1 (N x1 (L x175) (L x254)) (N x133 (L x0) E)) (N x70 (N x0 (L x0) (L x277)) (N x0 (L x0) E))) (N x1 (N x61 (N x98 (L x1) (L x1)) (N x1 (L x225) E)) (N x80 (N x123 (L x205) (L x287)) (N x160 (L x244) E))))) (N x256 (N x9 (N x22 (N x47 (N x86 (L x169) (L x251)) (N x130 (L x0) E)) (N x0 (N x107 (L x191) (L x1)) (N x149 (L x233) E))) (N x38 (N x59 (N x96 (L x181) (L x262)) (N x139 (L x223) E)) (N x77 (N x0 (L (y201 P)) (L x285)) (N x1 (L x0) E)))) (N x16 (N x27 (N x52 (N x91 (L x0) (L x0)) (N x0 (L x218) E)) (N x1 (N x115 (L x0) (L x279)) (N x0 (L x238) E))) (N (y42 P) (N x64 (N x100 (L x186) (L x268)) (N x144 (L x228) E)) (N x0 (N x1 (L x207) (L x290)) (N x162 (L x1) E)))))) (N (boot_o_6 P) (N (boot_o_10 P) (N x0 (N x21 (N x46 (N x85 (L (y167 P)) (L x0)) (N x0 (L x1) E)) (N x67 (N (y105 P) (L x189) (L x274)) (N x147 (L x231) E))) (N x33 (N x57 (N x94 (L (y180 P)) (L x261)) (N x138 (L x0) E)) (N x0 (N x120 (L x199) (L x283)) (N x157 (L x241) E)))) (N x0 (N x0 (N x0 (N x0 (L x1) (L x12)) (N x1 (L x217) E)) (N x72 (N x113 (L x194) (L x0)) (N x152 (L x236) E))) (N x41 (N x62 (N x0 (L x0) (L x266)) (N x0 (L x226) E)) (N x1 (N x125 (L x0) (L x288)) (N x0 (L x246) E))))) (N x3 (N x11 (N x24 (N x49 (N x88 (L x171) (L x252)) (N x131 (L x215) E)) (N x69 (N x109 (L x1) (L x0)) (N x1 (L x1) E))) (N (y39 P) (N x0 (N x1 (L x183) (L x264)) (N x141 (L x0) E)) (N x78 (N x122 (L x203) (L x0)) (N x0 (L x243) E)))) (N x18 (N x29 (N x0 (N x0 (L x178) (L x259)) (N x136 (L x220) E)) (N x0 (N x12 (L x196) (L x281)) (N x154 (L x1) E))) (N x44 (N x1 (N x101 (L x0) (L x270)) (N x0 (L x1) E)) (N x83 (N x0 (L x208) E) (N x163 (L x0) E)))))))
noncomputable def tree_548 (P : Params) : BT := N (boot_o_0 P) (N (boot_o_1 P) (N (y291 P) (N (boot_o_7 P) (N x0 (N x19 (N x45 (N x84 (L x164) (L x248)) (N x127 (L x209) (L x293))) (N x65 (N x102 (L x1) (L x271)) (N x1 (L x229) (L x0)))) (N (y30 P) (N x12 (N x1 (L x179) (L x260)) (N x137 (L x0) (L x303))) (N x74 (N (y118 P) (L x0) (L x0)) (N x0 (L x239) E)))) (N x12 (N x0 (N x0 (N x0 (L x172) (L x253)) (N x132 (L x216) (L x298))) (N x0 (N x110 (L x192) (L x276)) (N x150 (L x234) (L x316)))) (N x0 (N x1 (N x97 (L x0) (L x0)) (N x0 (L x1) (L x0))) (N x79 (N x0 (L x204) (L x1)) (N x159 (L x0) E))))) (N x0 (N x8 (N x0 (N x0 (N x0 (L x168) (L x1)) (N x1 (L x213) (L x1))) (N x68 (N x106 (L x190) (L x0)) (N x148 (L x232) (L x0)))) (N x34 (N x58 (N x95 (L x0) (L x0)) (N x0 (L x222) (L x0))) (N x1 (N x121 (L x200) (L x284)) (N x0 (L x242) E)))) (N x15 (N x26 (N x51 (N x90 (L x176) (L (y257 P))) (N x134 (L x0) (L x300))) (N x0 (N x114 (L x195) (L x1)) (N x153 (L x237) (L x1)))) (N x0 (N x63 (N x1 (L x185) (L x267)) (N x143 (L x227) (L x310))) (N x81 (N x0 (L x1) (L x289)) (N x1 (L x0) E)))))) (N (boot_o_5 P) (N (boot_o_9 P) (N x7 (N x1 (N x1 (N x1 (L x166) (L x250)) (N x129 (L x0) (L x295))) (N x66 (N x104 (L x0) (L x273)) (N x0 (L x230) (L x313)))) (N x32 (N x0 (N x0 (L x12) (L x1)) (N x1 (L x221) (L x1))) (N x76 (N x119 (L x198) (L x282)) (N x156 (L x240) E)))) (N x14 (N x25 (N x50 (N x89 (L x0) (L x0)) (N x0 (L x1) (L x0))) (N x71 (N x1 (L x193) (L x278)) (N x151 (L x235) (L x318)))) (N x40 (N x0 (N x99 (L x184) (L x265)) (N x142 (L x0) (L x308))) (N x0 (N x124 (L x206) (L x0)) (N x161 (L x245) E))))) (N x2 (N x10 (N x23 (N x48 (N x87 (L x170) (L x0)) (N x0 (L x214) (L x0))) (N x1 (N x108 (L x0) (L x275)) (N x0 (L x0) (L x315)))) (N x12 (N x60 (N x0 (L x182) (L x263)) (N x140 (L x224) (L x306))) (N x0 (N x1 (L x202) (L x286)) (N x158 (L x1) E)))) (N x17 (N x28 (N x53 (N x92 (L x177) (L x258)) (N x135 (L x219) (L x301))) (N x73 (N x0 (L x1) (L x280)) (N x1 (L x0) (L x320)))) (N x43 (N x0 (N x0 (L x187) (L (y269 P))) (N x145 (L x0) (L x1))) (N x82 (N x126 (L x0) (L x0)) (N x0 (L x247) E))))))) (N (y4 P) (N (boot_o_4 P) (N (boot_o_8 P) (N x1 (N x20 (N x0 (N x0 (L x165) (L x249)) (N x128 (L x210) (L x294))) (N x0 (N x103 (L x188) (L x272)) (N x146 (L x0) (L x312)))) (N x37 (N (y56 P) (N x93 (L x0) (L x0)) (N x0 (L x1) (L x0))) (N x75 (N x0 (L x197) (L x1)) (N x155 (L x0) E)))) (N (y13 P) (N x1 (N x1 (N x1 (L x175) (L x254)) (N x133 (L x0) (L x299))) (N x70 (N x0 (L x0) (L x277)) (N x0 (L x0) (L x317)))) (N x1 (N x61 (N x98 (L x1) (L x1)) (N x1 (L x225) (L x1))) (N x80 (N x123 (L x205) (L x287)) (N x160 (L x244) E))))) (N x292 (N x9 (N x22 (N x47 (N x86 (L x169) (L x251)) (N x130 (L x0) (L x296))) (N x0 (N x107 (L x191) (L x1)) (N x149 (L x233) (L x1)))) (N x38 (N x59 (N x96 (L x181) (L x262)) (N x139 (L x223) (L x305))) (N x77 (N x0 (L (y201 P)) (L x285)) (N x1 (L x0) E)))) (N x16 (N x27 (N x52 (N x91 (L x0) (L x0)) (N x0 (L x218) (L x0))) (N x1 (N x115 (L x0) (L x279)) (N x0 (L x238) (L x319)))) (N (y42 P) (N x64 (N x100 (L x186) (L x268)) (N x144 (L x228) (L x0))) (N x0 (N x1 (L x207) (L x290)) (N x162 (L x1) E)))))) (N (boot_o_6 P) (N (boot_o_10 P) (N x0 (N x21 (N x46 (N x85 (L (y167 P)) (L x0)) (N x0 (L x1) (L x0))) (N x67 (N (y105 P) (L x189) (L x274)) (N x147 (L x231) (L x314)))) (N x33 (N x57 (N x94 (L (y180 P)) (L x261)) (N x138 (L x0) (L x304))) (N x0 (N x120 (L x199) (L x283)) (N x157 (L x241) E)))) (N x0 (N x0 (N x0 (N x0 (L x1) (L x12)) (N x1 (L x217) (L x1))) (N x72 (N x113 (L x194) (L x0)) (N x152 (L x236) (L x0)))) (N x41 (N x62 (N x0 (L x0) (L x266)) (N x0 (L x226) (L x309))) (N x1 (N x125 (L x0) (L x288)) (N x0 (L x246) E))))) (N x3 (N x11 (N x24 (N x49 (N x88 (L x171) (L x252)) (N x131 (L x215) (L x297))) (N x69 (N x109 (L x1) (L x0)) (N x1 (L x1) (L x0)))) (N (y39 P) (N x0 (N x1 (L x183) (L x264)) (N x141 (L x0) (L x307))) (N x78 (N x122 (L x203) (L x0)) (N x0 (L x243) E)))) (N x18 (N x29 (N x0 (N x0 (L x178) (L x259)) (N x136 (L x220) (L x302))) (N x0 (N x12 (L x196) (L x281)) (N x154 (L x1) (L x321)))) (N x44 (N x1 (N x101 (L x0) (L x270)) (N x0 (L x1) (L x311))) (N x83 (N x0 (L x208) (L x1)) (N x163 (L x0) E)))))))
noncomputable def heap_46 (P : Params) : Heap := ⟨⟨(boot_o_0 P) :: (boot_o_1 P) :: (boot_o_2 P) :: (boot_o_3 P) :: (boot_o_4 P) :: (boot_o_5 P) :: (boot_o_6 P) :: (boot_o_7 P) :: (boot_o_8 P) :: (boot_o_9 P) :: (boot_o_10 P) :: x0 :: x1 :: x2 :: x3 :: []⟩, ⟨[], [], [], 0, [], [], false, #[], [], 0, false, false, false, 0, [2000, 10, 10], false, 0, true, [], [], 0, false⟩⟩
noncomputable def heap_549 (P : Params) : Heap := ⟨⟨(boot_o_0 P) :: (boot_o_1 P) :: (y4 P) :: (y291 P) :: (boot_o_4 P) :: (boot_o_5 P) :: (boot_o_6 P) :: (boot_o_7 P) :: (boot_o_8 P) :: (boot_o_9 P) :: (boot_o_10 P) :: x0 :: x292 :: x2 :: x3 :: x0 :: x1 :: x7 :: x0 :: x8 :: x9 :: x10 :: x11 :: x12 :: (y13 P) :: x14 :: x0 :: x15 :: x16 :: x17 :: x18 :: x19 :: x20 :: x1 :: x21 :: x0 :: x22 :: x23 :: x24 :: x0 :: x1 :: x25 :: x0 :: x26 :: x27 :: x28 :: x29 :: (y30 P) :: x37 :: x32 :: x33 :: x34 :: x38 :: x12 :: (y39 P) :: x0 :: x1 :: x40 :: x41 :: x0 :: (y42 P) :: x43 :: x44 :: x45 :: x0 :: x1 :: x46 :: x0 :: x47 :: x48 :: x49 :: x0 :: x1 :: x50 :: x0 :: x51 :: x52 :: x53 :: x0 :: x12 :: (y56 P) :: x0 :: x57 :: x58 :: x59 :: x60 :: x0 :: x1 :: x61 :: x0 :: x62 :: x63 :: x64 :: x0 :: x1 :: x65 :: x0 :: x66 :: x67 :: x68 :: x0 :: x1 :: x69 :: x0 :: x70 :: x71 :: x72 :: x0 :: x1 :: x73 :: x0 :: x74 :: x75 :: x76 :: x0 :: x1 :: x77 :: x0 :: x78 :: x79 :: x80 :: x0 :: x1 :: x81 :: x0 :: x82 :: x83 :: x84 :: x0 :: x1 :: x85 :: x0 :: x86 :: x87 :: x88 :: x0 :: x1 :: x89 :: x0 :: x90 :: x91 :: x92 :: x0 :: x1 :: x93 :: x0 :: x94 :: x95 :: x96 :: x0 :: x1 :: x97 :: x98 :: x99 :: x0 :: x1 :: x100 :: x0 :: x101 :: x102 :: x103 :: x104 :: (y105 P) :: x106 :: x107 :: x108 :: x109 :: x110 :: x0 :: x1 :: x113 :: x114 :: x115 :: x0 :: x12 :: (y118 P) :: x0 :: x119 :: x120 :: x121 :: x0 :: x1 :: x122 :: x0 :: x123 :: x124 :: x125 :: x0 :: x1 :: x126 :: x0 :: x127 :: x128 :: x129 :: x0 :: x1 :: x130 :: x0 :: x131 :: x132 :: x133 :: x0 :: x1 :: x134 :: x0 :: x135 :: x136 :: x137 :: x0 :: x1 :: x138 :: x0 :: x139 :: x140 :: x141 :: x0 :: x1 :: x142 :: x0 :: x143 :: x144 :: x145 :: x0 :: x1 :: x146 :: x0 :: x147 :: x148 :: x149 :: x0 :: x1 :: x150 :: x0 :: x151 :: x152 :: x153 :: x0 :: x1 :: x154 :: x0 :: x155 :: x156 :: x157 :: x0 :: x1 :: x158 :: x0 :: x159 :: x160 :: x161 :: x0 :: x1 :: x162 :: x0 :: x163 :: x164 :: x165 :: x166 :: (y167 P) :: x168 :: x169 :: x170 :: x171 :: x172 :: x175 :: x0 :: x1 :: x176 :: x0 :: x177 :: x178 :: x179 :: x0 :: x12 :: (y180 P) :: x0 :: x181 :: x182 :: x183 :: x0 :: x1 :: x184 :: x0 :: x185 :: x186 :: x187 :: x0 :: x1 :: x188 :: x0 :: x189 :: x190 :: x191 :: x0 :: x1 :: x192 :: x0 :: x193 :: x194 :: x195 :: x0 :: x1 :: x196 :: x0 :: x197 :: x198 :: x199 :: x200 :: (y201 P) :: x202 :: x203 :: x204 :: x205 :: x206 :: x0 :: x1 :: x207 :: x0 :: x208 :: x209 :: x210 :: x0 :: x1 :: x213 :: x0 :: x214 :: x215 :: x216 :: x0 :: x1 :: x217 :: x0 :: x218 :: x219 :: x220 :: x0 :: x1 :: x221 :: x0 :: x222 :: x223 :: x224 :: x0 :: x1 :: x225 :: x0 :: x226 :: x227 :: x228 :: x0 :: x1 :: x229 :: x0 :: x230 :: x231 :: x232 :: x233 :: x0 :: x1 :: x234 :: x0 :: x235 :: x236 :: x237 :: x238 :: x0 :: x1 :: x239 :: x0 :: x240 :: x241 :: x242 :: x0 :: x1 :: x243 :: x0 :: x244 :: x245 :: x246 :: x0 :: x1 :: x247 :: x0 :: x248 :: x249 :: x250 :: x0 :: x1 :: x251 :: x0 :: x252 :: x253 :: x254 :: x0 :: x12 :: (y257 P) :: x0 :: x258 :: x259 :: x260 :: x0 :: x1 :: x261 :: x0 :: x262 :: x263 :: x264 :: x0 :: x1 :: x265 :: x266 :: x267 :: x268 :: (y269 P) :: x270 :: x271 :: x272 :: x273 :: x274 :: x0 :: x1 :: x275 :: x0 :: x276 :: x277 :: x278 :: x0 :: x1 :: x279 :: x280 :: x281 :: x0 :: x1 :: x282 :: x283 :: x284 :: x285 :: x286 :: x0 :: x1 :: x287 :: x0 :: x288 :: x289 :: x290 :: x0 :: x1 :: x293 :: x294 :: x295 :: x0 :: x1 :: x296 :: x0 :: x297 :: x298 :: x299 :: x0 :: x1 :: x300 :: x0 :: x301 :: x302 :: x303 :: x0 :: x1 :: x304 :: x0 :: x305 :: x306 :: x307 :: x0 :: x1 :: x308 :: x309 :: x310 :: x0 :: x1 :: x311 :: x0 :: x312 :: x313 :: x314 :: x0 :: x1 :: x315 :: x0 :: x316 :: x317 :: x318 :: x0 :: x1 :: x319 :: x320 :: x321 :: []⟩, ⟨[], [], [], 0, [], [], false, #[], [], 0, false, false, false, 0, [2000, 10, 10], false, 0, true, [], [], 0, false⟩⟩
noncomputable def heap_39 (P : Params) : Frag := (nat_lit 2, (y4 P)) :: (nat_lit 3, (y291 P)) :: (nat_lit 15, x0) :: (nat_lit 17, x7) :: (nat_lit 18, x0) :: (nat_lit 20, x9) :: (nat_lit 21, x10) :: (nat_lit 22, x11) :: (nat_lit 25, x14) :: (nat_lit 30, x18) :: (nat_lit 31, x19) :: (nat_lit 32, x20) :: (nat_lit 34, x21) :: (nat_lit 35, x0) :: (nat_lit 37, x23) :: (nat_lit 38, x24) :: (nat_lit 39, x0) :: (nat_lit 41, x25) :: (nat_lit 42, x0) :: (nat_lit 44, x27) :: (nat_lit 45, x28) :: (nat_lit 46, x29) :: (nat_lit 47, (y30 P)) :: (nat_lit 48, x37) :: (nat_lit 49, x32) :: (nat_lit 52, x38) :: (nat_lit 59, x0) :: (nat_lit 60, (y42 P)) :: (nat_lit 61, x43) :: (nat_lit 64, x0) :: (nat_lit 66, x46) :: (nat_lit 67, x0) :: (nat_lit 69, x48) :: (nat_lit 70, x49) :: (nat_lit 71, x0) :: (nat_lit 73, x50) :: (nat_lit 74, x0) :: (nat_lit 76, x52) :: (nat_lit 77, x53) :: (nat_lit 85, x60) :: (nat_lit 86, x0) :: (nat_lit 88, x61) :: (nat_lit 89, x0) :: (nat_lit 91, x63) :: (nat_lit 92, x64) :: (nat_lit 93, x0) :: (nat_lit 95, x65) :: (nat_lit 96, x0) :: (nat_lit 98, x67) :: (nat_lit 99, x68) :: (nat_lit 100, x0) :: (nat_lit 102, x69) :: (nat_lit 103, x0) :: (nat_lit 105, x71) :: (nat_lit 106, x72) :: (nat_lit 107, x0) :: (nat_lit 109, x73) :: (nat_lit 110, x0) :: (nat_lit 112, x75) :: (nat_lit 113, x76) :: (nat_lit 114, x0) :: (nat_lit 116, x77) :: (nat_lit 117, x0) :: (nat_lit 119, x79) :: (nat_lit 120, x80) :: (nat_lit 121, x0) :: (nat_lit 123, x81) :: (nat_lit 124, x0) :: (nat_lit 126, x83) :: (nat_lit 127, x84) :: (nat_lit 128, x0) :: (nat_lit 130, x85) :: (nat_lit 131, x0) :: (nat_lit 133, x87) :: (nat_lit 134, x88) :: (nat_lit 135, x0) :: (nat_lit 137, x89) :: (nat_lit 138, x0) :: (nat_lit 140, x91) :: (nat_lit 141, x92) :: (nat_lit 142, x0) :: (nat_lit 144, x93) :: (nat_lit 145, x0) :: (nat_lit 147, x95) :: (nat_lit 148, x96) :: (nat_lit 149, x0) :: (nat_lit 152, x98) :: (nat_lit 153, x99) :: (nat_lit 154, x0) :: (nat_lit 156, x100) :: (nat_lit 157, x0) :: (nat_lit 159, x102) :: (nat_lit 160, x103) :: (nat_lit 161, x104) :: (nat_lit 162, (y105 P)) :: (nat_lit 163, x106) :: (nat_lit 164, x107) :: (nat_lit 165, x108) :: (nat_lit 168, x0) :: (nat_lit 171, x114) :: (nat_lit 172, x115) :: (nat_lit 180, x0) :: (nat_lit 182, x122) :: (nat_lit 183, x0) :: (nat_lit 185, x124) :: (nat_lit 186, x125) :: (nat_lit 187, x0) :: (nat_lit 189, x126) :: (nat_lit 190, x0) :: (nat_lit 192, x128) :: (nat_lit 193, x129) :: (nat_lit 194, x0) :: (nat_lit 196, x130) :: (nat_lit 197, x0) :: (nat_lit 199, x132) :: (nat_lit 200, x133) :: (nat_lit 201, x0) :: (nat_lit 203, x134) :: (nat_lit 204, x0) :: (nat_lit 206, x136) :: (nat_lit 207, x137) :: (nat_lit 208, x0) :: (nat_lit 210, x138) :: (nat_lit 211, x0) :: (nat_lit 213, x140) :: (nat_lit 214, x141) :: (nat_lit 215, x0) :: (nat_lit 217, x142) :: (nat_lit 218, x0) :: (nat_lit 220, x144) :: (nat_lit 221, x145) :: (nat_lit 222, x0) :: (nat_lit 224, x146) :: (nat_lit 225, x0) :: (nat_lit 227, x148) :: (nat_lit 228, x149) :: (nat_lit 229, x0) :: (nat_lit 231, x150) :: (nat_lit 232, x0) :: (nat_lit 234, x152) :: (nat_lit 235, x153) :: (nat_lit 236, x0) :: (nat_lit 238, x154) :: (nat_lit 239, x0) :: (nat_lit 241, x156) :: (nat_lit 242, x157) :: (nat_lit 243, x0) :: (nat_lit 245, x158) :: (nat_lit 246, x0) :: (nat_lit 248, x160) :: (nat_lit 249, x161) :: (nat_lit 250, x0) :: (nat_lit 252, x162) :: (nat_lit 253, x0) :: (nat_lit 255, x164) :: (nat_lit 256, x165) :: (nat_lit 257, x166) :: (nat_lit 258, (y167 P)) :: (nat_lit 259, x168) :: (nat_lit 260, x169) :: (nat_lit 261, x170) :: (nat_lit 264, x175) :: (nat_lit 265, x0) :: (nat_lit 267, x176) :: (nat_lit 268, x0) :: (nat_lit 270, x178) :: (nat_lit 271, x179) :: (nat_lit 279, x0) :: (nat_lit 281, x184) :: (nat_lit 282, x0) :: (nat_lit 284, x186) :: (nat_lit 285, x187) :: (nat_lit 286, x0) :: (nat_lit 288, x188) :: (nat_lit 289, x0) :: (nat_lit 291, x190) :: (nat_lit 292, x191) :: (nat_lit 293, x0) :: (nat_lit 295, x192) :: (nat_lit 296, x0) :: (nat_lit 298, x194) :: (nat_lit 299, x195) :: (nat_lit 300, x0) :: (nat_lit 302, x196) :: (nat_lit 303, x0) :: (nat_lit 305, x198) :: (nat_lit 306, x199) :: (nat_lit 307, x200) :: (nat_lit 308, (y201 P)) :: (nat_lit 309, x202) :: (nat_lit 310, x203) :: (nat_lit 311, x204) :: (nat_lit 314, x0) :: (nat_lit 316, x207) :: (nat_lit 317, x0) :: (nat_lit 319, x209) :: (nat_lit 320, x210) :: (nat_lit 321, x0) :: (nat_lit 323, x213) :: (nat_lit 324, x0) :: (nat_lit 326, x215) :: (nat_lit 327, x216) :: (nat_lit 328, x0) :: (nat_lit 330, x217) :: (nat_lit 331, x0) :: (nat_lit 333, x219) :: (nat_lit 334, x220) :: (nat_lit 335, x0) :: (nat_lit 337, x221) :: (nat_lit 338, x0) :: (nat_lit 340, x223) :: (nat_lit 341, x224) :: (nat_lit 342, x0) :: (nat_lit 344, x225) :: (nat_lit 345, x0) :: (nat_lit 347, x227) :: (nat_lit 348, x228) :: (nat_lit 349, x0) :: (nat_lit 351, x229) :: (nat_lit 352, x0) :: (nat_lit 354, x231) :: (nat_lit 355, x232) :: (nat_lit 356, x233) :: (nat_lit 357, x0) :: (nat_lit 359, x234) :: (nat_lit 360, x0) :: (nat_lit 362, x236) :: (nat_lit 363, x237) :: (nat_lit 364, x238) :: (nat_lit 365, x0) :: (nat_lit 367, x239) :: (nat_lit 368, x0) :: (nat_lit 370, x241) :: (nat_lit 371, x242) :: (nat_lit 372, x0) :: (nat_lit 374, x243) :: (nat_lit 375, x0) :: (nat_lit 377, x245) :: (nat_lit 378, x246) :: (nat_lit 379, x0) :: (nat_lit 381, x247) :: (nat_lit 382, x0) :: (nat_lit 384, x249) :: (nat_lit 385, x250) :: (nat_lit 386, x0) :: (nat_lit 388, x251) :: (nat_lit 389, x0) :: (nat_lit 391, x253) :: (nat_lit 392, x254) :: (nat_lit 400, x0) :: (nat_lit 402, x261) :: (nat_lit 403, x0) :: (nat_lit 405, x263) :: (nat_lit 406, x264) :: (nat_lit 407, x0) :: (nat_lit 410, x266) :: (nat_lit 411, x267) :: (nat_lit 412, x268) :: (nat_lit 413, (y269 P)) :: (nat_lit 414, x270) :: (nat_lit 415, x271) :: (nat_lit 416, x272) :: (nat_lit 419, x0) :: (nat_lit 421, x275) :: (nat_lit 422, x0) :: (nat_lit 424, x277) :: (nat_lit 425, x278) :: (nat_lit 426, x0) :: (nat_lit 429, x280) :: (nat_lit 430, x281) :: (nat_lit 431, x0) :: (nat_lit 433, x282) :: (nat_lit 434, x283) :: (nat_lit 436, x285) :: (nat_lit 437, x286) :: (nat_lit 438, x0) :: (nat_lit 440, x287) :: (nat_lit 441, x0) :: (nat_lit 443, x289) :: (nat_lit 444, x290) :: (nat_lit 445, x0) :: (nat_lit 448, x294) :: (nat_lit 449, x295) :: (nat_lit 450, x0) :: (nat_lit 452, x296) :: (nat_lit 453, x0) :: (nat_lit 455, x298) :: (nat_lit 456, x299) :: (nat_lit 457, x0) :: (nat_lit 459, x300) :: (nat_lit 460, x0) :: (nat_lit 462, x302) :: (nat_lit 463, x303) :: (nat_lit 464, x0) :: (nat_lit 466, x304) :: (nat_lit 467, x0) :: (nat_lit 469, x306) :: (nat_lit 470, x307) :: (nat_lit 471, x0) :: (nat_lit 474, x309) :: (nat_lit 475, x310) :: (nat_lit 476, x0) :: (nat_lit 478, x311) :: (nat_lit 479, x0) :: (nat_lit 481, x313) :: (nat_lit 482, x314) :: (nat_lit 483, x0) :: (nat_lit 485, x315) :: (nat_lit 486, x0) :: (nat_lit 488, x317) :: (nat_lit 489, x318) :: (nat_lit 490, x0) :: (nat_lit 493, x320) :: (nat_lit 494, x321) :: []
noncomputable abbrev kadr : List Nat := nat_lit 2 :: nat_lit 3 :: nat_lit 15 :: nat_lit 17 :: nat_lit 18 :: nat_lit 20 :: nat_lit 21 :: nat_lit 22 :: nat_lit 25 :: nat_lit 30 :: nat_lit 31 :: nat_lit 32 :: nat_lit 34 :: nat_lit 35 :: nat_lit 37 :: nat_lit 38 :: nat_lit 39 :: nat_lit 41 :: nat_lit 42 :: nat_lit 44 :: nat_lit 45 :: nat_lit 46 :: nat_lit 47 :: nat_lit 48 :: nat_lit 49 :: nat_lit 52 :: nat_lit 59 :: nat_lit 60 :: nat_lit 61 :: nat_lit 64 :: nat_lit 66 :: nat_lit 67 :: nat_lit 69 :: nat_lit 70 :: nat_lit 71 :: nat_lit 73 :: nat_lit 74 :: nat_lit 76 :: nat_lit 77 :: nat_lit 85 :: nat_lit 86 :: nat_lit 88 :: nat_lit 89 :: nat_lit 91 :: nat_lit 92 :: nat_lit 93 :: nat_lit 95 :: nat_lit 96 :: nat_lit 98 :: nat_lit 99 :: nat_lit 100 :: nat_lit 102 :: nat_lit 103 :: nat_lit 105 :: nat_lit 106 :: nat_lit 107 :: nat_lit 109 :: nat_lit 110 :: nat_lit 112 :: nat_lit 113 :: nat_lit 114 :: nat_lit 116 :: nat_lit 117 :: nat_lit 119 :: nat_lit 120 :: nat_lit 121 :: nat_lit 123 :: nat_lit 124 :: nat_lit 126 :: nat_lit 127 :: nat_lit 128 :: nat_lit 130 :: nat_lit 131 :: nat_lit 133 :: nat_lit 134 :: nat_lit 135 :: nat_lit 137 :: nat_lit 138 :: nat_lit 140 :: nat_lit 141 :: nat_lit 142 :: nat_lit 144 :: nat_lit 145 :: nat_lit 147 :: nat_lit 148 :: nat_lit 149 :: nat_lit 152 :: nat_lit 153 :: nat_lit 154 :: nat_lit 156 :: nat_lit 157 :: nat_lit 159 :: nat_lit 160 :: nat_lit 161 :: nat_lit 162 :: nat_lit 163 :: nat_lit 164 :: nat_lit 165 :: nat_lit 168 :: nat_lit 171 :: nat_lit 172 :: nat_lit 180 :: nat_lit 182 :: nat_lit 183 :: nat_lit 185 :: nat_lit 186 :: nat_lit 187 :: nat_lit 189 :: nat_lit 190 :: nat_lit 192 :: nat_lit 193 :: nat_lit 194 :: nat_lit 196 :: nat_lit 197 :: nat_lit 199 :: nat_lit 200 :: nat_lit 201 :: nat_lit 203 :: nat_lit 204 :: nat_lit 206 :: nat_lit 207 :: nat_lit 208 :: nat_lit 210 :: nat_lit 211 :: nat_lit 213 :: nat_lit 214 :: nat_lit 215 :: nat_lit 217 :: nat_lit 218 :: nat_lit 220 :: nat_lit 221 :: nat_lit 222 :: nat_lit 224 :: nat_lit 225 :: nat_lit 227 :: nat_lit 228 :: nat_lit 229 :: nat_lit 231 :: nat_lit 232 :: nat_lit 234 :: nat_lit 235 :: nat_lit 236 :: nat_lit 238 :: nat_lit 239 :: nat_lit 241 :: nat_lit 242 :: nat_lit 243 :: nat_lit 245 :: nat_lit 246 :: nat_lit 248 :: nat_lit 249 :: nat_lit 250 :: nat_lit 252 :: nat_lit 253 :: nat_lit 255 :: nat_lit 256 :: nat_lit 257 :: nat_lit 258 :: nat_lit 259 :: nat_lit 260 :: nat_lit 261 :: nat_lit 264 :: nat_lit 265 :: nat_lit 267 :: nat_lit 268 :: nat_lit 270 :: nat_lit 271 :: nat_lit 279 :: nat_lit 281 :: nat_lit 282 :: nat_lit 284 :: nat_lit 285 :: nat_lit 286 :: nat_lit 288 :: nat_lit 289 :: nat_lit 291 :: nat_lit 292 :: nat_lit 293 :: nat_lit 295 :: nat_lit 296 :: nat_lit 298 :: nat_lit 299 :: nat_lit 300 :: nat_lit 302 :: nat_lit 303 :: nat_lit 305 :: nat_lit 306 :: nat_lit 307 :: nat_lit 308 :: nat_lit 309 :: nat_lit 310 :: nat_lit 311 :: nat_lit 314 :: nat_lit 316 :: nat_lit 317 :: nat_lit 319 :: nat_lit 320 :: nat_lit 321 :: nat_lit 323 :: nat_lit 324 :: nat_lit 326 :: nat_lit 327 :: nat_lit 328 :: nat_lit 330 :: nat_lit 331 :: nat_lit 333 :: nat_lit 334 :: nat_lit 335 :: nat_lit 337 :: nat_lit 338 :: nat_lit 340 :: nat_lit 341 :: nat_lit 342 :: nat_lit 344 :: nat_lit 345 :: nat_lit 347 :: nat_lit 348 :: nat_lit 349 :: nat_lit 351 :: nat_lit 352 :: nat_lit 354 :: nat_lit 355 :: nat_lit 356 :: nat_lit 357 :: nat_lit 359 :: nat_lit 360 :: nat_lit 362 :: nat_lit 363 :: nat_lit 364 :: nat_lit 365 :: nat_lit 367 :: nat_lit 368 :: nat_lit 370 :: nat_lit 371 :: nat_lit 372 :: nat_lit 374 :: nat_lit 375 :: nat_lit 377 :: nat_lit 378 :: nat_lit 379 :: nat_lit 381 :: nat_lit 382 :: nat_lit 384 :: nat_lit 385 :: nat_lit 386 :: nat_lit 388 :: nat_lit 389 :: nat_lit 391 :: nat_lit 392 :: nat_lit 400 :: nat_lit 402 :: nat_lit 403 :: nat_lit 405 :: nat_lit 406 :: nat_lit 407 :: nat_lit 410 :: nat_lit 411 :: nat_lit 412 :: nat_lit 413 :: nat_lit 414 :: nat_lit 415 :: nat_lit 416 :: nat_lit 419 :: nat_lit 421 :: nat_lit 422 :: nat_lit 424 :: nat_lit 425 :: nat_lit 426 :: nat_lit 429 :: nat_lit 430 :: nat_lit 431 :: nat_lit 433 :: nat_lit 434 :: nat_lit 436 :: nat_lit 437 :: nat_lit 438 :: nat_lit 440 :: nat_lit 441 :: nat_lit 443 :: nat_lit 444 :: nat_lit 445 :: nat_lit 448 :: nat_lit 449 :: nat_lit 450 :: nat_lit 452 :: nat_lit 453 :: nat_lit 455 :: nat_lit 456 :: nat_lit 457 :: nat_lit 459 :: nat_lit 460 :: nat_lit 462 :: nat_lit 463 :: nat_lit 464 :: nat_lit 466 :: nat_lit 467 :: nat_lit 469 :: nat_lit 470 :: nat_lit 471 :: nat_lit 474 :: nat_lit 475 :: nat_lit 476 :: nat_lit 478 :: nat_lit 479 :: nat_lit 481 :: nat_lit 482 :: nat_lit 483 :: nat_lit 485 :: nat_lit 486 :: nat_lit 488 :: nat_lit 489 :: nat_lit 490 :: nat_lit 493 :: nat_lit 494 :: []
noncomputable abbrev SH (x : BT) (n k : Nat) (os : OsState) : SharedT := ⟨x, n, {}, ⟨[]⟩, {}, k, os⟩
noncomputable abbrev SB (w : World) (os : OsState) : Shared := ⟨boot_heap w.params, ⟨[]⟩, boot_drawn, boot_toks, os⟩
noncomputable abbrev S0 (w : World) (os : OsState) : Shared := ⟨heap_46 w.params, ⟨[]⟩, {}, 187, os⟩
noncomputable abbrev SF (w : World) (os : OsState) : Shared := ⟨heap_549 w.params, ⟨[]⟩, {}, 845, os⟩
noncomputable def en : Env := { scope := PG.main.scope, locals := mainNs, globals := mainNs, cells := [], code := .ref 13, frame := some 14 }
noncomputable abbrev BD : List Stmt := behindTheImports PG
noncomputable abbrev CB : Code := .body BD en
noncomputable abbrev P0 : Pos := ⟨0, 0, 0, 0⟩
noncomputable abbrev an : Option Value := some (.ref 6)
noncomputable def g (a n : Nat) : List Stmt := (PG.main.body.drop a).take n
noncomputable abbrev view_39 : Program := view PG [0, 2, 3, 5, 6, 7, 8, 9, 10, 13, 14, 15, 16, 17, 18, 19, 23, 24, 25, 27, 28, 29, 31, 32, 33, 34, 35, 36, 37, 38, 39, 40]
noncomputable abbrev LO : List Str := ["ShapeError", "laid", "write_coverage", "by_glyph"]
noncomputable abbrev MO : List Str := importedModules PG.main.body
theorem p0 (w : World) : (fun os => segRunT treeTable PG w 11 an 1 323 (SH (tree_47 w.params) 15 187 os) (piecesOf (g 0 3) en CB ⟨0, 0, 0, 0⟩ [topFrame P0])) = fun os => some (.next, SH (tree_88 w.params) 52 238 os, CB, ⟨5, 0, 13, 35⟩) := by rw [PySem.W.Fast.te10110043849684766642, PySem.W.Fast.te14364793385576792824]; kernel_rfl
theorem p1 (w : World) : (fun os => segRunT treeTable PG w 11 an 1 296 (SH (tree_88 w.params) 52 238 os) (piecesOf (g 3 5) en CB ⟨5, 0, 13, 35⟩ [topFrame P0])) = fun os => some (.next, SH (tree_117 w.params) 78 278 os, CB, ⟨21, 0, 26, 16⟩) := by rw [PySem.W.Fast.te10110043849684766642, PySem.W.Fast.te14364793385576792824]; kernel_rfl
theorem p2 (w : World) : (fun os => segRunT treeTable PG w 11 an 1 538 (SH (tree_117 w.params) 78 278 os) (piecesOf (g 8 1) en CB ⟨21, 0, 26, 16⟩ [topFrame P0])) = fun os => some (.next, SH (tree_209 w.params) 168 383 os, CB, ⟨27, 0, 64, 16⟩) := by rw [PySem.W.Fast.te10110043849684766642, PySem.W.Fast.te14364793385576792824]; kernel_rfl
theorem p3 (w : World) : (fun os => segRunT treeTable PG w 11 an 1 27 (SH (tree_209 w.params) 168 383 os) (piecesOf (g 9 1) en CB ⟨27, 0, 64, 16⟩ [topFrame P0])) = fun os => some (.next, SH (tree_216 w.params) 173 389 os, CB, ⟨65, 0, 68, 83⟩) := by rw [PySem.W.Fast.te10110043849684766642, PySem.W.Fast.te14364793385576792824]; kernel_rfl
theorem p4 (w : World) : (fun os => segRunT treeTable PG w 11 an 1 541 (SH (tree_216 w.params) 173 389 os) (piecesOf (g 10 1) en CB ⟨65, 0, 68, 83⟩ [topFrame P0])) = fun os => some (.next, SH (tree_309 w.params) 264 496 os, CB, ⟨69, 0, 103, 31⟩) := by rw [PySem.W.Fast.te10110043849684766642, PySem.W.Fast.te14364793385576792824]; kernel_rfl
theorem p5 (w : World) : (fun os => segRunT treeTable PG w 11 an 1 398 (SH (tree_309 w.params) 264 496 os) (piecesOf (g 11 4) en CB ⟨69, 0, 103, 31⟩ [topFrame P0])) = fun os => some (.next, SH (tree_368 w.params) 321 576 os, CB, ⟨145, 0, 149, 41⟩) := by rw [PySem.W.Fast.te10110043849684766642, PySem.W.Fast.te14364793385576792824]; kernel_rfl
theorem p6 (w : World) : (fun os => segRunT treeTable PG w 11 an 1 359 (SH (tree_368 w.params) 321 576 os) (piecesOf (g 15 12) en CB ⟨145, 0, 149, 41⟩ [topFrame P0])) = fun os => some (.next, SH (tree_442 w.params) 393 694 os, CB, ⟨243, 0, 243, 8⟩) := by rw [PySem.W.Fast.te10110043849684766642, PySem.W.Fast.te14364793385576792824]; kernel_rfl
theorem p7 (w : World) : (fun os => segRunT treeTable PG w 11 an 1 388 (SH (tree_442 w.params) 393 694 os) (piecesOf (g 27 6) en CB ⟨243, 0, 243, 8⟩ [topFrame P0])) = fun os => some (.next, SH (tree_496 w.params) 445 773 os, CB, ⟨293, 0, 296, 40⟩) := by rw [PySem.W.Fast.te10110043849684766642, PySem.W.Fast.te14364793385576792824]; kernel_rfl
theorem p8 (w : World) : (fun os => segRunT treeTable PG w 11 an 1 243 (SH (tree_496 w.params) 445 773 os) (piecesOf (g 33 8) en CB ⟨293, 0, 296, 40⟩ [topFrame P0])) = fun os => some (.next, SH (tree_548 w.params) 495 845 os, CB, ⟨348, 0, 371, 100⟩) := by rw [PySem.W.Fast.te10110043849684766642, PySem.W.Fast.te14364793385576792824]; kernel_rfl
theorem pA (w : World) : (fun os => topGo treeTable PG w 11 an 12 (SB w os) (topStub PG)) = fun os => some (S0 w os, (⟨denote treeTable CB, CB, P0, [topFrame P0]⟩ : Thread)) := by kernel_rfl
theorem pB (w : World) : (fun os => segRun treeTable PG w 11 an 1 1 (S0 w os) (blockOf BD en CB P0 [topFrame P0])) = fun os => some (.next, (SH (tree_47 w.params) 15 187 os).abs, CB, P0) := by kernel_rfl
theorem pZ (w : World) : (fun os => topRun treeTable PG w 11 an 2 (SH (tree_548 w.params) 495 845 os).abs ⟨doneF .next, CB, ⟨348, 0, 371, 100⟩, [topFrame P0]⟩) = fun os => some (SF w os) := by rw [PySem.W.Fast.te14082659384304107361, PySem.W.Fast.te14364793385576792824]; kernel_rfl
theorem bd : BD = g 0 3 ++ (g 3 5 ++ (g 8 1 ++ (g 9 1 ++ (g 10 1 ++ (g 11 4 ++ (g 15 12 ++ (g 27 6 ++ (g 33 8 ++ [])))))))) := by kernel_rfl
theorem run (w : World) (os : OsState) : topRun treeTable PG w 11 an (12 + (1 + (323 + (296 + (538 + (27 + (541 + (398 + (359 + (388 + (243 + 2))))))))))) (SB w os) (topStub PG) = some (SF w os) := by
  refine go_top (congrFun (pA w) os) (piece_block (congrFun (pB w) os) ?_)
  have k : topRun treeTable PG w 11 an _ _ (restOf [] en CB ⟨348, 0, 371, 100⟩ [topFrame P0]) = _ := piece_nil (congrFun (pZ w) os)
  replace k := piece_app (segRun_of (congrFun (p8 w) os)) k
  replace k := piece_app (segRun_of (congrFun (p7 w) os)) k
  replace k := piece_app (segRun_of (congrFun (p6 w) os)) k
  replace k := piece_app (segRun_of (congrFun (p5 w) os)) k
  replace k := piece_app (segRun_of (congrFun (p4 w) os)) k
  replace k := piece_app (segRun_of (congrFun (p3 w) os)) k
  replace k := piece_app (segRun_of (congrFun (p2 w) os)) k
  replace k := piece_app (segRun_of (congrFun (p1 w) os)) k
  replace k := piece_app (segRun_of (congrFun (p0 w) os)) k
  rw [← bd] at k
  exact k
theorem qa (w : World) (os : OsState) : seen ((recsOf view_39).map (·.name)) (ownsOf view_39) [] { SF w os with gens := #[] } = expectedOf view_39 := by rw [PySem.W.Fast.te5160383126252970620]; kernel_rfl
theorem qb (w : World) (os : OsState) : (SF w os).heap.bltView = bltViewBooted := by kernel_rfl
theorem qc (w : World) (os : OsState) : ((SF w os).heap.keysOk (looseW view_39 LO) ((recsOf view_39).map (·.name)) ((litsOf view_39).map (·.1)) ((clssOf view_39 (looseW view_39 LO)).map (·.name)) && (SF w os).heap.accountedOkI MO && (SF w os).heap.isNs mainGlobals && (SF w os).heap.isNs builtinsNs && tablesOk view_39 (SF w os).heap && (fun s => xlAt view_39 [] s && recOk PySem.Challenge.rw_nu0183_01.row.toRowW.records s) (SF w os) && (if true = true then (SF w os).gens.size == 0 else !leftWithCleanup (SF w os).gens)) = true := by rw [PySem.W.Fast.te10880121769531294198, PySem.W.Fast.te10994771534591457954, PySem.W.Fast.te14722251495701143533]; kernel_rfl
theorem qd (w : World) (os : OsState) : tabsOk view_39 (SF w os) = true := by rw [PySem.W.Fast.te479339242167458305]; kernel_rfl
theorem qe (w : World) (os : OsState) : pinSeenD view_39 (drecsOf view_39) (SF w os) = pinGoodD (drecsOf view_39) := by rw [PySem.W.Fast.te16090120013241838585]; kernel_rfl
theorem qf (w : World) (os : OsState) : plainSeenE view_39 (looseW view_39 LO) (SF w os) = plainGoodE view_39 (looseW view_39 LO) := by rw [PySem.W.Fast.te2386780881361962483]; kernel_rfl
theorem qg (w : World) (os : OsState) : plainSeenD view_39 LO (SF w os) = plainGoodD view_39 LO := by rw [PySem.W.Fast.te11698064438423848299]; kernel_rfl
theorem qh (w : World) (os : OsState) : wideSeen view_39 (SF w os) = wideGood view_39 := by rw [PySem.W.Fast.te7317090234206586261]; kernel_rfl
theorem qi (w : World) (os : OsState) : clsSeenW view_39 LO (SF w os) = clsGoodW view_39 LO := by rw [PySem.W.Fast.te7369524293546568484]; kernel_rfl
theorem qs (w : World) (os : OsState) : (staticsOk MO (boot_heap w.params) (heap_549 w.params) && namesBound PG (heap_549 w.params) && gensDone (SF w os) && laidKept (boot_heap w.params) (heap_549 w.params)) = true := by kernel_rfl
theorem kad (P : Params) : kadr = (heap_39 P).map (·.1) := by kernel_rfl
noncomputable abbrev H : Hook := kmHook heap_39 kadr kad [432]
theorem qy (w : World) (os : OsState) : H.obs (SF w os) = H.val w := by kernel_rfl
theorem op : opening PG = plainProg PG.main.scope.names := by kernel_rfl
theorem fe (s : Shared) : fenceModules? PG s = some s := by kernel_rfl
theorem sz (w : World) : ((boot_heap w.params).isNs mainGlobals && (⟨[]⟩ : Array GenState).size == 0, (boot_heap w.params).objs.size, (boot_heap w.params).nsMap mainGlobals "__annotations__") = (true, 11, an) := by kernel_rfl
theorem left : LeftO PG view_39 LO (fun s => xlAt view_39 [] s && recOk PySem.Challenge.rw_nu0183_01.row.toRowW.records s) H.obs H.val 6334 :=
  LeftO.of_pieces (boot_open op (by decide) fe) sz run (by decide) fun w => funext fun os => looks_pair (qs w os) (looks_pair (looks_pair (qa w os) (looks_pair (qb w os) (looks_pair (qc w os) (looks_pair (qd w os) (looks_pair (qe w os) (looks_pair (qf w os) (looks_pair (qg w os) (looks_pair (qh w os) (qi w os))))))))) (qy w os))
theorem and2 {a b : Bool} (ha : a = true) (hb : b = true) : (a && b) = true := by rw [ha, hb]; rfl
theorem w1 : (sreFenced PG.main && ((moduleNames PG.main.body).isEmpty || lookedIntoSs (moduleNames PG.main.body) PG.main.body)) = true := by kernel_rfl
theorem w2 : namesResolve PG = true := by rw [PySem.W.Fast.te8377067652309620493]; kernel_rfl
theorem w3 : PG.boundNames.all (fun n => !worldNames.contains n) = true := by kernel_rfl
theorem w5 : (!(importedModules PG.main.body).all cThrough.contains) = false := by kernel_rfl
theorem w6 : (["vars", "dir", "locals"] : List Str).filter (readsOut PG PG.main.body) = [] := by
  show (["vars", "dir", "locals"] : List Str).filter (fun n => !namesMeet PG PG.main.body fun sc x => x != n || !(sc.names.lookup x == some .globalImplicit || sc.names.lookup x == some .globalExplicit)) = []
  rw [PySem.W.Fast.te17119622794617984870]; kernel_rfl
theorem w4 : noRoadLSs { strict := !(importedModules PG.main.body).all cThrough.contains, foot := none, bare := (["vars", "dir", "locals"] : List Str).filter (readsOut PG PG.main.body) } PG.main.body = true := by
  rw [w5, w6, PySem.W.Fast.te8326940854005059898]; kernel_rfl
theorem w7 : (namesMeet PG PG.main.body fun _ n => attrL n) = true := by rw [PySem.W.Fast.te17119622794617984870]; kernel_rfl
theorem look : looksOpen PG = true := and2 (and2 (and2 (and2 w1 w2) w3) w4) w7
theorem rowSaid : PySem.Challenge.rw_nu0183_01.row.wellSaid = true := by
  unfold OpenRow.wellSaid OpenRow.partSaid
  rw [look]
  kernel_rfl
theorem ws : OpenLaw.wellSaid PySem.Challenge.rw_nu0183_01 = true := by
  rw [PySem.W.Fast.te9446332074065402090]; unfold PySem.W.Fast.tw9446332074065402090
  rw [show PySem.W.Fast.tw17960256430627541270 (PySem.W.Fast.tw2368527892694137696 PySem.Challenge.rw_nu0183_01) = true by rw [← PySem.W.Fast.te17960256430627541270, ← PySem.W.Fast.te2368527892694137696]; exact rowSaid]
  kernel_rfl
theorem ok : (chainsOk view_39 && opensWell PySem.Challenge.rw_nu0183_01.row.prog && (frees PySem.Challenge.rw_nu0183_01.row.toRowW && PySem.Challenge.rw_nu0183_01.row.within.isEmpty)) = true := by kernel_rfl
end hd
theorem hd : (fun {n : Str} {a : Arguments} {b : List Stmt} {d1 : List Expr} {d2 : Option Expr} {d3 : List TypeParam} {sc : Scope} {d4 : Option Scope} {d5 : Str} {p : Pos} (h : hd.t 40 = .FunctionDef n a b d1 d2 d3 sc d4 d5 p) =>
    WalkC hd.view_39 hd.LO (XL hd.view_39 []) hd.H.says PySem.Challenge.rw_nu0183_01.row.toRowW ⟨n, a, b, sc, p⟩ []) rfl → PySem.Challenge.rw_nu0183_01.Holds := fun walk =>
  holds_law hd.ws fun said => holds_openC (N := 6334) hd.left hd.H.of hd.H.keeps (fun s e => xl_of s (Bool.and_eq_true_iff.mp e).1) XL.keeps (by kernel_rfl) (by kernel_rfl) (by kernel_rfl) (fun s e => recFacts_of (Bool.and_eq_true_iff.mp e).2) rfl said hd.ok
    ⟨rfl, rfl, rfl, rfl, rfl, by decide +kernel⟩ ⟨[.list []], by decide +kernel, by decide +kernel⟩ walk
end
section
theorem set_one {α : Type} {x : α} {l : List α} (h : l.length = 1) : l.set 0 x = [x] := by
  obtain ⟨u, rfl⟩ := List.length_eq_one_iff.mp h
  rfl
noncomputable abbrev VP : Program := topProg
noncomputable abbrev LS : List Str := (looseW hd.view_39 [Str.ofString "ShapeError", Str.ofString "laid", Str.ofString "write_coverage", Str.ofString "by_glyph"]) ++ (recsOf hd.view_39).map (·.name) ++ (litsOf hd.view_39).map (·.1) ++ (clssOf hd.view_39 (looseW hd.view_39 [Str.ofString "ShapeError", Str.ofString "laid", Str.ofString "write_coverage", Str.ofString "by_glyph"])).map (·.name)
noncomputable def sh (s : Shared) (h : Heap) (k : Nat) : Shared := { s with heap := h, toks := k }
noncomputable def mOf (ns : List Str) (vs : List (Option Value)) (x : Str) : Option Value := ((ns.zip vs).lookup x).join
theorem mOf_get : ∀ {ns : List Str} {vs : List (Option Value)} {i : Nat} {x : Str} {v : Option Value}, ns.Nodup → ns[i]? = some x → vs[i]? = some v → mOf ns vs x = v
  | [], _, _, _, _, _, h, _ => by simp at h
  | _ :: _, [], _, _, _, _, _, h => by simp at h
  | n :: ns, u :: vs, 0, x, v, nd, h1, h2 => by
    simp only [List.getElem?_cons_zero, Option.some.injEq] at h1 h2
    subst h1; subst h2
    simp [mOf]
  | n :: ns, u :: vs, i + 1, x, v, nd, h1, h2 => by
    rw [List.nodup_cons] at nd
    simp only [List.getElem?_cons_succ] at h1 h2
    have hx : x ∈ ns := List.mem_of_getElem? h1
    have hne : (x == n) = false := beq_eq_false_iff_ne.mpr fun e => nd.1 (e ▸ hx)
    have := mOf_get nd.2 h1 h2
    simpa [mOf, List.lookup_cons, hne] using this
theorem mOf_set : ∀ {ns : List Str} {vs : List (Option Value)} {i : Nat} {x : Str} {v : Option Value}, ns.Nodup → vs.length = ns.length → ns[i]? = some x → mOf ns (vs.set i v) = fun y => if y = x then v else mOf ns vs y
  | [], _, _, _, _, _, _, h => by simp at h
  | _ :: _, [], _, _, _, _, h, _ => by simp at h
  | n :: ns, u :: vs, 0, x, v, nd, hl, h1 => by
    simp only [List.getElem?_cons_zero, Option.some.injEq] at h1
    subst h1
    funext y
    by_cases e : y = n
    · subst e; simp [mOf]
    · have : (y == n) = false := beq_eq_false_iff_ne.mpr e
      simp [mOf, List.lookup_cons, this, e]
  | n :: ns, u :: vs, i + 1, x, v, nd, hl, h1 => by
    rw [List.nodup_cons] at nd
    simp only [List.getElem?_cons_succ] at h1
    have hx : x ∈ ns := List.mem_of_getElem? h1
    have ih := mOf_set (v := v) nd.2 (by simpa using hl) h1
    funext y
    have ihy := congrFun ih y
    by_cases e : y = n
    · subst e
      have hne : y ≠ x := fun q => nd.1 (q ▸ hx)
      simp [mOf, hne]
    · have : (y == n) = false := beq_eq_false_iff_ne.mpr e
      simp only [mOf, List.set_cons_succ, List.zip_cons_cons, List.lookup_cons, this] at ihy ⊢
      exact ihy
theorem lookup_none_of {β : Type} {x : Str} : ∀ {l : List (Str × β)}, x ∉ l.map (·.1) → l.lookup x = none
  | [], _ => rfl
  | (k, v) :: l, h => by
    simp only [List.map_cons, List.mem_cons, not_or] at h
    rw [List.lookup_cons, beq_eq_false_iff_ne.mpr h.1]
    exact lookup_none_of h.2
theorem mOf_binds : ∀ {ns : List Str} {args : List Value} {k : Nat}, ns.Nodup → args.length = k → k ≤ ns.length →
    (fun x => ((ns.take k).zip args).reverse.lookup x) = mOf ns (args.map some ++ List.replicate (ns.length - k) none) := by
  intro ns args k nd ha hk
  funext x
  have key : ∀ (l : List (Str × Value)), (l.map (·.1)).Nodup → l.reverse.lookup x = l.lookup x := by
    intro l
    induction l with
    | nil => intro _; rfl
    | cons p l ih =>
      intro hn
      obtain ⟨a, b⟩ := p
      rw [List.map_cons, List.nodup_cons] at hn
      rw [List.reverse_cons, List.lookup_append, ih hn.2]
      by_cases e : x = a
      · subst e
        rw [lookup_none_of hn.1]; simp
      · have hne : (x == a) = false := beq_eq_false_iff_ne.mpr e
        simp [List.lookup_cons, hne]
  have hn1 : (((ns.take k).zip args).map (·.1)).Nodup := by
    rw [List.map_fst_zip (by rw [List.length_take]; omega)]
    exact nd.sublist (List.take_sublist _ _)
  show ((ns.take k).zip args).reverse.lookup x = _
  rw [key _ hn1]
  clear key hn1
  induction ns generalizing args k with
  | nil => simp at hk; subst hk; simp [mOf]
  | cons n ns ih =>
    cases k with
    | zero =>
      have : args = [] := List.length_eq_zero_iff.mp ha
      subst this
      simp only [List.take_zero, List.zip_nil_left, List.lookup_nil, mOf]
      symm
      rw [Option.join_eq_none_iff]
      simp only [List.map_nil, List.nil_append]
      generalize hq : List.lookup x _ = q
      cases q with
      | none => exact .inl rfl
      | some v =>
        right
        have := mem_of_lookup hq
        have h2 := (List.of_mem_zip this).2
        rw [List.eq_of_mem_replicate h2]
    | succ k =>
      cases args with
      | nil => simp at ha
      | cons a args =>
        rw [List.nodup_cons] at nd
        have := ih (args := args) (k := k) nd.2 (by simpa using ha) (by simpa using hk)
        simp only [mOf] at this
        simp only [mOf, List.take_succ_cons, List.zip_cons_cons, List.lookup_cons, List.map_cons, List.cons_append, List.length_cons, Nat.add_sub_add_right]
        cases hb : x == n with
        | true => simp
        | false => simpa using this
structure St (w : World) (base : Heap) (fs : List Env) (g : Heap) (L : Addr) (ns : List Str) (vs : List (Option Value)) (led : List (Addr × Obj)) (h : Heap) : Prop where
  X : (hd.heap_39 w.params).In base
  T : Ex3 fun mean mg mb => Top VP LS mean mg mb base
  stays : base.StaysIn g
  frames : ∀ h' m', g.StaysIn h' → h'.Ns L m' → h'.FunFrames base fs
  gL : g.get? L = none
  low : base.objs.size ≤ L
  len : vs.length = ns.length
  nd : ns.Nodup
  loc : h.Ns L (mOf ns vs)
  keep : g.StaysIn h
  ldg : ∀ p ∈ led, h.get? p.1 = some p.2 ∧ p.1 ≠ L ∧ g.get? p.1 = none
  ndl : (led.map (·.1)).Nodup
inductive Frz (w : World) (base : Heap) (fs : List Env) (g : Heap) (L : Addr) (ns : List Str) (vs : List (Option Value)) (d : Addr) (o : Obj) (led : List (Addr × Obj)) (h : Heap) : Prop
  | mk (g' : Heap) (h1 : g.StaysIn g') (h2 : g'.get? d = some o) (h3 : St w base fs g' L ns vs led h) : Frz w base fs g L ns vs d o led h
theorem stays_trans {a b c : Heap} (x : a.StaysIn b) (y : b.StaysIn c) : a.StaysIn c := fun b o e => y b o (x b o e)
theorem stays_refl (a : Heap) : a.StaysIn a := fun _ _ e => e
theorem hide_stays (h : Heap) (l : List Addr) : (hideAll h l).StaysIn h := fun _ _ e => of_hideAll l e
namespace St
variable {w : World} {base g h : Heap} {fs : List Env} {L : Addr} {ns : List Str} {vs : List (Option Value)} {led : List (Addr × Obj)}
theorem bh (S : St w base fs g L ns vs led h) : base.StaysIn h := stays_trans S.stays S.keep
theorem Xh (S : St w base fs g L ns vs led h) : (hd.heap_39 w.params).In h := S.X.keeps S.bh
theorem Th (S : St w base fs g L ns vs led h) : Ex3 fun mean mg mb => Top VP LS mean mg mb h := let ⟨me, mg, mb, t⟩ := S.T; ⟨me, mg, mb, t.keeps S.bh⟩
theorem get (S : St w base fs g L ns vs led h) {a : Addr} {o : Obj} (hg : g.get? a = some o) : h.get? a = some o := S.keep _ _ hg
theorem at_ (S : St w base fs g L ns vs led h) {i : Nat} {d : Addr} {o : Obj} (hi : led[i]? = some (d, o)) : h.get? d = some o := (S.ldg _ (List.mem_of_getElem? hi)).1
theorem fr (S : St w base fs g L ns vs led h) : h.FunFrames base fs := S.frames h _ S.keep S.loc
theorem alloc (S : St w base fs g L ns vs led h) (o : Obj) (ho : o.isFreed = false) : St w base fs g L ns vs ((h.objs.size, o) :: led) (h.push o) where
  X := S.X
  T := S.T
  stays := S.stays
  frames := S.frames
  gL := S.gL
  low := S.low
  len := S.len
  nd := S.nd
  loc := S.loc.push o
  keep := fun b o' e => Heap.get?_push_of_some o (S.keep b o' e)
  ldg := fun p hp => by
    rcases List.mem_cons.mp hp with rfl | hp
    · refine ⟨Heap.get?_push_size _ ho, Nat.ne_of_gt S.loc.lt, ?_⟩
      cases q : g.get? h.objs.size with
      | none => rfl
      | some o' => exact absurd (Heap.lt_size (S.keep _ _ q)) (Nat.lt_irrefl _)
    · exact ⟨Heap.get?_push_of_some o (S.ldg p hp).1, (S.ldg p hp).2⟩
  ndl := by
    rw [List.map_cons, List.nodup_cons]
    refine ⟨fun hm => ?_, S.ndl⟩
    obtain ⟨p, HH1⟩ := List.mem_map.mp hm
    have hp := HH1.1
    have e := HH1.2
    clear HH1
    exact absurd (Heap.lt_size (S.ldg p hp).1) (by rw [e]; exact Nat.lt_irrefl _)
theorem moved (S : St w base fs g L ns vs led h) {h' : Heap} {vs' : List (Option Value)} (hl : vs'.length = ns.length) (hn : h'.Ns L (mOf ns vs')) (hs : Heap.SameBut L h h') : St w base fs g L ns vs' led h' where
  X := S.X
  T := S.T
  stays := S.stays
  frames := S.frames
  gL := S.gL
  low := S.low
  len := hl
  nd := S.nd
  loc := hn
  keep := fun b o e => by
    rw [hs.2 b (fun q => by rw [q, S.gL] at e; cases e)]; exact S.keep b o e
  ldg := fun p hp => ⟨by rw [hs.2 p.1 (S.ldg p hp).2.1]; exact (S.ldg p hp).1, (S.ldg p hp).2⟩
  ndl := S.ndl
theorem grown (S : St w base fs g L ns vs led h) {h' : Heap} (hk : h.StaysIn h') : St w base fs g L ns vs led h' where
  X := S.X
  T := S.T
  stays := S.stays
  frames := S.frames
  gL := S.gL
  low := S.low
  len := S.len
  nd := S.nd
  loc := S.loc.keeps hk
  keep := stays_trans S.keep hk
  ldg := fun p hp => ⟨hk _ _ (S.ldg p hp).1, (S.ldg p hp).2⟩
  ndl := S.ndl
theorem turned (S : St w base fs g L ns vs led h) {i : Nat} {d : Addr} {o o' : Obj} {h' : Heap} (hi : led[i]? = some (d, o)) (hs : Heap.SameBut d h h') (ho : h'.get? d = some o') : St w base fs g L ns vs (led.set i (d, o')) h' := by
  have hd := S.ldg _ (List.mem_of_getElem? hi)
  have hlt : i < led.length := by
    rcases Nat.lt_or_ge i led.length with q | q
    · exact q
    · rw [List.getElem?_eq_none q] at hi; cases hi
  have hmap : (led.set i (d, o')).map (·.1) = led.map (·.1) := by
    rw [List.map_set]
    have : (led.map (·.1))[i]? = some d := by rw [List.getElem?_map, hi]; rfl
    exact List.ext_getElem? fun j => by
      rw [List.getElem?_set]
      split
      · subst_vars
        rw [List.length_map, if_pos hlt, this]
      · rfl
  refine ⟨S.X, S.T, S.stays, S.frames, S.gL, S.low, S.len, S.nd, S.loc.sameBut hs (Ne.symm hd.2.1), fun b ob e => ?_, fun p hp => ?_, by rw [hmap]; exact S.ndl⟩
  · rw [hs.2 b (fun q => by rw [q, hd.2.2] at e; cases e)]; exact S.keep b ob e
  · obtain ⟨j, hj⟩ := List.mem_iff_getElem?.mp hp
    rw [List.getElem?_set] at hj
    by_cases e : i = j
    · subst e
      rw [if_pos rfl, if_pos hlt] at hj
      cases hj
      exact ⟨ho, hd.2⟩
    · rw [if_neg e] at hj
      have hm := S.ldg _ (List.mem_of_getElem? hj)
      refine ⟨?_, hm.2⟩
      rw [hs.2 p.1 fun q => e ?_]
      · exact hm.1
      · have h1 : (led.map (·.1))[i]? = some d := by rw [List.getElem?_map, hi]; rfl
        have h2 : (led.map (·.1))[j]? = some d := by rw [List.getElem?_map, hj, Option.map_some, q]
        have hjl : j < (led.map (·.1)).length := (List.getElem?_eq_some_iff.mp h2).1
        exact (List.getElem?_inj (by simpa using hlt) S.ndl).mp (h1.trans h2.symm)
theorem part (S : St w base fs g L ns vs led h) {sub : List (Addr × Obj)} (hs : ∀ p ∈ sub, p ∈ led) (hn : (sub.map (·.1)).Nodup) : St w base fs g L ns vs sub h :=
  ⟨S.X, S.T, S.stays, S.frames, S.gL, S.low, S.len, S.nd, S.loc, S.keep, fun p hp => S.ldg p (hs p hp), hn⟩
theorem hold (S : St w base fs g L ns vs led h) {sub : List (Addr × Obj)} (hs : ∀ p ∈ sub, p ∈ led) (hn : (sub.map (·.1)).Nodup) :
    St w base fs (hideAll h (L :: sub.map (·.1))) L ns vs sub h ∧ g.StaysIn (hideAll h (L :: sub.map (·.1))) := by
  have hg : g.StaysIn (hideAll h (L :: sub.map (·.1))) := fun b o e => hideAll_get _ (S.keep b o e) fun hm => by
    rcases List.mem_cons.mp hm with q | hm
    · rw [q, S.gL] at e; cases e
    · obtain ⟨p, HH1⟩ := List.mem_map.mp hm
      have hp := HH1.1
      have q := HH1.2
      clear HH1
      rw [← q, (S.ldg p (hs p hp)).2.2] at e; cases e
  exact ⟨⟨S.X, S.T, stays_trans S.stays hg, fun h' m' k n => S.frames h' m' (stays_trans hg k) n, hideAll_none _ (.head _), S.low, S.len, S.nd, S.loc, hide_stays _ _,
    fun p hp => ⟨(S.ldg p (hs p hp)).1, (S.ldg p (hs p hp)).2.1, hideAll_none _ (.tail _ (List.mem_map_of_mem hp))⟩, hn⟩, hg⟩
theorem freeze {d : Addr} {o : Obj} (S : St w base fs g L ns vs ((d, o) :: led) h) : Frz w base fs g L ns vs d o led h := by
  have hn := S.ndl
  rw [List.map_cons, List.nodup_cons] at hn
  obtain ⟨S', hg⟩ := S.hold (sub := led) (fun p hp => .tail _ hp) hn.2
  refine ⟨_, hg, hideAll_get _ (S.ldg _ (.head _)).1 fun hm => ?_, S'⟩
  rcases List.mem_cons.mp hm with q | hm
  · exact (S.ldg _ (.head _)).2.1 q
  · exact hn.1 hm
theorem freezeAt {i : Nat} {d : Addr} {o : Obj} (S : St w base fs g L ns vs led h) (hi : led[i]? = some (d, o)) : Frz w base fs g L ns vs d o (led.eraseIdx i) h := by
  have hsub : List.Sublist (led.eraseIdx i) led := List.eraseIdx_sublist ..
  obtain ⟨S', hg⟩ := S.hold (sub := led.eraseIdx i) (fun p hp => hsub.subset hp) (S.ndl.sublist (hsub.map _))
  refine ⟨_, hg, hideAll_get _ (S.at_ hi) fun hm => ?_, S'⟩
  rcases List.mem_cons.mp hm with q | hm
  · exact (S.ldg _ (List.mem_of_getElem? hi)).2.1 q
  · have h1 : (led.map (·.1))[i]? = some d := by rw [List.getElem?_map, hi]; rfl
    have h2 : (led.eraseIdx i).map (·.1) = (led.map (·.1)).eraseIdx i := by
      apply List.ext_getElem?
      intro j
      rw [List.getElem?_map, List.getElem?_eraseIdx, List.getElem?_eraseIdx]
      split <;> rw [List.getElem?_map]
    rw [h2] at hm
    obtain ⟨j, hj⟩ := List.mem_iff_getElem?.mp hm
    have hlt : i < (led.map (·.1)).length := (List.getElem?_eq_some_iff.mp h1).1
    rw [List.getElem?_eraseIdx] at hj
    split at hj
    · rename_i hji
      have := (List.getElem?_inj hlt S.ndl).mp (h1.trans hj.symm)
      omega
    · rename_i hji
      have := (List.getElem?_inj hlt S.ndl).mp (h1.trans hj.symm)
      omega
noncomputable def newOf (base g : Heap) : List (Addr × Obj) := (List.range g.objs.size).filterMap fun a => if (base.get? a).isNone then (g.get? a).map (fun o => (a, o)) else none
theorem mem_newOf {base g : Heap} {p : Addr × Obj} : p ∈ newOf base g ↔ g.get? p.1 = some p.2 ∧ base.get? p.1 = none := by
  unfold newOf
  rw [List.mem_filterMap]
  constructor
  · rintro ⟨a, _, h⟩
    split at h
    · rename_i hb
      obtain ⟨o, HH1⟩ := Option.map_eq_some_iff.mp h
      have ho := HH1.1
      obtain rfl := HH1.2
      clear HH1
      exact ⟨ho, Option.isNone_iff_eq_none.mp hb⟩
    · cases h
  · rintro ⟨h1, h2⟩
    refine ⟨p.1, List.mem_range.mpr (Heap.lt_size h1), ?_⟩
    rw [if_pos (by rw [h2]; rfl), h1]
    rfl
theorem toFr (S : St w base fs g L ns vs led h) : Fr base L h (mOf ns vs) := ⟨S.loc, S.bh, S.low⟩
theorem toNews (S : St w base fs g L ns vs led h) : News base L h (led ++ newOf base g) := fun p hp => by
  rcases List.mem_append.mp hp with hp | hp
  · refine ⟨(S.ldg p hp).1, (S.ldg p hp).2.1, ?_⟩
    cases q : base.get? p.1 with
    | none => rfl
    | some o => have := S.stays _ _ q; rw [(S.ldg p hp).2.2] at this; cases this
  · obtain ⟨h1, h2⟩ := mem_newOf.mp hp
    exact ⟨S.keep _ _ h1, (fun q => by rw [q, S.gL] at h1; cases h1), h2⟩
theorem ofNews {vs' : List (Option Value)} {led' : List (Addr × Obj)} {h' : Heap} (S : St w base fs g L ns vs led h) (F : Fr base L h' (mOf ns vs')) (hl : vs'.length = ns.length) (N : News base L h' (led' ++ newOf base g))
    (hn : (led'.map (·.1)).Nodup) (hd : ∀ p ∈ led', g.get? p.1 = none) : St w base fs g L ns vs' led' h' :=
  ⟨S.X, S.T, S.stays, S.frames, S.gL, S.low, hl, S.nd, F.ns, fun b o e => by
    cases q : base.get? b with
    | some o' =>
      have h1 := S.stays _ _ q
      rw [e] at h1; cases h1
      exact F.keep _ _ q
    | none => exact (N (b, o) (List.mem_append_right _ (mem_newOf.mpr ⟨e, q⟩))).1,
  fun p hp => ⟨(N p (List.mem_append_left _ hp)).1, (N p (List.mem_append_left _ hp)).2.1, hd p hp⟩, hn⟩
theorem upd (S : St w base fs g L ns vs led h) {i : Nat} {d : Addr} {o : Obj} (o' : Obj) (hi : led[i]? = some (d, o)) : Upd d o o' (led ++ newOf base g) (led.set i (d, o') ++ newOf base g) := by
  have hnew : ∀ p ∈ newOf base g, p.1 ≠ d := fun p hp q => by
    have h1 := (mem_newOf.mp hp).1
    rw [q, (S.ldg _ (List.mem_of_getElem? hi)).2.2] at h1; cases h1
  have hn := S.ndl
  clear S
  induction led generalizing i with
  | nil => simp at hi
  | cons p led ih =>
    rw [List.map_cons, List.nodup_cons] at hn
    cases i with
    | zero =>
      simp only [List.getElem?_cons_zero, Option.some.injEq] at hi
      subst hi
      exact .head fun q hq => (List.mem_append.mp hq).elim (fun hm e => hn.1 (by rw [← e]; exact List.mem_map_of_mem (f := (·.1)) hm)) (hnew q)
    | succ i =>
      simp only [List.getElem?_cons_succ] at hi
      exact .tail (fun e => hn.1 (by rw [e]; exact List.mem_map_of_mem (List.mem_of_getElem? hi) (f := (·.1)))) (ih hi hn.2)
theorem set_nd (S : St w base fs g L ns vs led h) {i : Nat} {d : Addr} {o : Obj} (o' : Obj) (hi : led[i]? = some (d, o)) : ((led.set i (d, o')).map (·.1)).Nodup ∧ ∀ p ∈ led.set i (d, o'), g.get? p.1 = none := by
  have hmap : (led.set i (d, o')).map (·.1) = led.map (·.1) := by
    have h1 : (led.map (·.1))[i]? = some d := by rw [List.getElem?_map, hi]; rfl
    have hlt : i < led.length := (List.getElem?_eq_some_iff.mp hi).1
    rw [List.map_set]
    exact List.ext_getElem? fun j => by
      rw [List.getElem?_set]
      split
      · subst_vars
        rw [List.length_map, if_pos hlt, h1]
      · rfl
  refine ⟨by rw [hmap]; exact S.ndl, fun p hp => ?_⟩
  have : p.1 ∈ (led.set i (d, o')).map (·.1) := List.mem_map_of_mem hp
  rw [hmap] at this
  obtain ⟨q, HH1⟩ := List.mem_map.mp this
  have hq := HH1.1
  have e := HH1.2
  clear HH1
  rw [← e]; exact (S.ldg q hq).2.2
end St
end
section
structure EnvOk (env : Env) (L : Addr) (ns : List Str) (cl : List (Str × Addr)) : Prop where
  loc : env.locals = L
  kind : env.scope.kind = .function
  glob : env.globals = mainGlobals
  blt : env.builtins = builtinsNs
  names : ∀ x ∈ ns, env.kindOf x = some .local
  cells : env.cells = cl
structure Ax (prog : Program) (A : Around) (fs : List Env) (d : Nat) : Prop where
  fr : A.frames = some fs
  hd : A.handled = none
  dep : A.depth + d < 1000
  un : A.units + 10 * d < 9900
  file : prog.main.file = ("/claim/cut.py" : String)
  sup : (prog.main.scope.names.lookup ("super" : Str)).isSome = false
theorem Ax.less {prog : Program} {A : Around} {fs : List Env} {d d' : Nat} (x : Ax prog A fs d) (h : d' ≤ d) : Ax prog A fs d' := ⟨x.fr, x.hd, by have := x.dep; omega, by have := x.un; omega, x.file, x.sup⟩
theorem Ax.deeper {prog : Program} {A : Around} {fs : List Env} {d : Nat} (x : Ax prog A fs (d + 1)) (env : Env) : Ax prog (A.deeper env) (env :: fs) d :=
  ⟨by rw [Around.deeper]; simp [x.fr], x.hd, by have := x.dep; show A.depth + 1 + d < 1000; omega, by have := x.un; show A.units + 3 + 10 * d < 9900; omega, x.file, x.sup⟩
structure ExOk (prog : Program) (w : World) (A' : Around) (env' : Env) (E E' : Value → Shared → Prop) : Prop where
  pass : PassesOwn (model prog w) A' env' E'
  leave : ∀ e s', wpAny (model prog w) A' (leaving env' e) (fun _ s'' => E e s'') (fun e' s'' => E e' s'') s' → E' e s'
noncomputable def RetQ (Q : Value → Shared → Prop) (fl : Flow) (s' : Shared) : Prop := Q (match fl with | .ret v => v | _ => .none) s'
theorem ret_v {Q : Value → Shared → Prop} {v : Value} {s' : Shared} (h : Q v s') : RetQ Q (.ret v) s' := h
theorem ret_n {Q : Value → Shared → Prop} {s' : Shared} (h : Q .none s') : RetQ Q .next s' := h
theorem entered0 {w : World} {base h h₁ : Heap} {fs : List Env} {ns' : List Str} {vs' : List (Option Value)} {cells foot : List (Addr × Obj)} {env' : Env} (X : (hd.heap_39 w.params).In base) (T : Ex3 fun mean mg mb => Top VP LS mean mg mb base) (hb : base.StaysIn h) (hlow : base.objs.size ≤ h.objs.size)
    (hf : ∀ p ∈ foot, h.get? p.1 = some p.2 ∧ base.get? p.1 = none) (hfn : (foot.map (·.1)).Nodup) (hnd : ns'.Nodup)
    (hlen : vs'.length = ns'.length) (hns₁ : h₁.Ns h.objs.size (mOf ns' vs')) (hk₁ : h.StaysIn h₁) (hmod : env'.scope.kind ≠ .module) (hfrm : env'.frame = some h.objs.size)
    (NC : ∀ p ∈ cells, h₁.get? p.1 = some p.2) (hca : ∀ a ∈ cells.map (·.1), h.objs.size < a) (hcn : (cells.map (·.1)).Nodup) (hfr : ∀ h', (hideAll h (foot.map (·.1))).StaysIn h' → h'.FunFrames base fs) :
    St w base (env' :: fs) (hideAll h (foot.map (·.1))) h.objs.size ns' vs' (cells ++ foot) h₁ := by
  have hnone : ∀ a, h.objs.size ≤ a → (hideAll h (foot.map (·.1))).get? a = none := fun a ha => by
    cases q : (hideAll h (foot.map (·.1))).get? a with
    | none => rfl
    | some o => exact absurd (Heap.lt_size (of_hideAll _ q)) (Nat.not_lt.mpr ha)
  refine ⟨X, T, fun b o e => hideAll_get _ (hb b o e) fun hm => ?_, fun h' m' k' n' => ⟨hmod, ?_, hfr h' k'⟩, hnone _ (Nat.le_refl _), hlow, hlen, hnd, hns₁, fun b o e => hk₁ b o (of_hideAll _ e), fun p hp => ?_, ?_⟩
  · obtain ⟨p, HH1⟩ := List.mem_map.mp hm
    have hp := HH1.1
    have q := HH1.2
    clear HH1
    rw [← q, (hf p hp).2] at e; cases e
  · obtain ⟨o, es, ep, HH1⟩ := ex3 n'
    have ho' := HH1.1
    have hd' := HH1.2.1
    clear HH1
    refine ⟨_, o, hfrm, ?_, ho', fun vs q => by rw [hd'] at q; cases q⟩
    cases q : base.get? h.objs.size with
    | none => rfl
    | some o => exact absurd (Heap.lt_size (hb _ _ q)) (Nat.lt_irrefl _)
  · rcases List.mem_append.mp hp with hp | hp
    · have h1 := hca _ (List.mem_map_of_mem hp)
      exact ⟨NC p hp, Nat.ne_of_gt h1, hnone _ (Nat.le_of_lt h1)⟩
    · have h1 := (hf p hp).1
      exact ⟨hk₁ _ _ h1, Nat.ne_of_lt (Heap.lt_size h1), hideAll_none _ (List.mem_map_of_mem hp)⟩
  · rw [List.map_append, List.nodup_append]
    refine ⟨hcn, hfn, fun a ha b hb e => ?_⟩
    obtain ⟨q, HH1⟩ := List.mem_map.mp hb
    have hq := HH1.1
    obtain rfl := HH1.2
    clear HH1
    have h2 := Heap.lt_size (hf q hq).1
    rw [← e] at h2
    exact absurd h2 (Nat.not_lt.mpr (Nat.le_of_lt (hca a ha)))
theorem St.entered {w : World} {base g h h₁ : Heap} {fs : List Env} {L : Addr} {ns ns' : List Str} {vs vs' : List (Option Value)} {led cells foot : List (Addr × Obj)} {env' : Env} (S : St w base fs g L ns vs led h) (hf : ∀ p ∈ foot, p ∈ led) (hfn : (foot.map (·.1)).Nodup) (hnd : ns'.Nodup)
    (hlen : vs'.length = ns'.length) (hns₁ : h₁.Ns h.objs.size (mOf ns' vs')) (hk₁ : h.StaysIn h₁) (hmod : env'.scope.kind ≠ .module) (hfrm : env'.frame = some h.objs.size)
    (NC : ∀ p ∈ cells, h₁.get? p.1 = some p.2) (hca : ∀ a ∈ cells.map (·.1), h.objs.size < a) (hcn : (cells.map (·.1)).Nodup) :
    St w base (env' :: fs) (hideAll h (foot.map (·.1))) h.objs.size ns' vs' (cells ++ foot) h₁ := by
  refine entered0 S.X S.T (stays_trans S.stays S.keep) (Nat.le_trans S.low (Nat.le_of_lt S.loc.lt)) (fun p hp => ⟨(S.ldg p (hf p hp)).1, ?_⟩) hfn hnd hlen hns₁ hk₁ hmod hfrm NC hca hcn fun h' k' => S.frames h' (mOf ns vs) (fun b o e => k' _ _ (hideAll_get _ (S.keep b o e) fun hm => ?_)) ?_
  · cases q : base.get? p.1 with
    | none => rfl
    | some o => have := S.stays _ _ q; rw [(S.ldg p (hf p hp)).2.2] at this; cases this
  · obtain ⟨p, HH1⟩ := List.mem_map.mp hm
    have hp := HH1.1
    have q := HH1.2
    clear HH1
    rw [← q, (S.ldg p (hf p hp)).2.2] at e; cases e
  · obtain ⟨o, es, ep, HH1⟩ := ex3 S.loc
    have ho' := HH1.1
    have r := HH1.2
    clear HH1
    refine ⟨o, es, ep, k' _ _ (hideAll_get _ ho' fun hm => ?_), r⟩
    obtain ⟨p, HH1⟩ := List.mem_map.mp hm
    have hp := HH1.1
    have q := HH1.2
    clear HH1
    exact (S.ldg p (hf p hp)).2.1 q
section
variable {prog : Program} {w : World} {A : Around} {Q : Value → Shared → Prop} {E : Value → Shared → Prop} {s₀ : Shared} {h : Heap} {k : Nat} {base g : Heap} {fs : List Env} {L : Addr} {ns : List Str} {vs : List (Option Value)} {led : List (Addr × Obj)}
theorem codeQual {fd : FuncData} (name qual : Str) (params : Arguments) (body : List Stmt) (scope : Scope) (dV kV doc pm : Value) (an : Option Addr) (cdv ct : Value) (L f : Addr) :
    callEnv (fnOf name qual params body scope dV kV doc pm an cdv ct) L f = envX qual scope L f cdv [] := rfl
theorem enterR {R : Result → Shared → Prop} {name qual : Str} {params : Arguments} {body : List Stmt} {scope : Scope} {dV kV doc pm cdv ct oc : Value} {an od : Option Addr} {osl : Array (Option Value)} {f : Addr} {args args' : List Value} {d n : Nat} {ns' : List Str} {vs' : List (Option Value)}
    (S : St w base fs g L ns vs led h) (hA : Ax prog A fs (d + 1))
    (ho : (hd.heap_39 w.params).lookup f = some ⟨oc, od, .func (fnOf name qual params body scope dV kV doc pm an cdv ct), osl⟩) (hcd : codeIn (hd.heap_39 w.params) cdv qual = true)
    (hbind : BindsTo (sh s₀ h k) (fnOf name qual params body scope dV kV doc pm an cdv ct) ⟨args, []⟩ ((ns'.take n).zip args'))
    (foot : List (Addr × Obj)) (hf : ∀ p ∈ foot, p ∈ led) (hfn : (foot.map (·.1)).Nodup)
    (hns : (ns'.all fun x => scope.names.lookup x == some .local) = true) (hnd : ns'.Nodup) (hn : args'.length = n) (hnl : n ≤ ns'.length) (hcell : (scope.names.all fun x => x.2 != .cell) = true)
    (hvs : args'.map some ++ List.replicate (ns'.length - n) none = vs') (hco : scope.isCoroutine = false) (hgen : scope.isGenerator = false) (hk : scope.kind = .function)
    (walk : ∀ env' L' h₁ k₁ A' E', EnvOk env' L' ns' [] → env'.scope = scope → Ax prog A' (env' :: fs) d → ExOk prog w A' env' (fun e s' => R (.error e) s') E' → L' = h.objs.size →
      St w base (env' :: fs) (hideAll h (foot.map (·.1))) L' ns' vs' foot h₁ →
      wpAny (model prog w) A' (execs body env') (RetQ fun v s' => R (.ok (.ret v)) s') E' (sh s₀ h₁ k₁)) :
    codeAny (model prog w) A (.call (.ref f) ⟨args, []⟩) R (sh s₀ h k) := by
  subst hvs
  have hroom : A.depth < recursionLimit := by have := hA.dep; show A.depth < 1000; omega
  have hl := List.all_eq_true.mp hns
  have hloc : ∀ y ∈ (ns'.take n).zip args', scope.names.lookup y.1 = some .local := fun y hy =>
    beq_iff_eq.mp (hl y.1 (List.mem_of_mem_take (List.of_mem_zip hy).1))
  obtain ⟨me, mg, mb, T⟩ := S.Th
  refine codeAny_call_def (fd := fnOf name qual params body scope dV kV doc pm an cdv ct) (body := body) hroom (S.Xh _ _ ho) rfl T.nolimit (codeRec_of S.Xh hcd) rfl hbind
    (fun x hx => by have := List.all_eq_true.mp hcell x hx; simpa using this) hloc (fun h₁ hns₁ hk₁ => ?_) hco hgen hk
  have e0 : (sh s₀ h k).heap = h := rfl
  rw [codeQual (fd := default), e0]
  rw [e0] at hns₁ hk₁
  rw [mOf_binds hnd hn hnl] at hns₁
  have S' : St w base (envX qual scope h.objs.size f cdv [] :: fs) (hideAll h (foot.map (·.1))) h.objs.size ns' (args'.map some ++ List.replicate (ns'.length - n) none) foot h₁ :=
    S.entered (cells := []) hf hfn hnd (by simp [hn]; omega) hns₁ hk₁ (by show scope.kind ≠ .module; rw [hk]; decide) rfl (fun _ h => nomatch h) (fun _ h => nomatch h) List.nodup_nil
  have he : EnvOk (envX qual scope h.objs.size f cdv []) h.objs.size ns' [] := ⟨rfl, hk, rfl, rfl, fun x hx => beq_iff_eq.mp (hl x hx), rfl⟩
  exact walk (envX qual scope h.objs.size f cdv []) h.objs.size h₁ _ (A.deeper (envX qual scope h.objs.size f cdv [])) _ he rfl (hA.deeper _) ⟨PassesOwn.leaving, fun _ _ x => x⟩ rfl S'
theorem enter {name qual : Str} {params : Arguments} {body : List Stmt} {scope : Scope} {dV kV doc pm cdv ct oc : Value} {an od : Option Addr} {osl : Array (Option Value)} {f : Addr} {args args' : List Value} {d n : Nat} {ns' : List Str} {vs' : List (Option Value)}
    (S : St w base fs g L ns vs led h) (hA : Ax prog A fs (d + 1))
    (ho : (hd.heap_39 w.params).lookup f = some ⟨oc, od, .func (fnOf name qual params body scope dV kV doc pm an cdv ct), osl⟩) (hcd : codeIn (hd.heap_39 w.params) cdv qual = true)
    (hbind : BindsTo (sh s₀ h k) (fnOf name qual params body scope dV kV doc pm an cdv ct) ⟨args, []⟩ ((ns'.take n).zip args'))
    (foot : List (Addr × Obj)) (hf : ∀ p ∈ foot, p ∈ led) (hfn : (foot.map (·.1)).Nodup)
    (hns : (ns'.all fun x => scope.names.lookup x == some .local) = true) (hnd : ns'.Nodup) (hn : args'.length = n) (hnl : n ≤ ns'.length) (hcell : (scope.names.all fun x => x.2 != .cell) = true)
    (hvs : args'.map some ++ List.replicate (ns'.length - n) none = vs') (hco : scope.isCoroutine = false) (hgen : scope.isGenerator = false) (hk : scope.kind = .function)
    (walk : ∀ env' L' h₁ k₁ A' E', EnvOk env' L' ns' [] → env'.scope = scope → Ax prog A' (env' :: fs) d → ExOk prog w A' env' E E' → L' = h.objs.size →
      St w base (env' :: fs) (hideAll h (foot.map (·.1))) L' ns' vs' foot h₁ →
      wpAny (model prog w) A' (execs body env') (RetQ Q) E' (sh s₀ h₁ k₁)) :
    wpAny (model prog w) A (call (.ref f) args) Q E (sh s₀ h k) :=
  wpAny_call (enterR S hA ho hcd hbind foot hf hfn hns hnd hn hnl hcell hvs hco hgen hk fun env' L' h₁ k₁ A' E' a b c d e f => walk env' L' h₁ k₁ A' E' a b c d e f)
end
end
section
inductive DictIs : List DictEntry → List (Str × Value) → Prop where
  | nil : DictIs [] []
  | cons {e : DictEntry} {p : Str × Value} {es : List DictEntry} {fl : List (Str × Value)} : ((∃ t, e.key = .str p.1 t) ∧ e.val = p.2) → DictIs es fl → DictIs (e :: es) (p :: fl)
structure IsD (o : Obj) (fl : List (Str × Value)) : Prop where
  is : Ex2 fun es n => o = dictOf es n ∧ DictIs es fl
noncomputable def putF (x : Str) (v : Value) : List (Str × Value) → List (Str × Value)
  | [] => [(x, v)]
  | (y, u) :: r => if y = x then (y, v) :: r else (y, u) :: putF x v r
theorem putF_len (x : Str) (v : Value) : ∀ fl : List (Str × Value), (putF x v fl).length ≤ fl.length + 1
  | [] => by simp [putF]
  | (y, u) :: r => by
    have := putF_len x v r
    unfold putF
    split <;> simp <;> omega
theorem isD_new : IsD (dictOf [] 0) [] := ⟨[], 0, rfl, .nil⟩
theorem forall2_find {es : List DictEntry} {fl : List (Str × Value)} {x : Str}
    (h : DictIs es fl) :
    (es.find? (·.key.isStr x)).map (·.val) = fl.lookup x ∧ es.any (·.refKey) = false := by
  induction h with
  | nil => exact ⟨rfl, rfl⟩
  | @cons e p es fl hp _ ih =>
    obtain ⟨⟨t, hk⟩, hv⟩ := hp
    obtain ⟨pn, pv⟩ := p
    dsimp only at hk hv
    refine ⟨?_, ?_⟩
    · rw [List.find?_cons, List.lookup_cons]
      have : e.key.isStr x = (pn == x) := by rw [hk]; rfl
      rw [this]
      by_cases q : pn = x
      · subst q; simp [hv]
      · have h1 : (pn == x) = false := beq_eq_false_iff_ne.mpr q
        have h2 : (x == pn) = false := beq_eq_false_iff_ne.mpr (Ne.symm q)
        rw [h1, h2]; exact ih.1
    · rw [List.any_cons, ih.2, Bool.or_false]
      unfold DictEntry.refKey
      rw [hk]
theorem IsD.look {o : Obj} {fl : List (Str × Value)} (d : IsD o fl) (x : Str) : lookIn x o = some (fl.lookup x) := by
  obtain ⟨es, n, rfl, h⟩ := d.is
  obtain ⟨h1, h2⟩ := forall2_find (x := x) h
  rw [lookIn_dict]
  unfold getL
  cases q : es.find? (·.key.isStr x) with
  | none => rw [q] at h1; rw [if_neg (by rw [h2]; decide), ← h1]; rfl
  | some e => rw [q] at h1; rw [← h1]; rfl
theorem IsD.put {o : Obj} {fl : List (Str × Value)} (d : IsD o fl) (x : Str) (hsh : Int) (t : Tok) (v : Value) : IsD (Obj.putName x hsh (.str x t) v o) (putF x v fl) := by
  obtain ⟨es, n, rfl, h⟩ := d.is
  rw [putName_dict]
  refine ⟨_, _, rfl, ?_⟩
  clear d
  induction h with
  | nil => exact .cons ⟨⟨t, rfl⟩, rfl⟩ .nil
  | @cons e p es fl hp hr ih =>
    obtain ⟨⟨t', hk⟩, hv⟩ := hp
    obtain ⟨pn, pv⟩ := p
    dsimp only at hk hv
    have : e.key.isStr x = (pn == x) := by rw [hk]; rfl
    unfold putL putF
    rw [this]
    by_cases q : pn = x
    · subst q
      simp only [beq_self_eq_true, if_true]
      exact .cons ⟨⟨t', hk⟩, rfl⟩ hr
    · rw [if_neg (by simpa using q), if_neg q]
      exact .cons ⟨⟨t', hk⟩, hv⟩ ih
theorem forall2_len {es : List DictEntry} {fl : List (Str × Value)}
    (h : DictIs es fl) : es.length = fl.length := by
  induction h with
  | nil => rfl
  | cons _ _ ih => simp [ih]
theorem IsD.data {o : Obj} {fl : List (Str × Value)} (d : IsD o fl) : Ex2 fun es n => o.data = .dict (List.toArray es) n ∧ es.length = fl.length := by
  obtain ⟨es, n, rfl, h⟩ := d.is
  exact ⟨es, n, rfl, forall2_len h⟩
theorem IsD.alive {o : Obj} {fl : List (Str × Value)} (d : IsD o fl) : o.isFreed = false := by
  obtain ⟨es, n, rfl, h⟩ := d.is
  rfl
noncomputable def GN (w : World) (x : Str) (v : Value) : Prop :=
  nsIn (hd.heap_39 w.params) mainGlobals x = some (some v) ∨ (nsIn (hd.heap_39 w.params) mainGlobals x = some none ∧ bootBuiltins x = some v ∧ x ≠ "__name__")
structure AOk (w : World) (C : Addr) (x : Str) : Prop where
  pg : plainGet (hd.heap_39 w.params) C x = true
  dc : hasDictIn (hd.heap_39 w.params) C = true
  fa : ∃ attr, findIn (hd.heap_39 w.params) (.ref C) x = some attr ∧ noGet (hd.heap_39 w.params) attr = true
structure MOk (w : World) (C : Addr) (x : Str) (f : Addr) : Prop where
  pg : plainGet (hd.heap_39 w.params) C x = true
  fa : findIn (hd.heap_39 w.params) (.ref C) x = some (some (.ref f))
  fn : isFn (hd.heap_39 w.params) (.ref f) = true
  kp : keepIn (hd.heap_39 w.params) (.ref f) = true
structure SOk (w : World) (C : Addr) (x : Str) : Prop where
  sa : findIn (hd.heap_39 w.params) (.ref C) "__setattr__" = some (some (.builtin "object.__setattr__"))
  po : plainOver (hd.heap_39 w.params) C = true
  tk : takerIn (hd.heap_39 w.params) C x = some none
  dc : hasDictIn (hd.heap_39 w.params) C = true
structure COk (w : World) (C : Addr) (f : Addr) : Prop where
  mak : makesIn (hd.heap_39 w.params) C = true
  fi : findIn (hd.heap_39 w.params) (.ref C) "__init__" = some (some (.ref f))
  fn : isFn (hd.heap_39 w.params) (.ref f) = true
  kp : keepIn (hd.heap_39 w.params) (.ref C) = true
noncomputable def IsInst (h : Heap) (x C dx : Addr) : Prop := h.get? x = some (instObj C dx)
noncomputable def SeqQ (M : Model) (A : Around) (rest : List Stmt) (env : Env) (Q : Flow → Shared → Prop) (E : Value → Shared → Prop) (f : Flow) (s' : Shared) : Prop :=
  match f with
  | .next => wpAny M A (execs rest env) Q E s'
  | f => Q f s'
section
variable {prog : Program} {w : World} {A : Around} {E : Value → Shared → Prop} {s₀ : Shared} {h : Heap} {k : Nat} {base g : Heap} {fs : List Env} {L : Addr} {ns : List Str} {vs : List (Option Value)} {led : List (Addr × Obj)}
  {env : Env} {cl : List (Str × Addr)} {s : Shared}
theorem seq_next {M : Model} {rest : List Stmt} {Q : Flow → Shared → Prop} (h : wpAny M A (execs rest env) Q E s) : SeqQ M A rest env Q E .next s := h
theorem seq_ret {M : Model} {rest : List Stmt} {Q : Flow → Shared → Prop} {v : Value} (h : Q (.ret v) s) : SeqQ M A rest env Q E (.ret v) s := h
theorem seq_brk {M : Model} {rest : List Stmt} {Q : Flow → Shared → Prop} (h : Q .brk s) : SeqQ M A rest env Q E .brk s := h
theorem x_nil {M : Model} {Q : Flow → Shared → Prop} (h : Q .next s) : wpAny M A (execs [] env) Q E s := wpAny_execs_nil h
theorem x_any {M : Model} {st : Stmt} {rest : List Stmt} {Q : Flow → Shared → Prop} (h : wpAny M A (exec st env) (SeqQ M A rest env Q E) E s) : wpAny M A (execs (st :: rest) env) Q E s := wpAny_execs_cons h
theorem x_ret {M : Model} {e : Expr} {p : Pos} {rest : List Stmt} {Q : Flow → Shared → Prop} (h : wpAny M A (eval e env) (fun v s' => Q (.ret v) s') E s) : wpAny M A (execs (.Return (some e) p :: rest) env) Q E s :=
  wpAny_execs_cons (wpAny_Return_some h)
theorem x_asg {M : Model} {x : Str} {p' p : Pos} {e : Expr} {rest : List Stmt} {Q : Flow → Shared → Prop}
    (h : wpAny M A (eval e env) (fun v s₁ => wpAny M A (storeName env x v) (fun _ s₂ => wpAny M A (execs rest env) Q E s₂) E s₁) E s)
    (hs : swapsWith e (some (Expr.Name x p')) p.line env = pure false := by with_unfolding_all rfl) : wpAny M A (execs (.Assign [.Name x p'] e p :: rest) env) Q E s :=
  wpAny_execs_cons (wpAny_Assign_Name h hs)
theorem x_aset {M : Model} {x : Str} {o : Expr} {p' p : Pos} {e : Expr} {rest : List Stmt} {Q : Flow → Shared → Prop}
    (h : wpAny M A (eval e env) (fun v s₁ => wpAny M A (eval o env) (fun ov s₂ => wpAny M A (setAttr ov x v) (fun _ s₃ => wpAny M A (execs rest env) Q E s₃) E s₂) E s₁) E s)
    (hs : swapsWith e (some (Expr.Attribute o x p')) p.line env = pure false := by with_unfolding_all rfl) : wpAny M A (execs (.Assign [.Attribute o x p'] e p :: rest) env) Q E s :=
  wpAny_execs_cons (plainObj_wpAny_Assign_Attribute h hs)
theorem x_iset {M : Model} {o i : Expr} {p' p : Pos} {e : Expr} {rest : List Stmt} {Q : Flow → Shared → Prop}
    (h : wpAny M A (eval e env) (fun v s₁ => wpAny M A (eval o env) (fun ov s₂ => wpAny M A (eval i env) (fun iv s₃ => wpAny M A (setItem ov iv v) (fun _ s₄ => wpAny M A (execs rest env) Q E s₄) E s₃) E s₂) E s₁) E s)
    (hs : swapsWith e (some (Expr.Subscript o i p')) p.line env = pure false := by with_unfolding_all rfl) : wpAny M A (execs (.Assign [.Subscript o i p'] e p :: rest) env) Q E s :=
  wpAny_execs_cons (wpAny_Assign_Subscript h hs)
theorem x_if {M : Model} {t : Expr} {b o : List Stmt} {p : Pos} {rest : List Stmt} {Q : Flow → Shared → Prop}
    (h : wpAny M A (PySem.isTrue t env (eval t env)) (fun c s₂ => if c = true then wpAny M A (execs b env) (SeqQ M A rest env Q E) E s₂ else wpAny M A (execs o env) (SeqQ M A rest env Q E) E s₂) E s) :
    wpAny M A (execs (.If t b o p :: rest) env) Q E s := wpAny_execs_cons (wpAny_If h)
theorem x_expr {M : Model} {e : Expr} {p : Pos} {rest : List Stmt} {Q : Flow → Shared → Prop} (he : env.scope.kind = .function)
    (h : wpAny M A (eval e env) (fun v s' => v = .none ∧ wpAny M A (execs rest env) Q E s') E s) (hs : swapsWith e none p.line env = pure false := by with_unfolding_all rfl) : wpAny M A (execs (.Expr e p :: rest) env) Q E s := by
  refine wpAny_execs_cons (wpAny_Expr (wpAny_mono h (fun v s' hv => ?_) fun _ _ x => x) ?_ hs)
  · obtain ⟨rfl, hv⟩ := hv; exact hv
  · unfold interactive; rw [he]; rfl
theorem x_pass {M : Model} {p : Pos} {rest : List Stmt} {Q : Flow → Shared → Prop} (h : wpAny M A (execs rest env) Q E s) : wpAny M A (execs (.Pass p :: rest) env) Q E s := wpAny_execs_cons (wpAny_Pass h)
theorem ite_t {c : Bool} {a b : Prop} (hc : c = true) (h : a) : if c = true then a else b := by rw [if_pos hc]; exact h
theorem ite_f {c : Bool} {a b : Prop} (hc : c = false) (h : b) : if c = true then a else b := by rw [if_neg (by rw [hc]; decide)]; exact h
theorem ite_c {c : Bool} {a b : Prop} (h1 : c = true → a) (h2 : c = false → b) : if c = true then a else b := by
  cases hc : c with
  | true => rw [if_pos rfl]; exact h1 hc
  | false => rw [if_neg (by decide)]; exact h2 hc
theorem n_loc {x : Str} {pos : Pos} {v : Value} {Q : Value → Shared → Prop} (S : St w base fs g L ns vs led h) (he : EnvOk env L ns cl) (i : Nat) (hn : ns[i]? = some x) (hv : vs[i]? = some (some v)) (hq : Q v (sh s₀ h k)) (hd : (x == ("__debug__" : Str)) = false := by decide +kernel) :
    wpAny (model prog w) A (eval (.Name x pos) env) Q E (sh s₀ h k) :=
  wpAny_Name (wpAny_loadName_local he.kind (he.names x (List.mem_of_getElem? hn)) (by rw [he.loc]; exact S.loc) (mOf_get S.nd hn hv) hq) hd
theorem n_glob {x : Str} {pos : Pos} {v : Value} {Q : Value → Shared → Prop} (S : St w base fs g L ns vs led h) (he : EnvOk env L ns cl) (hx : env.kindOf x = some .globalImplicit) (hg : GN w x v) (hq : Q v (sh s₀ h k)) (hd : (x == ("__debug__" : Str)) = false := by decide +kernel) :
    wpAny (model prog w) A (eval (.Name x pos) env) Q E (sh s₀ h k) := by
  obtain ⟨me, mg, mb, T⟩ := S.Th
  have hX := S.Xh
  rcases hg with hg | ⟨hg, hb, hn⟩
  · exact Name_function_global he.kind hx (loadGlobal_global (by rw [he.glob]; exact T.g) (mg_of hX T.g hg) hq) hd
  · exact Name_function_global he.kind hx (loadGlobal_builtin (by rw [he.glob]; exact T.g) (mg_none_of hX T.g hg) (by rw [he.blt]; exact T.b) ((T.builtins x hn).trans hb) hq) hd
theorem n_cell {x : Str} {pos : Pos} {v : Value} {o : Obj} {c : Addr} {Q : Value → Shared → Prop} (he : EnvOk env L ns cl) (hx : env.kindOf x = some .cell) (hc : cl.lookup x = some c) (ho : h.get? c = some o) (hd' : o.data = .cell (some v)) (hq : Q v (sh s₀ h k)) (hd : (x == ("__debug__" : Str)) = false := by decide +kernel) :
    wpAny (model prog w) A (eval (.Name x pos) env) Q E (sh s₀ h k) :=
  wpAny_Name (wpAny_loadName_cell he.kind hx (by rw [he.cells]; exact hc) ⟨o, ho, hd'⟩ hq) hd
theorem n_free {x : Str} {pos : Pos} {v : Value} {o : Obj} {c : Addr} {Q : Value → Shared → Prop} (he : EnvOk env L ns cl) (hx : env.kindOf x = some .free) (hc : cl.lookup x = some c) (ho : h.get? c = some o) (hd' : o.data = .cell (some v)) (hq : Q v (sh s₀ h k)) (hd : (x == ("__debug__" : Str)) = false := by decide +kernel)
    (hdd : (x == ("__classdict__" : Str)) = false := by decide +kernel) :
    wpAny (model prog w) A (eval (.Name x pos) env) Q E (sh s₀ h k) :=
  wpAny_Name (wpAny_loadName_free he.kind hx (by rw [he.cells]; exact hc) ⟨o, ho, hd'⟩ hq hdd) hd
theorem s_loc {x : Str} {v : Value} {Q : Unit → Shared → Prop} (S : St w base fs g L ns vs led h) (he : EnvOk env L ns cl) (i : Nat) (hn : ns[i]? = some x)
    (hq : ∀ h' k', St w base fs g L ns (vs.set i (some v)) led h' → Q () (sh s₀ h' k')) : wpAny (model prog w) A (storeName env x v) Q E (sh s₀ h k) := by
  refine wpAny_storeName_local (m := mOf ns vs) (he.names x (List.mem_of_getElem? hn)) (by rw [he.loc]; exact S.loc) (fun h' hn' hs => ?_) (by rw [he.kind]; rfl)
  rw [he.loc] at hn' hs
  exact hq h' _ (S.moved (by rw [List.length_set]; exact S.len) (by rw [mOf_set S.nd S.len hn]; exact hn') hs)
theorem s_cell {x : Str} {v : Value} {v₀ : Option Value} {c : Addr} {o : Obj} {Q : Unit → Shared → Prop} (S : St w base fs g L ns vs led h) (he : EnvOk env L ns cl) (hx : env.kindOf x = some .cell) (hc : cl.lookup x = some c) (i : Nat) (hi : led[i]? = some (c, o)) (hd : o.data = .cell v₀)
    (hq : ∀ h' o', o'.data = .cell (some v) → St w base fs g L ns vs (led.set i (c, o')) h' → Q () (sh s₀ h' k)) : wpAny (model prog w) A (storeName env x v) Q E (sh s₀ h k) := by
  refine wpAny_storeName_cell he.kind hx (by rw [he.cells]; exact hc) ⟨o, S.at_ hi, hd⟩ fun h' hv hs => ?_
  obtain ⟨o', HH1⟩ := hv
  have ho' := HH1.1
  have hd' := HH1.2
  clear HH1
  exact hq h' o' hd' (S.turned hi hs ho')
theorem c_int {i : Int} {j : Nat} {pos : Pos} {Q : Value → Shared → Prop} (hq : ∀ t k', Q (.int i t) (sh s₀ h k')) : wpAny (model prog w) A (eval (.Constant (.int i) j pos) env) Q E (sh s₀ h k) := wpAny_Constant_int (hq _ _)
theorem c_str {i : Str} {j : Nat} {pos : Pos} {Q : Value → Shared → Prop} (hq : ∀ t k', Q (.str i t) (sh s₀ h k')) : wpAny (model prog w) A (eval (.Constant (.str i) j pos) env) Q E (sh s₀ h k) := Calls.Constant_str (hq _ _)
theorem c_none {j : Nat} {pos : Pos} {Q : Value → Shared → Prop} (hq : Q .none (sh s₀ h k)) : wpAny (model prog w) A (eval (.Constant .none j pos) env) Q E (sh s₀ h k) := fun _ _ _ => hq
theorem c_bool {b : Bool} {j : Nat} {pos : Pos} {Q : Value → Shared → Prop} (hq : Q (.bool b) (sh s₀ h k)) : wpAny (model prog w) A (eval (.Constant (.bool b) j pos) env) Q E (sh s₀ h k) := fun _ _ _ => hq
theorem b_add {i j : Int} {a b : Tok} {Q : Value → Shared → Prop} (hq : ∀ t k', Q (.int (i + j) t) (sh s₀ h k')) : wpAny (model prog w) A (binaryOp .Add (.int i a) (.int j b)) Q E (sh s₀ h k) := add_int (hq _ _)
theorem b_sub {i j : Int} {a b : Tok} {Q : Value → Shared → Prop} (hq : ∀ t k', Q (.int (i - j) t) (sh s₀ h k')) : wpAny (model prog w) A (binaryOp .Sub (.int i a) (.int j b)) Q E (sh s₀ h k) := sub_int (hq _ _)
theorem b_or {i j : Int} {a b : Tok} {Q : Value → Shared → Prop} (hq : ∀ t k', Q (.int (Builtin.bitOr i j) t) (sh s₀ h k')) : wpAny (model prog w) A (binaryOp .BitOr (.int i a) (.int j b)) Q E (sh s₀ h k) := or_int (hq _ _)
theorem b_and {i j : Int} {a b : Tok} {Q : Value → Shared → Prop} (hq : ∀ t k', Q (.int (Builtin.bitAnd i j) t) (sh s₀ h k')) : wpAny (model prog w) A (binaryOp .BitAnd (.int i a) (.int j b)) Q E (sh s₀ h k) := and_int (hq _ _)
theorem getattr_i {x C dx : Addr} {od : Obj} {fl : List (Str × Value)} {a : Str} {v : Value} {ex : Bool} {Q : Value → Shared → Prop} (S : St w base fs g L ns vs led h) (hx : h.get? x = some (instObj C dx)) (ho : h.get? dx = some od) (hD : IsD od fl) (ok : AOk w C a)
    (hl : fl.lookup a = some v) (hh : handedIn v = true) (hq : ∀ k', Q v (sh s₀ h k')) : wpAny (model prog w) A (getAttr (.ref x) a ex) Q E (sh s₀ h k) := by
  obtain ⟨attr, HH1⟩ := ok.fa
  have hf := HH1.1
  have hn := HH1.2
  clear HH1
  exact get_value (K := hd.heap_39 w.params) S.Xh (ox := instObj C dx) (C := C) (od := some od) ⟨hx, rfl, rfl, ho⟩ (plainGet_of ok.pg).1 (findObj_own ok.dc hf hn (by rw [hD.look, hl])) hh (hq _)
theorem getmeth_i {x C dx f : Addr} {od : Obj} {fl : List (Str × Value)} {a : Str} {pl : Sem Bool} {Q : Value × List Value → Shared → Prop} (S : St w base fs g L ns vs led h) (hx : h.get? x = some (instObj C dx)) (ho : h.get? dx = some od) (hD : IsD od fl) (ok : MOk w C a f)
    (hl : fl.lookup a = none) (hq : Q (.ref f, [.ref x]) (sh s₀ h k)) : wpAny (model prog w) A (getMethod (.ref x) a pl) Q E (sh s₀ h k) :=
  method_fn (K := hd.heap_39 w.params) S.Xh (ox := instObj C dx) (C := C) (od := some od) ⟨hx, rfl, rfl, ho⟩ (plainGet_of ok.pg).1 (plainGet_of ok.pg).2 ok.fa (beq_iff_eq.mp ok.fn) (by show (lookIn a od).map _ = _; rw [hD.look, hl]; rfl) hq
theorem setattr_i {x C dx : Addr} {od : Obj} {fl : List (Str × Value)} {a : Str} {v : Value} {i : Nat} {Q : Unit → Shared → Prop} (S : St w base fs g L ns vs led h) (hx : h.get? x = some (instObj C dx)) (hi : led[i]? = some (dx, od)) (hD : IsD od fl) (ok : SOk w C a) (hz : fl.length < 1000)
    (hq : ∀ h' k' od', IsD od' (putF a v fl) → St w base fs g L ns vs (led.set i (dx, od')) h' → Q () (sh s₀ h' k')) : wpAny (model prog w) A (setAttr (.ref x) a v) Q E (sh s₀ h k) := by
  have ho := S.at_ hi
  have hI : W.InstAt h x (instObj C dx) C (some od) := ⟨hx, rfl, rfl, ho⟩
  obtain ⟨pre, post, HH1⟩ := ex2 ((S.upd (Obj.putName a (PyData.keyHash w.params a) (.str a (k + 1)) v od) hi).split)
  have e1 := HH1.1
  have e2 := HH1.2.1
  have h1 := HH1.2.2.1
  have h2 := HH1.2.2.2
  clear HH1
  have hd' := hD.put a (PyData.keyHash w.params a) (k + 1) v
  obtain ⟨es, n, hes, hlen⟩ := hd'.data
  have hput : (putF a v fl).length ≤ fl.length + 1 := by
    exact putF_len ..
  have N := S.toNews
  rw [e1] at N
  refine set_plain (K := hd.heap_39 w.params) S.Xh hI ok.sa ?_
  refine osa_dict (h₀ := base) (L := L) (m := mOf ns vs) (od' := Obj.putName a (PyData.keyHash w.params a) (.str a (k + 1)) v od) (s := sh s₀ h (k + 1)) S.toFr N S.Xh hI rfl ok.po ok.tk ok.dc (by rw [hD.look]; rfl) h1 h2 rfl hes (by omega) fun h' F' N' => ?_
  rw [← e2] at N'
  have hnd := S.set_nd (Obj.putName a (PyData.keyHash w.params a) (.str a (k + 1)) v od) hi
  exact hq h' _ _ hd' (S.ofNews F' S.len N' hnd.1 hnd.2)
end
end
section
noncomputable def NewIn (n : Nat) (gc g' : Heap) : Prop := ∀ a o, n ≤ a → gc.get? a = some o → g'.get? a = some o
section
variable {prog : Program} {w : World} {A : Around} {Q : Value → Shared → Prop} {E : Value → Shared → Prop} {s₀ : Shared} {h hc : Heap} {k : Nat} {base g gc : Heap} {fs fs' : List Env} {L L' : Addr} {ns ns' : List Str} {vs vs' : List (Option Value)} {led ledc : List (Addr × Obj)}
  {env : Env} {cl : List (Str × Addr)}
theorem St.back (S : St w base fs g L ns vs led h) {foot sub rest : List (Addr × Obj)} (hf : ∀ p ∈ foot, p ∈ led) (S' : St w base fs' gc L' ns' vs' ledc hc) (hst : (hideAll h (foot.map (·.1))).StaysIn gc)
    (hsub : ∀ p ∈ sub, p ∈ ledc) (hsn : (sub.map (·.1)).Nodup) (hr : ∀ p ∈ rest, p ∈ led ∧ p.1 ∉ foot.map (·.1)) (hrn : (rest.map (·.1)).Nodup) :
    ∃ g', An4 (g.StaysIn g') (NewIn h.objs.size gc g') (g'.StaysIn gc) (St w base fs g' L ns vs (sub ++ rest) hc) := by
  have hLf : L ∉ foot.map (·.1) := fun hm => by
    obtain ⟨p, HH1⟩ := List.mem_map.mp hm
    have hp := HH1.1
    have q := HH1.2
    clear HH1
    exact (S.ldg p (hf p hp)).2.1 q
  have hgc : g.StaysIn gc := fun b o e => hst _ _ (hideAll_get _ (S.keep b o e) fun hm => by
    obtain ⟨p, HH1⟩ := List.mem_map.mp hm
    have hp := HH1.1
    have q := HH1.2
    clear HH1
    rw [← q, (S.ldg p (hf p hp)).2.2] at e; cases e)
  have hgg : g.StaysIn (hideAll gc (L :: rest.map (·.1))) := fun b o e => hideAll_get _ (hgc b o e) fun hm => by
    rcases List.mem_cons.mp hm with q | hm
    · rw [q, S.gL] at e; cases e
    · obtain ⟨p, HH1⟩ := List.mem_map.mp hm
      have hp := HH1.1
      have q := HH1.2
      clear HH1
      rw [← q, (S.ldg p (hr p hp).1).2.2] at e; cases e
  have hrest : ∀ p ∈ rest, gc.get? p.1 = some p.2 := fun p hp => hst _ _ (hideAll_get _ (S.ldg p (hr p hp).1).1 (hr p hp).2)
  have hLc : ∀ o, h.get? L = some o → gc.get? L = some o := fun o e => hst _ _ (hideAll_get _ e hLf)
  refine ⟨hideAll gc (L :: rest.map (·.1)), hgg, fun a o ha e => hideAll_get _ e fun hm => ?_, hide_stays _ _, S.X, S.T, stays_trans S.stays hgg, fun h' m' k' n' => S.frames h' m' (stays_trans hgg k') n', hideAll_none _ (.head _), S.low, S.len, S.nd, ?_,
    stays_trans (hide_stays _ _) S'.keep, fun p hp => ?_, ?_⟩
  · rcases List.mem_cons.mp hm with q | hm
    · rw [q] at ha; exact absurd S.loc.lt (Nat.not_lt.mpr ha)
    · obtain ⟨p, HH1⟩ := List.mem_map.mp hm
      have hp := HH1.1
      have q := HH1.2
      clear HH1
      rw [← q] at ha
      exact absurd (Heap.lt_size (S.ldg p (hr p hp).1).1) (Nat.not_lt.mpr ha)
  · obtain ⟨o, es, ep, HH1⟩ := ex3 S.loc
    have ho := HH1.1
    have r := HH1.2
    clear HH1
    exact ⟨o, es, ep, S'.keep _ _ (hLc o ho), r⟩
  · rcases List.mem_append.mp hp with hp | hp
    · have h1 := S'.ldg p (hsub p hp)
      refine ⟨h1.1, fun q => ?_, ?_⟩
      · obtain ⟨o, es, ep, HH1⟩ := ex3 S.loc
        have ho := HH1.1
        have r := HH1.2
        clear HH1
        have := hLc o ho
        rw [← q, h1.2.2] at this; cases this
      · cases q : (hideAll gc (L :: rest.map (·.1))).get? p.1 with
        | none => rfl
        | some o => have := of_hideAll _ q; rw [h1.2.2] at this; cases this
    · exact ⟨S'.keep _ _ (hrest p hp), (S.ldg p (hr p hp).1).2.1, hideAll_none _ (.tail _ (List.mem_map_of_mem hp))⟩
  · rw [List.map_append, List.nodup_append]
    refine ⟨hsn, hrn, fun a ha b hb e => ?_⟩
    obtain ⟨p, HH1⟩ := List.mem_map.mp ha
    have hp := HH1.1
    obtain rfl := HH1.2
    clear HH1
    obtain ⟨q, HH1⟩ := List.mem_map.mp hb
    have hq := HH1.1
    obtain rfl := HH1.2
    clear HH1
    have h1 := (S'.ldg p (hsub p hp)).2.2
    rw [e, hrest q hq] at h1; cases h1
theorem St.back0 (S : St w base fs g L ns vs led h) (S' : St w base fs' gc L' ns' vs' ledc hc) (hst : h.StaysIn gc) {sub : List (Addr × Obj)} (hsub : ∀ p ∈ sub, p ∈ ledc) (hsn : (sub.map (·.1)).Nodup) :
    ∃ g', An4 (g.StaysIn g') (NewIn h.objs.size gc g') (g'.StaysIn gc) (St w base fs g' L ns vs (sub ++ led) hc) :=
  S.back (foot := []) (fun _ h => nomatch h) S' hst hsub hsn (fun p hp => ⟨hp, fun h => nomatch h⟩) S.ndl
theorem mem_eraseIdx_or : ∀ {l : List (Addr × Obj)} {i : Nat} {x p : Addr × Obj}, p ∈ l.set i x → p = x ∨ p ∈ l.eraseIdx i
  | [], _, _, _, h => by simp at h
  | a :: l, 0, x, p, h => by
    simp only [List.set_cons_zero, List.mem_cons] at h
    simp only [List.eraseIdx_cons_zero]; exact h
  | a :: l, i + 1, x, p, h => by
    simp only [List.set_cons_succ, List.mem_cons] at h
    simp only [List.eraseIdx_cons_succ, List.mem_cons]
    rcases h with h | h
    · exact .inr (.inl h)
    · exact (mem_eraseIdx_or h).imp id .inr
theorem St.back1 (S : St w base fs g L ns vs led h) {i : Nat} {d : Addr} {o o' : Obj} (hi : led[i]? = some (d, o)) (S' : St w base fs' gc L' ns' vs' ledc hc) (hst : (hideAll h [d]).StaysIn gc) (hm : (d, o') ∈ ledc) :
    ∃ g', An4 (g.StaysIn g') (NewIn h.objs.size gc g') (g'.StaysIn gc) (St w base fs g' L ns vs (led.set i (d, o')) hc) := by
  have hsub : List.Sublist (led.eraseIdx i) led := List.eraseIdx_sublist ..
  have hdn : d ∉ (led.eraseIdx i).map (·.1) := fun hq => by
    have h1 : (led.map (·.1))[i]? = some d := by rw [List.getElem?_map, hi]; rfl
    have h2 : (led.eraseIdx i).map (·.1) = (led.map (·.1)).eraseIdx i := by
      apply List.ext_getElem?
      intro j
      rw [List.getElem?_map, List.getElem?_eraseIdx, List.getElem?_eraseIdx]
      split <;> rw [List.getElem?_map]
    rw [h2] at hq
    obtain ⟨j, hj⟩ := List.mem_iff_getElem?.mp hq
    have hlt : i < (led.map (·.1)).length := (List.getElem?_eq_some_iff.mp h1).1
    rw [List.getElem?_eraseIdx] at hj
    split at hj
    · have := (List.getElem?_inj hlt S.ndl).mp (h1.trans hj.symm); omega
    · have := (List.getElem?_inj hlt S.ndl).mp (h1.trans hj.symm); omega
  obtain ⟨g', a, b, c, S₂⟩ := S.back (foot := [(d, o)]) (sub := [(d, o')]) (rest := led.eraseIdx i) (fun p hp => by rw [List.mem_singleton.mp hp]; exact List.mem_of_getElem? hi) S' hst (fun p hp => by rw [List.mem_singleton.mp hp]; exact hm) (by simp)
    (fun p hp => ⟨hsub.subset hp, fun hq => by
      have : p.1 = d := by simpa using hq
      exact hdn (this ▸ List.mem_map_of_mem hp)⟩) (S.ndl.sublist (hsub.map _))
  refine ⟨g', a, b, c, S₂.part (fun p hp => ?_) (S.set_nd o' hi).1⟩
  rcases mem_eraseIdx_or hp with rfl | hp
  · exact .head _
  · exact .tail _ hp
theorem sp_nil {pos : Pos} {Q : List Value → Shared → Prop} {s : Shared} (h : Q [] s) : wpAny (model prog w) A (spliced (backTo pos (starEach [] env))) Q E s := Calls.spliced_nil h
theorem sp_cons {e : Expr} {rest : List Expr} {pos : Pos} {Q : List Value → Shared → Prop} {s : Shared}
    (h : wpAny (model prog w) A (eval e env) (fun v s₁ => wpAny (model prog w) A (spliced (backTo pos (starEach rest env))) (fun vs s₂ => Q (v :: vs) s₂) E s₁) E s)
    (he : starEach (e :: rest) env = (false, eval e env) :: starEach rest env := by with_unfolding_all rfl) : wpAny (model prog w) A (spliced (backTo pos (starEach (e :: rest) env))) Q E s := spliced_more h he
theorem c_name {fn : Str} {p pos : Pos} {args : List Expr} {s : Shared} {Q : Value → Shared → Prop} (h : wpAny (model prog w) A (eval (.Name fn p) env) (fun f s₁ => wpAny (model prog w) A (callWith pos f [] (backTo pos (starEach args env)) []) Q E s₁) E s) :
    wpAny (model prog w) A (eval (.Call (.Name fn p) args [] pos) env) Q E s := wpAny_Call_Name_kw h
theorem c_attr {o : Expr} {a : Str} {ap pos : Pos} {args : List Expr} {s : Shared} {Q : Value → Shared → Prop} {pl : Sem Bool}
    (h : wpAny (model prog w) A (eval o env) (fun ov s₁ => wpAny (model prog w) A (getMethod ov a pl) (fun fx s₂ => wpAny (model prog w) A (callWith pos fx.1 fx.2 (backTo pos (starEach args env)) []) Q E s₂) E s₁) E s)
    (hs : eval (.Call (.Attribute o a ap) args [] pos) env = (do
        let ov ← eval o env
        standAt ap.atName
        let __x ← holding [ov] (getMethod ov a pl)
        match __x with
          | (f, first) => callWith pos f first (backTo pos (starEach args env)) (backToKw pos (keywordEach [] env))) := by with_unfolding_all rfl) :
    wpAny (model prog w) A (eval (.Call (.Attribute o a ap) args [] pos) env) Q E s := methodCall_KW h hs
theorem w_fun {f : Value} {first : List Value} {e : Expr} {rest : List Expr} {pos : Pos} {s : Shared} {Q : Value → Shared → Prop} (hk : keepIn (hd.heap_39 w.params) f = true)
    (h : wpAny (model prog w) A (spliced (backTo pos (starEach (e :: rest) env))) (fun vs s₁ => (hd.heap_39 w.params).In s₁.heap ∧ wpAny (model prog w) A (call f (first ++ vs)) Q E s₁) E s)
    (he : starEach (e :: rest) env = (false, eval e env) :: starEach rest env := by with_unfolding_all rfl) (hplain : (backTo pos (starEach rest env)).any (·.1) = false := by with_unfolding_all rfl) :
    wpAny (model prog w) A (callWith pos f first (backTo pos (starEach (e :: rest) env)) []) Q E s := by
  rw [he] at h ⊢
  exact callWith_of (P := (hd.heap_39 w.params).In) (by show ((false || (backTo pos (starEach rest env)).any (·.1)) || false) = false; rw [hplain]; rfl) (keeps_K hk) (evalArgs_plain h)
theorem w_fun0 {f : Value} {first : List Value} {pos : Pos} {Q : Value → Shared → Prop} (S : St w base fs g L ns vs led h) (hk : keepIn (hd.heap_39 w.params) f = true) (hq : wpAny (model prog w) A (call f (first ++ [])) Q E (sh s₀ h k)) :
    wpAny (model prog w) A (callWith pos f first (backTo pos (starEach [] env)) []) Q E (sh s₀ h k) := callWith_K0 (K := hd.heap_39 w.params) S.Xh hk hq
theorem w_bi {id : String} {first : List Value} {e : Expr} {rest : List Expr} {pos : Pos} {s : Shared} {Q : Value → Shared → Prop}
    (h : wpAny (model prog w) A (spliced (backTo pos (starEach (e :: rest) env))) (fun vs s₁ => wpAny (model prog w) A (call (.builtin id) (first ++ vs)) Q E s₁) E s)
    (he : starEach (e :: rest) env = (false, eval e env) :: starEach rest env := by with_unfolding_all rfl) (hplain : (backTo pos (starEach rest env)).any (·.1) = false := by with_unfolding_all rfl) :
    wpAny (model prog w) A (callWith pos (.builtin id) first (backTo pos (starEach (e :: rest) env)) []) Q E s := by
  rw [he] at h ⊢
  exact callWith_of (P := fun _ => True) (by show ((false || (backTo pos (starEach rest env)).any (·.1)) || false) = false; rw [hplain]; rfl) (fun _ _ => ⟨_, .inr (.inl rfl), Looks.of_pure rfl⟩) (evalArgs_plain (wpAny_mono h (fun _ _ x => ⟨trivial, x⟩) fun _ _ x => x))
theorem w_ty {T : String} {first : List Value} {e : Expr} {rest : List Expr} {pos : Pos} {s : Shared} {Q : Value → Shared → Prop}
    (h : wpAny (model prog w) A (spliced (backTo pos (starEach (e :: rest) env))) (fun vs s₁ => wpAny (model prog w) A (call (.type T) (first ++ vs)) Q E s₁) E s)
    (he : starEach (e :: rest) env = (false, eval e env) :: starEach rest env := by with_unfolding_all rfl) (hplain : (backTo pos (starEach rest env)).any (·.1) = false := by with_unfolding_all rfl) :
    wpAny (model prog w) A (callWith pos (.type T) first (backTo pos (starEach (e :: rest) env)) []) Q E s := by
  rw [he] at h ⊢
  exact callWith_of (P := fun _ => True) (by show ((false || (backTo pos (starEach rest env)).any (·.1)) || false) = false; rw [hplain]; rfl) (fun _ _ => ⟨_, .inr (.inl rfl), Looks.of_pure rfl⟩) (evalArgs_plain (wpAny_mono h (fun _ _ x => ⟨trivial, x⟩) fun _ _ x => x))
theorem w_ty0 {T : String} {first : List Value} {pos : Pos} {s : Shared} {Q : Value → Shared → Prop}
    (h : wpAny (model prog w) A (call (.type T) (first ++ [])) Q E s) : wpAny (model prog w) A (callWith pos (.type T) first (backTo pos (starEach [] env)) []) Q E s :=
  callWith_of (P := fun _ => True) rfl (fun _ _ => ⟨_, .inr (.inl rfl), Looks.of_pure rfl⟩) (evalArgs_nil3 ⟨trivial, h⟩)
theorem make_i {C fI : Addr} {args : List Value} (S : St w base fs g L ns vs led h) (ok : COk w C fI)
    (hq : ∀ x dx h', St w base fs g L ns vs ((x, instObj C dx) :: (dx, dictOf [] 0) :: led) h' → dx = h.objs.size → h.objs.size ≤ x →
      codeAny (model prog w) (A.under (.builtin "type.__call__" ⟨.ref C :: args, []⟩)) (.call (.ref fI) ⟨.ref x :: args, []⟩) (InitBack x fun r s' => match r with | .ok (.ret v) => Q v s' | .ok _ => False | .error e => E e s') (sh s₀ h' k)) :
    wpAny (model prog w) A (call (.ref C) args) Q E (sh s₀ h k) := by
  refine wpAny_call ?_
  have S1 := S.alloc emptyDict rfl
  have S2 := S1.alloc (instObj C h.objs.size) rfl
  refine make_core (makes_of S.Xh ok.mak) (looks_findIn S.Xh ok.fi) (fun self => bind_fn S.Xh self (beq_iff_eq.mp ok.fn)) (.inl rfl) ?_
  rw [Heap.size_push] at S2
  exact hq _ _ _ S2 rfl (Nat.le_succ _)
theorem Ax.make {d : Nat} {C : Addr} {args : List Value} (x : Ax prog A fs (d + 1)) : Ax prog (A.under (.builtin "type.__call__" ⟨.ref C :: args, []⟩)) fs d :=
  ⟨x.fr, x.hd, by rw [depth_under_make]; have := x.dep; omega, by rw [units_under_make]; have := x.un; omega, x.file, x.sup⟩
end
end
section
theorem warm : (hd.heap_39 = hd.heap_39) ∧ (PySem.Challenge.rw_nu0183_01 = PySem.Challenge.rw_nu0183_01) := by
  k_fill
  exact ⟨rfl, rfl⟩
theorem G_MOST_OFFSET (w : World) : GN w "MOST_OFFSET" (.int 65535 256) := .inl (by k_is)
theorem G_check_room (w : World) : GN w "check_room" (.ref 70) := .inl (by k_is)
theorem G_number_at (w : World) : GN w "number_at" (.ref 77) := .inl (by k_is)
theorem G_OctetsIn (w : World) : GN w "OctetsIn" (.ref 163) := .inl (by k_is)
theorem G_number_octets (w : World) : GN w "number_octets" (.ref 172) := .inl (by k_is)
theorem G_OctetsOut (w : World) : GN w "OctetsOut" (.ref 259) := .inl (by k_is)
theorem G_laid (w : World) : GN w "laid" (.ref 271) := .inl (by k_is)
theorem G_Coverage (w : World) : GN w "Coverage" (.ref 309) := .inl (by k_is)
theorem G_coverage_of (w : World) : GN w "coverage_of" (.ref 320) := .inl (by k_is)
theorem G_ranges_of (w : World) : GN w "ranges_of" (.ref 327) := .inl (by k_is)
theorem G_read_ascending (w : World) : GN w "read_ascending" (.ref 334) := .inl (by k_is)
theorem G_read_span (w : World) : GN w "read_span" (.ref 341) := .inl (by k_is)
theorem G_read_spans (w : World) : GN w "read_spans" (.ref 348) := .inl (by k_is)
theorem G_read_coverage (w : World) : GN w "read_coverage" (.ref 355) := .inl (by k_is)
theorem G_write_coverage (w : World) : GN w "write_coverage" (.ref 363) := .inl (by k_is)
theorem G_by_glyph (w : World) : GN w "by_glyph" (.ref 371) := .inl (by k_is)
theorem G_place_of (w : World) : GN w "place_of" (.ref 378) := .inl (by k_is)
theorem G_read_coverages (w : World) : GN w "read_coverages" (.ref 385) := .inl (by k_is)
theorem G_put_counted (w : World) : GN w "put_counted" (.ref 392) := .inl (by k_is)
theorem G_Reverse (w : World) : GN w "Reverse" (.ref 414) := .inl (by k_is)
theorem G_read_reverse (w : World) : GN w "read_reverse" (.ref 425) := .inl (by k_is)
theorem G_write_reverse (w : World) : GN w "write_reverse" (.ref 430) := .inl (by k_is)
theorem G_law_taker (w : World) : GN w "_law_taker" (.ref 437) := .inl (by k_is)
theorem G_law_u16 (w : World) : GN w "_law_u16" (.ref 444) := .inl (by k_is)
theorem G_law_numbers (w : World) : GN w "_law_numbers" (.ref 449) := .inl (by k_is)
theorem G_law_want (w : World) : GN w "_law_want" (.ref 456) := .inl (by k_is)
theorem G_law_cover (w : World) : GN w "_law_cover" (.ref 463) := .inl (by k_is)
theorem G_law_covers (w : World) : GN w "_law_covers" (.ref 470) := .inl (by k_is)
theorem G_law_table (w : World) : GN w "_law_table" (.ref 475) := .inl (by k_is)
theorem G_law_answer (w : World) : GN w "_law_answer" (.ref 482) := .inl (by k_is)
theorem G_law_read (w : World) : GN w "_law_read" (.ref 489) := .inl (by k_is)
theorem G_TableFault (w : World) : GN w "TableFault" (.ref 61) := .inl (by k_is)
theorem G_ShapeError (w : World) : GN w "ShapeError" (.ref 48) := .inl (by k_is)
theorem G_len (w : World) : GN w "len" (.builtin "len") := .inr ⟨by k_is, by boot_fast, by decide +kernel⟩
theorem G_sorted (w : World) : GN w "sorted" (.builtin "sorted") := .inr ⟨by k_is, by boot_fast, by decide +kernel⟩
theorem G_str (w : World) : GN w "str" (.type "str") := .inr ⟨by k_is, by boot_fast, by decide +kernel⟩
theorem G_bytes (w : World) : GN w "bytes" (.type "bytes") := .inr ⟨by k_is, by boot_fast, by decide +kernel⟩
theorem G_range (w : World) : GN w "range" (.type "range") := .inr ⟨by k_is, by boot_fast, by decide +kernel⟩
theorem G_bytearray (w : World) : GN w "bytearray" (.type "bytearray") := .inr ⟨by k_is, by kernel_rfl, by decide +kernel⟩
theorem G_tuple (w : World) : GN w "tuple" (.type "tuple") := .inr ⟨by k_is, by boot_fast, by decide +kernel⟩
theorem G_list (w : World) : GN w "list" (.type "list") := .inr ⟨by k_is, by boot_fast, by decide +kernel⟩
theorem G_super (w : World) : GN w "super" (.type "super") := .inr ⟨by k_is, by kernel_rfl, by decide +kernel⟩
theorem K_check_room (w : World) : keepIn (hd.heap_39 w.params) (.ref 70) = true := by k_is
theorem K_number_at (w : World) : keepIn (hd.heap_39 w.params) (.ref 77) = true := by k_is
theorem K_OctetsIn (w : World) : keepIn (hd.heap_39 w.params) (.ref 163) = true := by k_is
theorem K_number_octets (w : World) : keepIn (hd.heap_39 w.params) (.ref 172) = true := by k_is
theorem K_OctetsOut (w : World) : keepIn (hd.heap_39 w.params) (.ref 259) = true := by k_is
theorem K_laid (w : World) : keepIn (hd.heap_39 w.params) (.ref 271) = true := by k_is
theorem K_Coverage (w : World) : keepIn (hd.heap_39 w.params) (.ref 309) = true := by k_is
theorem K_coverage_of (w : World) : keepIn (hd.heap_39 w.params) (.ref 320) = true := by k_is
theorem K_ranges_of (w : World) : keepIn (hd.heap_39 w.params) (.ref 327) = true := by k_is
theorem K_read_ascending (w : World) : keepIn (hd.heap_39 w.params) (.ref 334) = true := by k_is
theorem K_read_span (w : World) : keepIn (hd.heap_39 w.params) (.ref 341) = true := by k_is
theorem K_read_spans (w : World) : keepIn (hd.heap_39 w.params) (.ref 348) = true := by k_is
theorem K_read_coverage (w : World) : keepIn (hd.heap_39 w.params) (.ref 355) = true := by k_is
theorem K_write_coverage (w : World) : keepIn (hd.heap_39 w.params) (.ref 363) = true := by k_is
theorem K_by_glyph (w : World) : keepIn (hd.heap_39 w.params) (.ref 371) = true := by k_is
theorem K_place_of (w : World) : keepIn (hd.heap_39 w.params) (.ref 378) = true := by k_is
theorem K_read_coverages (w : World) : keepIn (hd.heap_39 w.params) (.ref 385) = true := by k_is
theorem K_put_counted (w : World) : keepIn (hd.heap_39 w.params) (.ref 392) = true := by k_is
theorem K_Reverse (w : World) : keepIn (hd.heap_39 w.params) (.ref 414) = true := by k_is
theorem K_read_reverse (w : World) : keepIn (hd.heap_39 w.params) (.ref 425) = true := by k_is
theorem K_write_reverse (w : World) : keepIn (hd.heap_39 w.params) (.ref 430) = true := by k_is
theorem K_law_taker (w : World) : keepIn (hd.heap_39 w.params) (.ref 437) = true := by k_is
theorem K_law_u16 (w : World) : keepIn (hd.heap_39 w.params) (.ref 444) = true := by k_is
theorem K_law_numbers (w : World) : keepIn (hd.heap_39 w.params) (.ref 449) = true := by k_is
theorem K_law_want (w : World) : keepIn (hd.heap_39 w.params) (.ref 456) = true := by k_is
theorem K_law_cover (w : World) : keepIn (hd.heap_39 w.params) (.ref 463) = true := by k_is
theorem K_law_covers (w : World) : keepIn (hd.heap_39 w.params) (.ref 470) = true := by k_is
theorem K_law_table (w : World) : keepIn (hd.heap_39 w.params) (.ref 475) = true := by k_is
theorem K_law_answer (w : World) : keepIn (hd.heap_39 w.params) (.ref 482) = true := by k_is
theorem K_law_read (w : World) : keepIn (hd.heap_39 w.params) (.ref 489) = true := by k_is
theorem C_OctetsIn (w : World) : COk w 163 92 := ⟨by k_is, by k_is, by k_is, by k_is⟩
theorem A_OctetsIn_data (w : World) : AOk w 163 "data" := ⟨by k_is, by k_is, ⟨_, by k_is, by k_is⟩⟩
theorem S_OctetsIn_data (w : World) : SOk w 163 "data" := ⟨by k_is, by k_is, by k_is, by k_is⟩
theorem A_OctetsIn_at (w : World) : AOk w 163 "at" := ⟨by k_is, by k_is, ⟨_, by k_is, by k_is⟩⟩
theorem S_OctetsIn_at (w : World) : SOk w 163 "at" := ⟨by k_is, by k_is, by k_is, by k_is⟩
theorem M_OctetsIn_number (w : World) : MOk w 163 "number" 106 := ⟨by k_is, by k_is, by k_is, by k_is⟩
theorem M_OctetsIn_u16 (w : World) : MOk w 163 "u16" 120 := ⟨by k_is, by k_is, by k_is, by k_is⟩
theorem M_OctetsIn_rows (w : World) : MOk w 163 "rows" 153 := ⟨by k_is, by k_is, by k_is, by k_is⟩
theorem M_OctetsIn_need (w : World) : MOk w 163 "need" 99 := ⟨by k_is, by k_is, by k_is, by k_is⟩
theorem C_OctetsOut (w : World) : COk w 259 186 := ⟨by k_is, by k_is, by k_is, by k_is⟩
theorem A_OctetsOut_made (w : World) : AOk w 259 "made" := ⟨by k_is, by k_is, ⟨_, by k_is, by k_is⟩⟩
theorem S_OctetsOut_made (w : World) : SOk w 259 "made" := ⟨by k_is, by k_is, by k_is, by k_is⟩
theorem M_OctetsOut_u16 (w : World) : MOk w 259 "u16" 200 := ⟨by k_is, by k_is, by k_is, by k_is⟩
theorem M_OctetsOut_rows (w : World) : MOk w 259 "rows" 235 := ⟨by k_is, by k_is, by k_is, by k_is⟩
theorem M_OctetsOut_add (w : World) : MOk w 259 "add" 242 := ⟨by k_is, by k_is, by k_is, by k_is⟩
theorem M_OctetsOut_octets (w : World) : MOk w 259 "octets" 256 := ⟨by k_is, by k_is, by k_is, by k_is⟩
theorem C_Coverage (w : World) : COk w 309 285 := ⟨by k_is, by k_is, by k_is, by k_is⟩
theorem A_Coverage_glyphs (w : World) : AOk w 309 "glyphs" := ⟨by k_is, by k_is, ⟨_, by k_is, by k_is⟩⟩
theorem S_Coverage_glyphs (w : World) : SOk w 309 "glyphs" := ⟨by k_is, by k_is, by k_is, by k_is⟩
theorem M_Coverage_told (w : World) : MOk w 309 "told" 306 := ⟨by k_is, by k_is, by k_is, by k_is⟩
theorem C_Reverse (w : World) : COk w 414 406 := ⟨by k_is, by k_is, by k_is, by k_is⟩
theorem A_Reverse_mapping (w : World) : AOk w 414 "mapping" := ⟨by k_is, by k_is, ⟨_, by k_is, by k_is⟩⟩
theorem S_Reverse_mapping (w : World) : SOk w 414 "mapping" := ⟨by k_is, by k_is, by k_is, by k_is⟩
theorem A_Reverse_back (w : World) : AOk w 414 "back" := ⟨by k_is, by k_is, ⟨_, by k_is, by k_is⟩⟩
theorem S_Reverse_back (w : World) : SOk w 414 "back" := ⟨by k_is, by k_is, by k_is, by k_is⟩
theorem A_Reverse_ahead (w : World) : AOk w 414 "ahead" := ⟨by k_is, by k_is, ⟨_, by k_is, by k_is⟩⟩
theorem S_Reverse_ahead (w : World) : SOk w 414 "ahead" := ⟨by k_is, by k_is, by k_is, by k_is⟩
theorem M_Reverse_told (w : World) : MOk w 414 "told" 411 := ⟨by k_is, by k_is, by k_is, by k_is⟩
end
section
section
variable {w : World} {h h₂ : Heap} {base g : Heap} {fs : List Env} {L I : Addr} {ns : List Str} {vs : List (Option Value)} {led : List (Addr × Obj)}
theorem comp_frame {gA gB gc hA hB : Heap} {LA LB : Addr} {nsA nsB : List Str} {vsA vsB : List (Option Value)} {lA lB : List (Addr × Obj)} {o₁ : Obj} (SA : St w base fs gA LA nsA vsA ((I, o₁) :: lA) hA) (SB : St w base fs gB LB nsB vsB ((I, o₁) :: lB) hB)
    (jA : gc.StaysIn gA) (jB : gc.StaysIn gB) {b : Addr} (hb : b = I ∨ ∃ o, gc.get? b = some o) {o : Obj} (e : hA.get? b = some o) : hB.get? b = some o := by
  rcases hb with rfl | ⟨o', ho'⟩
  · have a1 := SA.at_ (i := 0) rfl
    rw [a1] at e; cases e; exact SB.at_ (i := 0) rfl
  · have h1 := SA.get (jA _ _ ho')
    rw [e] at h1; cases h1; exact SB.get (jB _ _ ho')
theorem St.dropI {o : Obj} (S' : St w base fs g L ns vs ((I, o) :: led) h) (hk₁ : ∀ b o, b ∉ [I] → h.get? b = some o → h₂.get? b = some o) : St w base fs g L ns vs led h₂ := by
  have hI1 := S'.ldg (I, o) (.head _)
  have hnd := S'.ndl
  rw [List.map_cons, List.nodup_cons] at hnd
  have Sp := S'.part (sub := led) (fun p hp => .tail _ hp) hnd.2
  have hne : ∀ p ∈ led, p.1 ≠ I := fun p hp e => hnd.1 (by rw [← e]; exact List.mem_map_of_mem (f := (·.1)) hp)
  exact ⟨Sp.X, Sp.T, Sp.stays, Sp.frames, Sp.gL, Sp.low, Sp.len, Sp.nd, Sp.loc.at' fun o e => hk₁ _ o (by simpa using Ne.symm hI1.2.1) e,
    fun b o e => hk₁ b o (by simp only [List.mem_singleton]; rintro rfl; rw [hI1.2.2] at e; cases e) (Sp.keep b o e),
    fun p hp => ⟨hk₁ _ _ (by simpa using hne p hp) (Sp.ldg p hp).1, (Sp.ldg p hp).2⟩, Sp.ndl⟩
end
section
variable {prog : Program} {w : World} {A : Around} {E : Value → Shared → Prop} {s₀ : Shared} {h : Heap} {k : Nat} {base g : Heap} {fs : List Env} {L : Addr} {ns : List Str} {vs : List (Option Value)} {led : List (Addr × Obj)}
  {env : Env} {cl : List (Str × Addr)}
theorem St.turnedX (S : St w base fs g L ns vs led h) {i : Nat} {d : Addr} {o o' : Obj} {h' : Heap} (hi : led[i]? = some (d, o)) (hs : ∀ b ob, b ≠ d → h.get? b = some ob → h'.get? b = some ob) (ho : h'.get? d = some o') : St w base fs g L ns vs (led.set i (d, o')) h' := by
  have hd := S.ldg _ (List.mem_of_getElem? hi)
  have hnd := S.set_nd o' hi
  refine ⟨S.X, S.T, S.stays, S.frames, S.gL, S.low, S.len, S.nd, S.loc.at' fun o e => hs _ o (Ne.symm hd.2.1) e, fun b ob e => ?_, fun p hp => ?_, hnd.1⟩
  · exact hs _ _ (fun q => by rw [q, hd.2.2] at e; cases e) (S.keep b ob e)
  · obtain ⟨j, hj⟩ := List.mem_iff_getElem?.mp hp
    have hlt : i < led.length := (List.getElem?_eq_some_iff.mp hi).1
    rw [List.getElem?_set] at hj
    by_cases e : i = j
    · subst e
      rw [if_pos rfl, if_pos hlt] at hj
      cases hj
      exact ⟨ho, hd.2⟩
    · rw [if_neg e] at hj
      have hm := S.ldg _ (List.mem_of_getElem? hj)
      refine ⟨hs _ _ (fun q => e ?_) hm.1, hm.2⟩
      have h1 : (led.map (·.1))[i]? = some d := by rw [List.getElem?_map, hi]; rfl
      have h2 : (led.map (·.1))[j]? = some d := by rw [List.getElem?_map, hj, Option.map_some, q]
      exact (List.getElem?_inj (by simpa using hlt) S.ndl).mp (h1.trans h2.symm)
noncomputable def TurnQ (s₀ : Shared) (w : World) (base : Heap) (fs : List Env) (g : Heap) (L : Addr) (ns : List Str) (I : Addr) (oI : Obj) (J : Heap → List (Option Value) → List (Addr × Obj) → Prop) (Qb : Shared → Prop) (Qr : Value → Shared → Prop) (f : Flow) (s' : Shared) : Prop :=
  match f with
  | .ret v => Qr v s'
  | .brk => Qb s'
  | _ => Ex5 fun g' vs' led' h' k' => An4 (s' = sh s₀ h' k') (g.StaysIn g') (St w base fs g' L ns vs' ((I, oI) :: led') h') (J g' vs' led')
theorem turn_next {I : Addr} {oI : Obj} {J : Heap → List (Option Value) → List (Addr × Obj) → Prop} {Qb : Shared → Prop} {Qr : Value → Shared → Prop} {g' : Heap} {vs' : List (Option Value)} {led' : List (Addr × Obj)}
    (S : St w base fs g' L ns vs' ((I, oI) :: led') h) (hg : g.StaysIn g') (hJ : J g' vs' led') : TurnQ s₀ w base fs g L ns I oI J Qb Qr .next (sh s₀ h k) := ⟨g', vs', led', h, k, rfl, hg, S, hJ⟩
theorem turn_ret {I : Addr} {oI : Obj} {J : Heap → List (Option Value) → List (Addr × Obj) → Prop} {Qb : Shared → Prop} {Qr : Value → Shared → Prop} {v : Value} {s' : Shared}
    (h : Qr v s') : TurnQ s₀ w base fs g L ns I oI J Qb Qr (.ret v) s' := h
theorem for_core {x : Str} {px : Pos} {body : List Stmt} {Q : Flow → Shared → Prop} {I : Addr} {oI : Obj} {fp : List Addr} {n : Nat} {P : Nat → Value → Prop} {StI : Nat → Heap → Prop} (i : Nat)
    (J : Nat → Heap → List (Option Value) → List (Addr × Obj) → Prop)
    (he : EnvOk env L ns cl) (hE : PassesOwn (model prog w) A env E) (hn : ns[i]? = some x)
    (W : Walks prog w A I fp [I] n P StI) (hI : ∀ j h, StI j h → ∃ o, h.get? I = some o) (hst : StI 0 h) (S : St w base fs g L ns vs ((I, oI) :: led) h) (hfp : ∀ b ∈ fp, b = I ∨ ∃ o, g.get? b = some o) (h0 : J 0 g vs led)
    (turn : ∀ j v g' vs' led' h' k' oI', j < n → P j v → J j g' vs' led' → g.StaysIn g' → St w base fs g' L ns (vs'.set i (some v)) ((I, oI') :: led') h' →
      wpAny (model prog w) A (execs body env) (TurnQ s₀ w base fs g' L ns I oI' (J (j + 1)) (fun s' => Q .next s') (fun v s' => Q (.ret v) s')) E (sh s₀ h' k'))
    (done : ∀ g' vs' led' h' k', J n g' vs' led' → g.StaysIn g' → St w base fs g' L ns vs' led' h' → Q .next (sh s₀ h' k')) :
    codeAny (model prog w) A (.forLoop (.Name x px) (.ref I) body [] env) (fun r s' => match r with | .ok f => Q f s' | .error e => cameBackBy (model prog w) A env E e s') (sh s₀ h k) := by
  refine codeAny_forLoop
    (fun m s' => Ex7 fun j g' vs' led' h' k' oI' => An7 (s' = sh s₀ h' k') (j ≤ n) (m = n + 1 - j) (StI j h') (J j g' vs' led') (g.StaysIn g') (St w base fs g' L ns vs' ((I, oI') :: led') h')) ?_ (n + 1)
    ⟨0, g, vs, led, h, k, oI, rfl, Nat.zero_le _, rfl, hst, h0, stays_refl g, S⟩
  rintro m s' ⟨j, g', vs', led', h', k', oI', rfl, hj, rfl, hstj, hJ, hg, S'⟩
  by_cases hlt : j < n
  · refine W.item j _ _ _ hlt hstj fun v h₁ k₁ hP hst₁ hk₁ => ?_
    obtain ⟨o₁, ho₁⟩ := hI _ _ hst₁
    have S₁ : St w base fs g' L ns vs' ((I, o₁) :: led') h₁ := S'.turnedX (i := 0) rfl (fun b o hb e => hk₁ b o (by simpa using hb) e) ho₁
    refine wpAny_assign_Name ?_
    refine s_loc S₁ he i hn fun h₂ k₂ S₂ => ?_
    refine wpAny_passesOwn hE (wpAny_mono (turn j v g' vs' led' h₂ k₂ o₁ hlt hP hJ hg S₂) (fun f s₃ h₃ => ?_) fun _ _ e => e)
    have hst₂ : StI (j + 1) h₂ := W.frame _ _ _ hst₁ fun b hb o e => comp_frame S₁ S₂ hg hg (hfp b hb) e
    have goon : (Ex5 fun g₃ vs₃ led₃ h₃ k₃ => An4 (s₃ = sh s₀ h₃ k₃) (g'.StaysIn g₃) (St w base fs g₃ L ns vs₃ ((I, o₁) :: led₃) h₃) (J (j + 1) g₃ vs₃ led₃)) →
        ∃ m, m < n + 1 - j ∧ Ex7 fun j' g' vs' led' h' k' oI' => An7 (s₃ = sh s₀ h' k') (j' ≤ n) (m = n + 1 - j') (StI j' h') (J j' g' vs' led') (g.StaysIn g') (St w base fs g' L ns vs' ((I, oI') :: led') h') := by
      rintro ⟨g₃, vs₃, led₃, H₃, k₃, rfl, hg₃, S₃, hJ₃⟩
      refine ⟨n + 1 - (j + 1), by omega, j + 1, g₃, vs₃, led₃, H₃, k₃, o₁, rfl, hlt, rfl, ?_, hJ₃, stays_trans hg hg₃, S₃⟩
      exact W.frame _ _ _ hst₂ fun b hb o e => comp_frame S₂ S₃ hg (stays_trans hg hg₃) (hfp b hb) e
    cases f with
    | ret v => exact h₃
    | brk => exact h₃
    | next => exact goon h₃
    | cont => exact goon h₃
  · have hjn : j = n := by omega
    subst hjn
    refine W.done _ _ _ hstj fun h₁ k₁ hk₁ => wpAny_execs_nil ?_
    exact done g' vs' led' h₁ k₁ hJ hg (S'.dropI hk₁)
theorem x_for {t iter : Expr} {body : List Stmt} {p : Pos} {rest : List Stmt} {s : Shared} {Q : Flow → Shared → Prop}
    (hq : wpAny (model prog w) A (eval iter env) (fun xv s₁ => wpAny (model prog w) A (pyIter xv) (fun it s₂ =>
      codeAny (model prog w) A (.forLoop t it body [] env) (fun r s' => match r with | .ok f => SeqQ (model prog w) A rest env Q E f s' | .error e => cameBackBy (model prog w) A env E e s') s₂) E s₁) E s)
    (hs : ∀ x, foldedSetIterable iter env x = pure x := by intro _; with_unfolding_all rfl) :
    wpAny (model prog w) A (execs (.For t iter body [] p :: rest) env) Q E s := wpAny_execs_cons (wpAny_For hq hs)
end
end
section
structure LO (o : Obj) (xs : List Value) : Prop where
  ex : ∃ n, o = { cls := .type "list", dict := none, data := .seq xs.toArray n, slots := #[] }
theorem LO.cls {o : Obj} {xs : List Value} (x : LO o xs) : o.cls = .type "list" := by obtain ⟨n, rfl⟩ := x.ex; rfl
theorem LO.dict {o : Obj} {xs : List Value} (x : LO o xs) : o.dict = none := by obtain ⟨n, rfl⟩ := x.ex; rfl
theorem LO.data {o : Obj} {xs : List Value} (x : LO o xs) : ∃ n, o.data = .seq xs.toArray n := by obtain ⟨n, rfl⟩ := x.ex; exact ⟨n, rfl⟩
theorem LO.isList {o : Obj} {xs : List Value} (x : LO o xs) {h : Heap} {a : Addr} (ho : h.get? a = some o) : h.IsList a xs.toArray := let ⟨n, e⟩ := x.data; ⟨o, ho, x.cls, n, e⟩
theorem LO.alive {o : Obj} {xs : List Value} (x : LO o xs) : o.isFreed = false := by obtain ⟨n, rfl⟩ := x.ex; rfl
section
variable {w : World} {h h₂ : Heap} {base g : Heap} {fs : List Env} {L I C : Addr} {oI F : Obj} {ns : List Str} {vs : List (Option Value)} {led : List (Addr × Obj)} {x : Str}
structure CompIn (w : World) (base : Heap) (fs : List Env) (g gc : Heap) (L I C : Addr) (ns : List Str) (vs : List (Option Value)) (oI : Obj) (x : Str) (led : List (Addr × Obj)) (h h₂ : Heap) : Prop where
  hgA : g.StaysIn gc
  keep : ∀ b o, h.get? b = some o → h₂.get? b = some o
  hCh : h.objs.size < C
  Sc : St w base fs gc C [x] [none] ((I, oI) :: (h.objs.size, { cls := .type "list", data := .seq ([] : List Value).toArray }) :: led) h₂
  back : ∀ g' vs' led' oI' oD h' h₁ h₇, gc.StaysIn g' → St w base fs g' C [x] vs' ((I, oI') :: (h.objs.size, oD) :: led') h' → (∀ b o, b ∉ [I] → h'.get? b = some o → h₁.get? b = some o) → Heap.SameBut C h₁ h₇ →
    ∃ g₂, An3 (g.StaysIn g₂) (NewIn h.objs.size g' g₂) (St w base fs g₂ L ns vs ((h.objs.size, oD) :: led') h₇)
theorem comp_in (S : St w base fs g L ns vs ((I, oI) :: led) h) (hC : (h.push { cls := .type "list", data := .seq ([] : List Value).toArray }).objs.size = C) (hns₂ : h₂.Ns C (fun y => ([] : List (Str × Value)).reverse.lookup y))
    (hsb₂ : Heap.SameBut C ((h.push { cls := .type "list", data := .seq ([] : List Value).toArray }).push F) h₂) : ∃ gc, CompIn w base fs g gc L I C ns vs oI x led h h₂ := by
  have S1 := S.alloc { cls := .type "list", data := .seq ([] : List Value).toArray } rfl
  generalize hH1 : h.push { cls := .type "list", data := .seq ([] : List Value).toArray } = H1 at S1 hsb₂ hC
  have keep : ∀ b o, H1.get? b = some o → h₂.get? b = some o := fun b o e => hsb₂.extBut b o (by rw [← hC]; exact Nat.ne_of_lt (Heap.lt_size e)) (Heap.get?_push_of_some _ e)
  have hCf : H1.get? C = none := Heap.get?_none_of_le (by rw [hC]; exact Nat.le_refl _)
  generalize hled : ((I, oI) :: led) = ledI at *
  have hgA : g.StaysIn (hideAll H1 (((h.objs.size, ({ cls := .type "list", data := .seq ([] : List Value).toArray } : Obj)) :: ledI).map (·.1))) := fun b o e => hideAll_get _ (S1.keep b o e) fun hm => by
    obtain ⟨p, HH1⟩ := List.mem_map.mp hm
    have hp := HH1.1
    have q := HH1.2
    clear HH1
    rw [← q, (S1.ldg p hp).2.2] at e; cases e
  have hLg : ∀ o, H1.get? L = some o → (hideAll H1 (((h.objs.size, ({ cls := .type "list", data := .seq ([] : List Value).toArray } : Obj)) :: ledI).map (·.1))).get? L = some o := fun o e => hideAll_get _ e fun hm => by
    obtain ⟨p, HH1⟩ := List.mem_map.mp hm
    have hp := HH1.1
    have q := HH1.2
    clear HH1
    exact (S1.ldg p hp).2.1 q
  generalize hgc : hideAll H1 (((h.objs.size, ({ cls := .type "list", data := .seq ([] : List Value).toArray } : Obj)) :: ledI).map (·.1)) = gc at hgA hLg
  have hgcH : gc.StaysIn H1 := by rw [← hgc]; exact hide_stays _ _
  have Sc : St w base fs gc C [x] [none] ((I, oI) :: (h.objs.size, { cls := .type "list", data := .seq ([] : List Value).toArray }) :: led) h₂ := by
    have hnd := S1.ndl
    rw [← hled] at hnd
    refine ⟨S.X, S.T, stays_trans S.stays hgA, fun h' m' k' n' => ?_, ?_, ?_, rfl, by simp, ?_, stays_trans hgcH keep, fun p hp => ?_, ?_⟩
    · obtain ⟨o, es, ep, HH1⟩ := ex3 S1.loc
      have ho := HH1.1
      have r := HH1.2
      clear HH1
      exact S.frames h' (mOf ns vs) (stays_trans hgA k') ⟨o, es, ep, k' _ _ (hLg _ ho), r⟩
    · cases q : gc.get? C with
      | none => rfl
      | some o => have := hgcH _ _ q; rw [hCf] at this; cases this
    · rw [← hC]; exact Nat.le_trans S.low (Nat.le_of_lt S1.loc.lt)
    · have e : (fun y => ([] : List (Str × Value)).reverse.lookup y) = mOf [x] [none] := by
        funext y
        simp only [mOf, List.zip_cons_cons, List.zip_nil_right, List.lookup_cons, List.reverse_nil, List.lookup_nil]
        split <;> rfl
      rw [← e]; exact hns₂
    · have hp' : p ∈ ((h.objs.size, ({ cls := .type "list", data := .seq ([] : List Value).toArray } : Obj)) :: ledI) := by
        rw [← hled]
        simp only [List.mem_cons] at hp ⊢
        rcases hp with h1 | h1 | h1
        · exact .inr (.inl h1)
        · exact .inl h1
        · exact .inr (.inr h1)
      refine ⟨keep _ _ (S1.ldg p hp').1, fun q => ?_, ?_⟩
      · have := (S1.ldg p hp').1
        rw [q, hCf] at this; cases this
      · rw [← hgc]; exact hideAll_none _ (List.mem_map_of_mem hp')
    · simp only [List.map_cons, List.nodup_cons, List.mem_cons, not_or] at hnd ⊢
      obtain ⟨a1, a2⟩ := hnd.1
      have a3 := hnd.2.1
      have a4 := hnd.2.2
      exact ⟨⟨Ne.symm a1, a3⟩, a2, a4⟩
  have hCh : h.objs.size < C := by rw [← hC, ← hH1, Heap.size_push]; exact Nat.lt_succ_self _
  refine ⟨gc, hgA, fun b o e => keep _ _ (by rw [← hH1]; exact Heap.get?_push_of_some _ e), hCh, Sc, fun g' vs' led' oI' oD h' h₁ h₇ hg S' hk₁ hs₇ => ?_⟩
  have Sk : St w base fs g' C [x] vs' ((h.objs.size, oD) :: led') h₁ := S'.dropI hk₁
  obtain ⟨g₂, hgg, hnew, hgback, S₈⟩ := S.back (foot := ledI) (sub := (h.objs.size, oD) :: led') (rest := []) (fun p hp => hp) Sk
    (by
      intro b o e
      refine hg _ _ ?_
      have hb : b ∉ ledI.map (·.1) := fun hm => by rw [hideAll_none _ hm] at e; cases e
      have e1 := of_hideAll _ e
      rw [← hgc]
      refine hideAll_get _ (by rw [← hH1]; exact Heap.get?_push_of_some _ e1) fun hm => ?_
      rcases List.mem_cons.mp hm with q | hm
      · exact absurd (Heap.lt_size e1) (by rw [q]; exact Nat.lt_irrefl _)
      · exact hb hm) (fun p hp => hp) Sk.ndl (fun _ hp => nomatch hp) (by simp)
  rw [List.append_nil] at S₈
  have S₉ : St w base fs g₂ L ns vs ((h.objs.size, oD) :: led') h₇ := by
    have hLC : L ≠ C := fun q => by
      have := S.loc.lt
      rw [q] at this; exact absurd this (Nat.not_lt.mpr (Nat.le_of_lt hCh))
    have hCl : ∀ p ∈ ((h.objs.size, oD) :: led'), p.1 ≠ C := fun p hp => (Sk.ldg p hp).2.1
    have hgC : ∀ b o, g₂.get? b = some o → b ≠ C → h₇.get? b = some o := fun b o e hb => by
      rw [hs₇.2 b hb]; exact S₈.keep _ _ e
    have hCg : ∀ b o, g₂.get? b = some o → b ≠ C := by
      rintro b o e rfl
      have := hgback _ _ e
      rw [Sk.gL] at this; cases this
    exact ⟨S₈.X, S₈.T, S₈.stays, S₈.frames, S₈.gL, S₈.low, S₈.len, S₈.nd, S₈.loc.sameBut hs₇ hLC, fun b o e => hgC b o e (hCg b o e), fun p hp => ⟨by rw [hs₇.2 p.1 (hCl p hp)]; exact (S₈.ldg p hp).1, (S₈.ldg p hp).2⟩, S₈.ndl⟩
  exact ⟨g₂, hgg, hnew, S₉⟩
end
section
variable {prog : Program} {w : World} {A : Around} {E : Value → Shared → Prop} {s₀ : Shared} {h : Heap} {k : Nat} {base g : Heap} {fs : List Env} {L : Addr} {ns : List Str} {vs : List (Option Value)} {led : List (Addr × Obj)}
  {env : Env} {cl : List (Str × Addr)}
theorem m_append {l : Addr} {o : Obj} {xs : List Value} {v : Value} {i : Nat} {Q : Value → Shared → Prop} (S : St w base fs g L ns vs led h) (hi : led[i]? = some (l, o)) (hl : LO o xs) (hz : xs.length ≤ 16777216)
    (hq : ∀ h' o', LO o' (xs ++ [v]) → St w base fs g L ns vs (led.set i (l, o')) h' → Q .none (sh s₀ h' k)) : wpAny (model prog w) A (call (.builtin "list.append") [.ref l, v]) Q E (sh s₀ h k) := by
  have ho := S.at_ hi
  obtain ⟨n, rfl⟩ := hl.ex
  refine wpAny_call_entry slot_list_append (LO.isList ⟨n, rfl⟩ ho).typeIs entry_list_append ?_ (args_list_append _ _)
  show wpAny _ _ (updateSeq l (·.push v) >>= fun _ => ret .none) _ _ _
  have ho' : (h.update l (Obj.mapSeq (·.push v))).get? l = some { cls := .type "list", dict := none, data := .seq (xs ++ [v]).toArray (if (xs.toArray.push v).size == xs.toArray.size then n else n + 1), slots := #[] } := by
    have := Heap.get?_update_self (Obj.mapSeq (·.push v)) ho rfl
    rw [this]
    simp [Obj.mapSeq]
  refine wpAny_bind (wpAny_updateSeq ho rfl (wpAny_pure ⟨.none, rfl, hq _ _ ⟨_, rfl⟩ (S.turned hi (Heap.SameBut.update ..) ho')⟩) ?_ ?_)
  · rw [List.size_toArray, sizeLine_eq]; exact hz
  · show (xs.toArray.push v).size ≤ sizeLine + 1
    rw [Array.size_push, List.size_toArray, sizeLine_eq]; omega
theorem lookup_relabel_free {names : List (Str × NameKind)} {x : Str} (hk : env.scope.kind = .function) (hc : env.kindOf x = some .cell) (h : names.lookup x = some .free) :
    (names.map fun (n, k) => if (k == NameKind.free && env.scope.kind == .function && env.kindOf n == some .cell) then (n, NameKind.cell) else (n, k)).lookup x = some .cell := by
  induction names with
  | nil => cases h
  | cons p r ih =>
    obtain ⟨n, k⟩ := p
    show List.lookup x ((if (k == NameKind.free && env.scope.kind == .function && env.kindOf n == some .cell) = true then (n, NameKind.cell) else (n, k)) :: _) = _
    cases hx : x == n with
    | true =>
      simp only [List.lookup_cons, hx] at h
      cases h
      have e := beq_iff_eq.mp hx
      subst e
      rw [if_pos (by rw [hk, hc]; rfl)]
      simp [List.lookup_cons]
    | false =>
      simp only [List.lookup_cons, hx] at h
      split <;> (simp only [List.lookup_cons, hx]; exact ih h)
theorem lookup_relabel_glob {names : List (Str × NameKind)} {x : Str} (h : names.lookup x = some .globalImplicit) :
    (names.map fun (n, k) => if (k == NameKind.free && env.scope.kind == .function && env.kindOf n == some .cell) then (n, NameKind.cell) else (n, k)).lookup x = some .globalImplicit := by
  induction names with
  | nil => cases h
  | cons p r ih =>
    obtain ⟨n, k⟩ := p
    show List.lookup x ((if (k == NameKind.free && env.scope.kind == .function && env.kindOf n == some .cell) = true then (n, NameKind.cell) else (n, k)) :: _) = _
    cases hx : x == n with
    | true =>
      simp only [List.lookup_cons, hx] at h
      cases h
      rw [if_neg (by simp)]
      simp only [List.lookup_cons, hx]
    | false =>
      simp only [List.lookup_cons, hx] at h
      split <;> (simp only [List.lookup_cons, hx]; exact ih h)
noncomputable def EltQ (s₀ : Shared) (w : World) (base : Heap) (fs : List Env) (g : Heap) (C : Addr) (nsC : List Str) (I D : Addr) (oI oD : Obj) (J : Heap → List (Addr × Obj) → List Value → Prop) (items : List Value) (y : Value) (s' : Shared) : Prop :=
  Ex5 fun g' vs' led' h' k' => An4 (s' = sh s₀ h' k') (g.StaysIn g') (St w base fs g' C nsC vs' ((I, oI) :: (D, oD) :: led') h') (J g' led' (items ++ [y]))
theorem elt_done {I D C : Addr} {oI oD : Obj} {nsC : List Str} {J : Heap → List (Addr × Obj) → List Value → Prop} {items : List Value} {y : Value} {g' : Heap} {vs' : List (Option Value)} {led' : List (Addr × Obj)}
    (S : St w base fs g' C nsC vs' ((I, oI) :: (D, oD) :: led') h) (hg : g.StaysIn g') (hJ : J g' led' (items ++ [y])) : EltQ s₀ w base fs g C nsC I D oI oD J items y (sh s₀ h k) := ⟨g', vs', led', h, k, rfl, hg, S, hJ⟩
theorem comp_core {elt iter : Expr} {x : Str} {px : Pos} {scope : Scope} {cl' : List (Str × Addr)} {pos : Pos} {Q : Value → Shared → Prop} {I : Addr} {oI : Obj} {fp : List Addr} {n : Nat} {P : Nat → Value → Prop} {StI : Nat → Heap → Prop}
    (J : Nat → Heap → List (Addr × Obj) → List Value → Prop)
    (he : EnvOk env L ns cl) (hcell : ∀ y ∈ scope.names, y.2 ≠ .cell) (hkind : scope.kind = .function) (hx : scope.names.lookup x = some .local)
    (W : Walks prog w A I fp [I] n P StI) (hI : ∀ j h, StI j h → ∃ o, h.get? I = some o) (hst : StI 0 h) (S : St w base fs g L ns vs ((I, oI) :: led) h) (hfp : ∀ b ∈ fp, b = I ∨ ∃ o, g.get? b = some o) (hz : n ≤ 16777216)
    (hJm : ∀ j g₁ g₂ led' items, NewIn h.objs.size g₁ g₂ → J j g₁ led' items → J j g₂ led' items)
    (h0 : J 0 g led []) (hJl : ∀ j g' led' items, J j g' led' items → items.length = j)
    (turn : ∀ C cenv j v g' led' items h' k' oI' oD E', h.objs.size < C → j < n → P j v → J j g' led' items → g.StaysIn g' → cenv.scope = relabel scope env → EnvOk cenv C [x] cl' → St w base fs g' C [x] [some v] ((I, oI') :: (h.objs.size, oD) :: led') h' →
      wpAny (model prog w) A (eval elt cenv) (EltQ s₀ w base fs g' C [x] I h.objs.size oI' oD (J (j + 1)) items) E' (sh s₀ h' k'))
    (done : ∀ g' led' items oD h' k', J n g' led' items → items.length = n → LO oD items → g.StaysIn g' → St w base fs g' L ns vs ((h.objs.size, oD) :: led') h' → Q (.ref h.objs.size) (sh s₀ h' k')) :
    wpAny (model prog w) A (newList []) (fun acc s₃ => wpAny (model prog w) A (newFunctionEnv scope env.globals cl' [] env.qual none .none (some env)) (fun cenv s₄ =>
      codeAny (model prog w) A (.compStart (.ListComp elt [⟨.Name x px, iter, [], 0⟩] scope pos) 0 (.ref I) acc { cenv with scope := relabel scope env }) (compPost (model prog w) A E none Q acc cenv.locals) s₄) E s₃) E (sh s₀ h k) := by
  refine wpAny_newObj_type (wpAny_newFunctionEnv hcell (by intro y hy; simp at hy) (fun h₂ hns₂ hsb₂ => ?_) hkind)
  dsimp only at hns₂ hsb₂ ⊢
  have hH1' : (sh s₀ h k).heap.push { cls := .type "list", dict := none, data := .seq ([] : List Value).toArray } = h.push { cls := .type "list", data := .seq ([] : List Value).toArray } := rfl
  rw [hH1'] at hns₂ hsb₂ ⊢
  generalize hC : (h.push { cls := .type "list", data := .seq ([] : List Value).toArray }).objs.size = C at hns₂ hsb₂ ⊢
  have hDe : (sh s₀ h k).heap.objs.size = h.objs.size := rfl
  rw [hDe]
  obtain ⟨gc, K⟩ := comp_in (x := x) S hC hns₂ hsb₂
  have hce : EnvOk (compEnvC scope cl' C env) C [x] cl' := ⟨rfl, hkind, he.glob, he.blt, fun y hy => by
    rw [List.mem_singleton.mp hy]; exact lookup_relabel_local hx, rfl⟩
  have hgI : ∀ b ∈ fp, b = I ∨ ∃ o, gc.get? b = some o := fun b hb => (hfp b hb).imp id fun ⟨o, ho⟩ => ⟨o, K.hgA _ _ ho⟩
  have hst₂ : StI 0 h₂ := W.frame _ _ _ hst fun b _ o e => K.keep _ _ e
  have loop : ∀ k₂, codeAny (model prog w) A (.compLoop (.ListComp elt [⟨.Name x px, iter, [], 0⟩] scope pos) 0 (.ref I) (.ref h.objs.size) (compEnvC scope cl' C env)) (compPost (model prog w) A E none Q (.ref h.objs.size) C) (sh s₀ h₂ k₂) := by
    intro k₂
    refine codeAny_compLoop_list
      (fun m s' => Ex9 fun j g' vs' led' items h' k' oI' oD => An8 (s' = sh s₀ h' k') (j ≤ n) (m = n + 1 - j) (StI j h') (J j g' led' items) (LO oD items) (gc.StaysIn g') (St w base fs g' C [x] vs' ((I, oI') :: (h.objs.size, oD) :: led') h')) ?_ (n + 1)
      ⟨0, gc, [none], led, [], h₂, k₂, oI, _, rfl, Nat.zero_le _, rfl, hst₂, hJm 0 g gc led [] (fun a o _ e => K.hgA _ _ e) h0, ⟨0, rfl⟩, stays_refl _, K.Sc⟩
    rintro m s' ⟨j, g', vs', led', items, h', k', oI', oD, rfl, hj, rfl, hstj, hJ, hLO, hg, S'⟩
    by_cases hlt : j < n
    · refine W.item j _ _ _ hlt hstj fun v h₃ k₃ hP hst₃ hk₃ => ?_
      obtain ⟨o₁, ho₁⟩ := hI _ _ hst₃
      have S₃ : St w base fs g' C [x] vs' ((I, o₁) :: (h.objs.size, oD) :: led') h₃ := S'.turnedX (i := 0) rfl (fun b o hb e => hk₃ b o (by simpa using hb) e) ho₁
      refine wpAny_assign_Name ?_
      refine s_loc S₃ hce 0 rfl fun h₄ k₄ S₄ => ?_
      have S₄' : St w base fs g' C [x] [some v] ((I, o₁) :: (h.objs.size, oD) :: led') h₄ := by
        rw [← set_one (x := some v) S₃.len]; exact S₄
      have hst₄ : StI (j + 1) h₄ := W.frame _ _ _ hst₃ fun b hb o e => comp_frame S₃ S₄ hg hg (hgI b hb) e
      refine wpAny_mono (turn C (compEnvC scope cl' C env) j v g' led' items h₄ k₄ o₁ oD _ K.hCh hlt hP hJ (stays_trans K.hgA hg) rfl hce S₄') (fun y s₅ h₅ => ?_) fun _ _ e => e
      obtain ⟨g₅, vs₅, led₅, H₅, k₅, rfl, hg₅, S₅, hJ₅⟩ := h₅
      refine m_append S₅ (i := 1) rfl hLO (by have := hJl _ _ _ _ hJ; omega) fun h₆ o₆ hLO₆ S₆ => ?_
      refine ⟨n + 1 - (j + 1), by omega, j + 1, g₅, vs₅, led₅, items ++ [y], h₆, k₅, o₁, o₆, rfl, hlt, rfl, ?_, hJ₅, hLO₆, stays_trans hg hg₅, S₆⟩
      exact W.frame _ _ _ hst₄ fun b hb o e => comp_frame S₄ S₆ hg (stays_trans hg hg₅) (hgI b hb) e
    · have hjn : j = n := by omega
      subst hjn
      refine W.done _ _ _ hstj fun h₁ k₁ hk₁ => ?_
      refine ⟨mOf [x] vs', ?_, fun h₇ hs₇ => ?_⟩
      · refine S'.loc.at' fun o e => hk₁ _ o ?_ e
        rw [List.mem_singleton]
        exact fun q => (S'.ldg (I, oI') (.head _)).2.1 q.symm
      obtain ⟨g₂, hgg, hnew, S₉⟩ := K.back g' vs' led' oI' oD h' h₁ h₇ hg S' hk₁ hs₇
      exact done g₂ led' items oD h₇ k₁ (hJm _ _ _ _ _ hnew hJ) (hJl _ _ _ _ hJ) hLO hgg S₉
  exact codeAny_compStart_list (loop _) (W.self 0 _ _ _ hst₂ (loop _))
end
end
section
noncomputable def MetaK (h h' : Heap) : Prop := ∀ b o, h.get? b = some o → ∃ o', h'.get? b = some o' ∧ o'.cls = o.cls ∧ o'.dict = o.dict
theorem MetaK.refl (h : Heap) : MetaK h h := fun _ o e => ⟨o, e, rfl, rfl⟩
theorem MetaK.trans {a b c : Heap} (x : MetaK a b) (y : MetaK b c) : MetaK a c := fun p o e => by
  obtain ⟨o1, HH1⟩ := x p o e
  have e1 := HH1.1
  have c1 := HH1.2.1
  have d1 := HH1.2.2
  clear HH1
  obtain ⟨o2, HH1⟩ := y p o1 e1
  have e2 := HH1.1
  have c2 := HH1.2.1
  have d2 := HH1.2.2
  clear HH1
  exact ⟨o2, e2, c2.trans c1, d2.trans d1⟩
structure Tame {α : Type} (t : Sem α) : Prop where
  out : ∀ (M : Model) (Γ : Ctx) (Q : α → Pos → Shared → Prop) (E : Value → Pos → Shared → Prop) (p : Pos) (s : Shared), Sem.wp M Γ t Q E p s → Sem.wp M Γ t (fun a p' s' => Q a p' s' ∧ MetaK s.heap s'.heap) E p s
namespace Tame
variable {α β : Type}
theorem pure (a : α) : Tame (Pure.pure a : Sem α) := ⟨fun _ _ _ _ _ _ h => ⟨h, MetaK.refl _⟩⟩
theorem unsupported (w : String) : Tame (PySem.unsupported w : Sem α) := ⟨fun _ _ _ _ _ _ h => h⟩
theorem bind {m : Sem α} {f : α → Sem β} (hm : Tame m) (hf : ∀ a, Tame (f a)) : Tame (m >>= f) := ⟨fun M Γ Q E p s h => by
  rw [Sem.wp_bind'] at h ⊢
  refine Sem.wp_mono M Γ m (fun a p' s' h' => ?_) (fun _ _ _ x => x) p s (hm.out M Γ _ E p s h)
  exact Sem.wp_mono M Γ (f a) (fun b p'' s'' h'' => ⟨h''.1, h'.2.trans h''.2⟩) (fun _ _ _ x => x) p' s' ((hf a).out M Γ Q E p' s' h'.1)⟩
theorem ite {c : Prop} [Decidable c] {t u : Sem α} (ht : Tame t) (hu : Tame u) : Tame (if c then t else u) := by split <;> assumption
theorem load (a : Addr) : Tame (PySem.load a) := ⟨fun _ _ _ _ _ _ h => let ⟨o, ho, hq⟩ := h; ⟨o, ho, hq, MetaK.refl _⟩⟩
theorem update (a : Addr) (f : Obj → Obj) (hf : ∀ o, (f o).cls = o.cls ∧ (f o).dict = o.dict ∧ (f o).isFreed = o.isFreed) : Tame (PySem.update a f) := ⟨fun M Γ Q E p s h => by
  rw [Sem.wp_cmd_update] at h ⊢
  refine ⟨h.1, h.2, fun b o e => ?_⟩
  by_cases q : a = b
  · subst q
    exact ⟨f o, Heap.get?_update_self f e (by rw [(hf o).2.2]; exact (Heap.get?_some_iff.mp e).2), (hf o).1, (hf o).2.1⟩
  · exact ⟨o, (Heap.get?_update_other _ _ q).trans e, rfl, rfl⟩⟩
theorem stack : Tame PySem.stack := ⟨fun _ _ _ _ _ _ h => ⟨h, MetaK.refl _⟩⟩
theorem alloc (o : Obj) : Tame (PySem.alloc o) := ⟨fun _ _ _ _ _ _ h => ⟨h, fun b o' e => ⟨o', Heap.get?_push_of_some o e, rfl, rfl⟩⟩⟩
theorem field (v : Value) (i : Nat) : Tame (PySem.field v i) := ⟨fun M Γ Q E p s h => by
  rw [wp_field_iff] at h ⊢
  obtain ⟨a, o, vs, x, HH1⟩ := ex4 h
  have e := HH1.1
  have ho := HH1.2.1
  have hd := HH1.2.2.1
  have hx := HH1.2.2.2.1
  have hq := HH1.2.2.2.2
  clear HH1
  exact ⟨a, o, vs, x, e, ho, hd, hx, hq, MetaK.refl _⟩⟩
theorem setField (v : Value) (i : Nat) (x : Value) : Tame (PySem.setField v i x) := ⟨fun M Γ Q E p s h => by
  rw [wp_setField_iff] at h ⊢
  obtain ⟨a, o, vs, HH1⟩ := ex3 h
  have e := HH1.1
  have ho := HH1.2.1
  have hd := HH1.2.2.1
  have hi := HH1.2.2.2.1
  have hq := HH1.2.2.2.2
  clear HH1
  refine ⟨a, o, vs, e, ho, hd, hi, hq, fun b ob eb => ?_⟩
  by_cases q : a = b
  · subst q
    rw [ho] at eb; cases eb
    refine ⟨_, Heap.get?_update_self _ ho (Obj.isFreed_of_fields (Obj.data_mapFields hd _)), ?_, ?_⟩
    · exact Obj.cls_mapFields _ _
    · obtain ⟨c, d, dt, sl⟩ := o
      cases dt <;> rfl
  · exact ⟨ob, (Heap.get?_update_other _ _ q).trans eb, rfl, rfl⟩⟩
end Tame
local macro_rules | `(tactic| ktr_unf) => `(tactic| repeat' with_reducible first
    | assumption
    | exact Tame.pure _
    | exact Tame.unsupported _
    | exact Tame.field _ _
    | exact Tame.setField _ _ _
    | exact Tame.load _
    | exact Tame.stack
    | exact Tame.alloc _
    | apply Tame.ite
    | apply Tame.bind
    | intro _
    | split)
theorem tame_behindIsImport (env : Env) (outer : List Env) : Tame (behindIsImport env outer) := by
  unfold behindIsImport
  ktr_unf
theorem tame_underTheClaimsCaller : Tame underTheClaimsCaller := by
  unfold underTheClaimsCaller
  ktr_unf
theorem tame_keptBack (env : Env) (i : Bool) (l : List Env) : Tame (keptBack env i l) := by
  have := tame_underTheClaimsCaller
  cases l <;> unfold keptBack <;> ktr_unf
theorem tame_readyFrames : ∀ l : List Env, Tame (readyFrames l)
  | [] => Tame.pure _
  | env :: outer => by
    have ih := tame_readyFrames outer
    have h1 := tame_behindIsImport env outer
    have h2 := fun i => tame_keptBack env i outer
    unfold readyFrames
    ktr_unf
    all_goals first | exact h2 _ | (refine Tame.update _ _ fun o => ⟨rfl, rfl, ?_⟩; obtain ⟨c, d, dt, sl⟩ := o; cases dt <;> rfl) | skip
theorem tame_frameObject (l : List Env) : Tame (frameObject l) := by
  cases l with
  | nil => exact Tame.pure _
  | cons env outer =>
    have := tame_readyFrames (env :: outer)
    unfold frameObject
    ktr_unf
theorem tame_frameEnvs : Tame frameEnvs := by
  unfold frameEnvs
  ktr_unf
theorem tame_frameOf (env : Env) : Tame (PySem.frameOf env) := by
  have h1 := tame_frameEnvs
  have h2 := tame_frameObject
  unfold PySem.frameOf
  ktr_unf
  all_goals first | exact h2 _ | skip
theorem tame_entryPlaceOf (f : Addr) (b : Bool) : Tame (entryPlaceOf f b) := by
  unfold entryPlaceOf
  ktr_unf
theorem tame_newFields (T : String) (l : List Value) : Tame (newFields T l) := by
  unfold newFields newObj newObjAsIs
  ktr_unf
theorem tame_setFlight (e : Value) (f : Option Addr) : Tame (setFlight e f) := by
  unfold setFlight
  ktr_unf
theorem tame_noteFrame (e : Value) (env : Env) : Tame (noteFrame e env) := by
  have h1 := tame_frameOf env
  have h2 := tame_entryPlaceOf
  have h3 := tame_newFields
  unfold noteFrame EntryCells.newEntry
  ktr_unf
  all_goals first | exact h2 _ _ | exact h3 _ _ | skip
theorem tame_leaving (e : Value) (env : Env) : Tame (leaving env e) := by
  have h1 := tame_noteFrame e env
  have h2 := tame_setFlight e none
  unfold leaving
  ktr_unf
theorem Tame.any {α : Type} {t : Sem α} (x : Tame t) {M : Model} {A : Around} {Q : α → Shared → Prop} {E : Value → Shared → Prop} {s : Shared} (h : wpAny M A t Q E s) : wpAny M A t (fun a s' => Q a s' ∧ MetaK s.heap s'.heap) E s :=
  fun Γ p hΓ => x.out M Γ _ _ p s (h Γ p hΓ)
structure Fault (base : Heap) (fs : List Env) (G : Heap) (n : Int) (e : Addr) (h : Heap) : Prop where
  fly : ∃ a0, Heap.FlyingW base fs e (.ref 61) a0 h
  up : G.UpToSlots h
  att : Ex4 fun oe de od t => An4 (h.get? e = some oe) (oe.dict = some de) (h.get? de = some od) (lookIn "at" od = some (some (.int n t)))
theorem Fault.sub {base G G' : Heap} {fs : List Env} {n : Int} {e : Addr} {h : Heap} (f : Fault base fs G n e h) (k : G'.StaysIn G) : Fault base fs G' n e h :=
  ⟨f.fly, (Heap.UpToSlots.of_keeps k).trans f.up, f.att⟩
theorem lookIn_slots {x : Str} {o : Obj} {sl : Array (Option Value)} : lookIn x { o with slots := sl } = lookIn x o := rfl
section
variable {prog : Program} {w : World} {A : Around} {E : Value → Shared → Prop} {s₀ : Shared} {h : Heap} {k : Nat} {base g G : Heap} {fs : List Env} {env : Env} {n : Int} {e L : Addr}
theorem fault_leave (hA : A.frames = some (env :: fs)) (hf : env.frame = some L) (F : Fault base (env :: fs) G n e h)
    (hq : ∀ h', Fault base fs G n e h' → E (.ref e) (sh s₀ h' k)) :
    wpAny (model prog w) A (leaving env (.ref e)) (fun _ s'' => E (.ref e) s'') (fun e' s'' => E e' s'') (sh s₀ h k) := by
  obtain ⟨⟨a0, fly⟩, up, oe, de, od, t, h1, h2, h3, h4⟩ := F
  have step : wpAny (model prog w) A (leaving env (.ref e)) (fun _ s'' => ∃ h', An3 (s'' = sh s₀ h' k) (Heap.FlyingW base fs e (.ref 61) a0 h') (h.UpToSlots h')) (fun e' s'' => E e' s'') (sh s₀ h k) :=
    wpAny_leaves_onW (s := sh s₀ h k) hA hf fly fun h' x y => ⟨h', rfl, x, y⟩
  refine wpAny_mono ((tame_leaving _ _).any step) (fun _ s'' x => ?_) fun _ _ x => x
  obtain ⟨⟨h', rfl, x, y⟩, mk⟩ := x
  obtain ⟨oe', HH1⟩ := mk e oe h1
  have h1' := HH1.1
  have c1 := HH1.2.1
  have c2 := HH1.2.2
  clear HH1
  obtain ⟨sl, h3'⟩ := y de od h3 (by
    intro vs q
    unfold lookIn at h4
    rw [q] at h4; cases h4)
  exact hq h' ⟨⟨a0, x⟩, up.trans y, oe', de, _, t, h1', by rw [c2, h2], h3', by rw [lookIn_slots]; exact h4⟩
end
end
section
noncomputable abbrev excObj (t : Addr) : Obj := { cls := .ref 61, data := .fields #[.ref t, .none, .none, .none, .bool false, .none] }
section
variable {prog : Program} {w : World} {A : Around} {R : Result → Shared → Prop} {h : Heap} {g : Array GenState} {d : Drawn} {t : Nat} {os : OsState}
variable {nm q : Str} {N : Addr} {bs : List Value} {hdct : Bool} {sn : List Str} {sub : List Value} {ab : Bool} {col : Option Bool} {dd : Option Addr} {k0 k1 k2 k3 k5 : Option Value}
noncomputable abbrev tfM : List Value := [.ref 48, .type "Exception", .type "BaseException", .type "object"]
theorem fault_new {rest : List Value} (hC : h.get? 61 = some (excClassObj nm q 61 N bs tfM hdct sn sub ab col dd k0 k1 k2 k3 k5 "Exception.__new__"))
    (hq : R (.ok (.ret (.ref (h.objs.size + 1)))) ⟨(h.push { cls := .type "tuple", data := .seq rest.toArray }).push (excObj h.objs.size), g, d, t, os⟩) (hrest : rest.length ≤ sizeLine) :
    codeAny (model prog w) A (.builtin "Exception.__new__" ⟨.ref 61 :: rest, []⟩) R ⟨h, g, d, t, os⟩ := by
  have Fn := PySem.F.excCall_Exception
  have hends := Fn.ends
  have hcB : (Value.ref 61 :: tfM).contains (.type "Exception") = true := by decide
  have hcA : (Value.ref 61 :: tfM).contains (.type "AttributeError") = false := by decide
  have hcN : (Value.ref 61 :: tfM).contains (.type "NameError") = false := by decide
  refine codeAny_builtinAt Fn.entry ?_
  unfold Builtin.«BaseException.__new__»
  refine _root_.PySem.wpAt_bind ?_
  show _root_.PySem.wpAt _ _ _ (stack >>= _) _ _ _
  refine _root_.PySem.wpAt_bind (_root_.PySem.wpAt_stack fun p below => _root_.PySem.wpAt_of_wpAny ?_)
  wp_walk
  refine _root_.PySem.wpAt_of_wpAny ?_
  rw [Fn.owner]
  repeat (first | with_reducible refine wpAny_madeHere_exc PySem.F.excBase_Exception.canon hC ?_ | with_reducible refine wpAny_loadPart_at hC ?_ | (with_reducible refine wpAny_isSubtype_exc hC ?_; first | rw [hcB] | rw [hcA] | rw [hcN]) | wp_step)
  show R _ _
  rw [Heap.size_push]
  exact hq
theorem fault_check {rest : List Value} {E : Value → Shared → Prop} {Q : Unit → Shared → Prop} (hC : h.get? 61 = some (excClassObj nm q 61 N bs tfM hdct sn sub ab col dd k0 k1 k2 k3 k5 "Exception.__new__"))
    (hq : Q () ⟨h, g, d, t, os⟩) : wpAny (model prog w) A (checkBuiltinCall "Exception.__new__" ⟨.ref 61 :: rest, []⟩) Q E ⟨h, g, d, t, os⟩ := by
  have Fn := PySem.F.excCall_Exception
  have hcont : (Value.ref 61 :: tfM).contains (.type "Exception") = true := by decide
  have hstar := Fn.noStar
  simp only [checkBuiltinCall, PySem.F.excBase_Exception.newKind, PySem.F.excBase_Exception.newSplit, PySem.F.excBase_Exception.newRow]
  repeat (first | refine wpAny_loadPart_at hC ?_ | (refine wpAny_isSubtype_exc hC ?_; rw [hcont]) | refine wpAny_staticBase_exc hC ?_ | refine wpAny_madeBy_exc hC ?_ | simp only [bne_self_eq_false, Bool.false_eq_true, if_false] | wp_step)
  exact hq
end
section
variable {prog : Program} {w : World} {A : Around} {Q : Value → Shared → Prop} {E : Value → Shared → Prop} {s₀ : Shared} {h : Heap} {k : Nat} {base g : Heap} {fs : List Env} {L : Addr} {ns : List Str} {vs : List (Option Value)} {led : List (Addr × Obj)}
theorem fault_cls (w : World) : Ex15 fun nm q N bs hdct sn sub ab col dd k0 k1 k2 k3 k5 => (hd.heap_39 w.params).lookup 61 = some (excClassObj nm q 61 N bs tfM hdct sn sub ab col dd k0 k1 k2 k3 k5 "Exception.__new__") ∧ ab = false :=
  ⟨_, _, _, _, _, _, _, _, _, _, _, _, _, _, _, by k_is, rfl⟩
theorem fault_initIn (w : World) : findIn (hd.heap_39 w.params) (.ref 61) "__init__" = some (some (.ref 38)) := by k_is
theorem fault_initFn (w : World) : isFn (hd.heap_39 w.params) (.ref 38) = true := by k_is
theorem fault_callIn (w : World) : specialIn (hd.heap_39 w.params) (.ref 61) "__call__" = some (some (.builtin "type.__call__")) := by k_is
theorem fault_instIn (w : World) : instIn (hd.heap_39 w.params) (.ref 61) (.type "type") = some true := by k_is
theorem fault_sub (w : World) : subIn (hd.heap_39 w.params) (.ref 61) (.ref 61) = some true := by k_is
theorem fault_make {args : List Value} (S : St w base fs g L ns vs led h) (hz : args.length ≤ sizeLine)
    (hq : ∀ e h', e = h.objs.size + 1 → h.StaysIn h' → h'.get? e = some (excObj h.objs.size) → h.get? e = none →
      codeAny (model prog w) (A.under (.builtin "type.__call__" ⟨.ref 61 :: args, []⟩)) (.call (.ref 38) ⟨.ref e :: args, []⟩) (InitBack e fun r s' => match r with | .ok (.ret v) => Q v s' | .ok _ => False | .error e => E e s') (sh s₀ h' k)) :
    wpAny (model prog w) A (call (.ref 61) args) Q E (sh s₀ h k) := by
  obtain ⟨nm, q, N, bs, hdct, sn, sub, ab, col, dd, k0, k1, k2, k3, k5, hK, hab⟩ := fault_cls w
  subst hab
  have hC := S.Xh _ _ hK
  have hcall := looks_specialIn (M := model prog w) S.Xh (fault_callIn w)
  have htyp := looks_instIn (M := model prog w) S.Xh (fault_instIn w)
  have hini := looks_findIn (M := model prog w) S.Xh (fault_initIn w)
  have hbi := fun self => bind_fn (M := model prog w) S.Xh self (beq_iff_eq.mp (fault_initFn w))
  refine wpAny_call (codeAny_of_tree ?_)
  show wpAny _ _ (callAny (.ref 61) _) _ _ _
  refine nd_load hC ?_
  show wpAny _ _ (callAny.viaDunder (.ref 61) _) _ _ _
  unfold callAny.viaDunder
  refine wpAny_bind (hcall.here ?_)
  dsimp only
  rw [tc_bind]
  refine wpAny_bind (wpAny_pure (wpAny_bind (wpAny_pure ?_)))
  refine wpAny_pure (a := Fin.again (.call (.builtin "type.__call__") ⟨.ref 61 :: args, []⟩)) (And.intro rfl ?_)
  refine codeAny_call_builtin_at (Code.quiet_builtin _ (by decide +kernel)) entry_typeCall (check_slot tc_kind tc_split htyp (tc_args _ _ _) ?_)
  unfold Builtin.«type.__call__»
  have hm : Looks (model prog w) h (mroOf (.ref 61)) (.ref 61 :: tfM) := ((Looks.ld (part := none) hC).andThen .now).andThen .now
  have hmade : Looks (model prog w) h (Bind.madeBy (.ref 61)) (some "Exception.__new__") := fun A Q E s k q => by
    obtain ⟨hh, g, d, t, os⟩ := s
    exact wpAny_madeBy_exc (k _ _ hC) q
  repeat (first | simp only [List.isEmpty_cons, Bool.false_eq_true, if_false] | with_reducible refine wpAny_call ?_ | lk)
  show codeAny _ _ _ _ ⟨h, s₀.gens, s₀.drawn, k, s₀.os⟩
  refine codeAny_call_builtin_code (Code.quiet_builtin _ PySem.F.excCall_Exception.quiet) (fault_check hC ?_)
  refine fault_new hC ?_ hz
  have kk : ∀ b o, h.get? b = some o → ((h.push { cls := .type "tuple", data := .seq args.toArray }).push (excObj h.objs.size)).get? b = some o := fun b o e => Heap.get?_push_of_some _ (Heap.get?_push_of_some _ e)
  have hx : ((h.push { cls := .type "tuple", data := .seq args.toArray }).push (excObj h.objs.size)).get? (h.objs.size + 1) = some (excObj h.objs.size) := by heap_get
  have t1 : Looks (model prog w) ((h.push { cls := .type "tuple", data := .seq args.toArray }).push (excObj h.objs.size)) (typeOf (.ref (h.objs.size + 1))) (.ref 61) := (Looks.ld hx).andThen .now
  have s1 : Looks (model prog w) ((h.push { cls := .type "tuple", data := .seq args.toArray }).push (excObj h.objs.size)) (isSubtype (.ref 61) (.ref 61)) true := (looks_subIn S.Xh (t := .ref 61) (base := .ref 61) (r := true) (fault_sub w)).keeps kk
  have i1 := hini.keeps kk
  have b1 := (hbi (.ref (h.objs.size + 1))).keeps kk
  have hq' := hq _ _ rfl kk hx (Heap.get?_none_of_le (Nat.le_succ _))
  clear hcall htyp hini hbi hm hmade hq
  show wpAny _ _ _ _ _ _
  unfold isInstance callSpecial? specialOf
  repeat (first | with_reducible refine wpAny_call ?_ | lk)
  refine codeAny_mono hq' fun r s' z => ?_
  rcases r with e | (v | _ | _ | _) <;> first | exact z | exact z.elim | skip
  obtain ⟨rfl, z⟩ := z
  exact wpAny_pure (wpAny_pure z)
end
end
section
theorem wd_slot : Slot "wrapper_descriptor" "__get__" "wrapper_descriptor.__get__" := .of (owner := "wrapper_descriptor") (n := "__get__") (by rw [typeLookup_type, builtinLookup_eq_fast]; kernel_rfl) (by decide +kernel) (by decide +kernel) (by decide +kernel)
  (by first | exact .inl (by decide +kernel) | exact .inr (by decide +kernel)) (by rw [isSubtype_type]; kernel_rfl)
theorem wd_entry : entryFor table "wrapper_descriptor.__get__" = some Builtin.«wrapper_descriptor.__get__» := entryFor_of_tree (by kernel_rfl)
theorem wd_args (a b c : Value) : argsOk "wrapper_descriptor.__get__" ⟨[a, b, c], []⟩ := by unfold argsOk; kernel_rfl
theorem wd_type : typeOf (.builtin "Exception.__init__") = pure (.type "wrapper_descriptor") := by kernel_rfl
noncomputable abbrev mwObj (e : Addr) : Obj := { cls := .type "method-wrapper", data := .fields #[.builtin "Exception.__init__", .ref e] }
section
variable {prog : Program} {w : World} {M : Model} {A : Around} {E : Value → Shared → Prop} {h : Heap} {g : Array GenState} {d : Drawn} {t : Nat} {os : OsState}
theorem wd_get {e C : Addr} {oe : Obj} {Q : Fin → Shared → Prop} (he : h.get? e = some oe) (hc : oe.cls = .ref C) (hsub : Looks (model prog w) h (isSubtype (.ref C) (.type "Exception")) true)
    (hq : Q (.done (.ret (.ref h.objs.size))) ⟨h.push (mwObj e), g, d, t, os⟩) :
    wpAny (model prog w) A (Builtin.«wrapper_descriptor.__get__» ⟨[.builtin "Exception.__init__", .ref e, .ref C], []⟩) Q E ⟨h, g, d, t, os⟩ := by
  have hcut : (".".intercalate ("Exception.__init__".cutAt '.').dropLast) = "Exception" := by decide +kernel
  unfold Builtin.«wrapper_descriptor.__get__»
  repeat (first | (with_reducible refine wpAny_loadPart_at he ?_; rw [hc]) | (simp only [hcut]; done) | (with_reducible refine Looks.at hsub ?_) | (with_reducible refine wpAny_pure ?_) | (with_reducible refine wpAny_bind ?_) | rw [hcut] | (with_reducible refine wpAny_newObj_type ?_ (by size_fits)) | wp_step | lk)
  all_goals exact hq
theorem sup_ga {so x D C : Addr} {ox : Obj} {l₀ l : List Value} {K : Frag} {tk : Tok} {Q : Fin → Shared → Prop}
    (hso : h.get? so = some { cls := .type "super", dict := none, data := .fields #[.ref D, .ref x, .ref C], slots := #[] }) (hno : Looks (model prog w) h (opaqueClassAbove (.ref C)) none)
    (hC : Looks (model prog w) h (mroOf (.ref C)) l₀) (hl : (l₀.dropWhile (· != .ref D)).drop 1 = l) (X : K.In h)
    (hf : alongIn K "__init__" l = some (some (.builtin "Exception.__init__"))) (hx : h.get? x = some ox) (hc : ox.cls = .ref C) (hxC : x ≠ C) (hsub : Looks (model prog w) h (isSubtype (.ref C) (.type "Exception")) true)
    (hq : Q (.done (.ret (.ref h.objs.size))) ⟨h.push (mwObj x), g, d, t, os⟩) :
    wpAny (model prog w) A (Builtin.«super.__getattribute__» ⟨[.ref so, .str "__init__" tk], []⟩) Q E ⟨h, g, d, t, os⟩ := by
  have hlk := wd_slot.lookup
  have hne : (Value.ref x == Value.ref C) = false := by simp [hxC]
  have hTf : (⟨h, g, d, t, os⟩ : Shared).TypeIs (.builtin "Exception.__init__") "wrapper_descriptor" := wd_type
  have hdt : ({ cls := .type "super", dict := none, data := .fields #[.ref D, .ref x, .ref C], slots := #[] } : Obj).data = .fields #[.ref D, .ref x, .ref C] := rfl
  have f0 : (#[.ref D, .ref x, .ref C] : Array Value)[0]? = some (.ref D) := rfl
  have f1 : (#[.ref D, .ref x, .ref C] : Array Value)[1]? = some (.ref x) := rfl
  have f2 : (#[.ref D, .ref x, .ref C] : Array Value)[2]? = some (.ref C) := rfl
  have hn : (("__init__" : Str) == ("__class__" : Str)) = false := by decide +kernel
  unfold Builtin.«super.__getattribute__»
  repeat (first
    | (with_reducible refine wpAny_field hso hdt f0 ?_) | (with_reducible refine wpAny_field hso hdt f1 ?_) | (with_reducible refine wpAny_field hso hdt f2 ?_)
    | (with_reducible refine ks_wpAny_notOpaque hno ?_)
    | (with_reducible refine Looks.at hC ?_; rw [hl])
    | (refine ks_forIn_along X (fun _ _ => rfl) rfl ?_ hf)
    | (with_reducible refine wpAny_typeOf hTf ?_)
    | (with_reducible refine wpAny_call_entry wd_slot hTf wd_entry ?_ (wd_args _ _ _))
    | (with_reducible refine wd_get hx hc hsub ?_)
    | (with_reducible refine ⟨_, rfl, ?_⟩)
    | (simp only [hn, hne, Bool.or_false, Bool.false_eq_true, if_false])
    | wp_step
    | dsimp only)
  all_goals exact hq
theorem sup_getMethod {so x D C : Addr} {ox : Obj} {l₀ l : List Value} {K : Frag} {pl : Sem Bool} {Q : Value × List Value → Shared → Prop}
    (hso : h.get? so = some { cls := .type "super", dict := none, data := .fields #[.ref D, .ref x, .ref C], slots := #[] }) (hno : Looks (model prog w) h (opaqueClassAbove (.ref C)) none)
    (hC : Looks (model prog w) h (mroOf (.ref C)) l₀) (hl : (l₀.dropWhile (· != .ref D)).drop 1 = l) (X : K.In h)
    (hf : alongIn K "__init__" l = some (some (.builtin "Exception.__init__"))) (hx : h.get? x = some ox) (hc : ox.cls = .ref C) (hxC : x ≠ C) (hsub : Looks (model prog w) h (isSubtype (.ref C) (.type "Exception")) true)
    (hq : Q (.ref h.objs.size, []) ⟨h.push (mwObj x), g, d, t + 1, os⟩) :
    wpAny (model prog w) A (getMethod (.ref so) "__init__" pl) Q E ⟨h, g, d, t, os⟩ := by
  have hlk := F.ks_slot_super_ga.lookup
  have hcan := F.ks_canon_super_ga
  have hT : ∀ t', (⟨h, g, d, t', os⟩ : Shared).TypeIs (.ref so) "super" := fun _ => ⟨_, hso, rfl⟩
  unfold getMethod
  refine wpAny_bind (wpAny_specialOf (hT _) hlk ?_)
  show wpAny _ _ (if (Manifest.canonical "super.__getattribute__" != "object.__getattribute__") = true then _ else _) _ _ _
  rw [if_pos hcan]
  unfold getAttr getAttrBy
  refine wpAny_bind (wpAny_bind (wpAny_mkText (wpAny_holding (wpAny_bind (wpAny_typeOf (hT _) (wpAny_bind (wpAny_of_eq hlk ?_)))))))
  show wpAny _ _ (getAttrByItsOwn (.ref so) (.str "__init__" t) (.type "super") (.builtin "super.__getattribute__") true false) _ _ _
  unfold getAttrByItsOwn hookBefore callGetattribute boundAndCalled
  refine wpAny_bind (wpAny_of_eq (show (if onTheHeap (.type "super") then typeLookup (.type "super") "__getattr__" else pure none) = pure none from rfl) ?_)
  refine wpAny_bind (wpAny_attempt (wpAny_holding ?_))
  show wpAny _ _ (bindSpecial (.builtin "super.__getattribute__") (.ref so) >>= _) _ _ _
  refine wpAny_bind (wpAny_of_eq (F.ks_slot_super_ga.bind _) ?_)
  refine wpAny_mono (Q := fun v s' => v = .ref h.objs.size ∧ s' = ⟨h.push (mwObj x), g, d, t + 1, os⟩) (E := fun _ _ => False)
    (wpAny_call_entry F.ks_slot_super_ga (hT _) F.ks_entry_super_ga (sup_ga hso hno hC hl X hf hx hc hxC hsub ⟨_, rfl, rfl, rfl⟩) (F.ks_gaArgs_super _ _)) (fun v s' hv => ?_) fun _ _ z => z.elim
  obtain ⟨rfl, rfl⟩ := hv
  exact wpAny_pure (wpAny_pure hq)
theorem exc_init_check {nm q : Str} {C N : Addr} {bs bm : List Value} {hdct : Bool} {sn : List Str} {sub : List Value} {ab : Bool} {col : Option Bool} {dd : Option Addr} {k0 k1 k2 k3 k5 : Option Value} {newId : String} {e : Addr} {oe : Obj} {v : Value} {Q : Unit → Shared → Prop}
    (hC : h.get? C = some (excClassObj nm q C N bs bm hdct sn sub ab col dd k0 k1 k2 k3 k5 newId)) (he : h.get? e = some oe) (hcls : oe.cls = .ref C) (hq : Q () ⟨h, g, d, t, os⟩) :
    wpAny M A (checkBoundCall "Exception.__init__" ⟨[.ref e, v], []⟩) Q E ⟨h, g, d, t, os⟩ := by
  have Fn := PySem.F.excCall_Exception
  simp only [checkBoundCall, Fn.initKind, Fn.initRow]
  rw [if_pos (by decide)]
  unfold Bind.checkArgs
  repeat (first | (with_reducible refine wpAny_loadPart_at he ?_; rw [hcls]) | with_reducible refine wpAny_loadPart_at hC ?_ | wp_step)
  exact hq
theorem exc_init {e : Addr} {oe : Obj} {v u : Value} {vs : Array Value} {Q : Fin → Shared → Prop} (he : h.get? e = some oe) (hd : oe.data = .fields vs) (h0 : vs[0]? = some u)
    (hq : ∀ h', h'.get? e = some (oe.mapFields (·.setIfInBounds 0 (.ref h.objs.size))) → (∀ y o, y ≠ e → h.get? y = some o → h'.get? y = some o) → h.objs.size ≤ h'.objs.size → Q (.done (.ret .none)) ⟨h', g, d, t, os⟩) :
    wpAny (model prog w) A (Builtin.«BaseException.__init__» ⟨[.ref e, v], []⟩) Q E ⟨h, g, d, t, os⟩ := by
  have he' : (h.push { cls := .type "tuple", data := .seq #[v] }).get? e = some oe := Heap.get?_push_of_some _ he
  have hsz := (Array.getElem?_eq_some_iff.mp h0).1
  unfold Builtin.«BaseException.__init__»
  refine wpAny_bind ?_
  unfold newTuple
  refine wpAny_newObj_type ?_ (by size_fits)
  refine wpAny_bind ?_
  wp_delta
  refine wpAny_bind (wpAny_field he' hd h0 ?_)
  refine wpAny_bind (wpAny_setField he' hd hsz ?_)
  have fin : ∀ h', h'.get? e = some (oe.mapFields (·.setIfInBounds 0 (.ref h.objs.size))) → (∀ y o, y ≠ e → h.get? y = some o → h'.get? y = some o) → h.objs.size ≤ h'.objs.size → Q (.done (.ret .none)) ⟨h', g, d, t, os⟩ := hq
  have key : Q (.done (.ret .none)) ⟨(h.push { cls := .type "tuple", data := .seq #[v] }).update e (Obj.mapFields (·.setIfInBounds 0 (.ref h.objs.size))), g, d, t, os⟩ := by
    refine hq _ (Heap.get?_update_self _ he' (Obj.isFreed_of_fields (Obj.data_mapFields hd _))) (fun y o hy e' => ?_) ?_
    · rw [Heap.get?_update_other _ _ (Ne.symm hy)]; exact Heap.get?_push_of_some _ e'
    · rw [show (Heap.update (h.push { cls := .type "tuple", data := .seq #[v] }) e (Obj.mapFields (·.setIfInBounds 0 (.ref h.objs.size)))).objs.size = (h.push { cls := .type "tuple", data := .seq #[v] }).objs.size from (Heap.SameBut.update ..).1, Heap.size_push]; exact Nat.le_succ _
  cases u <;> (repeat wp_step) <;> exact key
end
theorem exc_sa (w : World) : findIn (hd.heap_39 w.params) (.ref 61) "__setattr__" = some (some (.builtin "object.__setattr__")) := by k_is
theorem exc_what (w : World) : findIn (hd.heap_39 w.params) (.ref 61) "what" = some none := by k_is
theorem exc_at (w : World) : findIn (hd.heap_39 w.params) (.ref 61) "at" = some none := by k_is
theorem exc_hasDict (w : World) : hasDictIn (hd.heap_39 w.params) 61 = true := by k_is
theorem exc_mro (w : World) : mroIn (hd.heap_39 w.params) 61 (.type "object") = some true := by k_is
theorem lookIn_puts {name : Str} {od : Obj} {fl : List (Str × Value)} (d : IsD od fl) : Ex2 fun es n => od = dictOf es n ∧ (!es.any (·.key.isStr name) && es.any (·.refKey)) = false := by
  obtain ⟨es, n, rfl, h⟩ := d.is
  refine ⟨es, n, rfl, ?_⟩
  rw [(forall2_find (x := name) h).2, Bool.and_false]
section
variable {prog : Program} {w : World} {A : Around} {E : Value → Shared → Prop} {h : Heap} {g : Array GenState} {d : Drawn} {t : Nat} {os : OsState}
theorem exc_set {e : Addr} {oe : Obj} {vs : Array Value} {a : Str} {v : Value} {fl : List (Str × Value)} {Q : Unit → Shared → Prop} (X : (hd.heap_39 w.params).In h) (he : h.get? e = some oe) (hc : oe.cls = .ref 61) (hdt : oe.data = .fields vs)
    (ha : findIn (hd.heap_39 w.params) (.ref 61) a = some none) (hz : fl.length < 1000)
    (hdict : (oe.dict = none ∧ fl = []) ∨ ∃ de od, oe.dict = some de ∧ h.get? de = some od ∧ IsD od fl ∧ de ≠ e)
    (hq : ∀ h' de od' k', h'.get? e = some { oe with dict := some de } → h'.get? de = some od' → IsD od' (putF a v fl) → de ≠ e → (oe.dict = none → h.get? de = none) → (∀ d0, oe.dict = some d0 → de = d0) → (∀ b o, b ≠ e → b ≠ de → h.get? b = some o → h'.get? b = some o) → Q () ⟨h', g, d, k', os⟩) :
    wpAny (model prog w) A (setAttr (.ref e) a v) Q E ⟨h, g, d, t, os⟩ := by
  have hno : notCls oe = true := by
    obtain ⟨c, dd, dt, sl⟩ := oe
    dsimp only at hdt; subst hdt; rfl
  have I : InstAt h e oe 61 (match oe.dict with | some dx => h.get? dx | none => none) := by
    refine ⟨he, hc, hno, ?_⟩
    rcases hdict with ⟨h1, _⟩ | ⟨de, od, h1, h2, _⟩
    · rw [h1]; trivial
    · rw [h1]; dsimp only; rw [h2]; dsimp only; exact h2
  refine set_plain (K := hd.heap_39 w.params) X I (exc_sa w) ?_
  have SF := PySem.F.store_object
  obtain ⟨nm, q, N, bs, hdct, sn, sub, ab, col, dd, k0, k1, k2, k3, k5, hK, hab⟩ := fault_cls w
  have hC := X _ _ hK
  obtain ⟨cd, HH1⟩ := any_some (exc_hasDict w)
  have hcd := HH1.1
  have hdd := HH1.2
  clear HH1
  have sub : Looks (model prog w) h (isInstance (.ref e) (.type "object")) true := I.type.andThen (looks_mroIn X (exc_mro w))
  refine codeAny_call_builtin SF.slot.plain SF.entry (@check_slot (model prog w) _ _ _ "object.__setattr__" "object" "__setattr__" (.ref e) [.str a t, v] [] _ SF.kind SF.split sub (SF.args (.ref e) (.str a t) v) ?_)
  have hmr : Looks (model prog w) h (mroOf (.ref 61)) (.ref 61 :: tfM) := ((Looks.ld (part := none) hC).andThen .now).andThen .now
  rw [osa_eq, refuse_eq]
  refine wpAny_bind (wpAny_bind (I.type.here (wpAny_bind (hmr.here ?_))))
  rw [refuseLoop_ref, refuseLoop_ref, show refuseLoop (.ref e) "__setattr__" [.type "Exception", .type "BaseException", .type "object"] = pure () from PySem.F.store_Exception.passes _]
  refine wpAny_pure (wpAny_bind (I.type.here (wpAny_bind ((looks_findIn X ha).here (wpAny_bind ?_)))))
  refine wpAny_pure ?_
  show wpAny _ _ (storeInOwnDict _ _ _ _ _ _) _ _ _
  refine wpAny_bind (wpAny_pure (wpAny_bind (wpAny_bind (wpAny_loadPart he ?_))))
  rw [hc]
  refine wpAny_bind ((looks_clsIn X hcd).here ?_)
  rw [hdd]
  have tail : ∀ (H : Heap) (de : Addr) (od : Obj) (K : Nat), H.get? e = some { oe with dict := some de } → H.get? de = some od → IsD od fl → de ≠ e → (oe.dict = none → h.get? de = none) → (∀ d0, oe.dict = some d0 → de = d0) → (∀ b o, b ≠ e → b ≠ de → h.get? b = some o → H.get? b = some o) →
      wpAny (model prog w) A.in1 (storeInDict de (.str a t) a v) (fun fin s' => match fin with
        | .done f => (match (Except.ok f : Result) with | .ok (.ret _) => Q () s' | .ok _ => False | .error e => E e s')
        | .again c' => c'.quiet = true ∧ codeAny (model prog w) A c' (fun r s' => match r with | .ok (.ret _) => Q () s' | .ok _ => False | .error e => E e s') s') (fun e s' => E e s') ⟨H, g, d, K, os⟩ := by
    intro H de od K h1 h2 h3 h4 h5 h7 h6
    obtain ⟨es, n, rfl, hr⟩ := lookIn_puts (name := a) h3
    unfold storeInDict newKeyGuard
    refine wpAny_bind (wpAny_pure (wpAny_bind ?_))
    unfold nsSet
    refine wpAny_bind (wpAny_bind (wpAny_askSetting (wpAny_pure (wpAny_bind (wpAny_mkText (wpAny_bind (wpAny_loadPart h2 ?_)))))))
    dsimp only
    rw [aRefKeyMayBeTheName_at, ← Array.any_toList, ← Array.any_toList, hr]
    have h3' := h3.put a (PyData.keyHash w.params a) K v
    obtain ⟨es', n', he', hlen⟩ := h3'.data
    have hup : (H.update de (Obj.putName a (PyData.keyHash w.params a) (.str a K) v)).get? de = some (Obj.putName a (PyData.keyHash w.params a) (.str a K) v (dictOf es n)) := Heap.get?_update_self _ h2 h3'.alive
    refine wpAny_updatePart h2 ?_
    have hpl := putF_len a v fl
    refine wpAny_bind (wpAny_lookBehind hup (by rw [he']; exact pastItsLine_dict (by rw [List.size_toArray, sizeLine_eq]; omega)) ?_)
    have hs : Heap.SameBut de H (H.update de (Obj.putName a (PyData.keyHash w.params a) (.str a K) v)) := Heap.SameBut.update ..
    refine wpAny_pure (hq _ de _ _ ((hs.2 e (Ne.symm h4)).trans h1) hup h3' h4 h5 h7 fun b o b1 b2 e' => (hs.2 b b2).trans (h6 b o b1 b2 e'))
  rcases hdict with ⟨h1, hfl⟩ | ⟨de, od, h1, h2, h3, h4⟩
  · subst hfl
    rw [h1]
    have hne : e ≠ h.objs.size := Nat.ne_of_lt (Heap.lt_size he)
    have he₁ : (h.push { cls := .type "dict", data := .dict #[] }).get? e = some oe := Heap.get?_push_of_some _ he
    have hgd : ((h.push { cls := .type "dict", data := .dict #[] }).update e fun o => { cls := o.cls, dict := some h.objs.size, data := o.data, slots := o.slots }).get? h.objs.size
          = some { cls := .type "dict", data := .dict #[] } :=
        (Heap.get?_update_ne _ _ _ _ hne.symm).trans (Heap.get?_push_at rfl rfl)
    rw [if_neg (by decide)]
    try dsimp only
    rw [if_neg (by simp [typeHasDict])]
    split
    · rename_i c q
      rw [hdt] at q; cases q
    · refine wpAny_bind (wpAny_alloc' (wpAny_bind (wpAny_update' he₁ ?_)))
      refine wpAny_pure (tail _ _ _ _ ?_ hgd isD_new hne.symm (fun _ => Heap.get?_none_of_le (Nat.le_refl _)) (fun d0 q => by rw [h1] at q; cases q) fun b o b1 _ e' => ?_)
      · refine Heap.get?_update_self _ he₁ ?_
        obtain ⟨oc, od, odt, osl⟩ := oe
        dsimp only at hdt; subst hdt; rfl
      · exact (Heap.get?_update_ne _ _ _ _ b1).trans (Heap.get?_push_of_some _ e')
  · rw [h1]
    rw [if_neg (by decide)]
    refine wpAny_pure (tail h de od _ ?_ h2 h3 h4 (fun q => by rw [h1] at q; cases q) (fun d0 q => by rw [h1] at q; exact Option.some.inj q) fun b o _ _ e' => e')
    rw [he]
    obtain ⟨c, dd, dt, sl⟩ := oe
    dsimp only at h1; subst h1; rfl
end
end
section
section
variable {prog : Program} {w : World} {A : Around} {Q : Value → Shared → Prop} {E : Value → Shared → Prop} {s₀ : Shared} {h : Heap} {k : Nat} {base g : Heap} {fs : List Env} {L : Addr} {ns : List Str} {vs : List (Option Value)} {led : List (Addr × Obj)}
  {env : Env} {cl : List (Str × Addr)}
theorem St.more (S : St w base fs g L ns vs led h) {h' : Heap} {a : Addr} {o : Obj} (hk : h.StaysIn h') (ha : h'.get? a = some o) (hn : h.get? a = none) : St w base fs g L ns vs ((a, o) :: led) h' where
  X := S.X
  T := S.T
  stays := S.stays
  frames := S.frames
  gL := S.gL
  low := S.low
  len := S.len
  nd := S.nd
  loc := S.loc.keeps hk
  keep := stays_trans S.keep hk
  ldg := fun p hp => by
    rcases List.mem_cons.mp hp with rfl | hp
    · refine ⟨ha, ?_, ?_⟩
      · rintro rfl
        obtain ⟨o, es, ep, HH1⟩ := ex3 S.loc
        have ho := HH1.1
        have r := HH1.2
        clear HH1
        rw [ho] at hn; cases hn
      · cases q : g.get? a with
        | none => rfl
        | some o' => have := S.keep _ _ q; rw [hn] at this; cases this
    · exact ⟨hk _ _ (S.ldg p hp).1, (S.ldg p hp).2⟩
  ndl := by
    rw [List.map_cons, List.nodup_cons]
    refine ⟨fun hm => ?_, S.ndl⟩
    obtain ⟨p, HH1⟩ := List.mem_map.mp hm
    have hp := HH1.1
    have e := HH1.2
    clear HH1
    have := (S.ldg p hp).1
    rw [e, hn] at this; cases this
theorem St.turnMore (S : St w base fs g L ns vs led h) {h' : Heap} {i : Nat} {d a : Addr} {o o' oa : Obj} (hi : led[i]? = some (d, o)) (ho : h'.get? d = some o') (ha : h'.get? a = some oa) (hn : h.get? a = none)
    (hk : ∀ b ob, b ≠ d → b ≠ a → h.get? b = some ob → h'.get? b = some ob) : St w base fs g L ns vs ((a, oa) :: led.set i (d, o')) h' := by
  have S1 := S.turnedX hi (fun b ob hb e => hk b ob hb (fun q => by rw [q, hn] at e; cases e) e) ho
  refine ⟨S1.X, S1.T, S1.stays, S1.frames, S1.gL, S1.low, S1.len, S1.nd, S1.loc, S1.keep, fun p hp => ?_, ?_⟩
  · rcases List.mem_cons.mp hp with rfl | hp
    · refine ⟨ha, ?_, ?_⟩
      · rintro rfl
        obtain ⟨o, es, ep, HH1⟩ := ex3 S.loc
        have ho := HH1.1
        have r := HH1.2
        clear HH1
        rw [ho] at hn; cases hn
      · cases q : g.get? a with
        | none => rfl
        | some o' => have := S.keep _ _ q; rw [hn] at this; cases this
    · exact S1.ldg p hp
  · rw [List.map_cons, List.nodup_cons]
    refine ⟨fun hm => ?_, S1.ndl⟩
    have hmap : (led.set i (d, o')).map (·.1) = led.map (·.1) := by
      have h1 : (led.map (·.1))[i]? = some d := by rw [List.getElem?_map, hi]; rfl
      have hlt : i < led.length := (List.getElem?_eq_some_iff.mp hi).1
      rw [List.map_set]
      exact List.ext_getElem? fun j => by
        rw [List.getElem?_set]
        split
        · subst_vars
          rw [List.length_map, if_pos hlt, h1]
        · rfl
    rw [hmap] at hm
    obtain ⟨p, HH1⟩ := List.mem_map.mp hm
    have hp := HH1.1
    have e := HH1.2
    clear HH1
    have := (S.ldg p hp).1
    rw [e, hn] at this; cases this
theorem enterAt {R : Result → Shared → Prop} {name qual : Str} {params : Arguments} {body : List Stmt} {scope : Scope} {dV kV doc pm cdv ct oc : Value} {an od : Option Addr} {osl : Array (Option Value)} {f : Addr} {args args' : List Value} {d n : Nat} {ns' : List Str} {vs' : List (Option Value)}
    (S : St w base fs g L ns vs led h) (hA : Ax prog A fs (d + 1))
    (ho : (hd.heap_39 w.params).lookup f = some ⟨oc, od, .func (fnX name qual params body scope cl dV kV doc pm an cdv ct), osl⟩) (hcd : codeIn (hd.heap_39 w.params) cdv qual = true)
    (hbind : BindsTo (sh s₀ h k) (fnX name qual params body scope cl dV kV doc pm an cdv ct) ⟨args, []⟩ ((ns'.take n).zip args'))
    (foot : List (Addr × Obj)) (hf : ∀ p ∈ foot, p ∈ led) (hfn : (foot.map (·.1)).Nodup)
    (hns : (ns'.all fun x => scope.names.lookup x == some .local) = true) (hnd : ns'.Nodup) (hn : args'.length = n) (hnl : n ≤ ns'.length) (hcell : (scope.names.all fun x => x.2 != .cell) = true)
    (hvs : args'.map some ++ List.replicate (ns'.length - n) none = vs') (hco : scope.isCoroutine = false) (hgen : scope.isGenerator = false) (hk : scope.kind = .function)
    (walk : ∀ L' h₁ k₁ A' E', EnvOk (envX qual scope L' f cdv cl) L' ns' cl → Ax prog A' (envX qual scope L' f cdv cl :: fs) d → ExOk prog w A' (envX qual scope L' f cdv cl) (fun e s' => R (.error e) s') E' → L' = h.objs.size →
      St w base (envX qual scope L' f cdv cl :: fs) (hideAll h (foot.map (·.1))) L' ns' vs' foot h₁ →
      _root_.PySem.wpAt (model prog w) A' (.func body (envX qual scope L' f cdv cl)) (execs body (envX qual scope L' f cdv cl)) (RetQ fun v s' => R (.ok (.ret v)) s') E' (sh s₀ h₁ k₁)) :
    codeAny (model prog w) A (.call (.ref f) ⟨args, []⟩) R (sh s₀ h k) := by
  subst hvs
  have hroom : A.depth < recursionLimit := by have := hA.dep; show A.depth < 1000; omega
  have hl := List.all_eq_true.mp hns
  have hloc : ∀ y ∈ (ns'.take n).zip args', scope.names.lookup y.1 = some .local := fun y hy =>
    beq_iff_eq.mp (hl y.1 (List.mem_of_mem_take (List.of_mem_zip hy).1))
  obtain ⟨me, mg, mb, T⟩ := S.Th
  refine ks_codeAny_call_defAt (fd := fnX name qual params body scope cl dV kV doc pm an cdv ct) (body := body) hroom (S.Xh _ _ ho) rfl T.nolimit (codeRec_of S.Xh hcd) rfl hbind
    (fun x hx => by have := List.all_eq_true.mp hcell x hx; simpa using this) hloc (fun h₁ hns₁ hk₁ => ?_) hco hgen hk
  have e0 : (sh s₀ h k).heap = h := rfl
  have e1 : callEnv (fnX name qual params body scope cl dV kV doc pm an cdv ct) (sh s₀ h k).heap.objs.size f = envX qual scope h.objs.size f cdv cl := rfl
  rw [e1]
  rw [e0] at hns₁ hk₁
  rw [mOf_binds hnd hn hnl] at hns₁
  have S' : St w base (envX qual scope h.objs.size f cdv cl :: fs) (hideAll h (foot.map (·.1))) h.objs.size ns' (args'.map some ++ List.replicate (ns'.length - n) none) foot h₁ :=
    S.entered (cells := []) hf hfn hnd (by simp [hn]; omega) hns₁ hk₁ (by show scope.kind ≠ .module; rw [hk]; decide) rfl (fun _ h => nomatch h) (fun _ h => nomatch h) List.nodup_nil
  have he : EnvOk (envX qual scope h.objs.size f cdv cl) h.objs.size ns' cl := ⟨rfl, hk, rfl, rfl, fun x hx => beq_iff_eq.mp (hl x hx), rfl⟩
  exact walk h.objs.size h₁ _ (A.deeper (envX qual scope h.objs.size f cdv cl)) _ he (hA.deeper _) ⟨PassesOwn.leaving, fun _ _ x => x⟩ rfl S'
end
theorem excd_clsIn (w : World) : (∃ cd, clsIn (hd.heap_39 w.params) 48 = some cd) ∧ mroIn (hd.heap_39 w.params) 61 (.ref 48) = some true ∧ nsIn (hd.heap_39 w.params) mainGlobals "super" = some none ∧ nsIn (hd.heap_39 w.params) cStatics "thirdparty.any" = some none ∧ subIn (hd.heap_39 w.params) (.ref 61) (.type "Exception") = some true
    ∧ alongIn (hd.heap_39 w.params) "__init__" [.type "Exception", .type "BaseException", .type "object"] = some (some (.builtin "Exception.__init__")) := by
  refine ⟨?_, by k_is, by k_is, by k_is, by k_is, by kernel_rfl⟩
  have : hasDictIn (hd.heap_39 w.params) 48 = true := by k_is
  obtain ⟨cd, HH1⟩ := any_some this
  have h := HH1.1
  clear HH1
  exact ⟨cd, h⟩
section
variable {prog : Program} {w : World} {A : Around} {Q : Value → Shared → Prop} {E : Value → Shared → Prop} {s₀ : Shared} {h : Heap} {k : Nat} {base g : Heap} {fs : List Env} {L : Addr} {ns : List Str} {vs : List (Option Value)} {led : List (Addr × Obj)}
  {env : Env} {cl : List (Str × Addr)}
theorem mw_call {mw e : Addr} {v : Value} {oe : Obj} {vs : Array Value} {u : Value} {Q : Value → Shared → Prop} (X : (hd.heap_39 w.params).In h) (hm : h.get? mw = some (mwObj e)) (he : h.get? e = some oe) (hc : oe.cls = .ref 61) (hd : oe.data = .fields vs) (h0 : vs[0]? = some u)
    (hq : ∀ h', h'.get? e = some (oe.mapFields (·.setIfInBounds 0 (.ref h.objs.size))) → (∀ y o, y ≠ e → h.get? y = some o → h'.get? y = some o) → h.objs.size ≤ h'.objs.size → Q .none (sh s₀ h' k)) :
    wpAny (model prog w) A (call (.ref mw) [v]) Q E (sh s₀ h k) := by
  obtain ⟨nm, q, N, bs, hdct, sn, sub, ab, col, dd, k0, k1, k2, k3, k5, hK, hab⟩ := fault_cls w
  have hC := X _ _ hK
  refine wpAny_call (codeAny_of_tree ?_)
  show wpAny _ A.in1 (callAny (.ref mw) ⟨[v], []⟩) _ _ _
  unfold callAny
  refine wpAny_bind (wpAny_load hm ?_)
  dsimp only
  rw [if_pos (by decide)]
  show wpAny _ _ (checkBoundCall "Exception.__init__" ⟨[.ref e, v], []⟩ >>= fun _ => _) _ _ _
  refine wpAny_bind (exc_init_check hC he hc ?_)
  refine wpAny_pure ⟨Code.quiet_builtin _ (by decide +kernel), ?_⟩
  refine codeAny_builtin PySem.F.excCall_Exception.initEntry ?_
  rw [Around.under_plainId PySem.F.excCall_Exception.init.plain _]
  exact exc_init he hd h0 fun h' a b c => hq h' a b c
theorem shape_init {e t0 : Addr} {vw : Value} {n : Int} {t : Tok} {d : Nat} {R : Result → Shared → Prop} (S : St w base fs g L ns vs led h) (hA : Ax prog A fs (d + 1)) (i : Nat) (hi : led[i]? = some (e, excObj t0))
    (hq : ∀ h' k' oe de od, h'.get? e = some oe → oe.cls = .ref 61 → (∃ t1, oe.data = .fields #[.ref t1, .none, .none, .none, .bool false, .none]) → oe.dict = some de → h'.get? de = some od → IsD od [("what", vw), ("at", .int n t)] →
      (∀ b o, b ≠ e → h.get? b = some o → h'.get? b = some o) → R (.ok (.ret .none)) (sh s₀ h' k')) :
    codeAny (model prog w) A (.call (.ref 38) ⟨[.ref e, vw, .int n t], []⟩) R (sh s₀ h k) := by
  have HH1 := excd_clsIn w
  obtain ⟨cd48, hcd48⟩ := HH1.1
  have hmro := HH1.2.1
  have hsuper := HH1.2.2.1
  have hthird := HH1.2.2.2.1
  have hsubE := HH1.2.2.2.2.1
  have hal := HH1.2.2.2.2.2
  clear HH1
  have ho := S.at_ hi
  refine enterAt (cl := [("__class__", 25)]) (ns' := ["self", "what", "at"]) (args' := [.ref e, vw, .int n t]) (n := 3) S hA (by k_is) (by k_is) (binds_K S.Xh rfl (by k_is) rfl rfl rfl) [(e, excObj t0)] ?_ (by simp) (by decide +kernel) (by decide +kernel) rfl (by decide) (by decide +kernel) rfl rfl rfl rfl ?_
  · intro p hp; rw [List.mem_singleton.mp hp]; exact List.mem_of_getElem? hi
  intro L' h₁ k₁ A' E' he hA' hE hL' S'
  refine ks_wpAt_execs_cons (ks_wpAt_Expr_any (ks_wpAt_MethodCall (pl := _) ?_))
  have hx := S'.at_ (i := 0) rfl
  have I : InstAt h₁ e (excObj t0) 61 none := ⟨hx, rfl, rfl, trivial⟩
  obtain ⟨me, mg, mb, T⟩ := S'.T
  refine ks_node (K := hd.heap_39 w.params) (h₀ := base) (L := L') (m := mOf ["self", "what", "at"] [some (.ref e), some vw, some (.int n t)]) (x := e) (D := 48) (ox := excObj t0) (odx := none) S'.toFr S'.X S'.toNews T (by k_is) rfl (mOf_get S'.nd (i := 0) rfl rfl) I (by k_is) rfl (by rw [hA.file]; decide +kernel) (by k_is) hcd48 hmro hsuper (by decide +kernel) rfl rfl rfl rfl hA.sup (by kernel_rfl) ?_
  intro so h₂ F₂ N₂ _
  have S₂ := S'.ofNews F₂ S'.len (fun p hp => N₂ p (.tail _ hp)) S'.ndl (fun p hp => (S'.ldg p hp).2.2)
  have hso := (N₂ _ (.head _)).1
  have X₂ := S₂.Xh
  have hx₂ := S₂.at_ (i := 0) rfl
  have hxC : e ≠ 61 := by
    rintro rfl
    obtain ⟨nm, q, N, bs, hdct, sn, sub, ab, col, dd, k0, k1, k2, k3, k5, hK, hab⟩ := fault_cls w
    have := X₂ _ _ hK
    rw [hx₂] at this; cases this
  obtain ⟨nm, q, N, bs, hdct, sn, sub, ab, col, dd, k0, k1, k2, k3, k5, hK, hab⟩ := fault_cls w
  have hC := X₂ _ _ hK
  have hmr : Looks (model prog w) h₂ (mroOf (.ref 61)) (.ref 61 :: tfM) := ((Looks.ld (part := none) hC).andThen .now).andThen .now
  refine sup_getMethod (K := hd.heap_39 w.params) (C := 61) (D := 48) (l := [.type "Exception", .type "BaseException", .type "object"]) hso (looks_opaque X₂ hthird) hmr (by decide) X₂ hal hx₂ rfl hxC (looks_subIn X₂ hsubE) ?_
  have S₃ := S₂.alloc (mwObj e) rfl
  refine callWith_of (P := fun H => H.get? h₂.objs.size = some (mwObj e)) rfl (fun H hH => ⟨.machine, .inr (.inl rfl), (Looks.ld (part := none) hH).andThen .now⟩) ?_
  refine evalArgs_plain (sp_cons (n_loc S₃ he 1 rfl rfl (sp_nil ⟨S₃.at_ (i := 0) rfl, ?_⟩)))
  refine mw_call S₃.Xh (S₃.at_ (i := 0) rfl) (S₃.at_ (i := 1) rfl) rfl rfl rfl fun h₄ g1 g2 g3 => ?_
  have S₄ := S₃.turnedX (i := 1) rfl (fun b ob hb e' => g2 b ob hb e') g1
  clear hmr hC hK
  show _root_.PySem.wpAt _ _ _ (execs _ _) _ _ _
  refine wpAt_of_wpAny ?_
  refine x_aset (n_loc S₄ he 1 rfl rfl (n_loc S₄ he 0 rfl rfl ?_))
  refine exc_set S₄.Xh (S₄.at_ (i := 1) rfl) rfl rfl (exc_what w) (by decide) (.inl ⟨rfl, rfl⟩) fun h₅ de od₅ k₅ f1 f2 f3 f4 f5 _ f6 => ?_
  have S₅ := S₄.turnMore (i := 1) rfl f1 f2 (f5 rfl) fun b ob b1 b2 e' => f6 b ob b1 b2 e'
  refine x_aset (n_loc S₅ he 2 rfl rfl (n_loc S₅ he 0 rfl rfl ?_))
  refine exc_set (fl := [("what", vw)]) S₅.Xh (S₅.at_ (i := 2) rfl) rfl rfl (exc_at w) (Nat.succ_lt_succ (Nat.succ_pos _)) (.inr ⟨de, od₅, rfl, S₅.at_ (i := 0) rfl, f3, f4⟩) fun h₆ de' od₆ k₆ q1 q2 q3 q4 q5 q7 q6 => ?_
  refine x_nil (ret_n ?_)
  obtain rfl := q7 de rfl
  refine hq _ _ _ _ _ q1 rfl ⟨_, rfl⟩ rfl q2 q3 fun b o hb e' => ?_
  have hgb : (hideAll h (List.map (fun x => x.1) [(e, excObj t0)])).get? b = some o := hideAll_get _ e' (by simpa using hb)
  refine q6 b o hb ?_ (S₅.keep _ _ hgb)
  rintro rfl
  have := (S₅.ldg _ (.head _)).2.2
  rw [hgb] at this; cases this
end
end
section
noncomputable def Er (E : Value → Shared → Prop) (s₀ : Shared) (base : Heap) (fs : List Env) (G : Heap) (n : Int) : Prop := ∀ e h' k', Fault base fs G n e h' → E (.ref e) (sh s₀ h' k')
section
variable {prog : Program} {w : World} {A : Around} {Q : Value → Shared → Prop} {E E' : Value → Shared → Prop} {s₀ : Shared} {h : Heap} {k : Nat} {base g G : Heap} {fs : List Env} {L : Addr} {ns : List Str} {vs : List (Option Value)} {led : List (Addr × Obj)}
  {env : Env} {cl : List (Str × Addr)}
theorem er_pass {n : Int} {h₂ : Heap} {foot : List (Addr × Obj)} {d : Nat} (hA : Ax prog A (env :: fs) d) (hE : ExOk prog w A env E E') (S : St w base (env :: fs) g L ns vs led h₂) (hG : G.StaysIn g) (hf : ∀ p ∈ foot, p ∈ led)
    (her : Er E s₀ base fs G n) : Er E' s₀ base (env :: fs) (hideAll h₂ (foot.map (·.1))) n := by
  have HH1 := S.fr
  obtain ⟨LL, _, hL, _⟩ := HH1.2.1
  clear HH1
  intro e h' k' F
  refine hE.leave _ _ (fault_leave hA.fr hL F fun h'' F' => her e h'' k' (F'.sub ?_))
  intro b o q
  refine hideAll_get _ (S.keep _ _ (hG _ _ q)) fun hm => ?_
  obtain ⟨p, HH1⟩ := List.mem_map.mp hm
  have hp := HH1.1
  have e' := HH1.2
  clear HH1
  have := (S.ldg p (hf p hp)).2.2
  rw [e', hG _ _ q] at this; cases this
theorem raise_core {x : Sem Value} {Qf : Flow → Shared → Prop} {s : Shared} (hh : A.handled = none)
    (h : wpAny (model prog w) A x (fun v s₁ => Ex2 fun e oe => An6 (v = .ref e) ((hd.heap_39 w.params).In s₁.heap) (s₁.heap.get? e = some oe) (oe.cls = .ref 61) ((∃ t1, oe.data = .fields #[.ref t1, .none, .none, .none, .bool false, .none])) (E (.ref e) s₁)) E s) :
    wpAny (model prog w) A (raiseStmt env (some x) none) Qf E s := by
  have hcB : (Value.ref 61 :: tfM).contains (.type "BaseException") = true := by decide
  unfold raiseStmt
  refine wpAny_bind (wpAny_mono h (fun v s₁ h₁ => ?_) fun _ _ x => x)
  obtain ⟨e, oe, rfl, X, he, hc, ⟨t1, hdt⟩, hE⟩ := h₁
  obtain ⟨nm, q, N, bs, hdct, sn, sub, ab, col, dd, k0, k1, k2, k3, k5, hK, hab⟩ := fault_cls w
  have hC := X _ _ hK
  obtain ⟨hp, g, d, tk, os⟩ := s₁
  have f1 : (#[Value.ref t1, .none, .none, .none, .bool false, .none] : Array Value)[1]? = some .none := rfl
  repeat (first | (with_reducible refine wpAny_field he hdt f1 ?_) | (with_reducible refine wpAny_loadPart_at he ?_; first | rw [hc] | rw [hdt]) | with_reducible refine wpAny_loadPart_at hC ?_ | (with_reducible refine wpAny_isSubtype_exc hC ?_; rw [hcB]) | wp_step)
  all_goals exact wpAny_raiseNew_none hh hE
theorem x_raise {e : Expr} {pos : Pos} {rest : List Stmt} {Qf : Flow → Shared → Prop} {s : Shared} (hh : A.handled = none)
    (h : wpAny (model prog w) A (eval e env) (fun v s₁ => Ex2 fun x oe => An6 (v = .ref x) ((hd.heap_39 w.params).In s₁.heap) (s₁.heap.get? x = some oe) (oe.cls = .ref 61) ((∃ t1, oe.data = .fields #[.ref t1, .none, .none, .none, .bool false, .none])) (E (.ref x) s₁)) E s) :
    wpAny (model prog w) A (execs (.Raise (some e) none pos :: rest) env) Qf E s := by
  refine wpAny_execs_cons ?_
  rw [arm_exec_Raise]
  refine wpAny_bind (wpAny_standAt (raise_core hh ?_))
  exact wpAny_bind (wpAny_mono h (fun v s₁ h₁ => wpAny_bind (wpAny_standAt (wpAny_pure h₁))) fun _ _ x => x)
theorem call_fault {vw : Value} {n : Int} {t : Tok} {d : Nat} (S : St w base (env :: fs) g L ns vs led h) (hA : Ax prog A (env :: fs) (d + 2)) (hE : ExOk prog w A env E E') (hG : G.StaysIn g) (her : Er E s₀ base fs G n) :
    wpAny (model prog w) A (call (.ref 61) [vw, .int n t]) (fun v s₁ => Ex2 fun x oe => An6 (v = .ref x) ((hd.heap_39 w.params).In s₁.heap) (s₁.heap.get? x = some oe) (oe.cls = .ref 61) ((∃ t1, oe.data = .fields #[.ref t1, .none, .none, .none, .bool false, .none])) (E' (.ref x) s₁)) E' (sh s₀ h k) := by
  have HH1 := S.fr
  obtain ⟨LL, _, hL, _⟩ := HH1.2.1
  clear HH1
  refine fault_make S (by simp [sizeLine]) fun e h' he hk hx hn => ?_
  have S1 := S.more hk hx hn
  refine shape_init S1 (hA.make (d := d + 1)) 0 rfl fun h₂ k₂ oe de od f1 f2 f3 f4 f5 f6 f7 => ?_
  refine ⟨rfl, ?_⟩
  have k2 : ∀ b o, h.get? b = some o → h₂.get? b = some o := fun b o e' => f7 b o (fun q => by rw [q, hn] at e'; cases e') (hk _ _ e')
  have S2 := S.grown k2
  refine ⟨e, oe, rfl, S2.Xh, f1, f2, f3, hE.leave _ _ ?_⟩
  obtain ⟨t1, hdt⟩ := f3
  have hen : base.get? e = none := by
    cases q : base.get? e with
    | none => rfl
    | some o => have := S.bh _ _ q; rw [hn] at this; cases this
  have step : wpAny (model prog w) A (leaving env (.ref e)) (fun _ s'' => ∃ h', s'' = sh s₀ h' k₂ ∧ Heap.LeftW base (env :: fs) e oe.cls (.ref t1) h₂ h') (fun e' s'' => E e' s'') (sh s₀ h₂ k₂) :=
    wpAny_leaving_firstW (s := sh s₀ h₂ k₂) hA.fr S2.fr hL f1 S2.bh hen hdt rfl rfl fun h' x => ⟨h', rfl, x⟩
  refine wpAny_mono ((tame_leaving _ _).any step) (fun _ s'' x => ?_) fun _ _ x => x
  obtain ⟨⟨h₃, rfl, ⟨l1, l2, l3, l4⟩⟩, mk⟩ := x
  obtain ⟨oe', HH1⟩ := mk e oe f1
  have h1' := HH1.1
  have c1 := HH1.2.1
  have c2 := HH1.2.2
  clear HH1
  have hl : lookIn "at" od = some (some (.int n t)) := by rw [f6.look]; rfl
  obtain ⟨sl, h3'⟩ := l4 de od f5 (by
    intro vs q
    unfold lookIn at hl
    rw [q] at hl; cases hl)
  rw [f2] at l3
  refine her e h₃ k₂ ⟨⟨.ref t1, l1, hen, l2.2.2, l3⟩, ?_, oe', de, _, t, h1', by rw [c2, f4], h3', by rw [lookIn_slots]; exact hl⟩
  exact (Heap.UpToSlots.of_keeps fun b o q => k2 b o (S.keep _ _ (hG _ _ q))).trans l4
end
end
section
inductive Loc : List Str → List (Option Value) → Str → Value → Prop
  | here {x : Str} {ns : List Str} {v : Value} {vs : List (Option Value)} : Loc (x :: ns) (some v :: vs) x v
  | there {x y : Str} {ns : List Str} {u : Option Value} {v : Value} {vs : List (Option Value)} : Loc ns vs x v → Loc (y :: ns) (u :: vs) x v
inductive SetL : List Str → List (Option Value) → Str → Value → List (Option Value) → Prop
  | here {x : Str} {ns : List Str} {u : Option Value} {v : Value} {vs : List (Option Value)} : SetL (x :: ns) (u :: vs) x v (some v :: vs)
  | there {x y : Str} {ns : List Str} {u : Option Value} {v : Value} {vs vs' : List (Option Value)} : SetL ns vs x v vs' → SetL (y :: ns) (u :: vs) x v (u :: vs')
inductive LedAt : List (Addr × Obj) → Nat → Addr → Obj → Prop
  | here {d : Addr} {o : Obj} {l : List (Addr × Obj)} : LedAt ((d, o) :: l) 0 d o
  | there {d : Addr} {o : Obj} {p : Addr × Obj} {l : List (Addr × Obj)} {i : Nat} : LedAt l i d o → LedAt (p :: l) (i + 1) d o
theorem Loc.at_ {ns : List Str} {vs : List (Option Value)} {x : Str} {v : Value} (h : Loc ns vs x v) : ∃ i : Nat, ns[i]? = some x ∧ vs[i]? = some (some v) := by
  induction h with
  | here => exact ⟨0, rfl, rfl⟩
  | there _ ih => obtain ⟨i, a, b⟩ := ih; exact ⟨i + 1, a, b⟩
theorem SetL.at_ {ns : List Str} {vs vs' : List (Option Value)} {x : Str} {v : Value} (h : SetL ns vs x v vs') : ∃ i : Nat, ns[i]? = some x ∧ vs' = vs.set i (some v) := by
  induction h with
  | here => exact ⟨0, rfl, rfl⟩
  | there _ ih => obtain ⟨i, a, b⟩ := ih; exact ⟨i + 1, a, by rw [b]; rfl⟩
theorem LedAt.at_ {l : List (Addr × Obj)} {i : Nat} {d : Addr} {o : Obj} (h : LedAt l i d o) : l[i]? = some (d, o) := by
  induction h with
  | here => rfl
  | there _ ih => exact ih
inductive EnvG (w : World) (env : Env) : List (Str × Value) → Prop
  | nil : EnvG w env []
  | cons {x : Str} {v : Value} {r : List (Str × Value)} : env.kindOf x = some .globalImplicit → GN w x v → EnvG w env r → EnvG w env ((x, v) :: r)
inductive GIn : List (Str × Value) → Str → Value → Prop
  | here {x : Str} {v : Value} {r : List (Str × Value)} : GIn ((x, v) :: r) x v
  | there {x : Str} {v : Value} {p : Str × Value} {r : List (Str × Value)} : GIn r x v → GIn (p :: r) x v
theorem EnvG.get {w : World} {env : Env} {gl : List (Str × Value)} {x : Str} {v : Value} (h : EnvG w env gl) (m : GIn gl x v) : env.kindOf x = some .globalImplicit ∧ GN w x v := by
  induction m with
  | here => cases h with | cons a b _ => exact ⟨a, b⟩
  | there _ ih => cases h with | cons _ _ r => exact ih r
section
variable {prog : Program} {w : World} {A : Around} {E : Value → Shared → Prop} {s₀ : Shared} {h : Heap} {k : Nat} {base g : Heap} {fs : List Env} {L : Addr} {ns : List Str} {vs : List (Option Value)} {led : List (Addr × Obj)}
  {env : Env} {cl : List (Str × Addr)}
theorem g_loc {x : Str} {pos : Pos} {v : Value} {Q : Value → Shared → Prop} (S : St w base fs g L ns vs led h) (he : EnvOk env L ns cl) (hl : Loc ns vs x v) (hq : Q v (sh s₀ h k)) (hd : (x == ("__debug__" : Str)) = false := by decide +kernel) :
    wpAny (model prog w) A (eval (.Name x pos) env) Q E (sh s₀ h k) := by
  obtain ⟨i, HH1⟩ := hl.at_
  have a := HH1.1
  have b := HH1.2
  clear HH1
  exact n_loc S he i a b hq hd
theorem g_glob {x : Str} {pos : Pos} {v : Value} {gl : List (Str × Value)} {Q : Value → Shared → Prop} (S : St w base fs g L ns vs led h) (he : EnvOk env L ns cl) (hG : EnvG w env gl) (hm : GIn gl x v) (hq : Q v (sh s₀ h k)) (hd : (x == ("__debug__" : Str)) = false := by decide +kernel) :
    wpAny (model prog w) A (eval (.Name x pos) env) Q E (sh s₀ h k) := n_glob S he (hG.get hm).1 (hG.get hm).2 hq hd
theorem g_set {x : Str} {v : Value} {vs' : List (Option Value)} {Q : Unit → Shared → Prop} (S : St w base fs g L ns vs led h) (he : EnvOk env L ns cl) (hl : SetL ns vs x v vs')
    (hq : ∀ h' k', St w base fs g L ns vs' led h' → Q () (sh s₀ h' k')) : wpAny (model prog w) A (storeName env x v) Q E (sh s₀ h k) := by
  obtain ⟨i, HH1⟩ := hl.at_
  have a := HH1.1
  obtain rfl := HH1.2
  clear HH1
  exact s_loc S he i a hq
theorem g_binop {l r : Expr} {op : Operator} {pos : Pos} {Q : Value → Shared → Prop} {s : Shared}
    (h : wpAny (model prog w) A (eval l env) (fun a s₁ => wpAny (model prog w) A (eval r env) (fun b s₂ => wpAny (model prog w) A (binaryOp op a b) Q E s₂) E s₁) E s) : wpAny (model prog w) A (eval (.BinOp l op r pos) env) Q E s := wpAny_BinOp h
theorem b_mul {i j : Int} {a b : Tok} {Q : Value → Shared → Prop} (hm : IntMulOk i j) (hq : ∀ t k', Q (.int (i * j) t) (sh s₀ h k')) : wpAny (model prog w) A (binaryOp .Mult (.int i a) (.int j b)) Q E (sh s₀ h k) := PyProof.Rows.mul_int (hq _ _) hm
theorem b_shl {i j : Int} {a b : Tok} {Q : Value → Shared → Prop} (h0 : 0 ≤ j) (h1 : j ≤ 1000000) (h2 : i.natAbs < 2 ^ 64) (hq : ∀ t k', Q (.int (i * 2 ^ j.toNat) t) (sh s₀ h k')) : wpAny (model prog w) A (binaryOp .LShift (.int i a) (.int j b)) Q E (sh s₀ h k) := lshift_int_small h0 h1 h2 (hq _ _)
theorem b_shr {i j : Int} {a b : Tok} {Q : Value → Shared → Prop} (h0 : 0 ≤ j) (hq : ∀ t k', Q (.int (i.fdiv (2 ^ j.toNat)) t) (sh s₀ h k')) : wpAny (model prog w) A (binaryOp .RShift (.int i a) (.int j b)) Q E (sh s₀ h k) := rshift_int h0 (hq _ _)
theorem cmp_lt {i j : Int} {a b : Tok} {Q : Value → Shared → Prop} {s : Shared} (hq : Q (.bool (decide (i < j))) s) : wpAny (model prog w) A (compareOp .Lt (.int i a) (.int j b)) Q E s := PyProof.Rows.lt_int hq
theorem cmp_gt {i j : Int} {a b : Tok} {Q : Value → Shared → Prop} {s : Shared} (hq : Q (.bool (decide (j < i))) s) : wpAny (model prog w) A (compareOp .Gt (.int i a) (.int j b)) Q E s := PyProof.Rows.gt_int hq
theorem cmp_le {i j : Int} {a b : Tok} {Q : Value → Shared → Prop} {s : Shared} (hq : Q (.bool (decide (i ≤ j))) s) : wpAny (model prog w) A (compareOp .LtE (.int i a) (.int j b)) Q E s := PyProof.Rows.le_int hq
theorem cmp_ge {i j : Int} {a b : Tok} {Q : Value → Shared → Prop} {s : Shared} (hq : Q (.bool (decide (j ≤ i))) s) : wpAny (model prog w) A (compareOp .GtE (.int i a) (.int j b)) Q E s := PyProof.Rows.ge_int hq
theorem cmp_eq {i j : Int} {a b : Tok} {Q : Value → Shared → Prop} {s : Shared} (hq : Q (.bool (i == j)) s) : wpAny (model prog w) A (compareOp .Eq (.int i a) (.int j b)) Q E s := PyProof.Rows.eq_int hq
theorem cmp_ne {i j : Int} {a b : Tok} {Q : Value → Shared → Prop} {s : Shared} (hq : Q (.bool (i != j)) s) : wpAny (model prog w) A (compareOp .NotEq (.int i a) (.int j b)) Q E s := PyProof.Rows.ne_int hq
theorem t_bool {b : Bool} {Q : Bool → Shared → Prop} {s : Shared} (hq : Q b s) : wpAny (model prog w) A (truthy (.bool b)) Q E s := by cases b <;> exact fun _ _ _ => hq
theorem t_cmp {l r : Expr} {op : CmpOp} {pos : Pos} {whole : Sem Value} {Q : Bool → Shared → Prop} {s : Shared}
    (h : wpAny (model prog w) A (eval l env) (fun a s₁ => wpAny (model prog w) A (eval r env) (fun b s₂ => wpAny (model prog w) A (compareOp op a b) (fun c s₃ => wpAny (model prog w) A (truthy c) Q E s₃) E s₂) E s₁) E s)
    (hm : behindInMarks op r = false := by with_unfolding_all rfl) : wpAny (model prog w) A (PySem.isTrue (.Compare l [op] [r] pos) env whole) Q E s := wpAny_isTrue_Compare1 h hm
theorem e_cmp {l r : Expr} {op : CmpOp} {pos : Pos} {Q : Value → Shared → Prop} {s : Shared}
    (h : wpAny (model prog w) A (eval l env) (fun a s₁ => wpAny (model prog w) A (eval r env) (fun b s₂ => wpAny (model prog w) A (compareOp op a b) Q E s₂) E s₁) E s)
    (hm : behindInMarks op r = false := by with_unfolding_all rfl) : wpAny (model prog w) A (eval (.Compare l [op] [r] pos) env) Q E s := wpAny_Compare1 h hm
theorem t_or {x : Expr} {rest : List Expr} {pos : Pos} {whole : Sem Value} {Q : Bool → Shared → Prop} {s : Shared}
    (h : wpAny (model prog w) A (PySem.isTrue x env (eval x env)) (fun c s' => if c = true then Q true s' else wpAny (model prog w) A (PySem.isTrue (.BoolOp .Or rest pos) env whole) Q E s') E s) :
    wpAny (model prog w) A (PySem.isTrue (.BoolOp .Or (x :: rest) pos) env whole) Q E s := isTrue_or h
theorem t_or0 {pos : Pos} {whole : Sem Value} {Q : Bool → Shared → Prop} {s : Shared} (h : Q false s) : wpAny (model prog w) A (PySem.isTrue (.BoolOp .Or [] pos) env whole) Q E s := isTrue_or_nil h
theorem t_and {x : Expr} {rest : List Expr} {pos : Pos} {whole : Sem Value} {Q : Bool → Shared → Prop} {s : Shared}
    (h : wpAny (model prog w) A (PySem.isTrue x env (eval x env)) (fun c s' => if c = true then wpAny (model prog w) A (PySem.isTrue (.BoolOp .And rest pos) env whole) Q E s' else Q false s') E s) :
    wpAny (model prog w) A (PySem.isTrue (.BoolOp .And (x :: rest) pos) env whole) Q E s := isTrue_and h
theorem t_and0 {pos : Pos} {whole : Sem Value} {Q : Bool → Shared → Prop} {s : Shared} (h : Q true s) : wpAny (model prog w) A (PySem.isTrue (.BoolOp .And [] pos) env whole) Q E s := isTrue_and_nil h
theorem t_not {x : Expr} {pos : Pos} {whole : Sem Value} {Q : Bool → Shared → Prop} {s : Shared} (h : wpAny (model prog w) A (PySem.isTrue x env (eval x env)) (fun c s' => Q (!c) s') E s) :
    wpAny (model prog w) A (PySem.isTrue (.UnaryOp .Not x pos) env whole) Q E s := isTrue_not h
theorem t_name {x : Str} {pos : Pos} {whole : Sem Value} {Q : Bool → Shared → Prop} {s : Shared} (h : wpAny (model prog w) A whole (fun v s₁ => wpAny (model prog w) A (truthy v) Q E s₁) E s) :
    wpAny (model prog w) A (PySem.isTrue (.Name x pos) env whole) Q E s := isTrue_plain h
theorem l_len_bytes {b : Array UInt8} {t : Tok} {ks : List Int} {Q : Value → Shared → Prop} (hk : KBw.bInts b = ks) (hz : ks.length ≤ 16777216) (hq : ∀ t' k', Q (.int ks.length t') (sh s₀ h k')) :
    wpAny (model prog w) A (call (.builtin "len") [.bytes b t]) Q E (sh s₀ h k) := KBw.len_K hk (by omega) (hq _ _)
theorem sub_any {value slice : Expr} {pos : Pos} {Q : Value → Shared → Prop} {s : Shared}
    (h : wpAny (model prog w) A (eval value env) (fun o s₁ => wpAny (model prog w) A (eval slice env) (fun i s₂ => wpAny (model prog w) A (subscriptTail value slice o i) Q E s₂) E s₁) E s) :
    wpAny (model prog w) A (eval (.Subscript value slice pos) env) Q E s := Subscript_ h
theorem sub_bytes {value slice : Expr} {b : Array UInt8} {t u : Tok} {i : Int} {ks : List Int} {Q : Value → Shared → Prop} (hk : KBw.bInts b = ks) (hz : ks.length ≤ 16777216) (h0 : 0 ≤ i) (h1 : i < ks.length)
    (hq : ∀ t' k', Q (.int (ks.getD i.toNat 0) t') (sh s₀ h k'))
    (hs : subscripted slice false (.bytes b t) (.int i u) = operate [.bytes b t, .int i u] (getItem (.bytes b t) (.int i u)) := by with_unfolding_all rfl)
    (ht : ∀ r, letTemporaryGo value (.bytes b t) r = pure () := by intro _; with_unfolding_all rfl) :
    wpAny (model prog w) A (subscriptTail value slice (.bytes b t) (.int i u)) Q E (sh s₀ h k) := KBw.item_K (s := sh s₀ h k) hk (by omega) h0 h1 (fun t' k' _ _ => hq t' k') hs ht
theorem cut_bytes {value lo hi : Expr} {p pos : Pos} {Q : Value → Shared → Prop} {s : Shared}
    (h : wpAny (model prog w) A (eval value env) (fun o s₁ => wpAny (model prog w) A (eval lo env) (fun l s₂ => wpAny (model prog w) A (eval hi env) (fun r s₃ =>
      Ex16 fun (h₃ : Heap) (k₃ : Nat) (b : Array UInt8) (t u v : Tok) (i j : Int) (ks : List Int) (base g : Heap) (fs : List Env) (L : Addr) (ns : List Str) (vs : List (Option Value)) (led : List (Addr × Obj)) => An8 (s₃ = sh s₀ h₃ k₃) (o = .bytes b t) (l = .int i u) (r = .int j v) (St w base fs g L ns vs led h₃) (KBw.bInts b = ks) (ks.length ≤ 16777216) (∀ h' t' k', St w base fs g L ns vs led h' → KBw.bInts (KBy.picked b (some i) (some j)) = (ks.drop (clipAt ks.length i)).take (clipAt ks.length j - clipAt ks.length i) → Q (.bytes (KBy.picked b (some i) (some j)) t') (sh s₀ h' k'))) E s₂) E s₁) E s)
    (hs : ∀ a b t, subscripted (.Slice (some lo) (some hi) none p) false (.bytes b t) (.ref a) = operate [.ref a, .bytes b t] (getItem (.bytes b t) (.ref a)) := by intro _ _ _; with_unfolding_all rfl)
    (ht : ∀ b t r, letTemporaryGo value (.bytes b t) r = pure () := by intro _ _ _; with_unfolding_all rfl) :
    wpAny (model prog w) A (eval (.Subscript value (.Slice (some lo) (some hi) none p) pos) env) Q E s := by
  refine Subscript_ (wpAny_mono h (fun o s₁ h₁ => ?_) fun _ _ x => x)
  refine wpAny_Slice ?_
  rw [evalPart_some]
  refine wpAny_mono h₁ (fun l s₂ h₂ => ?_) fun _ _ x => x
  rw [evalPart_some]
  refine wpAny_mono h₂ (fun r s₃ h₃ => ?_) fun _ _ x => x
  rw [evalPart_none]
  refine wpAny_pure ?_
  obtain ⟨H, k₃, b, t, u, v, i, j, ks, base, g, fs, L, ns, vs, led, rfl, rfl, rfl, rfl, S, hk, hz, hq⟩ := h₃
  refine KBc.slice_K (s := sh s₀ H k₃) S.toFr S.toNews hk (.int _ _) (.int _ _) hz (fun h' t' k' F' N' hb => ?_) (hs _ _ _) (ht _ _)
  exact hq h' t' k' (S.ofNews F' S.len N' S.ndl fun p hp => (S.ldg p hp).2.2) hb
end
end
section
theorem KP_61 (w : World) : keepIn (hd.heap_39 w.params) (.ref 61) = true := by k_is
theorem and_in {w : World} {base g h : Heap} {fs : List Env} {L : Addr} {ns : List Str} {vs : List (Option Value)} {led : List (Addr × Obj)} {s₀ : Shared} {k : Nat} {P : Prop} (S : St w base fs g L ns vs led h) (q : P) : (hd.heap_39 w.params).In (sh s₀ h k).heap ∧ P := ⟨S.Xh, q⟩
theorem call_app0 {prog : Program} {w : World} {A : Around} {E : Value → Shared → Prop} {s : Shared} {f : Value} {l : List Value} {Q : Value → Shared → Prop} (q : wpAny (model prog w) A (call f l) Q E s) : wpAny (model prog w) A (call f ([] ++ l)) Q E s := q
theorem call_app1 {prog : Program} {w : World} {A : Around} {E : Value → Shared → Prop} {s : Shared} {f a : Value} {l : List Value} {Q : Value → Shared → Prop} (q : wpAny (model prog w) A (call f (a :: l)) Q E s) : wpAny (model prog w) A (call f ([a] ++ l)) Q E s := q
end
local macro_rules | `(tactic| walk_at "loc") => `(tactic| repeat with_reducible first | exact Loc.here | exact SetL.here | exact GIn.here | exact LedAt.here | apply Loc.there | apply SetL.there | apply GIn.there | apply LedAt.there)
local macro_rules | `(tactic| walk_at "st") => `(tactic| with_reducible assumption)
local macro_rules | `(tactic| walk_at "keep") => `(tactic| k_is)
local macro_rules | `(tactic| walk_at "go1") => `(tactic| first
  | (with_reducible first | refine ret_v ?_ | refine ret_n ?_ | refine seq_next ?_ | refine seq_ret ?_ | refine x_nil ?_ | refine x_ret ?_ | refine x_asg ?_ | refine x_aset ?_ | refine x_iset ?_ | refine x_if ?_ | refine x_pass ?_ | refine c_none ?_ | refine c_bool ?_ | refine g_binop ?_ | refine t_cmp ?_ | refine e_cmp ?_ | refine t_or ?_ | refine t_or0 ?_ | refine t_and ?_ | refine t_and0 ?_ | refine t_not ?_ | refine t_name ?_ | refine t_bool ?_ | refine cmp_lt ?_ | refine cmp_gt ?_ | refine cmp_le ?_ | refine cmp_ge ?_ | refine cmp_eq ?_ | refine cmp_ne ?_ | refine c_name ?_ | refine w_bi ?_ | refine w_ty ?_ | refine w_ty0 ?_ | refine call_app0 ?_ | refine call_app1 ?_ | refine sp_cons ?_ | refine sp_nil ?_)
  | (with_reducible refine' g_loc ?k1 ?k2 ?hl ?_; (case k1 => walk_at "st"); (case k2 => walk_at "st"); (case hl => walk_at "loc"))
  | (with_reducible refine' g_glob ?k1 ?k2 ?k3 ?hl ?_; (case k1 => walk_at "st"); (case k2 => walk_at "st"); (case k3 => walk_at "st"); (case hl => walk_at "loc"))
  | (with_reducible refine' g_set ?k1 ?k2 ?hl ?_; (case k1 => walk_at "st"); (case k2 => walk_at "st"); (case hl => walk_at "loc"); intro _ _ _)
  | (with_reducible refine c_int ?_; intro _ _)
  | (with_reducible refine c_str ?_; intro _ _)
  | (with_reducible refine b_add ?_; intro _ _)
  | (with_reducible refine b_sub ?_; intro _ _)
  | (with_reducible refine b_mul ?hm ?_; (case hm => first | exact IntMulOk.of_left (by decide +kernel) | exact IntMulOk.of_right (by decide +kernel)); intro _ _)
  | (with_reducible refine b_or ?_; intro _ _)
  | (with_reducible refine b_and ?_; intro _ _)
  | (with_reducible refine w_fun ?hk ?_; (case hk => walk_at "keep"))
  | (with_reducible refine x_raise ?hk ?_; (case hk => exact Ax.hd (by assumption)))
  | (with_reducible refine' and_in ?k1 ?_; (case k1 => walk_at "st"))
  | (with_reducible refine l_len_bytes (by assumption) (by assumption) ?_; intro _ _))
local macro_rules | `(tactic| walk_at "go") => `(tactic| repeat' walk_at "go1")
section
theorem hideNil (h : Heap) : h.StaysIn (hideAll h []) := fun b o e => hideAll_get _ e (by simp)
section
variable {prog : Program} {w : World} {A : Around} {E : Value → Shared → Prop} {s₀ : Shared} {h hc : Heap} {k : Nat} {base g g' gc : Heap} {fs fs' : List Env} {L L' : Addr} {ns ns' : List Str} {vs vs' : List (Option Value)} {led led' ledc : List (Addr × Obj)}
  {env : Env} {cl : List (Str × Addr)} {Q : Value → Shared → Prop}
theorem St.regain (S : St w base fs g L ns vs led h) (S₂ : St w base fs' g' L ns vs led' hc) (hg : g.StaysIn g') : St w base fs g L ns vs led' hc :=
  ⟨S.X, S.T, S.stays, S.frames, S.gL, S.low, S.len, S.nd, S₂.loc, stays_trans hg S₂.keep, fun p hp => ⟨(S₂.ldg p hp).1, (S₂.ldg p hp).2.1, by
    cases q : g.get? p.1 with
    | none => rfl
    | some o => have := hg _ _ q; rw [(S₂.ldg p hp).2.2] at this; cases this⟩, S₂.ndl⟩
theorem St.ret0 (S : St w base fs g L ns vs led h) (S' : St w base fs' gc L' ns' vs' ledc hc) (hst : h.StaysIn gc) : St w base fs g L ns vs led hc := by
  obtain ⟨g', a, b, c, d⟩ := S.back0 S' hst (sub := []) (fun p hp => nomatch hp) (by simp)
  exact S.regain d a
theorem kindOf_of {env : Env} {scope : Scope} {x : Str} {kd : NameKind} (hs : env.scope = scope) (h : (scope.names.lookup x == some kd) = true) : env.kindOf x = some kd := by
  subst hs; exact beq_iff_eq.mp h
theorem c_check_room {b : Array UInt8} {t ta tc : Tok} {ks : List Int} {at_ cnt : Int} (S : St w base fs g L ns vs led h) (hA : Ax prog A fs 4) (hk : KBw.bInts b = ks) (hz : ks.length ≤ 16777216)
    (hok : 0 ≤ at_ → at_ + cnt ≤ ks.length → ∀ h' k', St w base fs g L ns vs led h' → Q .none (sh s₀ h' k'))
    (her : (at_ < 0 ∨ ks.length < at_ + cnt) → Er E s₀ base fs (hideAll h []) at_) : wpAny (model prog w) A (call (.ref 70) [.bytes b t, .int at_ ta, .int cnt tc]) Q E (sh s₀ h k) := by
  refine enter (ns' := ["data", "at", "count"]) (args' := [.bytes b t, .int at_ ta, .int cnt tc]) (n := 3) (vs' := [some (.bytes b t), some (.int at_ ta), some (.int cnt tc)]) S hA (by k_is) (by k_is) (BindsTo.of_eq rfl) [] (fun _ h => nomatch h) (by simp) (by decide +kernel) (by decide +kernel) rfl (by decide) (by decide +kernel) rfl rfl rfl rfl ?_
  intro env' L' h₁ k₁ A' E' he hs hA' hE hL' S'
  have hG : EnvG w env' [("len", .builtin "len"), ("TableFault", .ref 61)] := .cons (kindOf_of hs (by decide +kernel)) (G_len w) (.cons (kindOf_of hs (by decide +kernel)) (G_TableFault w) .nil)
  walk_at "go"
  refine ite_c (fun hc => ite_t rfl ?_) fun hc => ?_
  · walk_at "go"
    exact call_fault S' hA' hE (stays_refl _) (her (by simp at hc; omega))
  · walk_at "go"
    simp only [decide_eq_false_iff_not] at hc
    refine ite_c (fun hc2 => ite_t rfl ?_) fun hc2 => ?_
    · walk_at "go"
      exact call_fault S' hA' hE (stays_refl _) (her (by simp at hc2; omega))
    · walk_at "go"
      simp only [decide_eq_false_iff_not] at hc2
      refine ite_f rfl ?_
      walk_at "go"
      exact hok (by omega) (by omega) _ _ (S.ret0 S' (hideNil h))
end
end
section
structure Wk (prog : Program) (w : World) (A : Around) (g : Heap) (I : Addr) (n : Nat) (P : Nat → Value → Prop) (h' : Heap) : Prop where
  ex : Ex2 fun fp StI => An4 (Walks prog w A I fp [I] n P StI) ((∀ j h, StI j h → ∃ o, h.get? I = some o)) (StI 0 h') ((∀ b ∈ fp, b = I ∨ ∃ o, g.get? b = some o))
theorem rsz {a b : Int} {n : Nat} (hn : (n : Int) = max 0 (b - a)) : Builtin.Range.rangeSize a b 1 = (n : Int) := by
  unfold Builtin.Range.rangeSize
  split <;> simp at * <;> omega
theorem rsm {a b : Int} {n : Nat} (hn : (n : Int) = max 0 (b - a)) (ha : 0 ≤ a) (ha2 : a < 2 ^ 32) (hb : b < 2 ^ 32) (hb0 : -(2 ^ 32) < b) : Builtin.Range.small a b 1 = true := by
  unfold Builtin.Range.small
  rw [rsz hn]
  simp [Builtin.Range.rangeFitsLong]
  omega
section
variable {prog : Program} {w : World} {A : Around} {E : Value → Shared → Prop} {s₀ : Shared} {h hc : Heap} {k : Nat} {base g g' gc : Heap} {fs fs' : List Env} {L L' : Addr} {ns ns' : List Str} {vs vs' : List (Option Value)} {led led' ledc : List (Addr × Obj)}
  {env : Env} {cl : List (Str × Addr)}
theorem it_bytes {b : Array UInt8} {t : Tok} {ks : List Int} {Q : Value → Shared → Prop} (hh : A.handled = none) (S : St w base fs g L ns vs led h) (hk : KBw.bInts b = ks)
    (hq : ∀ I oI h' k', Wk prog w A g I ks.length (fun i v => ∃ u, v = .int (ks.getD i 0) u) h' → St w base fs g L ns vs ((I, oI) :: led) h' → Q (.ref I) (sh s₀ h' k')) : wpAny (model prog w) A (pyIter (.bytes b t)) Q E (sh s₀ h k) := by
  refine KBw.pyIter_bytes ?_
  have S1 := S.alloc { cls := .type "bytes_iterator", data := .fields #[.bytes b t, .int 0 0] } rfl
  have W := KBw.walks (prog := prog) (w := w) hh h.objs.size b t
  have W' : Walks prog w A h.objs.size [h.objs.size] [h.objs.size] ks.length (fun i v => ∃ u, v = .int (ks.getD i 0) u) (fun i h' => KBw.IsBytesIter h' h.objs.size b t i) := by
    subst hk
    rw [KBw.ints_length]
    exact ⟨W.sub, W.frame, fun i s Q E hi st hQ => W.item i s Q E hi st fun v h' tk hp => hQ v h' tk (by
      obtain ⟨c, u, HH1⟩ := ex2 hp
      have hc := HH1.1
      obtain rfl := HH1.2
      clear HH1
      refine ⟨u, ?_⟩
      rw [List.getD_eq_getElem?_getD, KBw.ints_get hc]; rfl), W.done, W.self⟩
  refine hq _ _ _ _ ⟨_, _, W', ?_, ⟨_, Heap.get?_push_size _ rfl, rfl, rfl⟩, fun b hb => .inl (List.mem_singleton.mp hb)⟩ S1
  rintro j h ⟨o, ho, _⟩; exact ⟨o, ho⟩
theorem it_range {r : Addr} {a b : Int} {t u v : Tok} {Q : Value → Shared → Prop} (n : Nat) (hh : A.handled = none) (S : St w base fs g L ns vs led h) (hr : h.get? r = some { cls := .type "range", data := .fields #[.int a t, .int b u, .int 1 v] }) (hn : (n : Int) = max 0 (b - a)) (ha : 0 ≤ a) (ha2 : a < 2 ^ 32) (hb : b < 2 ^ 32) (hb0 : -(2 ^ 32) < b)
    (hq : ∀ I oI h' k', Wk prog w A g I n (fun i v => ∃ u, v = .int (a + i) u) h' → St w base fs g L ns vs ((I, oI) :: led) h' → Q (.ref I) (sh s₀ h' k')) : wpAny (model prog w) A (pyIter (.ref r)) Q E (sh s₀ h k) := by
  have hsz := rsz hn
  have hsm := rsm hn (by omega) (by omega) (by omega) (by omega)
  refine wpAny_pyIter_range hr hsm ?_
  have S1 := S.alloc { cls := .type "range_iterator", data := .fields #[rawInt a, rawInt (Builtin.Range.rangeSize a b 1), rawInt 1] } rfl
  have W := Walks.range (prog := prog) (w := w) hh h.objs.size a 1 n
  simp only [Int.mul_one] at W
  refine hq _ _ _ _ ⟨_, _, W, ?_, ?_, fun b hb => .inl (List.mem_singleton.mp hb)⟩ S1
  · rintro j h ho; exact ⟨_, ho⟩
  · show IsRangeIter _ _ _ _ _
    rw [hsz]
    have e := Heap.get?_push_size h (o := { cls := .type "range_iterator", data := .fields #[rawInt a, rawInt (n : Int), rawInt 1] }) rfl
    simp only [IsRangeIter, Int.add_zero, Int.sub_zero, Int.natCast_zero]
    exact e
theorem it_list {l : Addr} {xs : List Value} {Q : Value → Shared → Prop} (hh : A.handled = none) (S : St w base fs g L ns vs led h) {o : Obj} (ho : g.get? l = some o) (hl : LO o xs)
    (hq : ∀ I oI h' k', Wk prog w A g I xs.length (fun i v => xs[i]? = some v) h' → St w base fs g L ns vs ((I, oI) :: led) h' → Q (.ref I) (sh s₀ h' k')) : wpAny (model prog w) A (pyIter (.ref l)) Q E (sh s₀ h k) := by
  refine wpAny_pyIter_list (hl.isList (S.get ho)) ?_
  have S1 := S.alloc { cls := .type "list_iterator", data := .fields #[.ref l, .int 0 0] } rfl
  have hlt : l < h.objs.size := Heap.lt_size (S.get ho)
  have W := Walks.list (prog := prog) (w := w) hh h.objs.size l (Nat.ne_of_lt hlt) xs.toArray
  simp only [List.size_toArray, List.getElem?_toArray] at W
  refine hq _ _ _ _ ⟨_, _, W, ?_, ⟨⟨_, Heap.get?_push_size _ rfl, rfl, rfl⟩, hl.isList (S1.get ho)⟩, fun b hb => ?_⟩ S1
  · rintro j h ⟨⟨o, ho, _⟩, _⟩; exact ⟨o, ho⟩
  · simp only [List.mem_cons, List.not_mem_nil, or_false] at hb
    rcases hb with rfl | rfl
    · exact .inl rfl
    · exact .inr ⟨_, ho⟩
structure TO (o : Obj) (xs : List Value) : Prop where
  cls : o.cls = .type "tuple"
  data : ∃ n, o.data = .seq xs.toArray n
theorem TO.isTup {o : Obj} {xs : List Value} (x : TO o xs) {h : Heap} {a : Addr} (ho : h.get? a = some o) : h.IsTuple a xs.toArray := let ⟨n, e⟩ := x.data; ⟨o, ho, x.cls, n, e⟩
theorem it_tuple {l : Addr} {xs : List Value} {Q : Value → Shared → Prop} (hh : A.handled = none) (S : St w base fs g L ns vs led h) {o : Obj} (ho : g.get? l = some o) (hl : TO o xs)
    (hq : ∀ I oI h' k', Wk prog w A g I xs.length (fun i v => xs[i]? = some v) h' → St w base fs g L ns vs ((I, oI) :: led) h' → Q (.ref I) (sh s₀ h' k')) : wpAny (model prog w) A (pyIter (.ref l)) Q E (sh s₀ h k) := by
  refine wpAny_pyIter_tuple (hl.isTup (S.get ho)) ?_
  have S1 := S.alloc { cls := .type "tuple_iterator", data := .fields #[.ref l, .int 0 0] } rfl
  have hlt : l < h.objs.size := Heap.lt_size (S.get ho)
  have W := Walks.tuple (prog := prog) (w := w) hh h.objs.size l (Nat.ne_of_lt hlt) xs.toArray
  simp only [List.size_toArray, List.getElem?_toArray] at W
  refine hq _ _ _ _ ⟨_, _, W, ?_, ⟨⟨_, Heap.get?_push_size _ rfl, rfl, rfl⟩, hl.isTup (S1.get ho)⟩, fun b hb => ?_⟩ S1
  · rintro j h ⟨⟨o, ho, _⟩, _⟩; exact ⟨o, ho⟩
  · simp only [List.mem_cons, List.not_mem_nil, or_false] at hb
    rcases hb with rfl | rfl
    · exact .inl rfl
    · exact .inr ⟨_, ho⟩
theorem f_loop {x : Str} {px : Pos} {body : List Stmt} {Q : Flow → Shared → Prop} {I : Addr} {oI : Obj} {n : Nat} {P : Nat → Value → Prop} (i : Nat)
    (J : Nat → Heap → List (Option Value) → List (Addr × Obj) → Prop)
    (he : EnvOk env L ns cl) (hE : PassesOwn (model prog w) A env E) (hn : ns[i]? = some x)
    (W : Wk prog w A g I n P h) (S : St w base fs g L ns vs ((I, oI) :: led) h) (h0 : J 0 g vs led)
    (turn : ∀ j v g' vs' led' h' k' oI', j < n → P j v → J j g' vs' led' → g.StaysIn g' → St w base fs g' L ns (vs'.set i (some v)) ((I, oI') :: led') h' →
      wpAny (model prog w) A (execs body env) (TurnQ s₀ w base fs g' L ns I oI' (J (j + 1)) (fun s' => Q .next s') (fun v s' => Q (.ret v) s')) E (sh s₀ h' k'))
    (done : ∀ g' vs' led' h' k', J n g' vs' led' → g.StaysIn g' → St w base fs g' L ns vs' led' h' → Q .next (sh s₀ h' k')) :
    codeAny (model prog w) A (.forLoop (.Name x px) (.ref I) body [] env) (fun r s' => match r with | .ok f => Q f s' | .error e => cameBackBy (model prog w) A env E e s') (sh s₀ h k) := by
  obtain ⟨fp, StI, W, hI, hst, hfp⟩ := W.ex
  exact for_core i J he hE hn W hI hst S hfp h0 turn done
end
end
section
section
inductive FL : List (Str × Value) → Str → Value → Prop
  | here {x : Str} {v : Value} {r : List (Str × Value)} : FL ((x, v) :: r) x v
  | there {x y : Str} {u v : Value} {r : List (Str × Value)} : (x == y) = false → FL r x v → FL ((y, u) :: r) x v
theorem FL.look {fl : List (Str × Value)} {x : Str} {v : Value} (h : FL fl x v) : fl.lookup x = some v := by
  induction h with
  | here => simp
  | there hn _ ih => rw [List.lookup_cons, hn]; exact ih
section
variable {prog : Program} {w : World} {A : Around} {E : Value → Shared → Prop} {s₀ : Shared} {h hc : Heap} {k : Nat} {base g g' gc : Heap} {fs fs' : List Env} {L L' : Addr} {ns ns' : List Str} {vs vs' : List (Option Value)} {led led' ledc : List (Addr × Obj)}
  {env : Env} {cl : List (Str × Addr)} {Q : Value → Shared → Prop}
theorem St.ret1 (S : St w base fs g L ns vs led h) {i : Nat} {d : Addr} {o o' : Obj} (hi : led[i]? = some (d, o)) (S' : St w base fs' gc L' ns' vs' ledc hc) (hst : (hideAll h [d]).StaysIn gc) (hm : (d, o') ∈ ledc) : St w base fs g L ns vs (led.set i (d, o')) hc := by
  obtain ⟨g', a, b, c, e⟩ := S.back1 hi S' hst hm
  exact S.regain e a
theorem e_attr {x a : Str} {xp p : Pos} {s : Shared} (hq : wpAny (model prog w) A (eval (.Name x xp) env) (fun o s₁ => wpAny (model prog w) A (getAttr o a true) Q E s₁) E s) :
    wpAny (model prog w) A (eval (.Attribute (.Name x xp) a p) env) Q E s := Attribute_name hq
theorem ga_led {x C dx : Addr} {od : Obj} {fl : List (Str × Value)} {a : Str} {v : Value} {i : Nat} (S : St w base fs g L ns vs led h) (hx : g.get? x = some (instObj C dx)) (hl : LedAt led i dx od) (hD : IsD od fl) (ok : AOk w C a) (hf : FL fl a v) (hh : handedIn v = true)
    (hq : ∀ k', Q v (sh s₀ h k')) : wpAny (model prog w) A (getAttr (.ref x) a true) Q E (sh s₀ h k) := getattr_i S (S.get hx) (S.at_ hl.at_) hD ok hf.look hh hq
theorem ga_froz {x C dx : Addr} {od : Obj} {fl : List (Str × Value)} {a : Str} {v : Value} (S : St w base fs g L ns vs led h) (hx : g.get? x = some (instObj C dx)) (hl : g.get? dx = some od) (hD : IsD od fl) (ok : AOk w C a) (hf : FL fl a v) (hh : handedIn v = true)
    (hq : ∀ k', Q v (sh s₀ h k')) : wpAny (model prog w) A (getAttr (.ref x) a true) Q E (sh s₀ h k) := getattr_i S (S.get hx) (S.get hl) hD ok hf.look hh hq
end
theorem or_byte {a c : Int} (ha : 0 ≤ a) (h0 : 0 ≤ c) (h1 : c < 256) : Builtin.bitOr (a * 2 ^ (8 : Int).toNat) c = 256 * a + c := by
  obtain ⟨x, rfl⟩ := Int.eq_ofNat_of_zero_le ha
  obtain ⟨y, rfl⟩ := Int.eq_ofNat_of_zero_le h0
  have e1 : ((x : Int) * 2 ^ (8 : Int).toNat) = ((x * 256 : Nat) : Int) := by
    have : (8 : Int).toNat = 8 := rfl
    rw [this]; omega
  rw [e1, bitOr_and, bitAnd_pp (by omega) (by omega)]
  have h2 : y < 2 ^ 8 := by omega
  have h3 := Nat.shiftLeft_add_eq_or_of_lt h2 x
  rw [Nat.shiftLeft_eq] at h3
  have h4 := nat_or_add_and (x * 2 ^ 8) y
  rw [← h3] at h4
  have e2 : ((x * 256 : Nat) : Int).toNat = x * 2 ^ 8 := by omega
  have e3 : ((y : Nat) : Int).toNat = y := by omega
  rw [e2, e3]
  have h5 : x * 2 ^ 8 &&& y = 0 := by omega
  rw [h5]
  omega
theorem ints_range {b : Array UInt8} {ks : List Int} (hk : KBw.bInts b = ks) (i : Nat) : 0 ≤ ks.getD i 0 ∧ ks.getD i 0 < 256 := KBw.getD_in fun k hm => KBw.ints_in (hk ▸ hm)
noncomputable def notSlice : Expr → Bool
  | .Slice .. => false
  | _ => true
theorem sub_idx {prog : Program} {w : World} {A : Around} {E : Value → Shared → Prop} {env : Env} {value slice : Expr} {pos : Pos} {Q : Value → Shared → Prop} {s : Shared}
    (h : wpAny (model prog w) A (eval value env) (fun o s₁ => wpAny (model prog w) A (eval slice env) (fun i s₂ => wpAny (model prog w) A (subscriptTail value slice o i) Q E s₂) E s₁) E s) (_ : notSlice slice = true := by with_unfolding_all rfl) :
    wpAny (model prog w) A (eval (.Subscript value slice pos) env) Q E s := Subscript_ h
theorem er_pass0 {prog : Program} {w : World} {A : Around} {E E' : Value → Shared → Prop} {s₀ : Shared} {base g G : Heap} {fs : List Env} {env : Env} {L : Addr} {ns : List Str} {vs : List (Option Value)} {led : List (Addr × Obj)} {n : Int} {h₂ : Heap} {d : Nat} (hA : Ax prog A (env :: fs) d) (hE : ExOk prog w A env E E') (S : St w base (env :: fs) g L ns vs led h₂) (hG : G.StaysIn g)
    (her : Er E s₀ base fs G n) : Er E' s₀ base (env :: fs) (hideAll h₂ []) n := er_pass (foot := []) hA hE S hG (fun _ hp => nomatch hp) her
noncomputable abbrev inF (b : Array UInt8) (t : Tok) (n : Int) (u : Tok) : List (Str × Value) := [("data", .bytes b t), ("at", .int n u)]
local macro_rules | `(tactic| walk_at "aok") => `(tactic| with_reducible first | exact A_OctetsIn_data _ | exact A_OctetsIn_at _ | exact A_OctetsOut_made _ | exact A_Coverage_glyphs _ | exact A_Reverse_mapping _ | exact A_Reverse_back _ | exact A_Reverse_ahead _)
local macro_rules | `(tactic| walk_at "fl") => `(tactic| repeat with_reducible first | exact FL.here | refine FL.there (by decide +kernel) ?_)
local macro_rules | `(tactic| walk_at "attr") => `(tactic| first
  | with_reducible refine sub_idx ?_
  | with_reducible refine e_attr ?_
  | with_reducible refine x_expr (EnvOk.kind (by assumption)) ?_
  | (with_reducible refine' ga_led ?k1 ?k2 ?k3 ?k4 ?k5 ?k6 ?k7 ?_; (case k1 => walk_at "st"); (case k2 => walk_at "st"); (case k3 => walk_at "loc"); (case k4 => walk_at "st"); (case k5 => walk_at "aok"); (case k6 => walk_at "fl"); (case k7 => rfl); intro _)
  | (with_reducible refine' ga_froz ?k1 ?k2 ?k3 ?k4 ?k5 ?k6 ?k7 ?_; (case k1 => walk_at "st"); (case k2 => walk_at "st"); (case k3 => walk_at "st"); (case k4 => walk_at "st"); (case k5 => walk_at "aok"); (case k6 => walk_at "fl"); (case k7 => rfl); intro _))
local macro_rules | `(tactic| walk_at "go") => `(tactic| repeat' first | walk_at "go1" | walk_at "attr")
section
variable {prog : Program} {w : World} {A : Around} {E : Value → Shared → Prop} {s₀ : Shared} {h hc : Heap} {k : Nat} {base g g' gc : Heap} {fs fs' : List Env} {L L' : Addr} {ns ns' : List Str} {vs vs' : List (Option Value)} {led led' ledc : List (Addr × Obj)}
  {env : Env} {cl : List (Str × Addr)} {Q : Value → Shared → Prop}
noncomputable abbrev JJ17_1 (b : Array UInt8) (t : Tok) (ta : Tok) (tc : Tok) (ks : List Int) (a : Nat) : Nat → Heap → List (Option Value) → List (Addr × Obj) → Prop :=
  fun j g' vs' led' => Ex3 fun (T : Int) (u : Tok) (c : Option Value) => An3 (vs' = [some (.bytes b t), some (.int a ta), some (.int 2 tc), some (.int T u), c]) (led' = []) (((j = 0 ∧ T = 0) ∨ (j = 1 ∧ T = ks.getD a 0) ∨ (j = 2 ∧ T = 256 * ks.getD a 0 + ks.getD (a + 1) 0)))
theorem c_number_at {b : Array UInt8} {t ta tc : Tok} {ks : List Int} {at_ : Int} (S : St w base fs g L ns vs led h) (hA : Ax prog A fs 5) (hk : KBw.bInts b = ks) (hz : ks.length ≤ 16777216)
    (hok : 0 ≤ at_ → at_ + 2 ≤ ks.length → ∀ h' k' t', St w base fs g L ns vs led h' → Q (.int (256 * ks.getD at_.toNat 0 + ks.getD (at_.toNat + 1) 0) t') (sh s₀ h' k'))
    (her : (at_ < 0 ∨ ks.length < at_ + 2) → Er E s₀ base fs (hideAll h []) at_) : wpAny (model prog w) A (call (.ref 77) [.bytes b t, .int at_ ta, .int 2 tc]) Q E (sh s₀ h k) := by
  refine enter (ns' := ["data", "at", "count", "total", "code"]) (args' := [.bytes b t, .int at_ ta, .int 2 tc]) (n := 3) (vs' := [some (.bytes b t), some (.int at_ ta), some (.int 2 tc), none, none]) S hA (by k_is) (by k_is) (BindsTo.of_eq rfl) [] (fun _ h => nomatch h) (by simp) (by decide +kernel) (by decide +kernel) rfl (by decide) (by decide +kernel) rfl rfl rfl rfl ?_
  intro env' L' h₁ k₁ A' E' he hs hA' hE hL' S'
  have hG : EnvG w env' [("check_room", .ref 70)] := .cons (kindOf_of hs (by decide +kernel)) (G_check_room w) .nil
  walk_at "go"
  refine c_check_room S' hA' hk hz (fun h0 h1 h₂ k₂ S₂ => ⟨rfl, ?_⟩) fun hc => er_pass0 hA' hE S' (stays_refl _) (her hc)
  walk_at "go"
  rename_i h₃ k₃ S₃
  refine x_for ?_
  refine cut_bytes (s₀ := s₀) ?_
  walk_at "go"
  refine ⟨_, _, _, _, _, _, _, _, _, _, _, _, _, _, _, _, rfl, rfl, rfl, rfl, S₃, hk, hz, fun h₄ t₄ k₄ S₄ hcut => ?_⟩
  obtain ⟨a, rfl⟩ := Int.eq_ofNat_of_zero_le h0
  have hlo : clipAt ks.length (a : Int) = a := by rw [clipAt_nat]; omega
  have hhi : clipAt ks.length ((a : Int) + 2) = a + 2 := by rw [show ((a : Int) + 2) = ((a + 2 : Nat) : Int) by omega, clipAt_nat]; omega
  rw [hlo, hhi, show a + 2 - a = 2 by omega] at hcut
  have hlen : ((ks.drop a).take 2).length = 2 := by rw [List.length_take, List.length_drop]; omega
  have r0 := ints_range hk a
  have r1 := ints_range hk (a + 1)
  have g0 : ((ks.drop a).take 2).getD 0 0 = ks.getD a 0 := by
    rw [List.getD_eq_getElem?_getD, List.getElem?_take, if_pos (by omega), List.getElem?_drop, List.getD_eq_getElem?_getD]; rfl
  have g1 : ((ks.drop a).take 2).getD 1 0 = ks.getD (a + 1) 0 := by
    rw [List.getD_eq_getElem?_getD, List.getElem?_take, if_pos (by omega), List.getElem?_drop, List.getD_eq_getElem?_getD]
  refine it_bytes hA'.hd S₄ hcut fun I oI h₅ k₅ W S₅ => ?_
  refine f_loop 4 (JJ17_1 b t ta tc ks a)
    he hE.pass rfl W S₅ ⟨0, _, none, rfl, rfl, .inl ⟨rfl, rfl⟩⟩ ?_ ?_
  · rintro j v g' vs' led' h₆ k₆ oI' hj ⟨uv, rfl⟩ ⟨T, u, c, rfl, rfl, hT⟩ hg S₆
    rw [hlen] at hj
    dsimp only [List.set] at S₆
    walk_at "go"
    refine b_shl (by decide) (by decide) (by omega) fun t₇ k₇ => ?_
    walk_at "go"
    rename_i h₇ k₈ S₇
    refine turn_next S₇ (stays_refl _) ⟨_, _, _, rfl, rfl, ?_⟩
    rcases hT with ⟨rfl, rfl⟩ | ⟨rfl, rfl⟩ | ⟨rfl, rfl⟩
    · refine .inr (.inl ⟨rfl, ?_⟩)
      rw [g0, or_byte (by decide) r0.1 r0.2]; omega
    · refine .inr (.inr ⟨rfl, ?_⟩)
      rw [g1, or_byte r0.1 r1.1 r1.2]
    · omega
  · rintro g' vs' led' h₆ k₆ ⟨T, u, c, rfl, rfl, hT⟩ hg S₆
    rw [hlen] at hT
    have hT' : T = 256 * ks.getD a 0 + ks.getD (a + 1) 0 := by omega
    walk_at "go"
    rw [hT']
    exact hok (by omega) (by omega) _ _ _ (S.ret0 S₆ (stays_trans (hideNil h) hg))
end
end
end
section
section
inductive FN : List (Str × Value) → Str → Prop
  | nil {x : Str} : FN [] x
  | cons {x y : Str} {u : Value} {r : List (Str × Value)} : (x == y) = false → FN r x → FN ((y, u) :: r) x
theorem FN.look {fl : List (Str × Value)} {x : Str} (h : FN fl x) : fl.lookup x = none := by
  induction h with
  | nil => rfl
  | cons hn _ ih => rw [List.lookup_cons, hn]; exact ih
section
variable {prog : Program} {w : World} {A : Around} {E : Value → Shared → Prop} {s₀ : Shared} {h : Heap} {k : Nat} {base g : Heap} {fs : List Env} {L : Addr} {ns : List Str} {vs : List (Option Value)} {led : List (Addr × Obj)}
theorem none_and {P : Prop} (q : P) : (Value.none = Value.none) ∧ P := ⟨rfl, q⟩
theorem gm_led {x C dx f : Addr} {od : Obj} {fl : List (Str × Value)} {a : Str} {i : Nat} {pl : Sem Bool} {Q : Value × List Value → Shared → Prop} (S : St w base fs g L ns vs led h) (hx : g.get? x = some (instObj C dx)) (hl : LedAt led i dx od) (hD : IsD od fl) (ok : MOk w C a f) (hf : FN fl a)
    (hq : Q (.ref f, [.ref x]) (sh s₀ h k)) : wpAny (model prog w) A (getMethod (.ref x) a pl) Q E (sh s₀ h k) := getmeth_i S (S.get hx) (S.at_ hl.at_) hD ok hf.look hq
theorem gm_froz {x C dx f : Addr} {od : Obj} {fl : List (Str × Value)} {a : Str} {pl : Sem Bool} {Q : Value × List Value → Shared → Prop} (S : St w base fs g L ns vs led h) (hx : g.get? x = some (instObj C dx)) (hl : g.get? dx = some od) (hD : IsD od fl) (ok : MOk w C a f) (hf : FN fl a)
    (hq : Q (.ref f, [.ref x]) (sh s₀ h k)) : wpAny (model prog w) A (getMethod (.ref x) a pl) Q E (sh s₀ h k) := getmeth_i S (S.get hx) (S.get hl) hD ok hf.look hq
end
end
local macro_rules | `(tactic| walk_at "aok") => `(tactic| with_reducible first | exact A_OctetsIn_data _ | exact A_OctetsIn_at _ | exact A_OctetsOut_made _ | exact A_Coverage_glyphs _ | exact A_Reverse_mapping _ | exact A_Reverse_back _ | exact A_Reverse_ahead _)
local macro_rules | `(tactic| walk_at "mok") => `(tactic| with_reducible first | exact M_OctetsIn_number _ | exact M_OctetsIn_u16 _ | exact M_OctetsIn_rows _ | exact M_OctetsIn_need _ | exact M_OctetsOut_u16 _ | exact M_OctetsOut_rows _ | exact M_OctetsOut_add _ | exact M_OctetsOut_octets _ | exact M_Coverage_told _ | exact M_Reverse_told _)
local macro_rules | `(tactic| walk_at "fl") => `(tactic| repeat first | with_reducible exact FL.here | with_reducible exact FN.nil | (with_reducible apply FN.cons; focus (decide +kernel)) | (with_reducible apply FL.there; focus (decide +kernel)))
local macro_rules | `(tactic| walk_at "attr") => `(tactic| first
  | (with_reducible first | refine sub_idx ?_ | refine e_attr ?_ | refine none_and ?_ | refine c_attr (pl := _) ?_ | refine x_expr (EnvOk.kind (by assumption)) ?_)
  | (with_reducible refine' gm_led ?k1 ?k2 ?k3 ?k4 ?k5 ?k6 ?_; (case k1 => walk_at "st"); (case k2 => walk_at "st"); (case k3 => walk_at "loc"); (case k4 => walk_at "st"); (case k5 => walk_at "mok"); (case k6 => walk_at "fl"))
  | (with_reducible refine' gm_froz ?k1 ?k2 ?k3 ?k4 ?k5 ?k6 ?_; (case k1 => walk_at "st"); (case k2 => walk_at "st"); (case k3 => walk_at "st"); (case k4 => walk_at "st"); (case k5 => walk_at "mok"); (case k6 => walk_at "fl"))
  | (with_reducible refine' w_fun0 ?k1 ?k2 ?_; (case k1 => walk_at "st"); (case k2 => walk_at "keep"))
  | (with_reducible refine' ga_led ?k1 ?k2 ?k3 ?k4 ?k5 ?k6 ?k7 ?_; (case k1 => walk_at "st"); (case k2 => walk_at "st"); (case k3 => walk_at "loc"); (case k4 => walk_at "st"); (case k5 => walk_at "aok"); (case k6 => walk_at "fl"); (case k7 => first | (simp only [handedIn]; done) | rfl); intro _)
  | (with_reducible refine' ga_froz ?k1 ?k2 ?k3 ?k4 ?k5 ?k6 ?k7 ?_; (case k1 => walk_at "st"); (case k2 => walk_at "st"); (case k3 => walk_at "st"); (case k4 => walk_at "st"); (case k5 => walk_at "aok"); (case k6 => walk_at "fl"); (case k7 => first | (simp only [handedIn]; done) | rfl); intro _))
local macro_rules | `(tactic| walk_at "go") => `(tactic| repeat' first | walk_at "go1" | walk_at "attr")
section
section
variable {prog : Program} {w : World} {A : Around} {E : Value → Shared → Prop} {s₀ : Shared} {h hc : Heap} {k : Nat} {base g g' gc : Heap} {fs fs' : List Env} {L L' : Addr} {ns ns' : List Str} {vs vs' : List (Option Value)} {led led' ledc : List (Addr × Obj)}
  {env : Env} {cl : List (Str × Addr)} {Q : Value → Shared → Prop}
theorem c_OctetsIn {b : Array UInt8} {t tn : Tok} {n : Int} (S : St w base fs g L ns vs led h) (hA : Ax prog A fs 3)
    (hok : ∀ g' h' k' x dx od, g.StaysIn g' → g'.get? x = some (instObj 163 dx) → IsD od (inF b t n tn) → St w base fs g' L ns vs ((dx, od) :: led) h' → Q (.ref x) (sh s₀ h' k')) :
    wpAny (model prog w) A (call (.ref 163) [.bytes b t, .int n tn]) Q E (sh s₀ h k) := by
  refine make_i S (C_OctetsIn w) fun x dx h₀ S0 _ _ => ?_
  obtain ⟨g1, hg1, hx, S1⟩ := S0.freeze
  refine enterR (ns' := ["self", "data", "at"]) (args' := [.ref x, .bytes b t, .int n tn]) (n := 3) (vs' := [some (.ref x), some (.bytes b t), some (.int n tn)]) S1 (hA.make (d := 2)) (by k_is) (by k_is) (binds_K S1.Xh rfl (by k_is) rfl rfl rfl) [(dx, dictOf [] 0)] (fun p hp => by rw [List.mem_singleton.mp hp]; exact .head _) (by simp) (by decide +kernel) (by decide +kernel) rfl (by decide) (by decide +kernel) rfl rfl rfl rfl ?_
  intro env' L' h₁ k₁ A' E' he hs hA' hE hL' S'
  have hxd : x ≠ dx := fun q => by
    have := (S1.ldg _ (.head _)).2.2
    rw [← q, hx] at this; cases this
  have hx' : (hideAll h₀ [dx]).get? x = some (instObj 163 dx) := hideAll_get _ (S1.get hx) (by simpa using hxd)
  walk_at "go"
  refine setattr_i S' (S'.get hx') (i := 0) rfl isD_new (S_OctetsIn_data w) (by decide) fun h₂ k₂ od₂ hD₂ S₂ => ?_
  walk_at "go"
  refine setattr_i S₂ (S₂.get hx') (i := 0) rfl hD₂ (S_OctetsIn_at w) (Nat.succ_lt_succ (Nat.succ_pos _)) fun h₃ k₃ od₃ hD₃ S₃ => ?_
  walk_at "go"
  refine ⟨rfl, ?_⟩
  refine hok g1 h₃ k₃ x dx od₃ hg1 hx hD₃ (S1.ret1 (i := 0) rfl S₃ (stays_refl _) (.head _))
theorem St.below1 (S : St w base fs g L ns vs led h) {i : Nat} {dx : Addr} {od : Obj} (hi : led[i]? = some (dx, od)) {x : Addr} {o : Obj} (hx : g.get? x = some o) : (hideAll h [dx]).get? x = some o := by
  refine hideAll_get _ (S.get hx) fun hm => ?_
  have := (S.ldg _ (List.mem_of_getElem? hi)).2.2
  rw [List.mem_singleton.mp hm] at hx
  rw [hx] at this; cases this
theorem foot1 {i : Nat} {dx : Addr} {od : Obj} (hi : led[i]? = some (dx, od)) : ∀ p ∈ [(dx, od)], p ∈ led := fun p hp => by rw [List.mem_singleton.mp hp]; exact List.mem_of_getElem? hi
theorem c_number {b : Array UInt8} {t tn tc : Tok} {n : Int} {ks : List Int} {x dx : Addr} {od : Obj} {i : Nat} (S : St w base fs g L ns vs led h) (hA : Ax prog A fs 6) (hx : g.get? x = some (instObj 163 dx)) (hi : led[i]? = some (dx, od)) (hD : IsD od (inF b t n tn)) (hk : KBw.bInts b = ks) (hz : ks.length ≤ 16777216)
    (hok : 0 ≤ n → n + 2 ≤ ks.length → ∀ h' k' t' od' t'', IsD od' (inF b t (n + 2) t'') → St w base fs g L ns vs (led.set i (dx, od')) h' → Q (.int (256 * ks.getD n.toNat 0 + ks.getD (n.toNat + 1) 0) t') (sh s₀ h' k'))
    (her : (n < 0 ∨ ks.length < n + 2) → Er E s₀ base fs (hideAll h [dx]) n) : wpAny (model prog w) A (call (.ref 106) [.ref x, .int 2 tc]) Q E (sh s₀ h k) := by
  refine enter (ns' := ["self", "count", "found"]) (args' := [.ref x, .int 2 tc]) (n := 2) (vs' := [some (.ref x), some (.int 2 tc), none]) S hA (by k_is) (by k_is) (BindsTo.of_eq rfl) [(dx, od)] (foot1 hi) (by simp) (by decide +kernel) (by decide +kernel) rfl (by decide) (by decide +kernel) rfl rfl rfl rfl ?_
  intro env' L' h₁ k₁ A' E' he hs hA' hE hL' S'
  have hG : EnvG w env' [("number_at", .ref 77)] := .cons (kindOf_of hs (by decide +kernel)) (G_number_at w) .nil
  have hx' : (hideAll h (List.map (fun x => x.1) [(dx, od)])).get? x = some (instObj 163 dx) := S.below1 hi hx
  walk_at "go"
  refine c_number_at S' hA' hk hz (fun h0 h1 h₂ k₂ t₂ S₂ => ?_) fun hc => er_pass0 hA' hE S' (stays_refl _) (her hc)
  walk_at "go"
  rename St _ _ _ _ _ _ _ _ _ => S₃
  refine setattr_i S₃ (S₃.get hx') (i := 0) rfl hD (S_OctetsIn_at w) (Nat.succ_lt_succ (Nat.succ_lt_succ (Nat.succ_pos _))) fun h₅ k₅ od₅ hD₅ S₅ => ?_
  walk_at "go"
  exact hok h0 h1 _ _ _ _ _ hD₅ (S.ret1 hi S₅ (stays_refl _) (.head _))
theorem c_u16 {b : Array UInt8} {t tn : Tok} {n : Int} {ks : List Int} {x dx : Addr} {od : Obj} {i : Nat} (S : St w base fs g L ns vs led h) (hA : Ax prog A fs 7) (hx : g.get? x = some (instObj 163 dx)) (hi : led[i]? = some (dx, od)) (hD : IsD od (inF b t n tn)) (hk : KBw.bInts b = ks) (hz : ks.length ≤ 16777216)
    (hok : 0 ≤ n → n + 2 ≤ ks.length → ∀ h' k' t' od' t'', IsD od' (inF b t (n + 2) t'') → St w base fs g L ns vs (led.set i (dx, od')) h' → Q (.int (256 * ks.getD n.toNat 0 + ks.getD (n.toNat + 1) 0) t') (sh s₀ h' k'))
    (her : (n < 0 ∨ ks.length < n + 2) → Er E s₀ base fs (hideAll h [dx]) n) : wpAny (model prog w) A (call (.ref 120) [.ref x]) Q E (sh s₀ h k) := by
  refine enter (ns' := ["self"]) (args' := [.ref x]) (n := 1) (vs' := [some (.ref x)]) S hA (by k_is) (by k_is) (BindsTo.of_eq rfl) [(dx, od)] (foot1 hi) (by simp) (by decide +kernel) (by decide +kernel) rfl (by decide) (by decide +kernel) rfl rfl rfl rfl ?_
  intro env' L' h₁ k₁ A' E' he hs hA' hE hL' S'
  have hx' : (hideAll h (List.map (fun x => x.1) [(dx, od)])).get? x = some (instObj 163 dx) := S.below1 hi hx
  walk_at "go"
  refine c_number (i := 0) S' hA' hx' rfl hD hk hz (fun h0 h1 h₂ k₂ t₂ od₂ u₂ hD₂ S₂ => ?_) fun hc => er_pass (foot := [(dx, od)]) hA' hE S' (stays_refl _) (fun p hp => hp) (her hc)
  walk_at "go"
  exact hok h0 h1 _ _ _ _ _ hD₂ (S.ret1 hi S₂ (stays_refl _) (.head _))
end
end
section
theorem bindL_eq (kf : Str → Option NameKind) : ∀ (binds : List (Str × Value)) (m : Str → Option Value) (y : Str),
    bindL kf binds m y = ((binds.filter fun p => kf p.1 == some .local).reverse.lookup y).or (m y)
  | [], m, y => by simp [bindL]
  | (n, v) :: r, m, y => by
    unfold bindL
    rw [bindL_eq kf r]
    by_cases hk : kf n = some .local
    · have hb : (kf n == some NameKind.local) = true := by simpa using hk
      simp only [if_pos hk, List.filter_cons, hb, if_true, List.reverse_cons, List.lookup_append]
      by_cases e : y = n
      · subst e; cases (List.lookup y _) <;> simp
      · have hne : (y == n) = false := beq_eq_false_iff_ne.mpr e
        cases (List.lookup y _) <;> simp [e, List.lookup_cons, hne]
    · have hb : (kf n == some NameKind.local) = false := by simpa using hk
      simp only [if_neg hk, List.filter_cons, hb, Bool.false_eq_true, if_false]
theorem cellsAre_addr {cm : Str → Option Value} {cs : List (Str × Addr)} {cells : List (Addr × Obj)} (h : CellsAre cm cs cells) : cells.map (·.1) = cs.map (·.2) := by
  induction h with
  | nil => rfl
  | cons _ _ ih => simp [ih]
section
variable {prog : Program} {w : World} {A : Around} {E : Value → Shared → Prop} {s₀ : Shared} {h hc : Heap} {k : Nat} {base g g' gc : Heap} {fs fs' : List Env} {L L' : Addr} {ns ns' : List Str} {vs vs' : List (Option Value)} {led led' ledc : List (Addr × Obj)}
  {env : Env} {cl : List (Str × Addr)} {Q : Value → Shared → Prop}
theorem opened {scope : Scope} {args' : List Value} {n : Nat} {ns' : List Str} {binds : List (Str × Value)} {s' : Shared} (hnd : ns'.Nodup) (hn : args'.length = n) (hnl : n ≤ ns'.length)
    (hloc : binds.filter (fun p => scope.names.lookup p.1 == some .local) = (ns'.take n).zip args') (hcn : ((cellsFrom 0 scope.names []).map (·.1)).Nodup)
    (x : InCallC (sh s₀ h k) h.objs.size (bindL (fun x => scope.names.lookup x) binds fun _ => none) (cellsFrom (h.objs.size + 1) scope.names []) (bindC (fun x => scope.names.lookup x) binds fun _ => none) s') :
    Ex3 fun h₁ tk cells => An7 (s' = sh s₀ h₁ tk) (h₁.Ns h.objs.size (mOf ns' (args'.map some ++ List.replicate (ns'.length - n) none))) (h.StaysIn h₁)
      (CellsAre (bindC (fun x => scope.names.lookup x) binds fun _ => none) (cellsFrom (h.objs.size + 1) scope.names []) cells) (∀ p ∈ cells, h₁.get? p.1 = some p.2) (∀ a ∈ cells.map (·.1), h.objs.size < a) (cells.map (·.1)).Nodup := by
  obtain ⟨h₁, tk, HH1⟩ := ex2 x.done
  obtain rfl := HH1.1
  clear HH1
  have hns₁ : h₁.Ns h.objs.size (bindL (fun x => scope.names.lookup x) binds fun _ => none) := x.toInCall.ns
  have hmap : (bindL (fun x => scope.names.lookup x) binds fun _ => none) = mOf ns' (args'.map some ++ List.replicate (ns'.length - n) none) := by
    rw [← mOf_binds hnd hn hnl]
    funext y
    rw [bindL_eq, hloc]; simp
  rw [hmap] at hns₁
  obtain ⟨cells, HH1⟩ := Cl.news (h₀ := h) (Nat.le_refl _) fun n c hm => ⟨x.cell n c (lookup_of_mem_nodup (cellsFrom_names scope.names 0 (h.objs.size + 1) [] [] rfl ▸ hcn) hm), x.above n c hm⟩
  have Y := HH1.2
  refine ⟨h₁, tk, cells, rfl, hns₁, x.toInCall.keep, Y, fun p hp => (HH1.1 p hp).1, fun a ha => ?_, ?_⟩
  · rw [cellsAre_addr Y] at ha
    obtain ⟨q, HH1⟩ := List.mem_map.mp ha
    have hq := HH1.1
    obtain rfl := HH1.2
    clear HH1
    exact x.above q.1 q.2 hq
  · rw [cellsAre_addr Y]; exact List.pairwise_map.mpr x.apart
theorem enterCXR {R : Result → Shared → Prop} {name qual : Str} {params : Arguments} {body : List Stmt} {scope : Scope} {dV kV doc pm cdv ct oc : Value} {an od : Option Addr} {osl : Array (Option Value)} {f : Addr} {args args' : List Value} {d n : Nat} {ns' : List Str} {vs' : List (Option Value)} {binds : List (Str × Value)}
    (S : St w base fs g L ns vs led h) (hA : Ax prog A fs (d + 1))
    (ho : (hd.heap_39 w.params).lookup f = some ⟨oc, od, .func (fnOf name qual params body scope dV kV doc pm an cdv ct), osl⟩) (hcd : codeIn (hd.heap_39 w.params) cdv qual = true)
    (hbind : BindsTo (sh s₀ h k) (fnOf name qual params body scope dV kV doc pm an cdv ct) ⟨args, []⟩ binds)
    (hloc : binds.filter (fun p => scope.names.lookup p.1 == some .local) = (ns'.take n).zip args')
    (hkinds : ∀ n, KindsOk scope n binds)
    (foot : List (Addr × Obj)) (hf : ∀ p ∈ foot, p ∈ led) (hfn : (foot.map (·.1)).Nodup)
    (hns : (ns'.all fun x => scope.names.lookup x == some .local) = true) (hnd : ns'.Nodup) (hn : args'.length = n) (hnl : n ≤ ns'.length)
    (hcn : ((cellsFrom 0 scope.names []).map (·.1)).Nodup)
    (hvs : args'.map some ++ List.replicate (ns'.length - n) none = vs') (hco : scope.isCoroutine = false) (hgen : scope.isGenerator = false) (hk : scope.kind = .function)
    (walk : ∀ env' L' h₁ k₁ A' E' cells, env' = envX qual scope L' f cdv (cellsFrom (L' + 1) scope.names []) → EnvOk env' L' ns' (cellsFrom (L' + 1) scope.names []) → env'.scope = scope → Ax prog A' (env' :: fs) d → ExOk prog w A' env' (fun e s' => R (.error e) s') E' → L' = h.objs.size →
      CellsAre (bindC (fun x => scope.names.lookup x) binds fun _ => none) (cellsFrom (L' + 1) scope.names []) cells →
      St w base (env' :: fs) (hideAll h (foot.map (·.1))) L' ns' vs' (cells ++ foot) h₁ →
      wpAny (model prog w) A' (execs body env') (RetQ fun v s' => R (.ok (.ret v)) s') E' (sh s₀ h₁ k₁)) :
    codeAny (model prog w) A (.call (.ref f) ⟨args, []⟩) R (sh s₀ h k) := by
  subst hvs
  have hroom : A.depth < recursionLimit := by have := hA.dep; show A.depth < 1000; omega
  have hl := List.all_eq_true.mp hns
  obtain ⟨me, mg, mb, T⟩ := S.Th
  refine codeAny_call_function hroom (S.Xh _ _ ho) rfl hco hgen rfl (codeRec_of S.Xh hcd) (hbind _ _ _ _ ?_)
  refine wpAny_newFunctionEnv_cells hk (kinds_of (hkinds _)) fun env' he s' x => ?_
  subst he
  refine ⟨T.nolimit.keeps x.toInCall.keep, codeAny_func ?_⟩
  obtain ⟨h₁, tk, cells, rfl, hns₁, hk₁, Y, NC, hca, hcd'⟩ := opened hnd hn hnl hloc hcn x
  have S' : St w base (envX qual scope h.objs.size f cdv (cellsFrom (h.objs.size + 1) scope.names []) :: fs) (hideAll h (foot.map (·.1))) h.objs.size ns' (args'.map some ++ List.replicate (ns'.length - n) none) (cells ++ foot) h₁ :=
    S.entered hf hfn hnd (by simp [hn]; omega) hns₁ hk₁ (by show scope.kind ≠ .module; rw [hk]; decide) rfl NC hca hcd'
  have he : EnvOk (envX qual scope h.objs.size f cdv (cellsFrom (h.objs.size + 1) scope.names [])) h.objs.size ns' (cellsFrom (h.objs.size + 1) scope.names []) := ⟨rfl, hk, rfl, rfl, fun x hx => beq_iff_eq.mp (hl x hx), rfl⟩
  exact walk (envX qual scope h.objs.size f cdv (cellsFrom (h.objs.size + 1) scope.names [])) h.objs.size h₁ tk (A.deeper (envX qual scope h.objs.size f cdv (cellsFrom (h.objs.size + 1) scope.names []))) _ cells rfl he rfl (hA.deeper _) ⟨PassesOwn.leaving, fun _ _ x => x⟩ rfl Y S'
theorem enterC {R : Result → Shared → Prop} {name qual : Str} {params : Arguments} {body : List Stmt} {scope : Scope} {dV kV doc pm cdv ct oc : Value} {an od : Option Addr} {osl : Array (Option Value)} {f : Addr} {args args' : List Value} {d n : Nat} {ns' : List Str} {vs' : List (Option Value)} {binds : List (Str × Value)}
    (S : St w base fs g L ns vs led h) (hA : Ax prog A fs (d + 1))
    (ho : (hd.heap_39 w.params).lookup f = some ⟨oc, od, .func (fnOf name qual params body scope dV kV doc pm an cdv ct), osl⟩) (hcd : codeIn (hd.heap_39 w.params) cdv qual = true)
    (hbind : BindsTo (sh s₀ h k) (fnOf name qual params body scope dV kV doc pm an cdv ct) ⟨args, []⟩ binds)
    (hloc : binds.filter (fun p => scope.names.lookup p.1 == some .local) = (ns'.take n).zip args')
    (hkinds : ∀ n, KindsOk scope n binds)
    (foot : List (Addr × Obj)) (hf : ∀ p ∈ foot, p ∈ led) (hfn : (foot.map (·.1)).Nodup)
    (hns : (ns'.all fun x => scope.names.lookup x == some .local) = true) (hnd : ns'.Nodup) (hn : args'.length = n) (hnl : n ≤ ns'.length)
    (hcn : ((cellsFrom 0 scope.names []).map (·.1)).Nodup)
    (hvs : args'.map some ++ List.replicate (ns'.length - n) none = vs') (hco : scope.isCoroutine = false) (hgen : scope.isGenerator = false) (hk : scope.kind = .function)
    (walk : ∀ env' L' h₁ k₁ A' E' cells, EnvOk env' L' ns' (cellsFrom (L' + 1) scope.names []) → env'.scope = scope → Ax prog A' (env' :: fs) d → ExOk prog w A' env' (fun e s' => R (.error e) s') E' → L' = h.objs.size →
      CellsAre (bindC (fun x => scope.names.lookup x) binds fun _ => none) (cellsFrom (L' + 1) scope.names []) cells →
      St w base (env' :: fs) (hideAll h (foot.map (·.1))) L' ns' vs' (cells ++ foot) h₁ →
      wpAny (model prog w) A' (execs body env') (RetQ fun v s' => R (.ok (.ret v)) s') E' (sh s₀ h₁ k₁)) :
    codeAny (model prog w) A (.call (.ref f) ⟨args, []⟩) R (sh s₀ h k) :=
  enterCXR S hA ho hcd hbind hloc hkinds foot hf hfn hns hnd hn hnl hcn hvs hco hgen hk fun env' L' h₁ k₁ A' E' cells _ a b c d e f g => walk env' L' h₁ k₁ A' E' cells a b c d e f g
theorem enterCC {name qual : Str} {params : Arguments} {body : List Stmt} {scope : Scope} {dV kV doc pm cdv ct oc : Value} {an od : Option Addr} {osl : Array (Option Value)} {f : Addr} {args args' : List Value} {d n : Nat} {ns' : List Str} {vs' : List (Option Value)} {binds : List (Str × Value)}
    (S : St w base fs g L ns vs led h) (hA : Ax prog A fs (d + 1))
    (ho : (hd.heap_39 w.params).lookup f = some ⟨oc, od, .func (fnOf name qual params body scope dV kV doc pm an cdv ct), osl⟩) (hcd : codeIn (hd.heap_39 w.params) cdv qual = true)
    (hbind : BindsTo (sh s₀ h k) (fnOf name qual params body scope dV kV doc pm an cdv ct) ⟨args, []⟩ binds)
    (hloc : binds.filter (fun p => scope.names.lookup p.1 == some .local) = (ns'.take n).zip args')
    (hkinds : ∀ n, KindsOk scope n binds)
    (foot : List (Addr × Obj)) (hf : ∀ p ∈ foot, p ∈ led) (hfn : (foot.map (·.1)).Nodup)
    (hns : (ns'.all fun x => scope.names.lookup x == some .local) = true) (hnd : ns'.Nodup) (hn : args'.length = n) (hnl : n ≤ ns'.length)
    (hcn : ((cellsFrom 0 scope.names []).map (·.1)).Nodup)
    (hvs : args'.map some ++ List.replicate (ns'.length - n) none = vs') (hco : scope.isCoroutine = false) (hgen : scope.isGenerator = false) (hk : scope.kind = .function)
    (walk : ∀ env' L' h₁ k₁ A' E' cells, EnvOk env' L' ns' (cellsFrom (L' + 1) scope.names []) → env'.scope = scope → Ax prog A' (env' :: fs) d → ExOk prog w A' env' E E' → L' = h.objs.size →
      CellsAre (bindC (fun x => scope.names.lookup x) binds fun _ => none) (cellsFrom (L' + 1) scope.names []) cells →
      St w base (env' :: fs) (hideAll h (foot.map (·.1))) L' ns' vs' (cells ++ foot) h₁ →
      wpAny (model prog w) A' (execs body env') (RetQ Q) E' (sh s₀ h₁ k₁)) :
    wpAny (model prog w) A (call (.ref f) args) Q E (sh s₀ h k) :=
  wpAny_call (enterC S hA ho hcd hbind hloc hkinds foot hf hfn hns hnd hn hnl hcn hvs hco hgen hk fun env' L' h₁ k₁ A' E' cells a b c d e f g => walk env' L' h₁ k₁ A' E' cells a b c d e f g)
end
end
section
theorem closure_go {env : Env} (f : Str → Addr) : ∀ (names : List (Str × NameKind)) (acc : List (Str × Addr)), (∀ p ∈ names, p.2 = .free → env.cells.lookup p.1 = some (f p.1)) →
    (forIn names acc (fun (x : Str × NameKind) (cs : List (Str × Addr)) => (if x.2 == .free then do let c ← cellOf env x.1; pure (ForInStep.yield ((x.1, c) :: cs)) else pure (ForInStep.yield cs) : Sem _))) =
      (pure (((names.filter (·.2 == .free)).map fun p => (p.1, f p.1)).reverse ++ acc) : Sem (List (Str × Addr)))
  | [], acc, _ => by simp
  | (n, kd) :: r, acc, h => by
    rw [List.forIn_cons]
    by_cases hk : kd = .free
    · subst hk
      have e := h (n, .free) (.head _) rfl
      have e1 : cellOf env n = pure (f n) := by unfold cellOf; rw [e]
      simp only [beq_self_eq_true, if_true, e1, pure_bind]
      rw [closure_go f r _ fun p hp => h p (.tail _ hp)]
      simp
    · have hb : (kd == NameKind.free) = false := by simpa using hk
      simp only [hb, Bool.false_eq_true, if_false, pure_bind]
      rw [closure_go f r _ fun p hp => h p (.tail _ hp)]
      simp [hb]
theorem closure_eq {env : Env} {scope : Scope} (f : Str → Addr) (h : ∀ p ∈ scope.names, p.2 = .free → env.cells.lookup p.1 = some (f p.1)) :
    closureFor scope env = pure (((scope.names.filter (·.2 == .free)).map fun p => (p.1, f p.1)).reverse) := by
  have := closure_go f scope.names [] h
  rw [List.append_nil] at this
  unfold closureFor
  rw [← this]
  simp
theorem closure_zero {env : Env} {scope : Scope} (h : scope.names.filter (·.2 == .free) = []) : closureFor scope env = pure [] := by
  have := closure_eq (env := env) (scope := scope) (fun _ => 0) (fun p hp hf => by
    have : p ∈ scope.names.filter (·.2 == .free) := List.mem_filter.mpr ⟨hp, by rw [hf]; rfl⟩
    rw [h] at this; cases this)
  rw [h] at this; exact this
theorem closure_one {env : Env} {scope : Scope} {x : Str} {c : Addr} (h : scope.names.filter (·.2 == .free) = [(x, .free)]) (hc : env.cells.lookup x = some c) : closureFor scope env = pure [(x, c)] := by
  have := closure_eq (env := env) (scope := scope) (fun _ => c) (fun p hp hf => by
    have : p ∈ scope.names.filter (·.2 == .free) := List.mem_filter.mpr ⟨hp, by rw [hf]; rfl⟩
    rw [h] at this
    rw [List.mem_singleton.mp this]; exact hc)
  rw [h] at this; exact this
theorem closure_two {env : Env} {scope : Scope} {x y : Str} {c d : Addr} (h : scope.names.filter (·.2 == .free) = [(x, .free), (y, .free)]) (hxy : (y == x) = false) (hc : env.cells.lookup x = some c) (hd : env.cells.lookup y = some d) : closureFor scope env = pure [(y, d), (x, c)] := by
  have hne : y ≠ x := by simpa using hxy
  have := closure_eq (env := env) (scope := scope) (fun z => if z = x then c else d) (fun p hp hf => by
    have : p ∈ scope.names.filter (·.2 == .free) := List.mem_filter.mpr ⟨hp, by rw [hf]; rfl⟩
    rw [h] at this
    rcases List.mem_cons.mp this with rfl | this
    · simpa using hc
    · rw [List.mem_singleton.mp this]; simpa [hne] using hd)
  rw [h] at this
  simpa [hne] using this
structure CN (env : Env) (cl : List (Str × Addr)) (g : Heap) (x : Str) (v : Value) : Prop where
  kind : env.kindOf x = some .cell
  cell : Ex2 fun c o => An3 (cl.lookup x = some c) (g.get? c = some o) (o.data = .cell (some v))
theorem CN.up {env : Env} {cl : List (Str × Addr)} {g g' : Heap} {x : Str} {v : Value} (c : CN env cl g x v) (h : g.StaysIn g') : CN env cl g' x v :=
  ⟨c.kind, let ⟨a, o, p, q, r⟩ := c.cell; ⟨a, o, p, h _ _ q, r⟩⟩
theorem CN.into {env cenv : Env} {cl cl' : List (Str × Addr)} {g : Heap} {x : Str} {v : Value} {scope : Scope} (c : CN env cl g x v) (hk : env.scope.kind = .function) (hs : cenv.scope = relabel scope env) (hn : (scope.names.lookup x == some .free) = true) (hc : cl'.lookup x = cl.lookup x) : CN cenv cl' g x v :=
  ⟨by show cenv.scope.names.lookup x = _; rw [hs]; exact lookup_relabel_free hk c.kind (beq_iff_eq.mp hn), by rw [hc]; exact c.cell⟩
theorem kindOf_rel {env cenv : Env} {scope : Scope} {x : Str} (hs : cenv.scope = relabel scope env) (h : (scope.names.lookup x == some .globalImplicit) = true) : cenv.kindOf x = some .globalImplicit := by
  show cenv.scope.names.lookup x = _; rw [hs]; exact lookup_relabel_glob (beq_iff_eq.mp h)
theorem names_local {scope : Scope} (h : (scope.names.all fun y => y.2 != .local || scope.names.lookup y.1 == some .local) = true) : ∀ y ∈ scope.names, y.2 = .local → scope.names.lookup y.1 = some .local := fun y hy e => by
  have := List.all_eq_true.mp h y hy
  rw [e] at this; simpa using this
theorem names_nocell {scope : Scope} (h : (scope.names.all fun y => y.2 != .cell) = true) : ∀ y ∈ scope.names, y.2 ≠ .cell := fun y hy => by
  have := List.all_eq_true.mp h y hy; simpa using this
section
variable {prog : Program} {w : World} {A : Around} {E : Value → Shared → Prop} {s₀ : Shared} {h hc : Heap} {k : Nat} {base g g' gc : Heap} {fs fs' : List Env} {L L' : Addr} {ns ns' : List Str} {vs vs' : List (Option Value)} {led led' ledc : List (Addr × Obj)}
  {env : Env} {cl cl' : List (Str × Addr)} {Q : Value → Shared → Prop}
theorem g_cell {x : Str} {pos : Pos} {v : Value} (S : St w base fs g L ns vs led h) (he : EnvOk env L ns cl) (hC : CN env cl g x v) (hq : Q v (sh s₀ h k)) (hd : (x == ("__debug__" : Str)) = false := by decide +kernel) :
    wpAny (model prog w) A (eval (.Name x pos) env) Q E (sh s₀ h k) := by
  obtain ⟨c, o, hl, ho, hd'⟩ := hC.cell
  exact n_cell he hC.kind hl (S.get ho) hd' hq hd
theorem e_comp {elt iter : Expr} {x : Str} {px : Pos} {scope : Scope} {pos : Pos} {s : Shared} (hclos : closureFor scope env = pure cl') (hkind : scope.kind = .function) (hnames : (scope.names.all fun y => y.2 != .local || scope.names.lookup y.1 == some .local) = true)
    (hq : wpAny (model prog w) A (eval iter env) (fun xv s₁ => wpAny (model prog w) A (pyIter xv) (fun it s₂ =>
      wpAny (model prog w) A (newList []) (fun acc s₃ => wpAny (model prog w) A (newFunctionEnv scope env.globals cl' [] env.qual none .none (some env)) (fun cenv s₄ =>
        codeAny (model prog w) A (.compStart (.ListComp elt [⟨.Name x px, iter, [], 0⟩] scope pos) 0 it acc { cenv with scope := relabel scope env }) (compPost (model prog w) A E none Q acc cenv.locals) s₄) E s₃) E s₂) E s₁) E s)
    (hs : ∀ x, foldedSetIterable iter env x = pure x := by intro _; with_unfolding_all rfl) :
    wpAny (model prog w) A (eval (.ListComp elt [⟨.Name x px, iter, [], 0⟩] scope pos) env) Q E s := by
  rw [eval_ListComp]
  exact wpAny_comprehension_free (use := none) rfl hs hclos hkind (names_local hnames) hq
theorem g_elts {elt iter : Expr} {x : Str} {px : Pos} {scope : Scope} {pos : Pos} {I : Addr} {oI : Obj} {n : Nat} {P : Nat → Value → Prop}
    (J : Nat → Heap → List (Addr × Obj) → List Value → Prop)
    (he : EnvOk env L ns cl) (W : Wk prog w A g I n P h) (S : St w base fs g L ns vs ((I, oI) :: led) h) (hcell : (scope.names.all fun y => y.2 != .cell) = true) (hkind : scope.kind = .function) (hx : (scope.names.lookup x == some .local) = true)
    (hz : n ≤ 16777216)
    (hJm : ∀ j g₁ g₂ led' items, NewIn h.objs.size g₁ g₂ → J j g₁ led' items → J j g₂ led' items)
    (h0 : J 0 g led []) (hJl : ∀ j g' led' items, J j g' led' items → items.length = j)
    (turn : ∀ C cenv j v g' led' items h' k' oI' oD E', h.objs.size < C → j < n → P j v → J j g' led' items → g.StaysIn g' → cenv.scope = relabel scope env → EnvOk cenv C [x] cl' → St w base fs g' C [x] [some v] ((I, oI') :: (h.objs.size, oD) :: led') h' →
      wpAny (model prog w) A (eval elt cenv) (EltQ s₀ w base fs g' C [x] I h.objs.size oI' oD (J (j + 1)) items) E' (sh s₀ h' k'))
    (done : ∀ g' led' items oD h' k', J n g' led' items → items.length = n → LO oD items → g.StaysIn g' → St w base fs g' L ns vs ((h.objs.size, oD) :: led') h' → Q (.ref h.objs.size) (sh s₀ h' k')) :
    wpAny (model prog w) A (newList []) (fun acc s₃ => wpAny (model prog w) A (newFunctionEnv scope env.globals cl' [] env.qual none .none (some env)) (fun cenv s₄ =>
      codeAny (model prog w) A (.compStart (.ListComp elt [⟨.Name x px, iter, [], 0⟩] scope pos) 0 (.ref I) acc { cenv with scope := relabel scope env }) (compPost (model prog w) A E none Q acc cenv.locals) s₄) E s₃) E (sh s₀ h k) := by
  obtain ⟨fp, StI, W, hI, hst, hfp⟩ := W.ex
  exact comp_core J he (names_nocell hcell) hkind (beq_iff_eq.mp hx) W hI hst S hfp hz hJm h0 hJl turn done
end
end
end
section
section
variable {prog : Program} {w : World} {A : Around} {E : Value → Shared → Prop} {s₀ : Shared} {h hc : Heap} {k : Nat} {base g g' gc : Heap} {fs fs' : List Env} {L L' : Addr} {ns ns' : List Str} {vs vs' : List (Option Value)} {led led' ledc : List (Addr × Obj)}
  {env : Env} {cl : List (Str × Addr)} {Q : Value → Shared → Prop}
theorem e_list {elts : List Expr} {pos : Pos} {s : Shared} (q : wpAny (model prog w) A (spliced (backTo pos (starEach elts env))) (fun xs s₁ => wpAny (model prog w) A (newList xs) Q E s₁) E s) : wpAny (model prog w) A (eval (.List elts pos) env) Q E s := List_ q
theorem e_tup {elts : List Expr} {j : Nat} {pos : Pos} {s : Shared} (q : wpAny (model prog w) A (spliced (backTo pos (starEach elts env))) (fun xs s₁ => wpAny (model prog w) A (newTuple xs) Q E s₁) E s) : wpAny (model prog w) A (eval (.Tuple elts j pos) env) Q E s := Tuple_ q
theorem g_newList {xs : List Value} (S : St w base fs g L ns vs led h) (hz : xs.length ≤ 16777216) (hq : ∀ l o h', LO o xs → h.get? l = none → L < l → h.StaysIn h' → St w base fs g L ns vs ((l, o) :: led) h' → Q (.ref l) (sh s₀ h' k)) : wpAny (model prog w) A (newList xs) Q E (sh s₀ h k) :=
  wpAny_newObj_type (hq _ _ _ ⟨0, rfl⟩ (Heap.get?_none_of_le (Nat.le_refl _)) S.loc.lt (fun b o e => Heap.get?_push_of_some _ e) (S.alloc _ rfl)) (by show xs.toArray.size ≤ sizeLine; rw [List.size_toArray, sizeLine_eq]; exact hz)
theorem g_newTuple {xs : List Value} (S : St w base fs g L ns vs led h) (hz : xs.length ≤ 16777216) (hq : ∀ l o h', TO o xs → h.get? l = none → L < l → h.StaysIn h' → St w base fs g L ns vs ((l, o) :: led) h' → Q (.ref l) (sh s₀ h' k)) : wpAny (model prog w) A (newTuple xs) Q E (sh s₀ h k) :=
  wpAny_newObj_type (hq _ _ _ ⟨rfl, 0, rfl⟩ (Heap.get?_none_of_le (Nat.le_refl _)) S.loc.lt (fun b o e => Heap.get?_push_of_some _ e) (S.alloc _ rfl)) (by show xs.toArray.size ≤ sizeLine; rw [List.size_toArray, sizeLine_eq]; exact hz)
theorem t_list {l : Addr} {o : Obj} {xs : List Value} {Q : Bool → Shared → Prop} (ho : h.get? l = some o) (hl : LO o xs) (hz : xs.length ≤ 16777216) (hq : ∀ k', Q (!xs.isEmpty) (sh s₀ h k')) : wpAny (model prog w) A (truthy (.ref l)) Q E (sh s₀ h k) := by
  refine wpAny_truthy_list (hl.isList ho) (by rw [List.size_toArray]; omega) ?_
  have e : (!xs.toArray.isEmpty) = !xs.isEmpty := by simp
  rw [e]; exact hq _
theorem e_neg1 {pos p : Pos} {j : Nat} (hq : ∀ t k', Q (.int (-1) t) (sh s₀ h k')) : wpAny (model prog w) A (eval (.UnaryOp .USub (.Constant (.int 1) j p) pos) env) Q E (sh s₀ h k) :=
  wpAny_UnaryOp (wpAny_Constant_int (PyProof.Rows.neg_int (hq _ _)))
theorem sub_list {value slice : Expr} {l : Addr} {o : Obj} {xs : List Value} {i : Int} {u : Tok} {v : Value} (ho : h.get? l = some o) (hl : LO o xs) (hz : xs.length ≤ 16777216) (h0 : 0 ≤ i) (hv : xs[i.toNat]? = some v) (hq : Q v (sh s₀ h k))
    (hs : subscripted slice false (.ref l) (.int i u) = operate [.ref l, .int i u] (getItem (.ref l) (.int i u)) := by with_unfolding_all rfl) :
    wpAny (model prog w) A (subscriptTail value slice (.ref l) (.int i u)) Q E (sh s₀ h k) := by
  have hlt := (List.getElem?_eq_some_iff.mp hv).1
  exact tail_any (hl.isList ho).typeIs slot_list_getitem.lookup (wpAny_getItem_list (hl.isList ho) h0 (by omega) (by simpa using hv) hq) hs
theorem sub_last {value slice : Expr} {l : Addr} {o : Obj} {xs : List Value} {u : Tok} {v : Value} (ho : h.get? l = some o) (hl : LO o (xs ++ [v])) (hz : xs.length ≤ 16777215) (hq : Q v (sh s₀ h k))
    (hs : subscripted slice false (.ref l) (.int (-1) u) = operate [.ref l, .int (-1) u] (getItem (.ref l) (.int (-1) u)) := by with_unfolding_all rfl) :
    wpAny (model prog w) A (subscriptTail value slice (.ref l) (.int (-1) u)) Q E (sh s₀ h k) := by
  refine tail_any (hl.isList ho).typeIs slot_list_getitem.lookup (wpAny_getItem_list_neg (hl.isList ho) (by decide) (by simp; omega) (by decide) ?_ hq) hs
  simp
  have : ((-1 : Int) + (↑xs.length + 1)).toNat = xs.length := by omega
  rw [this]; simp
theorem gm_append {l : Addr} {o : Obj} {xs : List Value} {pl : Sem Bool} {Q : Value × List Value → Shared → Prop} (ho : h.get? l = some o) (hl : LO o xs) (hq : Q (.builtin "list.append", [.ref l]) (sh s₀ h k)) : wpAny (model prog w) A (getMethod (.ref l) "append" pl) Q E (sh s₀ h k) :=
  getMethod_list_append ho hl.cls hl.dict hq
theorem sub_tup {value slice : Expr} {l : Addr} {o : Obj} {xs : List Value} {i : Int} {u : Tok} {v : Value} (ho : h.get? l = some o) (hl : TO o xs) (hz : xs.length ≤ 16777216) (h0 : 0 ≤ i) (hv : xs[i.toNat]? = some v) (hq : Q v (sh s₀ h k))
    (hs : subscripted slice false (.ref l) (.int i u) = operate [.ref l, .int i u] (getItem (.ref l) (.int i u)) := by with_unfolding_all rfl) :
    wpAny (model prog w) A (subscriptTail value slice (.ref l) (.int i u)) Q E (sh s₀ h k) := by
  have hlt := (List.getElem?_eq_some_iff.mp hv).1
  have hT : (sh s₀ h k).TypeIs (.ref l) "tuple" := (hl.isTup ho).typeIs
  refine tail_any hT PyProof.Rows.slot_tuple_getitem.lookup (PyProof.Rows.getItem_tuple (j := i.toNat) (hl.isTup ho) (by omega) (by omega) ?_ (by simpa using hv) hq) hs
  unfold seqIndex?
  simp
  omega
theorem m_tuple {l : Addr} {o : Obj} {xs : List Value} (S : St w base fs g L ns vs led h) (ho : h.get? l = some o) (hl : LO o xs) (hz : xs.length ≤ 16777216) (hq : ∀ t ot h', TO ot xs → h.get? t = none → L < t → h.StaysIn h' → St w base fs g L ns vs ((t, ot) :: led) h' → Q (.ref t) (sh s₀ h' k)) :
    wpAny (model prog w) A (call (.type "tuple") [.ref l]) Q E (sh s₀ h k) := by
  refine call_tuple_list (hl.isList ho) (fun h' hk => ?_) (by rw [List.size_toArray, sizeLine_eq]; exact hz)
  have S1 := (S.grown hk).alloc { cls := .type "tuple", data := .seq xs.toArray } rfl
  refine hq _ _ _ ⟨rfl, 0, rfl⟩ ?_ (S.grown hk).loc.lt (fun b o e => Heap.get?_push_of_some _ (hk _ _ e)) S1
  cases q : h.get? h'.objs.size with
  | none => rfl
  | some o => exact absurd (Heap.lt_size (hk _ _ q)) (Nat.lt_irrefl _)
theorem x_unpack2 {x y : Str} {px py tp pos : Pos} {j : Nat} {value : Expr} {rest : List Stmt} {Q : Flow → Shared → Prop} {s : Shared} (hh : A.handled = none)
    (q : wpAny (model prog w) A (eval value env) (fun v s₁ => Ex6 fun (h₁ : Heap) (k₁ : Nat) (t : Addr) (o : Obj) (a b : Value) => An5 (s₁ = sh s₀ h₁ k₁) (v = .ref t) (h₁.get? t = some o) (TO o [a, b]) (∀ h₂, h₁.StaysIn h₂ → wpAny (model prog w) A (storeName env x a) (fun _ s₂ => wpAny (model prog w) A (storeName env y b) (fun _ s₃ => wpAny (model prog w) A (execs rest env) Q E s₃) E s₂) E (sh s₀ h₂ k₁))) E s)
    (hs : swapsWithSole [.Tuple [.Name x px, .Name y py] j tp] value pos.line env = pure false := by with_unfolding_all rfl)
    (hw : swappedStores [.Tuple [.Name x px, .Name y py] j tp] value env = pure none := by with_unfolding_all rfl) :
    wpAny (model prog w) A (execs (.Assign [.Tuple [.Name x px, .Name y py] j tp] value pos :: rest) env) Q E s := by
  refine wpAny_execs_cons (Assign_Tuple ?_ hs hw)
  refine wpAny_mono q (fun v s₁ h₁ => ?_) fun _ _ z => z
  obtain ⟨H, k₁, t, o, a, b, rfl, rfl, ho, hT, hq⟩ := h₁
  refine wpAny_assign_Tuple hh (hT.isTup ho) rfl rfl fun h' he => ?_
  have := hq h' fun b o e => he b o (Nat.ne_of_lt (Heap.lt_size e)) e
  show wpAny _ _ (holding [b] (assign (.Name x px) env a) >>= fun _ => (holding [] (assign (.Name y py) env b) >>= fun _ => pure ())) _ _ _
  refine wpAny_bind (wpAny_holding (wpAny_assign_Name (wpAny_mono this (fun _ s₂ h₂ => ?_) fun _ _ z => z)))
  refine wpAny_bind (wpAny_holding (wpAny_assign_Name (wpAny_mono h₂ (fun _ s₃ h₃ => ?_) fun _ _ z => z)))
  exact wpAny_pure h₃
end
end
local macro_rules | `(tactic| walk_at "aok") => `(tactic| with_reducible first | exact A_OctetsIn_data _ | exact A_OctetsIn_at _ | exact A_OctetsOut_made _ | exact A_Coverage_glyphs _ | exact A_Reverse_mapping _ | exact A_Reverse_back _ | exact A_Reverse_ahead _)
local macro_rules | `(tactic| walk_at "mok") => `(tactic| with_reducible first | exact M_OctetsIn_number _ | exact M_OctetsIn_u16 _ | exact M_OctetsIn_rows _ | exact M_OctetsIn_need _ | exact M_OctetsOut_u16 _ | exact M_OctetsOut_rows _ | exact M_OctetsOut_add _ | exact M_OctetsOut_octets _ | exact M_Coverage_told _ | exact M_Reverse_told _)
local macro_rules | `(tactic| walk_at "fl") => `(tactic| repeat first | with_reducible exact FL.here | with_reducible exact FN.nil | (with_reducible apply FN.cons; focus (decide +kernel)) | (with_reducible apply FL.there; focus (decide +kernel)))
local macro_rules | `(tactic| walk_at "attr") => `(tactic| first
  | (with_reducible first | refine sub_idx ?_ | refine e_attr ?_ | refine e_list ?_ | refine e_tup ?_ | refine none_and ?_ | refine c_attr (pl := _) ?_ | refine x_expr (EnvOk.kind (by assumption)) ?_)
  | (with_reducible refine e_neg1 ?_; intro _ _)
  | (with_reducible refine' g_cell ?k1 ?k2 ?k3 ?_; (case k1 => walk_at "st"); (case k2 => walk_at "st"); (case k3 => walk_at "st"))
  | (with_reducible refine' gm_led ?k1 ?k2 ?k3 ?k4 ?k5 ?k6 ?_; (case k1 => walk_at "st"); (case k2 => walk_at "st"); (case k3 => walk_at "loc"); (case k4 => walk_at "st"); (case k5 => walk_at "mok"); (case k6 => walk_at "fl"))
  | (with_reducible refine' gm_froz ?k1 ?k2 ?k3 ?k4 ?k5 ?k6 ?_; (case k1 => walk_at "st"); (case k2 => walk_at "st"); (case k3 => walk_at "st"); (case k4 => walk_at "st"); (case k5 => walk_at "mok"); (case k6 => walk_at "fl"))
  | (with_reducible refine' w_fun0 ?k1 ?k2 ?_; (case k1 => walk_at "st"); (case k2 => walk_at "keep"))
  | (with_reducible refine' ga_led ?k1 ?k2 ?k3 ?k4 ?k5 ?k6 ?k7 ?_; (case k1 => walk_at "st"); (case k2 => walk_at "st"); (case k3 => walk_at "loc"); (case k4 => walk_at "st"); (case k5 => walk_at "aok"); (case k6 => walk_at "fl"); (case k7 => first | (simp only [handedIn]; done) | rfl); intro _)
  | (with_reducible refine' ga_froz ?k1 ?k2 ?k3 ?k4 ?k5 ?k6 ?k7 ?_; (case k1 => walk_at "st"); (case k2 => walk_at "st"); (case k3 => walk_at "st"); (case k4 => walk_at "st"); (case k5 => walk_at "aok"); (case k6 => walk_at "fl"); (case k7 => first | (simp only [handedIn]; done) | rfl); intro _))
local macro_rules | `(tactic| walk_at "go") => `(tactic| repeat' first | walk_at "go1" | walk_at "attr")
section
theorem ints_snoc {xs : List Value} {ns : List Int} (h : IntsAre xs ns) (n : Int) (t : Tok) : IntsAre (xs ++ [.int n t]) (ns ++ [n]) := by
  induction h with
  | nil => exact .cons n t .nil
  | cons a u _ ih => exact .cons a u ih
noncomputable def rd (ks : List Int) (p : Nat) : Int := 256 * ks.getD p 0 + ks.getD (p + 1) 0
section
variable {prog : Program} {w : World} {A : Around} {E : Value → Shared → Prop} {s₀ : Shared} {h hc : Heap} {k : Nat} {base g g' gc : Heap} {fs fs' : List Env} {L L' : Addr} {ns ns' : List Str} {vs vs' : List (Option Value)} {led led' ledc : List (Addr × Obj)}
  {env : Env} {cl : List (Str × Addr)} {Q : Value → Shared → Prop}
theorem St.ret0n (S : St w base fs g L ns vs led h) (S' : St w base fs' gc L' ns' vs' ledc hc) (hst : h.StaysIn gc) {new : List (Addr × Obj)} (hsub : ∀ p ∈ new, p ∈ ledc) (hsn : (new.map (·.1)).Nodup) : St w base fs g L ns vs (new ++ led) hc := by
  obtain ⟨g', a, b, c, d⟩ := S.back0 S' hst hsub hsn
  exact S.regain d a
theorem St.back1n (S : St w base fs g L ns vs led h) {i : Nat} {d : Addr} {o o' : Obj} (hi : led[i]? = some (d, o)) (S' : St w base fs' gc L' ns' vs' ledc hc) (hst : (hideAll h [d]).StaysIn gc) {new : List (Addr × Obj)} (hsub : ∀ p ∈ new ++ [(d, o')], p ∈ ledc) (hsn : ((new ++ [(d, o')]).map (·.1)).Nodup) :
    ∃ g', An4 (g.StaysIn g') (NewIn h.objs.size gc g') (g'.StaysIn gc) (St w base fs g' L ns vs (new ++ led.set i (d, o')) hc) := by
  have hes : List.Sublist (led.eraseIdx i) led := List.eraseIdx_sublist ..
  have hdn : d ∉ (led.eraseIdx i).map (·.1) := fun hq => by
    have h1 : (led.map (·.1))[i]? = some d := by rw [List.getElem?_map, hi]; rfl
    have h2 : (led.eraseIdx i).map (·.1) = (led.map (·.1)).eraseIdx i := by
      apply List.ext_getElem?
      intro j
      rw [List.getElem?_map, List.getElem?_eraseIdx, List.getElem?_eraseIdx]
      split <;> rw [List.getElem?_map]
    rw [h2] at hq
    obtain ⟨j, hj⟩ := List.mem_iff_getElem?.mp hq
    have hlt : i < (led.map (·.1)).length := (List.getElem?_eq_some_iff.mp h1).1
    rw [List.getElem?_eraseIdx] at hj
    split at hj
    · have := (List.getElem?_inj hlt S.ndl).mp (h1.trans hj.symm); omega
    · have := (List.getElem?_inj hlt S.ndl).mp (h1.trans hj.symm); omega
  obtain ⟨g', a, b, c, S₂⟩ := S.back (foot := [(d, o)]) (sub := new ++ [(d, o')]) (rest := led.eraseIdx i) (foot1 hi) S' hst hsub hsn
    (fun p hp => ⟨hes.subset hp, fun hq => by
      have : p.1 = d := by simpa using hq
      exact hdn (this ▸ List.mem_map_of_mem hp)⟩) (S.ndl.sublist (hes.map _))
  refine ⟨g', a, b, c, S₂.part (fun p hp => ?_) ?_⟩
  · rcases List.mem_append.mp hp with hp | hp
    · exact List.mem_append_left _ (List.mem_append_left _ hp)
    · rcases mem_eraseIdx_or hp with rfl | hp
      · exact List.mem_append_left _ (List.mem_append_right _ (.head _))
      · exact List.mem_append_right _ hp
  · rw [List.map_append, List.nodup_append]
    rw [List.map_append, List.nodup_append] at hsn
    refine ⟨hsn.1, (S.set_nd o' hi).1, fun x hx y hy e => ?_⟩
    subst e
    obtain ⟨p, HH1⟩ := List.mem_map.mp hx
    have hp := HH1.1
    obtain rfl := HH1.2
    clear HH1
    obtain ⟨q, HH1⟩ := List.mem_map.mp hy
    have hq := HH1.1
    have e := HH1.2
    clear HH1
    rcases mem_eraseIdx_or hq with rfl | hq
    · exact hsn.2.2 _ hx d (by simp) e.symm
    · have h1 := (S'.ldg p (hsub p (List.mem_append_left _ hp))).2.2
      have h2 := (S.ldg q (hes.subset hq)).1
      have h3 := hst _ _ (hideAll_get _ h2 (by
        intro hm
        have : q.1 = d := by simpa using hm
        exact hdn (this ▸ List.mem_map_of_mem hq)))
      rw [e, h1] at h3; cases h3
theorem St.ret1n (S : St w base fs g L ns vs led h) {i : Nat} {d : Addr} {o o' : Obj} (hi : led[i]? = some (d, o)) (S' : St w base fs' gc L' ns' vs' ledc hc) (hst : (hideAll h [d]).StaysIn gc) {new : List (Addr × Obj)} (hsub : ∀ p ∈ new ++ [(d, o')], p ∈ ledc) (hsn : ((new ++ [(d, o')]).map (·.1)).Nodup) :
    St w base fs g L ns vs (new ++ led.set i (d, o')) hc := by
  obtain ⟨g', a, b, c, e⟩ := S.back1n hi S' hst hsub hsn
  exact S.regain e a
theorem l_range1 {n : Int} {tn : Tok} (S : St w base fs g L ns vs led h)
    (hq : ∀ r h' k' t v, h'.get? r = some { cls := .type "range", data := .fields #[.int 0 t, .int n tn, .int 1 v] } → St w base fs g L ns vs led h' → Q (.ref r) (sh s₀ h' k')) :
    wpAny (model prog w) A (call (.type "range") [.int n tn]) Q E (sh s₀ h k) := by
  refine call_range_1 ?_
  exact hq _ _ _ _ _ (Heap.get?_push_size _ rfl) (S.grown fun b o e => Heap.get?_push_of_some _ e)
theorem l_range2 {a n : Int} {ta tn : Tok} (S : St w base fs g L ns vs led h)
    (hq : ∀ r h' k' v, h'.get? r = some { cls := .type "range", data := .fields #[.int a ta, .int n tn, .int 1 v] } → St w base fs g L ns vs led h' → Q (.ref r) (sh s₀ h' k')) :
    wpAny (model prog w) A (call (.type "range") [.int a ta, .int n tn]) Q E (sh s₀ h k) := by
  refine call_range_2 ?_
  exact hq _ _ _ _ (Heap.get?_push_size _ rfl) (S.grown fun b o e => Heap.get?_push_of_some _ e)
theorem c_need {b : Array UInt8} {t tn tc : Tok} {n cnt : Int} {ks : List Int} {x dx : Addr} {od : Obj} {i : Nat} (S : St w base fs g L ns vs led h) (hA : Ax prog A fs 5) (hx : g.get? x = some (instObj 163 dx)) (hi : led[i]? = some (dx, od)) (hD : IsD od (inF b t n tn)) (hk : KBw.bInts b = ks) (hz : ks.length ≤ 16777216)
    (hok : 0 ≤ n → n + cnt ≤ ks.length → ∀ h' k', St w base fs g L ns vs led h' → Q .none (sh s₀ h' k'))
    (her : (n < 0 ∨ ks.length < n + cnt) → Er E s₀ base fs (hideAll h []) n) : wpAny (model prog w) A (call (.ref 99) [.ref x, .int cnt tc]) Q E (sh s₀ h k) := by
  refine enter (ns' := ["self", "count"]) (args' := [.ref x, .int cnt tc]) (n := 2) (vs' := [some (.ref x), some (.int cnt tc)]) S hA (by k_is) (by k_is) (BindsTo.of_eq rfl) [] (fun _ h => nomatch h) (by simp) (by decide +kernel) (by decide +kernel) rfl (by decide) (by decide +kernel) rfl rfl rfl rfl ?_
  intro env' L' h₁ k₁ A' E' he hs hA' hE hL' S'
  have hG : EnvG w env' [("check_room", .ref 70)] := .cons (kindOf_of hs (by decide +kernel)) (G_check_room w) .nil
  have hx' : (hideAll h (List.map (fun x : Addr × Obj => x.1) [])).get? x = some (instObj 163 dx) := hideNil h _ _ (S.get hx)
  have hd' : (hideAll h (List.map (fun x : Addr × Obj => x.1) [])).get? dx = some od := hideNil h _ _ (S.at_ hi)
  walk_at "go"
  refine c_check_room S' hA' hk hz (fun h0 h1 h₂ k₂ S₂ => ⟨rfl, ?_⟩) fun hc => er_pass0 hA' hE S' (stays_refl _) (her hc)
  walk_at "go"
  exact hok h0 h1 _ _ (S.ret0 S₂ (hideNil h))
noncomputable abbrev JJ21_2 (b : Array UInt8) (t : Tok) (n : Int) (ks : List Int) (dx : Addr) : Nat → Heap → List (Addr × Obj) → List Value → Prop :=
  fun j g' led' items => Ex2 fun od' t'' => An3 (led' = [(dx, od')]) (IsD od' (inF b t (n + 2 * j) t'')) (IntsAre items ((List.range j).map fun j => rd ks (n.toNat + 2 * j)))
theorem c_rows {b : Array UInt8} {t tn tc : Tok} {n : Int} {m : Nat} {ks : List Int} {x dx : Addr} {od : Obj} {i : Nat} (S : St w base fs g L ns vs led h) (hA : Ax prog A fs 8) (hx : g.get? x = some (instObj 163 dx)) (hi : led[i]? = some (dx, od)) (hD : IsD od (inF b t n tn)) (hk : KBw.bInts b = ks) (hz : ks.length ≤ 16777216) (hm : m < 65536)
    (hok : 0 ≤ n → n + 2 * m ≤ ks.length → ∀ h' k' l o xs od' t'', LO o xs → IntsAre xs ((List.range m).map fun j => rd ks (n.toNat + 2 * j)) → IsD od' (inF b t (n + 2 * m) t'') → St w base fs g L ns vs ((l, o) :: led.set i (dx, od')) h' → Q (.ref l) (sh s₀ h' k'))
    (her : (n < 0 ∨ ks.length < n + 2 * m) → Er E s₀ base fs (hideAll h [dx]) n) : wpAny (model prog w) A (call (.ref 153) [.ref x, .int m tc]) Q E (sh s₀ h k) := by
  refine enterCC (ns' := ["count"]) (args' := [.int m tc]) (n := 1) (vs' := [some (.int m tc)]) (binds := [("self", .ref x), ("count", .int m tc)]) S hA (by k_is) (by k_is) (BindsTo.of_eq rfl) rfl (fun n => ⟨.inr ⟨rfl, rfl⟩, .inl rfl, trivial⟩) [(dx, od)] (foot1 hi) (by simp) (by decide +kernel) (by decide +kernel) rfl (by decide) (by decide +kernel) rfl rfl rfl rfl ?_
  intro env' L' h₁ k₁ A' E' cells he hs hA' hE hL' hcells S'
  obtain ⟨oc, HH1⟩ := CellsAre.one hcells
  obtain rfl := HH1.1
  have hoc := HH1.2
  clear HH1
  have hx' : (hideAll h (List.map (fun x => x.1) [(dx, od)])).get? x = some (instObj 163 dx) := S.below1 hi hx
  obtain ⟨g2, hg2, hc2, S2⟩ := S'.freeze
  have hx2 := hg2 _ _ hx'
  replace S2 : St w base (env' :: fs) g2 L' ["count"] [some (.int m tc)] [(dx, od)] h₁ := S2
  replace he : EnvOk env' L' ["count"] [("self", L' + 1)] := he
  have hC : CN env' [("self", L' + 1)] g2 "self" (.ref x) := ⟨kindOf_of hs (by decide +kernel), _, _, rfl, hc2, hoc⟩
  have hG : EnvG w env' [("range", .type "range")] := .cons (kindOf_of hs (by decide +kernel)) (G_range w) .nil
  clear hs hoc hcells
  walk_at "go"
  rw [show (2 : Int) * (m : Int) = ((2 * m : Nat) : Int) by omega]
  refine c_need S2 (hA'.less (by decide)) hx2 (i := 0) rfl hD hk hz (fun h0 h1 h₂ k₂ S₂ => ⟨rfl, ?_⟩) fun hc => er_pass0 hA' hE S2 hg2 (her (by omega))
  walk_at "go"
  refine e_comp (closure_one rfl (by rw [he.cells]; rfl)) rfl (by decide +kernel) ?_
  walk_at "go"
  refine l_range1 S₂ fun r h₃ k₃ t₃ v₃ hr S₃ => ?_
  refine it_range m hA'.hd S₃ hr (by omega) (by decide) (by decide) (by omega) (by omega) fun I oI h₄ k₄ W S₄ => ?_
  refine g_elts (JJ21_2 b t n ks dx) he W S₄ (by decide +kernel) rfl (by decide +kernel) (by omega) (fun _ _ _ _ _ _ hj => hj) ?_ ?_ ?_ ?_
  · exact ⟨od, tn, rfl, by simpa using hD, .nil⟩
  · rintro j g' led' items ⟨_, _, _, _, hi⟩
    simpa using hi.length
  · rintro C cenv j v g' led' items h₅ k₅ oI' oD E'' _ hj ⟨u, rfl⟩ ⟨od', t'', rfl, hD', hits⟩ hg hcs hce S₅
    have hC' := (hC.up hg).into he.kind hcs (by decide +kernel) (cl' := [("self", L' + 1)]) rfl
    have hx5 := hg _ _ hx2
    walk_at "go"
    refine c_u16 (i := 2) S₅ (hA'.less (by decide)) hx5 rfl hD' hk hz (fun _ _ h₆ k₆ t₆ od₆ u₆ hD₆ S₆ => ?_) fun hc => ?_
    · refine elt_done S₆ (stays_refl _) ⟨od₆, u₆, rfl, ?_, ?_⟩
      · have e : n + 2 * (j : Int) + 2 = n + 2 * ((j + 1 : Nat) : Int) := by omega
        rw [← e]; exact hD₆
      · rw [List.range_succ, List.map_append]
        have e : (n + 2 * (j : Int)).toNat = n.toNat + 2 * j := by omega
        rw [e]
        exact ints_snoc hits _ _
    · omega
  · rintro g' led' items oD h₅ k₅ ⟨od', t'', rfl, hD', hits⟩ hlen hLO hg S₅
    walk_at "go"
    refine hok h0 (by omega) _ _ _ _ _ _ _ hLO hits hD' ?_
    exact S.ret1n (new := [(h₄.objs.size, oD)]) hi S₅ (stays_trans hg2 hg) (fun p hp => hp) S₅.ndl
end
end
section
/-! what the readers reckon, in plain words -/
noncomputable def U (ks : List Int) (p : Nat) : Except Int Int := if p + 2 ≤ ks.length then .ok (rd ks p) else .error p
noncomputable def irange (a b : Int) : List Int := (List.range (b - a).toNat).map fun (i : Nat) => a + (i : Int)
noncomputable def cov (ks : List Int) (form : Int) : Nat → Nat → Int → List Int → Except Int (List Int)
  | 0, _, _, f => .ok f
  | m + 1, p, least, f => match U ks p with
    | .error e => .error e
    | .ok first => if first < least then .error p else if form = 1 then cov ks form m (p + 2) (first + 1) (f ++ [first])
      else match U ks (p + 2) with
        | .error e => .error e
        | .ok last => if last < first then .error (p + 2 : Nat) else match U ks (p + 4) with
          | .error e => .error e
          | .ok ix => if ix = f.length then cov ks form m (p + 6) (last + 1) (f ++ irange first (last + 1)) else .error (p + 4 : Nat)
noncomputable def counted (ks : List Int) (form : Int) (p : Nat) : Except Int (List Int) := match U ks p with
  | .error e => .error e
  | .ok m => cov ks form m.toNat (p + 2) 0 []
noncomputable def cvr (ks : List Int) (p : Nat) : Except Int (List Int) := match U ks p with
  | .error e => .error e
  | .ok form => if form = 1 ∨ form = 2 then counted ks form (p + 2) else .error p
theorem cov_zero (ks : List Int) (form : Int) (p : Nat) (least : Int) (f : List Int) : cov ks form 0 p least f = .ok f := rfl
theorem cov1_succ (ks : List Int) (m p : Nat) (least : Int) (f : List Int) : cov ks 1 (m + 1) p least f = (match U ks p with
    | .error e => .error e
    | .ok first => if first < least then .error (p : Int) else cov ks 1 m (p + 2) (first + 1) (f ++ [first])) := by
  conv => lhs; unfold cov
  cases U ks p with
  | error e => rfl
  | ok first => simp
theorem ints_unsnoc : ∀ {xs : List Value} {f : List Int} {z : Int}, IntsAre xs (f ++ [z]) → Ex2 fun xs' t => xs = xs' ++ [.int z t] ∧ IntsAre xs' f
  | _, [], z, h => by
    cases h with
    | cons n t r => cases r; exact ⟨[], t, rfl, .nil⟩
  | _, a :: f, z, h => by
    cases h with
    | cons n t r =>
      obtain ⟨xs', u, rfl, r'⟩ := ints_unsnoc r
      exact ⟨.int a t :: xs', u, rfl, .cons a t r'⟩
theorem rd_range {b : Array UInt8} {ks : List Int} (hk : KBw.bInts b = ks) (p : Nat) : 0 ≤ rd ks p ∧ rd ks p < 65536 := by
  have h1 := ints_range hk p
  have h2 := ints_range hk (p + 1)
  unfold rd
  omega
theorem U_ok {ks : List Int} {p : Nat} (h : p + 2 ≤ ks.length) : U ks p = .ok (rd ks p) := if_pos h
theorem U_err {ks : List Int} {p : Nat} (h : ks.length < p + 2) : U ks p = .error (p : Int) := if_neg (by omega)
section
variable {prog : Program} {w : World} {A : Around} {E : Value → Shared → Prop} {s₀ : Shared} {h hc : Heap} {k : Nat} {base g g' gc : Heap} {fs fs' : List Env} {L L' : Addr} {ns ns' : List Str} {vs vs' : List (Option Value)} {led led' ledc : List (Addr × Obj)}
  {env : Env} {cl : List (Str × Addr)} {Q : Value → Shared → Prop}
theorem c_u16n {b : Array UInt8} {t tn : Tok} {p : Nat} {ks : List Int} {x dx : Addr} {od : Obj} {i : Nat} (S : St w base fs g L ns vs led h) (hA : Ax prog A fs 7) (hx : g.get? x = some (instObj 163 dx)) (hi : led[i]? = some (dx, od)) (hD : IsD od (inF b t p tn)) (hk : KBw.bInts b = ks) (hz : ks.length ≤ 16777216)
    (hok : U ks p = .ok (rd ks p) → ∀ h' k' t' od' t'', IsD od' (inF b t (p + 2 : Nat) t'') → St w base fs g L ns vs (led.set i (dx, od')) h' → Q (.int (rd ks p) t') (sh s₀ h' k'))
    (her : U ks p = .error (p : Int) → Er E s₀ base fs (hideAll h [dx]) p) : wpAny (model prog w) A (call (.ref 120) [.ref x]) Q E (sh s₀ h k) := by
  refine c_u16 S hA hx hi hD hk hz (fun h0 h1 h' k' t' od' t'' hD' S' => ?_) fun hc => her (U_err (by omega))
  exact hok (U_ok (by omega)) h' k' t' od' t'' hD' S'
noncomputable abbrev JJ23_3 (b : Array UInt8) (t : Tok) (p : Nat) (ks : List Int) (x : Addr) (dx : Addr) (l : Addr) (m : Nat) : Nat → Heap → List (Option Value) → List (Addr × Obj) → Prop :=
  fun j g' vs' led' => Ex10 fun (f : List Int) (xs : List Value) (ol' od' : Obj) (p' : Nat) (u : Tok) (least : Int) (v1 v2 v3 : Option Value) => An9 (vs' = [some (.ref x), some (.ref l), v1, v2, v3]) (led' = [(l, ol'), (dx, od')]) (LO ol' xs) (IntsAre xs f) (IsD od' (inF b t p' u)) (cov ks 1 (m - j) p' least f = cov ks 1 m (p + 2) 0 []) (((f = [] ∧ least = 0) ∨ ∃ z f', f = f' ++ [z] ∧ least = z + 1)) ((f.length : Int) ≤ least) (least ≤ 65536)
theorem c_read_ascending {b : Array UInt8} {t tn : Tok} {p : Nat} {ks : List Int} {x dx : Addr} {od : Obj} {i : Nat} (S : St w base fs g L ns vs led h) (hA : Ax prog A fs 8) (hx : g.get? x = some (instObj 163 dx)) (hi : led[i]? = some (dx, od)) (hD : IsD od (inF b t p tn)) (hk : KBw.bInts b = ks) (hz : ks.length ≤ 16777216)
    (hok : ∀ gl, counted ks 1 p = .ok gl → ∀ h' k' l o xs od', LO o xs → IntsAre xs gl → gl.length ≤ 65536 → St w base fs g L ns vs ((l, o) :: led.set i (dx, od')) h' → Q (.ref l) (sh s₀ h' k'))
    (her : ∀ e, counted ks 1 p = .error e → Er E s₀ base fs (hideAll h [dx]) e) : wpAny (model prog w) A (call (.ref 334) [.ref x]) Q E (sh s₀ h k) := by
  refine enter (ns' := ["octets_in", "found", "step", "spot", "glyph"]) (args' := [.ref x]) (n := 1) (vs' := [some (.ref x), none, none, none, none]) S hA (by k_is) (by k_is) (BindsTo.of_eq rfl) [(dx, od)] (foot1 hi) (by simp) (by decide +kernel) (by decide +kernel) rfl (by decide) (by decide +kernel) rfl rfl rfl rfl ?_
  intro env' L' h₁ k₁ A' E' he hs hA' hE hL' S'
  have hG : EnvG w env' [("range", .type "range"), ("TableFault", .ref 61)] := .cons (kindOf_of hs (by decide +kernel)) (G_range w) (.cons (kindOf_of hs (by decide +kernel)) (G_TableFault w) .nil)
  have hx' : (hideAll h (List.map (fun x => x.1) [(dx, od)])).get? x = some (instObj 163 dx) := S.below1 hi hx
  walk_at "go"
  refine g_newList S' (by decide) fun l ol h₂ hol hln _ hst₂ S₂ => ?_
  walk_at "go"
  rename St _ _ _ _ _ _ _ _ _ => S₃
  refine x_for ?_
  walk_at "go"
  refine c_u16n (i := 1) S₃ (hA'.less (by decide)) hx' rfl hD hk hz (fun hU h₄ k₄ t₄ od₄ u₄ hD₄ S₄ => ?_) fun hU => er_pass (foot := [(dx, od)]) hA' hE S₃ (stays_refl _) (fun p hp => .tail _ hp) (her _ (by unfold counted; rw [hU]))
  dsimp only [List.set] at S₄
  have hm := rd_range hk p
  obtain ⟨m, hmm⟩ := Int.eq_ofNat_of_zero_le hm.1
  rw [hmm] at hm ⊢
  walk_at "go"
  refine l_range1 S₄ fun r h₅ k₅ t₅ v₅ hr S₅ => ?_
  refine it_range m hA'.hd S₅ hr (by omega) (by decide) (by decide) (by omega) (by omega) fun I oI h₆ k₆ W S₆ => ?_
  have hcnt : counted ks 1 p = cov ks 1 m (p + 2) 0 [] := by unfold counted; rw [hU, hmm]; rfl
  refine f_loop 2 (JJ23_3 b t p ks x dx l m)
    he hE.pass rfl W S₆ ⟨[], [], ol, od₄, p + 2, u₄, 0, none, none, none, rfl, rfl, hol, .nil, hD₄, rfl, .inl ⟨rfl, rfl⟩, by decide, by decide⟩ ?_ ?_
  · rintro j v g' vs' led' h₇ k₇ oI' hj ⟨u, rfl⟩ ⟨f, xs, ol', od', p', u', least, v1, v2, v3, rfl, rfl, hLO, hits, hD', hcov, hleast, hfl, hl6⟩ hg S₇
    dsimp only [List.set] at S₇
    have hx7 := hg _ _ hx'
    have hxl := hits.length
    obtain ⟨r, hr'⟩ : ∃ r, m - j = r + 1 := ⟨m - j - 1, by omega⟩
    rw [hr', cov1_succ] at hcov
    walk_at "go"
    rename St _ _ _ _ _ _ _ _ _ => S₈
    refine c_u16n (i := 2) S₈ (hA'.less (by decide)) hx7 rfl hD' hk hz (fun hU' h₉ k₉ t₉ od₉ u₉ hD₉ S₉ => ?_) fun hU' => er_pass (foot := [(dx, od')]) hA' hE S₈ hg (fun p hp => .tail _ (.tail _ hp)) (her _ (by rw [hcnt, ← hcov, hU']))
    dsimp only [List.set] at S₉
    rw [hU'] at hcov
    dsimp only at hcov
    have hgl := rd_range hk p'
    walk_at "go"
    rename St _ _ _ _ _ _ _ _ _ => S₁₀
    have hlast := S₁₀.at_ (i := 1) rfl
    refine t_list hlast hLO (by omega) fun k₁₁ => ?_
    have hend : least ≤ rd ks p' → cov ks 1 r (p' + 2) (rd ks p' + 1) (f ++ [rd ks p']) = cov ks 1 m (p + 2) 0 [] := fun hle => by rw [← hcov, if_neg (by omega)]
    have tail : least ≤ rd ks p' ∨ rd ks p' < least := by omega
    rcases hleast with ⟨rfl, rfl⟩ | ⟨z, f', rfl, rfl⟩
    · cases hits
      refine ite_f rfl ?_
      refine ite_f rfl ?_
      have hle : (0 : Int) ≤ rd ks p' := hgl.1
      walk_at "go"
      refine gm_append hlast hLO ?_
      walk_at "go"
      refine m_append S₁₀ (i := 1) rfl hLO (by first | (simp; done) | (simp at hxl hfl ⊢; omega)) fun h₁₂ ol₂ hLO₂ S₁₂ => ⟨rfl, ?_⟩
      dsimp only [List.set] at S₁₂
      walk_at "go"
      refine turn_next S₁₂ (stays_refl _) ⟨_, _, ol₂, od₉, p' + 2, u₉, rd ks p' + 1, _, _, _, rfl, rfl, hLO₂, ints_snoc .nil _ _, hD₉, ?_, .inr ⟨_, _, rfl, rfl⟩, ?_, by omega⟩
      · rw [show m - (j + 1) = r by omega]; exact hend hle
      · simp at hfl ⊢; omega
    · obtain ⟨xs', tz, rfl, hits'⟩ := ints_unsnoc hits
      refine ite_t (by simp) ?_
      walk_at "go"
      refine sub_last hlast hLO (by simp at hxl hfl; omega) ?_
      walk_at "go"
      refine ite_c (fun hc => ?_) fun hc => ?_
      · walk_at "go"
        refine ite_t rfl ?_
        walk_at "go"
        simp only [decide_eq_true_eq] at hc
        exact call_fault S₁₀ hA' hE hg (her _ (by rw [hcnt, ← hcov, if_pos (by omega)]))
      · simp only [decide_eq_false_iff_not] at hc
        refine ite_f rfl ?_
        have hle : z + 1 ≤ rd ks p' := by omega
        walk_at "go"
        refine gm_append hlast hLO ?_
        walk_at "go"
        refine m_append S₁₀ (i := 1) rfl hLO (by first | (simp; done) | (simp at hxl hfl ⊢; omega)) fun h₁₂ ol₂ hLO₂ S₁₂ => ⟨rfl, ?_⟩
        dsimp only [List.set] at S₁₂
        walk_at "go"
        refine turn_next S₁₂ (stays_refl _) ⟨_, _, ol₂, od₉, p' + 2, u₉, rd ks p' + 1, _, _, _, rfl, rfl, hLO₂, ints_snoc hits _ _, hD₉, ?_, .inr ⟨_, _, rfl, rfl⟩, ?_, by omega⟩
        · rw [show m - (j + 1) = r by omega]; exact hend hle
        · simp at hfl ⊢; omega
  · rintro g' vs' led' h₇ k₇ ⟨f, xs, ol', od', p', u', least, v1, v2, v3, rfl, rfl, hLO, hits, hD', hcov, hleast, hfl, hl6⟩ hg S₇
    rw [Nat.sub_self, cov_zero] at hcov
    walk_at "go"
    refine hok f (by rw [hcnt, ← hcov]) _ _ _ _ _ _ hLO hits (by omega) (S.ret1n (new := [(l, ol')]) hi S₇ hg (fun p hp => hp) S₇.ndl)
end
noncomputable def spanR (ks : List Int) (p : Nat) (least : Int) : Except Int (Int × Int) := match U ks p with
  | .error e => .error e
  | .ok first => if first < least then .error p else match U ks (p + 2) with
    | .error e => .error e
    | .ok last => if last < first then .error (p + 2 : Nat) else .ok (first, last)
theorem cov2_succ (ks : List Int) (m p : Nat) (least : Int) (f : List Int) : cov ks 2 (m + 1) p least f = (match spanR ks p least with
    | .error e => .error e
    | .ok q => match U ks (p + 4) with
      | .error e => .error e
      | .ok ix => if ix = f.length then cov ks 2 m (p + 6) (q.2 + 1) (f ++ irange q.1 (q.2 + 1)) else .error ((p + 4 : Nat) : Int)) := by
  conv => lhs; unfold cov
  unfold spanR
  cases U ks p with
  | error e => rfl
  | ok first =>
    dsimp only
    by_cases h1 : first < least
    · rw [if_pos h1, if_pos h1]
    · rw [if_neg h1, if_neg h1, if_neg (by decide)]
      cases U ks (p + 2) with
      | error e => rfl
      | ok last =>
        dsimp only
        by_cases h2 : last < first
        · rw [if_pos h2, if_pos h2]
        · rw [if_neg h2, if_neg h2]
          all_goals (cases U ks (p + 4) <;> rfl)
section
variable {prog : Program} {w : World} {A : Around} {E : Value → Shared → Prop} {s₀ : Shared} {h hc : Heap} {k : Nat} {base g g' gc : Heap} {fs fs' : List Env} {L L' : Addr} {ns ns' : List Str} {vs vs' : List (Option Value)} {led led' ledc : List (Addr × Obj)}
  {env : Env} {cl : List (Str × Addr)} {Q : Value → Shared → Prop}
theorem c_read_span {b : Array UInt8} {t tn tl : Tok} {p : Nat} {least : Int} {ks : List Int} {x dx : Addr} {od : Obj} {i : Nat} (S : St w base fs g L ns vs led h) (hA : Ax prog A fs 8) (hx : g.get? x = some (instObj 163 dx)) (hi : led[i]? = some (dx, od)) (hD : IsD od (inF b t p tn)) (hk : KBw.bInts b = ks) (hz : ks.length ≤ 16777216)
    (hok : spanR ks p least = .ok (rd ks p, rd ks (p + 2)) → least ≤ rd ks p → rd ks p ≤ rd ks (p + 2) → ∀ h' k' l o ta tb od' u', TO o [.int (rd ks p) ta, .int (rd ks (p + 2)) tb] → IsD od' (inF b t (p + 4 : Nat) u') → St w base fs g L ns vs ((l, o) :: led.set i (dx, od')) h' → Q (.ref l) (sh s₀ h' k'))
    (her : ∀ e, spanR ks p least = .error e → Er E s₀ base fs (hideAll h [dx]) e) : wpAny (model prog w) A (call (.ref 341) [.ref x, .int least tl]) Q E (sh s₀ h k) := by
  refine enter (ns' := ["octets_in", "least", "spot", "first", "last"]) (args' := [.ref x, .int least tl]) (n := 2) (vs' := [some (.ref x), some (.int least tl), none, none, none]) S hA (by k_is) (by k_is) (BindsTo.of_eq rfl) [(dx, od)] (foot1 hi) (by simp) (by decide +kernel) (by decide +kernel) rfl (by decide) (by decide +kernel) rfl rfl rfl rfl ?_
  intro env' L' h₁ k₁ A' E' he hs hA' hE hL' S'
  have hG : EnvG w env' [("TableFault", .ref 61)] := .cons (kindOf_of hs (by decide +kernel)) (G_TableFault w) .nil
  have hx' : (hideAll h (List.map (fun x => x.1) [(dx, od)])).get? x = some (instObj 163 dx) := S.below1 hi hx
  walk_at "go"
  rename St _ _ _ _ _ _ _ _ _ => S₁
  refine c_u16n (i := 0) S₁ (hA'.less (by decide)) hx' rfl hD hk hz (fun hU h₂ k₂ t₂ od₂ u₂ hD₂ S₂ => ?_) fun hU => er_pass (foot := [(dx, od)]) hA' hE S₁ (stays_refl _) (fun p hp => hp) (her _ (by unfold spanR; rw [hU]))
  dsimp only [List.set] at S₂
  walk_at "go"
  rename St _ _ _ _ _ _ _ _ _ => S₃
  refine ite_c (fun hc => ?_) fun hc => ?_
  · walk_at "go"
    simp only [decide_eq_true_eq] at hc
    exact call_fault S₃ hA' hE (stays_refl _) (her _ (by unfold spanR; rw [hU]; dsimp only; rw [if_pos hc]))
  simp only [decide_eq_false_iff_not] at hc
  walk_at "go"
  rename St _ _ _ _ _ _ _ _ _ => S₄
  refine c_u16n (i := 0) S₄ (hA'.less (by decide)) hx' rfl hD₂ hk hz (fun hV h₅ k₅ t₅ od₅ u₅ hD₅ S₅ => ?_) fun hV => er_pass (foot := [(dx, od₂)]) hA' hE S₄ (stays_refl _) (fun p hp => hp) (her _ (by unfold spanR; rw [hU]; dsimp only; rw [if_neg hc, hV]))
  dsimp only [List.set] at S₅
  walk_at "go"
  rename St _ _ _ _ _ _ _ _ _ => S₆
  refine ite_c (fun hc2 => ?_) fun hc2 => ?_
  · walk_at "go"
    simp only [decide_eq_true_eq] at hc2
    exact call_fault S₆ hA' hE (stays_refl _) (her _ (by unfold spanR; rw [hU]; dsimp only; rw [if_neg hc, hV]; dsimp only; rw [if_pos hc2]))
  simp only [decide_eq_false_iff_not] at hc2
  walk_at "go"
  refine g_newTuple S₆ (by simp) fun l o h₇ hT _ _ _ S₇ => ?_
  walk_at "go"
  exact hok (by unfold spanR; rw [hU]; dsimp only; rw [if_neg hc, hV]; dsimp only; rw [if_neg hc2]) (by omega) (by omega) _ _ _ _ _ _ _ _ hT hD₅ (S.ret1n (new := [(l, o)]) hi S₇ (stays_refl _) (fun p hp => hp) S₇.ndl)
end
end
section
theorem ints_of_items : ∀ {ys : List Value} {a : Int} {n : Nat}, ys.length = n → (∀ (j : Nat) v, ys[j]? = some v → ∃ t, v = .int (a + (j : Int)) t) → IntsAre ys ((List.range n).map fun (i : Nat) => a + (i : Int))
  | [], a, n, hn, _ => by subst hn; exact .nil
  | y :: ys, a, n, hn, h => by
    obtain ⟨t, rfl⟩ := h 0 y rfl
    cases n with
    | zero => simp at hn
    | succ n =>
      have ih := ints_of_items (ys := ys) (a := a + 1) (n := n) (by simpa using hn) (fun j v hj => by
        obtain ⟨t, e⟩ := h (j + 1) v (by simpa using hj)
        exact ⟨t, by rw [e]; congr 1; omega⟩)
      have e : (List.range (n + 1)).map (fun (i : Nat) => a + (i : Int)) = (a + ((0 : Nat) : Int)) :: (List.range n).map (fun (i : Nat) => a + 1 + (i : Int)) := by
        rw [List.range_succ_eq_map, List.map_cons, List.map_map]
        congr 1
        apply List.map_congr_left
        intro i _
        simp
        omega
      rw [e]
      exact .cons _ _ ih
section
variable {prog : Program} {w : World} {A : Around} {E : Value → Shared → Prop} {s₀ : Shared} {h hc : Heap} {k : Nat} {base g g' gc : Heap} {fs fs' : List Env} {L L' : Addr} {ns ns' : List Str} {vs vs' : List (Option Value)} {led led' ledc : List (Addr × Obj)}
  {env : Env} {cl : List (Str × Addr)} {Q : Value → Shared → Prop}
theorem l_len_list {l : Addr} {o : Obj} {xs : List Value} (ho : h.get? l = some o) (hl : LO o xs) (hz : xs.length ≤ 16777216) (hq : ∀ t' k', Q (.int xs.length t') (sh s₀ h k')) :
    wpAny (model prog w) A (call (.builtin "len") [.ref l]) Q E (sh s₀ h k) := by
  refine PyProof.Rows.len_list (hl.isList ho) (by rw [List.size_toArray]; omega) ?_
  rw [List.size_toArray]; exact hq _ _
theorem l_len_tup {l : Addr} {o : Obj} {xs : List Value} (ho : h.get? l = some o) (hl : TO o xs) (hz : xs.length ≤ 16777216) (hq : ∀ t' k', Q (.int xs.length t') (sh s₀ h k')) :
    wpAny (model prog w) A (call (.builtin "len") [.ref l]) Q E (sh s₀ h k) := by
  refine PyProof.Rows.len_tuple (hl.isTup ho) (by rw [List.size_toArray]; omega) ?_
  rw [List.size_toArray]; exact hq _ _
theorem gm_extend {l : Addr} {o : Obj} {xs : List Value} {pl : Sem Bool} {Q : Value × List Value → Shared → Prop} (ho : h.get? l = some o) (hl : LO o xs) (hq : Q (.builtin "list.extend", [.ref l]) (sh s₀ h k)) : wpAny (model prog w) A (getMethod (.ref l) "extend" pl) Q E (sh s₀ h k) :=
  getMethod_list_of PySem.F.slot_list_extend PySem.F.type_list_extend (hl.isList ho) ⟨o, ho, hl.dict⟩ hq
theorem walks_behind {I : Addr} {fp wr : List Addr} {n : Nat} {P : Nat → Value → Prop} {StI : Nat → Heap → Prop} (W : Walks prog w A I fp wr n P StI) (n₀ : Nat) (X : Nat → Value → Prop) :
    Walks prog w A I fp wr (n₀ + n) (fun i v => if i < n₀ then X i v else P (i - n₀) v) (fun i h => n₀ ≤ i ∧ StI (i - n₀) h) where
  sub := W.sub
  frame := fun i h h' st hk => ⟨st.1, W.frame _ _ _ st.2 hk⟩
  item := fun i s Q E hi st hQ => W.item (i - n₀) s Q E (by have := st.1; omega) st.2 fun v h' tk hP st' hk => hQ v h' tk (by rw [if_neg (by have := st.1; omega)]; exact hP) ⟨by have := st.1; omega, by
    have := st.1
    rw [show i + 1 - n₀ = i - n₀ + 1 by omega]; exact st'⟩ hk
  done := fun s Q E st hQ => W.done s Q E (by have := st.2; rwa [Nat.add_sub_cancel_left] at this) hQ
  self := fun i s Q E st hQ => W.self (i - n₀) s Q E st.2 hQ
theorem m_extend_range {l r : Addr} {o : Obj} {xs : List Value} {a b : Int} {t u v : Tok} {i : Nat} (hh : A.handled = none) (S : St w base fs g L ns vs led h) (hi : led[i]? = some (l, o)) (hl : LO o xs)
    (hr : h.get? r = some { cls := .type "range", data := .fields #[.int a t, .int b u, .int 1 v] }) (ha : 0 ≤ a) (ha2 : a < 2 ^ 17) (hb : b < 2 ^ 17) (hb0 : -(2 ^ 17) < b) (hz : xs.length ≤ 2 ^ 20)
    (hq : ∀ h' k' o' ys, LO o' (xs ++ ys) → IntsAre ys (irange a b) → St w base fs g L ns vs (led.set i (l, o')) h' → Q .none (sh s₀ h' k')) :
    wpAny (model prog w) A (call (.builtin "list.extend") [.ref l, .ref r]) Q E (sh s₀ h k) := by
  have ho := S.at_ hi
  obtain ⟨c₀, rfl⟩ := hl.ex
  obtain ⟨n, hn⟩ : ∃ n : Nat, (n : Int) = max 0 (b - a) := ⟨(b - a).toNat, by omega⟩
  have hsz := rsz hn
  have hsm := rsm hn (by omega) (by omega) (by omega) (by omega)
  have hn17 : n ≤ 2 ^ 18 := by omega
  have hlr : l ≠ r := fun e => by rw [e, hr] at ho; simp at ho
  have hlt : l < h.objs.size := Heap.lt_size ho
  have hlI : l ≠ h.objs.size := Nat.ne_of_lt hlt
  have hlf : l ∉ [h.objs.size] := fun hm => hlI (List.mem_singleton.mp hm)
  have W := (walks_behind (Walks.range (prog := prog) (w := w) (A := A.in1) hh h.objs.size a 1 n) xs.length (fun i v => xs[i]? = some v)).toS
  refine wpAny_call (codeAny_call_builtin PySem.F.slot_list_extend.plain PySem.F.entry_list_extend (PySem.F.slot_list_extend.check _ _ _ _ _ _ _ _ (hl.isList ho).typeIs (PySem.F.args_list_extend_2 _ _) ?_))
  have fin : ∀ (H : Heap) (c₁ tk : Nat), IsRangeIter H h.objs.size a n 1 → (∀ b o, b ≠ l → h.get? b = some o → H.get? b = some o) → H.get? l = some { cls := .type "list", data := .seq xs.toArray c₁ } →
      codeAny (model prog w) A (.builtin "list.extend.loop" ⟨[.ref l, .ref h.objs.size, .none], []⟩) (fun r s' => match r with | .ok (.ret v) => Q v s' | .ok _ => False | .error e => E e s') (sh s₀ H tk) := by
    intro H c₁ tk hit hk hS
    refine codeAny_extend_loopS W (by rw [sizeLine_eq]; omega) l hlf .none n xs.length (sh s₀ H tk) xs.toArray c₁ (by omega) (by omega) ⟨Nat.le_refl _, by
      show IsRangeIter H h.objs.size (a + ((xs.length - xs.length : Nat) : Int) * 1) ((n : Int) - ((xs.length - xs.length : Nat) : Int)) 1
      rw [Nat.sub_self]
      simpa using hit⟩ hS ⟨by simp, fun j v hj => ?_⟩ fun s' acc' c' hm hS' hacc => ?_
    · have : j < xs.length := by simpa using (Array.getElem?_eq_some_iff.mp hj).1
      show (if j < xs.length then xs[j]? = some v else _)
      rw [if_pos this]; simpa using hj
    · rw [Moved.eq_with hm]
      have hacc1 := hacc.1
      have hacc2 := hacc.2
      have hpre : acc'.toList.take xs.length = xs := by
        apply List.ext_getElem?
        intro j
        rw [List.getElem?_take]
        by_cases hj : j < xs.length
        · rw [if_pos hj]
          have h1 : j < acc'.size := by omega
          have := hacc2 j acc'[j] (by simp [h1])
          dsimp only at this
          rw [if_pos hj] at this
          rw [this]; simp [h1]
        · rw [if_neg hj, List.getElem?_eq_none (by omega)]
      refine hq s'.heap s'.toks _ (acc'.toList.drop xs.length) ⟨c', rfl⟩ ?_ ?_
      · unfold irange
        rw [show (b - a).toNat = n by omega]
        refine ints_of_items (by simp; omega) fun j v hj => ?_
        rw [List.getElem?_drop] at hj
        have := hacc2 (xs.length + j) v (by simpa using hj)
        dsimp only at this
        rw [if_neg (by omega), Nat.add_sub_cancel_left] at this
        simpa using this
      · refine S.turnedX hi (fun b' o' hb' e => hm.heap b' o' (fun hmem => ?_) (hk b' o' hb' e)) ?_
        · rcases List.mem_cons.mp hmem with e' | hmem
          · exact hb' e'
          · exact absurd (Heap.lt_size e) (by rw [List.mem_singleton.mp hmem]; exact Nat.lt_irrefl _)
        · rw [hS']
          have e : acc' = (xs ++ acc'.toList.drop xs.length).toArray := by
            apply Array.ext'
            have q := List.take_append_drop xs.length acc'.toList
            rw [hpre] at q
            exact q.symm
          rw [← e]
  show wpAny _ A.in1 (Builtin.List.listExtendWith (.ref l) (.ref r) .none) _ _ _
  unfold Builtin.List.listExtendWith
  refine wpAny_bind (wpAny_typeOf (T := "range") ⟨_, hr, rfl⟩ ?_)
  have h1 : Builtin.List.listSameRef (.ref l) (.ref r) = false := by simp [Builtin.List.listSameRef, hlr]
  have h2 : (Value.type "range" == Value.type "list") = false := by decide
  have h3 : (Value.type "range" == Value.type "tuple") = false := by decide
  simp only [h1, h2, h3, Bool.or_false, Bool.false_eq_true, if_false]
  refine wpAny_bind (wpAny_pyIter_range hr hsm ?_)
  refine wpAny_bind (wpAny_holding (wpAny_hint_range (n := n) (Heap.get?_push_of_some _ hr) hsz (by omega) ?_))
  have hit₁ : IsRangeIter (h.push { cls := .type "range_iterator", data := .fields #[rawInt a, rawInt (Builtin.Range.rangeSize a b 1), rawInt 1] }) h.objs.size a n 1 := by
    rw [hsz]
    exact Heap.get?_push_size h rfl
  have hS₁ := Heap.get?_push_of_some { cls := .type "range_iterator", data := .fields #[rawInt a, rawInt (Builtin.Range.rangeSize a b 1), rawInt 1] } ho
  refine wpAny_ite_split (fun _ => ?_) (fun _ => wpAny_pure ⟨plainId_quiet PySem.F.plain_extend_loop _, fin _ c₀ _ hit₁ (fun b o _ e => Heap.get?_push_of_some _ e) hS₁⟩)
  refine wpAny_bind (wpAny_rule ?_)
  refine wpAny_bind ?_
  show wpAny _ _ (updateSeq l (·.push .none) >>= fun _ => updateSeq l (·.pop)) _ _ _
  refine wpAny_bind (wpAny_updateSeq hS₁ rfl ?_ ?_ ?_)
  · have hS₂ := Heap.get?_update_self (Obj.mapSeq (·.push Value.none)) hS₁ rfl
    refine wpAny_updateSeq hS₂ rfl ?_ ?_ ?_
    · have hS₃ := Heap.get?_update_self (Obj.mapSeq (·.pop)) hS₂ rfl
      have hS₄ : ∃ c₁, Obj.mapSeq (·.pop) (Obj.mapSeq (·.push Value.none) { cls := .type "list", dict := none, data := .seq xs.toArray c₀, slots := #[] }) = { cls := .type "list", data := .seq xs.toArray c₁ } := by
        simp [Obj.mapSeq]
      obtain ⟨c₁, hS₄⟩ := hS₄
      rw [hS₄] at hS₃
      refine wpAny_pure ⟨plainId_quiet PySem.F.plain_extend_loop _, fin _ c₁ _ ?_ (fun b o hb e => ?_) hS₃⟩
      · exact (Heap.get?_update_other _ _ hlI).trans ((Heap.get?_update_other _ _ hlI).trans hit₁)
      · exact (Heap.get?_update_other _ _ (Ne.symm hb)).trans ((Heap.get?_update_other _ _ (Ne.symm hb)).trans (Heap.get?_push_of_some _ e))
    · simp [sizeLine_eq]; omega
    · simp [sizeLine_eq]; omega
  · rw [List.size_toArray, sizeLine_eq]; omega
  · simp [sizeLine_eq]; omega
end
end
section
theorem irange_len {a b : Int} (h : a ≤ b) : ((irange a b).length : Int) = b - a := by
  unfold irange; simp; omega
theorem ints_app {xs ys : List Value} {f f' : List Int} (h : IntsAre xs f) (h' : IntsAre ys f') : IntsAre (xs ++ ys) (f ++ f') := h.append h'
section
variable {prog : Program} {w : World} {A : Around} {E : Value → Shared → Prop} {s₀ : Shared} {h hc : Heap} {k : Nat} {base g g' gc : Heap} {fs fs' : List Env} {L L' : Addr} {ns ns' : List Str} {vs vs' : List (Option Value)} {led led' ledc : List (Addr × Obj)}
  {env : Env} {cl : List (Str × Addr)} {Q : Value → Shared → Prop}
noncomputable abbrev JJ25_4 (b : Array UInt8) (t : Tok) (p : Nat) (ks : List Int) (x : Addr) (dx : Addr) (l : Addr) (m : Nat) : Nat → Heap → List (Option Value) → List (Addr × Obj) → Prop :=
  fun j g' vs' led' => Ex12 fun (f : List Int) (xs : List Value) (ol' od' : Obj) (p' : Nat) (u ul : Tok) (least : Int) (v1 v2 v3 v4 : Option Value) => An8 (vs' = [some (.ref x), some (.ref l), some (.int least ul), v1, v2, v3, v4]) (led' = [(l, ol'), (dx, od')]) (LO ol' xs) (IntsAre xs f) (IsD od' (inF b t p' u)) (cov ks 2 (m - j) p' least f = cov ks 2 m (p + 2) 0 []) ((f.length : Int) ≤ least) (least ≤ 65536)
theorem c_read_spans {b : Array UInt8} {t tn : Tok} {p : Nat} {ks : List Int} {x dx : Addr} {od : Obj} {i : Nat} (S : St w base fs g L ns vs led h) (hA : Ax prog A fs 9) (hx : g.get? x = some (instObj 163 dx)) (hi : led[i]? = some (dx, od)) (hD : IsD od (inF b t p tn)) (hk : KBw.bInts b = ks) (hz : ks.length ≤ 16777216)
    (hok : ∀ gl, counted ks 2 p = .ok gl → ∀ h' k' l o xs od', LO o xs → IntsAre xs gl → gl.length ≤ 65536 → St w base fs g L ns vs ((l, o) :: led.set i (dx, od')) h' → Q (.ref l) (sh s₀ h' k'))
    (her : ∀ e, counted ks 2 p = .error e → Er E s₀ base fs (hideAll h [dx]) e) : wpAny (model prog w) A (call (.ref 348) [.ref x]) Q E (sh s₀ h k) := by
  refine enter (ns' := ["octets_in", "found", "least", "step", "first", "last", "spot"]) (args' := [.ref x]) (n := 1) (vs' := [some (.ref x), none, none, none, none, none, none]) S hA (by k_is) (by k_is) (BindsTo.of_eq rfl) [(dx, od)] (foot1 hi) (by simp) (by decide +kernel) (by decide +kernel) rfl (by decide) (by decide +kernel) rfl rfl rfl rfl ?_
  intro env' L' h₁ k₁ A' E' he hs hA' hE hL' S'
  have hG : EnvG w env' [("range", .type "range"), ("TableFault", .ref 61), ("read_span", .ref 341), ("len", .builtin "len")] := .cons (kindOf_of hs (by decide +kernel)) (G_range w) (.cons (kindOf_of hs (by decide +kernel)) (G_TableFault w) (.cons (kindOf_of hs (by decide +kernel)) (G_read_span w) (.cons (kindOf_of hs (by decide +kernel)) (G_len w) .nil)))
  have hx' : (hideAll h (List.map (fun x => x.1) [(dx, od)])).get? x = some (instObj 163 dx) := S.below1 hi hx
  walk_at "go"
  refine g_newList S' (by decide) fun l ol h₂ hol hln _ hst₂ S₂ => ?_
  walk_at "go"
  rename St _ _ _ _ _ _ _ _ _ => S₃
  refine x_for ?_
  walk_at "go"
  refine c_u16n (i := 1) S₃ (hA'.less (by decide)) hx' rfl hD hk hz (fun hU h₄ k₄ t₄ od₄ u₄ hD₄ S₄ => ?_) fun hU => er_pass (foot := [(dx, od)]) hA' hE S₃ (stays_refl _) (fun p hp => .tail _ hp) (her _ (by unfold counted; rw [hU]))
  dsimp only [List.set] at S₄
  have hm := rd_range hk p
  obtain ⟨m, hmm⟩ := Int.eq_ofNat_of_zero_le hm.1
  rw [hmm] at hm ⊢
  walk_at "go"
  refine l_range1 S₄ fun r h₅ k₅ t₅ v₅ hr S₅ => ?_
  refine it_range m hA'.hd S₅ hr (by omega) (by decide) (by decide) (by omega) (by omega) fun I oI h₆ k₆ W S₆ => ?_
  have hcnt : counted ks 2 p = cov ks 2 m (p + 2) 0 [] := by unfold counted; rw [hU, hmm]; rfl
  refine f_loop 3 (JJ25_4 b t p ks x dx l m)
    he hE.pass rfl W S₆ ⟨[], [], ol, od₄, p + 2, u₄, _, 0, none, none, none, none, rfl, rfl, hol, .nil, hD₄, rfl, by decide, by decide⟩ ?_ ?_
  · rintro j v g' vs' led' h₇ k₇ oI' hj ⟨u, rfl⟩ ⟨f, xs, ol', od', p', u', ul, least, v1, v2, v3, v4, rfl, rfl, hLO, hits, hD', hcov, hfl, hl6⟩ hg S₇
    dsimp only [List.set] at S₇
    have hx7 := hg _ _ hx'
    have hxl := hits.length
    obtain ⟨r, hr'⟩ : ∃ r, m - j = r + 1 := ⟨m - j - 1, by omega⟩
    rw [hr', cov2_succ] at hcov
    have r1 := rd_range hk p'
    have r2 := rd_range hk (p' + 2)
    refine x_unpack2 (s₀ := s₀) hA'.hd ?_
    walk_at "go"
    refine c_read_span (i := 2) S₇ (hA'.less (by decide)) hx7 rfl hD' hk hz (fun hsp hle1 hle2 h₈ k₈ tp ot ta tb od₈ u₈ hT hD₈ S₈ => ?_) fun e he' => er_pass (foot := [(dx, od')]) hA' hE S₇ hg (fun p hp => .tail _ (.tail _ hp)) (her _ (by rw [hcnt, ← hcov, he']))
    dsimp only [List.set] at S₈
    refine ⟨h₈, k₈, tp, ot, _, _, rfl, rfl, S₈.at_ (i := 0) rfl, hT, fun h₉ hk₉ => ?_⟩
    have S₉ := (S₈.grown hk₉).part (sub := [(I, oI'), (l, ol'), (dx, od₈)]) (fun p hp => .tail _ hp) (by have := S₈.ndl; rw [List.map_cons, List.nodup_cons] at this; exact this.2)
    rw [hsp] at hcov
    dsimp only at hcov
    clear S₈ S₇
    walk_at "go"
    rename St _ _ _ _ _ _ _ _ _ => S₁₀
    refine c_u16n (i := 2) S₁₀ (hA'.less (by decide)) hx7 rfl hD₈ hk hz (fun hV h₁₁ k₁₁ t₁₁ od₁₁ u₁₁ hD₁₁ S₁₁ => ?_) fun hV => er_pass (foot := [(dx, od₈)]) hA' hE S₁₀ hg (fun p hp => .tail _ (.tail _ hp)) (her _ (by rw [hcnt, ← hcov, hV]))
    dsimp only [List.set] at S₁₁
    rw [hV] at hcov
    dsimp only at hcov
    walk_at "go"
    refine l_len_list (S₁₁.at_ (i := 1) rfl) hLO (by omega) fun t₁₂ k₁₂ => ?_
    walk_at "go"
    refine ite_c (fun hc => ?_) fun hc => ?_
    · walk_at "go"
      exact call_fault S₁₁ hA' hE hg (her _ (by rw [hcnt, ← hcov, if_neg (by rw [hxl] at hc; simpa using hc)]))
    · have hc' : rd ks (p' + 4) = (f.length : Int) := by rw [hxl] at hc; simpa using hc
      rw [if_pos hc'] at hcov
      walk_at "go"
      refine gm_extend (S₁₁.at_ (i := 1) rfl) hLO ?_
      walk_at "go"
      refine l_range2 S₁₁ fun rg h₁₃ k₁₃ v₁₃ hr S₁₃ => ?_
      walk_at "go"
      refine m_extend_range (i := 1) hA'.hd S₁₃ rfl hLO hr (by omega) (by omega) (by omega) (by omega) (by omega) fun h₁₄ k₁₄ ol₁₄ ys hLO₁₄ hys S₁₄ => ⟨rfl, ?_⟩
      dsimp only [List.set] at S₁₄
      walk_at "go"
      rename St _ _ _ _ _ _ _ _ _ => S₁₅
      refine turn_next S₁₅ (stays_refl _) ⟨_, _, ol₁₄, od₁₁, p' + 6, u₁₁, _, rd ks (p' + 2) + 1, _, _, _, _, rfl, rfl, hLO₁₄, ints_app hits hys, hD₁₁, ?_, ?_, by omega⟩
      · rw [show m - (j + 1) = r by omega]; exact hcov
      · rw [List.length_append]
        have := irange_len (a := rd ks p') (b := rd ks (p' + 2) + 1) (by omega)
        omega
  · rintro g' vs' led' h₇ k₇ ⟨f, xs, ol', od', p', u', ul, least, v1, v2, v3, v4, rfl, rfl, hLO, hits, hD', hcov, hfl, hl6⟩ hg S₇
    rw [Nat.sub_self, cov_zero] at hcov
    walk_at "go"
    refine hok f (by rw [hcnt, ← hcov]) _ _ _ _ _ _ hLO hits (by omega) (S.ret1n (new := [(l, ol')]) hi S₇ hg (fun p hp => hp) S₇.ndl)
end
structure TupInts (n : Nat) (g : Heap) (v : Value) (gl : List Int) : Prop where
  ex : Ex3 fun t o xs => An5 (v = .ref t) (n ≤ t) (g.get? t = some o) (TO o xs) (IntsAre xs gl)
structure CovIs (n : Nat) (g : Heap) (v : Value) (gl : List Int) : Prop where
  ex : Ex4 fun x dx od tv => An7 (v = .ref x) (n ≤ x) (n ≤ dx) (g.get? x = some (instObj 309 dx)) (g.get? dx = some od) (IsD od [("glyphs", tv)]) (TupInts n g tv gl)
theorem NewIn.get {n m : Nat} {gc g' : Heap} (hN : NewIn n gc g') (hm : n ≤ m) {a : Addr} {o : Obj} (ha : m ≤ a) (e : gc.get? a = some o) : g'.get? a = some o := hN a o (Nat.le_trans hm ha) e
theorem TupInts.into {n m : Nat} {gc g' : Heap} {v : Value} {gl : List Int} (x : TupInts m gc v gl) (hN : NewIn n gc g') (hm : n ≤ m) : TupInts n g' v gl := by
  obtain ⟨t, o, xs, h1, h2, h3, h4, h5⟩ := x.ex
  exact ⟨t, o, xs, h1, Nat.le_trans hm h2, hN.get hm h2 h3, h4, h5⟩
theorem CovIs.into {n m : Nat} {gc g' : Heap} {v : Value} {gl : List Int} (x : CovIs m gc v gl) (hN : NewIn n gc g') (hm : n ≤ m) : CovIs n g' v gl := by
  obtain ⟨y, dx, od, tv, h1, h2, h3, h4, h5, h6, h7⟩ := x.ex
  exact ⟨y, dx, od, tv, h1, Nat.le_trans hm h2, Nat.le_trans hm h3, hN.get hm h2 h4, hN.get hm h3 h5, h6, h7.into hN hm⟩
theorem TupInts.up {n m : Nat} {g g' : Heap} {v : Value} {gl : List Int} (x : TupInts m g v gl) (hg : g.StaysIn g') (hm : n ≤ m) : TupInts n g' v gl := by
  obtain ⟨t, o, xs, h1, h2, h3, h4, h5⟩ := x.ex
  exact ⟨t, o, xs, h1, Nat.le_trans hm h2, hg _ _ h3, h4, h5⟩
theorem CovIs.up {n m : Nat} {g g' : Heap} {v : Value} {gl : List Int} (x : CovIs m g v gl) (hg : g.StaysIn g') (hm : n ≤ m) : CovIs n g' v gl := by
  obtain ⟨y, dx, od, tv, h1, h2, h3, h4, h5, h6, h7⟩ := x.ex
  exact ⟨y, dx, od, tv, h1, Nat.le_trans hm h2, Nat.le_trans hm h3, hg _ _ h4, hg _ _ h5, h6, h7.up hg hm⟩
section
variable {prog : Program} {w : World} {A : Around} {E : Value → Shared → Prop} {s₀ : Shared} {h hc : Heap} {k : Nat} {base g g' gc : Heap} {fs fs' : List Env} {L L' : Addr} {ns ns' : List Str} {vs vs' : List (Option Value)} {led led' ledc : List (Addr × Obj)}
  {env : Env} {cl : List (Str × Addr)} {Q : Value → Shared → Prop}
theorem St.retg0 (S : St w base fs g L ns vs led h) (S' : St w base fs' gc L' ns' vs' ledc hc) (hst : h.StaysIn gc) : ∃ g', An3 (g.StaysIn g') (NewIn h.objs.size gc g') (St w base fs g' L ns vs led hc) := by
  obtain ⟨g', a, b, c, d⟩ := S.back0 S' hst (sub := []) (fun p hp => nomatch hp) (by simp)
  exact ⟨g', a, b, d⟩
theorem St.retg1 (S : St w base fs g L ns vs led h) {i : Nat} {d : Addr} {o o' : Obj} (hi : led[i]? = some (d, o)) (S' : St w base fs' gc L' ns' vs' ledc hc) (hst : (hideAll h [d]).StaysIn gc) (hm : (d, o') ∈ ledc) : ∃ g', g.StaysIn g' ∧ NewIn h.objs.size gc g' ∧ St w base fs g' L ns vs (led.set i (d, o')) hc := by
  obtain ⟨g', a, b, c, e⟩ := S.back1 hi S' hst hm
  exact ⟨g', a, b, e⟩
theorem St.Llt (S : St w base fs g L ns vs led h) : L < h.objs.size := S.loc.lt
theorem c_Coverage {tv : Value} (S : St w base fs g L ns vs led h) (hA : Ax prog A fs 3)
    (hok : ∀ g' h' k' x dx od, g.StaysIn g' → h.objs.size ≤ x → h.objs.size ≤ dx → g'.get? x = some (instObj 309 dx) → g'.get? dx = some od → IsD od [("glyphs", tv)] → St w base fs g' L ns vs led h' → Q (.ref x) (sh s₀ h' k')) :
    wpAny (model prog w) A (call (.ref 309) [tv]) Q E (sh s₀ h k) := by
  refine make_i S (C_Coverage w) fun x dx h₀ S0 hdx hxx => ?_
  obtain ⟨g1, hg1, hx, S1⟩ := S0.freeze
  refine enterR (ns' := ["self", "glyphs"]) (args' := [.ref x, tv]) (n := 2) (vs' := [some (.ref x), some tv]) S1 (hA.make (d := 2)) (by k_is) (by k_is) (BindsTo.of_eq rfl) [(dx, dictOf [] 0)] (fun p hp => by rw [List.mem_singleton.mp hp]; exact .head _) (by simp) (by decide +kernel) (by decide +kernel) rfl (by decide) (by decide +kernel) rfl rfl rfl rfl ?_
  intro env' L' h₁ k₁ A' E' he hs hA' hE hL' S'
  have hxd : x ≠ dx := fun q => by
    have := (S1.ldg _ (.head _)).2.2
    rw [← q, hx] at this; cases this
  have hx' : (hideAll h₀ [dx]).get? x = some (instObj 309 dx) := hideAll_get _ (S1.get hx) (by simpa using hxd)
  walk_at "go"
  refine setattr_i S' (S'.get hx') (i := 0) rfl isD_new (S_Coverage_glyphs w) (by decide) fun h₂ k₂ od₂ hD₂ S₂ => ?_
  walk_at "go"
  refine ⟨rfl, ?_⟩
  have S3 := S1.ret1 (i := 0) rfl S₂ (stays_refl _) (.head _)
  obtain ⟨g2, hg2, hd2, S4⟩ := S3.freeze
  exact hok g2 h₂ k₂ x dx od₂ (stays_trans hg1 hg2) hxx (Nat.le_of_eq hdx.symm) (hg2 _ _ hx) hd2 hD₂ S4
theorem c_read_coverage {b : Array UInt8} {t tp : Tok} {p : Nat} {ks : List Int} (S : St w base fs g L ns vs led h) (hA : Ax prog A fs 10) (hk : KBw.bInts b = ks) (hz : ks.length ≤ 16777216)
    (hok : ∀ gl, cvr ks p = .ok gl → gl.length ≤ 65536 → ∀ g' h' k' v, g.StaysIn g' → CovIs h.objs.size g' v gl → St w base fs g' L ns vs led h' → Q v (sh s₀ h' k'))
    (her : ∀ e, cvr ks p = .error e → Er E s₀ base fs (hideAll h []) e) : wpAny (model prog w) A (call (.ref 355) [.bytes b t, .int p tp]) Q E (sh s₀ h k) := by
  refine enter (ns' := ["data", "at", "octets_in", "form"]) (args' := [.bytes b t, .int p tp]) (n := 2) (vs' := [some (.bytes b t), some (.int p tp), none, none]) S hA (by k_is) (by k_is) (BindsTo.of_eq rfl) [] (fun _ h => nomatch h) (by simp) (by decide +kernel) (by decide +kernel) rfl (by decide) (by decide +kernel) rfl rfl rfl rfl ?_
  intro env' L' h₁ k₁ A' E' he hs hA' hE hL' S'
  have hG : EnvG w env' [("OctetsIn", .ref 163), ("TableFault", .ref 61), ("Coverage", .ref 309), ("read_ascending", .ref 334), ("read_spans", .ref 348), ("tuple", .type "tuple")] :=
    .cons (kindOf_of hs (by decide +kernel)) (G_OctetsIn w) (.cons (kindOf_of hs (by decide +kernel)) (G_TableFault w) (.cons (kindOf_of hs (by decide +kernel)) (G_Coverage w) (.cons (kindOf_of hs (by decide +kernel)) (G_read_ascending w) (.cons (kindOf_of hs (by decide +kernel)) (G_read_spans w) (.cons (kindOf_of hs (by decide +kernel)) (G_tuple w) .nil)))))
  have hsz : h.objs.size < h₁.objs.size := by rw [← hL']; exact S'.Llt
  walk_at "go"
  refine c_OctetsIn S' (hA'.less (by decide)) fun g2 h₂ k₂ x dx od hg2 hx hD S₂ => ?_
  walk_at "go"
  rename St _ _ _ _ _ _ _ _ _ => S₃
  refine c_u16n (i := 0) S₃ (hA'.less (by decide)) hx rfl hD hk hz (fun hU h₄ k₄ t₄ od₄ u₄ hD₄ S₄ => ?_) fun hU => er_pass (foot := [(dx, od)]) hA' hE S₃ hg2 (fun p hp => hp) (her _ (by unfold cvr; rw [hU]))
  dsimp only [List.set] at S₄
  have hcv : cvr ks p = if rd ks p = 1 ∨ rd ks p = 2 then counted ks (rd ks p) (p + 2) else .error (p : Int) := by unfold cvr; rw [hU]
  walk_at "go"
  rename St _ _ _ _ _ _ _ _ _ => S₅
  refine ite_c (fun hc => ?_) fun hc => ?_
  · have hc1 : rd ks p = 1 := by simpa using hc
    rw [hc1, if_pos (.inl rfl)] at hcv
    walk_at "go"
    refine c_read_ascending (i := 0) S₅ (hA'.less (by decide)) hx rfl hD₄ hk hz (fun gl hgl h₆ k₆ l o xs od₆ hLO hits hl6 S₆ => ?_) fun e he' => er_pass (foot := [(dx, od₄)]) hA' hE S₅ hg2 (fun p hp => hp) (her _ (by rw [hcv, he']))
    dsimp only [List.set] at S₆
    walk_at "go"
    have hxl := hits.length
    refine m_tuple S₆ (S₆.at_ (i := 0) rfl) hLO (by omega) fun tt ot h₇ hTO htn htL hst S₇ => ?_
    obtain ⟨g3, hg3, ht3, S₈⟩ := S₇.freeze
    have h6 : h.objs.size ≤ h₇.objs.size := by rw [← hL']; exact Nat.le_of_lt S₇.Llt
    rw [hL'] at htL
    walk_at "go"
    refine c_Coverage S₈ (hA'.less (by decide)) fun g4 h₉ k₉ y dy ody hg4 hy1 hy2 hy hdy hDy S₉ => ?_
    walk_at "go"
    obtain ⟨g5, hg5, hnew, S₁₀⟩ := S.retg0 S₉ (stays_trans (hideNil h) (stays_trans hg2 (stays_trans hg3 hg4)))
    exact hok gl (by rw [hcv, hgl]) hl6 _ _ _ _ hg5 (CovIs.into (m := h.objs.size) ⟨y, dy, ody, .ref tt, rfl, Nat.le_trans h6 hy1, Nat.le_trans h6 hy2, hy, hdy, hDy, tt, ot, xs, rfl, Nat.le_of_lt htL, hg4 _ _ ht3, hTO, hits⟩ hnew (Nat.le_refl _)) S₁₀
  have hn1 : rd ks p ≠ 1 := by simpa using hc
  walk_at "go"
  refine ite_c (fun hc => ?_) fun hc => ?_
  · have hc1 : rd ks p = 2 := by simpa using hc
    rw [hc1, if_pos (.inr rfl)] at hcv
    walk_at "go"
    refine c_read_spans (i := 0) S₅ (hA'.less (by decide)) hx rfl hD₄ hk hz (fun gl hgl h₆ k₆ l o xs od₆ hLO hits hl6 S₆ => ?_) fun e he' => er_pass (foot := [(dx, od₄)]) hA' hE S₅ hg2 (fun p hp => hp) (her _ (by rw [hcv, he']))
    dsimp only [List.set] at S₆
    walk_at "go"
    have hxl := hits.length
    refine m_tuple S₆ (S₆.at_ (i := 0) rfl) hLO (by omega) fun tt ot h₇ hTO htn htL hst S₇ => ?_
    obtain ⟨g3, hg3, ht3, S₈⟩ := S₇.freeze
    have h6 : h.objs.size ≤ h₇.objs.size := by rw [← hL']; exact Nat.le_of_lt S₇.Llt
    rw [hL'] at htL
    walk_at "go"
    refine c_Coverage S₈ (hA'.less (by decide)) fun g4 h₉ k₉ y dy ody hg4 hy1 hy2 hy hdy hDy S₉ => ?_
    walk_at "go"
    obtain ⟨g5, hg5, hnew, S₁₀⟩ := S.retg0 S₉ (stays_trans (hideNil h) (stays_trans hg2 (stays_trans hg3 hg4)))
    exact hok gl (by rw [hcv, hgl]) hl6 _ _ _ _ hg5 (CovIs.into (m := h.objs.size) ⟨y, dy, ody, .ref tt, rfl, Nat.le_trans h6 hy1, Nat.le_trans h6 hy2, hy, hdy, hDy, tt, ot, xs, rfl, Nat.le_of_lt htL, hg4 _ _ ht3, hTO, hits⟩ hnew (Nat.le_refl _)) S₁₀
  have hn2 : rd ks p ≠ 2 := by simpa using hc
  walk_at "go"
  exact call_fault S₅ hA' hE hg2 (her _ (by rw [hcv, if_neg (by omega)]))
end
theorem ints_get {xs : List Value} {f : List Int} {j : Nat} {n : Int} (x : IntsAre xs f) : f[j]? = some n → ∃ t, xs[j]? = some (.int n t) := by
  induction x generalizing j with
  | nil => intro e; simp at e
  | cons m t _ ih =>
    intro e
    cases j with
    | zero => exact ⟨t, by simp at e; simp [e]⟩
    | succ j => simpa using ih (j := j) (by simpa using e)
inductive CovsAre (n : Nat) (g : Heap) : List Value → List (List Int) → Prop
  | nil : CovsAre n g [] []
  | cons {v c xs cs} : CovIs n g v c → CovsAre n g xs cs → CovsAre n g (v :: xs) (c :: cs)
theorem CovsAre.map {n m : Nat} {g g' : Heap} (F : ∀ v c, CovIs m g v c → CovIs n g' v c) {xs : List Value} {cs : List (List Int)} (h : CovsAre m g xs cs) : CovsAre n g' xs cs := by
  induction h with
  | nil => exact .nil
  | cons a _ ih => exact .cons (F _ _ a) ih
theorem CovsAre.snoc {n : Nat} {g : Heap} {v : Value} {c : List Int} (y : CovIs n g v c) : ∀ {xs : List Value} {cs : List (List Int)}, CovsAre n g xs cs → CovsAre n g (xs ++ [v]) (cs ++ [c])
  | _, _, .nil => .cons y .nil
  | _, _, .cons a b => .cons a (b.snoc y)
theorem CovsAre.length {n : Nat} {g : Heap} {xs : List Value} {cs : List (List Int)} (h : CovsAre n g xs cs) : xs.length = cs.length := by
  induction h with
  | nil => rfl
  | cons _ _ ih => exact congrArg Nat.succ ih
theorem CovsAre.get {n : Nat} {g : Heap} {xs : List Value} {cs : List (List Int)} {j : Nat} {v : Value} (h : CovsAre n g xs cs) : xs[j]? = some v → ∃ c, cs[j]? = some c ∧ CovIs n g v c := by
  induction h generalizing j with
  | nil => intro e; simp at e
  | cons a b ih =>
    intro e
    cases j with
    | zero => simp at e; subst e; exact ⟨_, rfl, a⟩
    | succ j => simpa using ih (j := j) (by simpa using e)
structure TupCovs (n : Nat) (g : Heap) (v : Value) (cs : List (List Int)) : Prop where
  ex : Ex3 fun t o xs => An5 (v = .ref t) (n ≤ t) (g.get? t = some o) (TO o xs) (CovsAre n g xs cs)
theorem TupCovs.into {n m : Nat} {gc g' : Heap} {v : Value} {cs : List (List Int)} (x : TupCovs m gc v cs) (hN : NewIn n gc g') (hm : n ≤ m) : TupCovs n g' v cs := by
  obtain ⟨t, o, xs, h1, h2, h3, h4, h5⟩ := x.ex
  exact ⟨t, o, xs, h1, Nat.le_trans hm h2, hN.get hm h2 h3, h4, h5.map fun _ _ q => q.into hN hm⟩
theorem TupCovs.up {n m : Nat} {g g' : Heap} {v : Value} {cs : List (List Int)} (x : TupCovs m g v cs) (hg : g.StaysIn g') (hm : n ≤ m) : TupCovs n g' v cs := by
  obtain ⟨t, o, xs, h1, h2, h3, h4, h5⟩ := x.ex
  exact ⟨t, o, xs, h1, Nat.le_trans hm h2, hg _ _ h3, h4, h5.map fun _ _ q => q.up hg hm⟩
noncomputable def covsA (ks : List Int) (a : Nat) : Nat → Nat → List (List Int) → Except Int (List (List Int))
  | 0, _, acc => .ok acc
  | m + 1, q, acc => if rd ks q = 0 then .error q else match cvr ks (a + (rd ks q).toNat) with
    | .error e => .error e
    | .ok c => covsA ks a m (q + 2) (acc ++ [c])
noncomputable def rcs (ks : List Int) (a q m : Nat) : Except Int (List (List Int)) := if q + 2 * m ≤ ks.length then covsA ks a m q [] else .error q
theorem covsA_zero (ks : List Int) (a q : Nat) (acc : List (List Int)) : covsA ks a 0 q acc = .ok acc := rfl
theorem covsA_succ (ks : List Int) (a m q : Nat) (acc : List (List Int)) : covsA ks a (m + 1) q acc = if rd ks q = 0 then .error q else match cvr ks (a + (rd ks q).toNat) with
    | .error e => .error e
    | .ok c => covsA ks a m (q + 2) (acc ++ [c]) := rfl
section
variable {prog : Program} {w : World} {A : Around} {E : Value → Shared → Prop} {s₀ : Shared} {h hc : Heap} {k : Nat} {base g g' gc : Heap} {fs fs' : List Env} {L L' : Addr} {ns ns' : List Str} {vs vs' : List (Option Value)} {led led' ledc : List (Addr × Obj)}
  {env : Env} {cl : List (Str × Addr)} {Q : Value → Shared → Prop}
theorem c_place_of {b : Array UInt8} {t tn ta : Tok} {q a : Nat} {ks : List Int} {x dx : Addr} {od : Obj} {i : Nat} (S : St w base fs g L ns vs led h) (hA : Ax prog A fs 8) (hx : g.get? x = some (instObj 163 dx)) (hi : led[i]? = some (dx, od)) (hD : IsD od (inF b t q tn)) (hk : KBw.bInts b = ks) (hz : ks.length ≤ 16777216)
    (hok : U ks q = .ok (rd ks q) → rd ks q ≠ 0 → ∀ h' k' t' od' u', IsD od' (inF b t (q + 2 : Nat) u') → St w base fs g L ns vs (led.set i (dx, od')) h' → Q (.int ((a + (rd ks q).toNat : Nat) : Int) t') (sh s₀ h' k'))
    (her : (U ks q = .error (q : Int) ∨ U ks q = .ok (rd ks q) ∧ rd ks q = 0) → Er E s₀ base fs (hideAll h [dx]) q) : wpAny (model prog w) A (call (.ref 378) [.ref x, .int a ta]) Q E (sh s₀ h k) := by
  refine enter (ns' := ["head", "begin", "where", "offset"]) (args' := [.ref x, .int a ta]) (n := 2) (vs' := [some (.ref x), some (.int a ta), none, none]) S hA (by k_is) (by k_is) (BindsTo.of_eq rfl) [(dx, od)] (foot1 hi) (by simp) (by decide +kernel) (by decide +kernel) rfl (by decide) (by decide +kernel) rfl rfl rfl rfl ?_
  intro env' L' h₁ k₁ A' E' he hs hA' hE hL' S'
  have hG : EnvG w env' [("TableFault", .ref 61)] := .cons (kindOf_of hs (by decide +kernel)) (G_TableFault w) .nil
  have hx' : (hideAll h (List.map (fun x => x.1) [(dx, od)])).get? x = some (instObj 163 dx) := S.below1 hi hx
  have hr := rd_range hk q
  walk_at "go"
  rename St _ _ _ _ _ _ _ _ _ => S₁
  refine c_u16n (i := 0) S₁ (hA'.less (by decide)) hx' rfl hD hk hz (fun hU h₂ k₂ t₂ od₂ u₂ hD₂ S₂ => ?_) fun hU => er_pass (foot := [(dx, od)]) hA' hE S₁ (stays_refl _) (fun p hp => hp) (her (.inl hU))
  dsimp only [List.set] at S₂
  walk_at "go"
  rename St _ _ _ _ _ _ _ _ _ => S₃
  refine ite_c (fun hc => ?_) fun hc => ?_
  · walk_at "go"
    exact call_fault S₃ hA' hE (stays_refl _) (her (.inr ⟨hU, by simpa using hc⟩))
  have hc' : rd ks q ≠ 0 := by simpa using hc
  walk_at "go"
  rw [show (a : Int) + rd ks q = ((a + (rd ks q).toNat : Nat) : Int) by omega]
  exact hok hU hc' _ _ _ _ _ hD₂ (S.ret1 hi S₃ (stays_refl _) (.head _))
noncomputable abbrev JJ25_5 (h : Heap) (b : Array UInt8) (t : Tok) (tn : Tok) (ta : Tok) (tc : Tok) (q : Nat) (a : Nat) (m : Nat) (ks : List Int) (x : Addr) (dx : Addr) (l : Addr) (od₂ : Obj) (lf : Addr) : Nat → Heap → List (Option Value) → List (Addr × Obj) → Prop :=
  fun j g' vs' led' => Ex4 fun (cs : List (List Int)) (ys : List Value) (ol' : Obj) (v1 : Option Value) => An6 (vs' = [some (.bytes b t), some (.int a ta), some (.ref x), some (.int m tc), some (.int q tn), some (.ref l), some (.ref lf), v1]) (led' = [(lf, ol'), (dx, od₂)]) (LO ol' ys) (CovsAre h.objs.size g' ys cs) (cs.length = j) (covsA ks a (m - j) (q + 2 * j) cs = covsA ks a m q [])
theorem c_read_coverages {b : Array UInt8} {t tn ta tc : Tok} {q a m : Nat} {ks : List Int} {x dx : Addr} {od : Obj} {i : Nat} (S : St w base fs g L ns vs led h) (hA : Ax prog A fs 11) (hx : g.get? x = some (instObj 163 dx)) (hi : led[i]? = some (dx, od)) (hD : IsD od (inF b t q tn)) (hk : KBw.bInts b = ks) (hz : ks.length ≤ 16777216) (hm : m < 65536)
    (hok : ∀ cs, rcs ks a q m = .ok cs → cs.length = m → ∀ g' h' k' v od' u', g.StaysIn g' → TupCovs h.objs.size g' v cs → IsD od' (inF b t (q + 2 * m : Nat) u') → St w base fs g' L ns vs (led.set i (dx, od')) h' → Q v (sh s₀ h' k'))
    (her : ∀ e, rcs ks a q m = .error e → Er E s₀ base fs (hideAll h [dx]) e) : wpAny (model prog w) A (call (.ref 385) [.bytes b t, .int a ta, .ref x, .int m tc]) Q E (sh s₀ h k) := by
  refine enter (ns' := ["data", "at", "head", "count", "first", "offsets", "found", "spot"]) (args' := [.bytes b t, .int a ta, .ref x, .int m tc]) (n := 4) (vs' := [some (.bytes b t), some (.int a ta), some (.ref x), some (.int m tc), none, none, none, none]) S hA (by k_is) (by k_is) (BindsTo.of_eq rfl) [(dx, od)] (foot1 hi) (by simp) (by decide +kernel) (by decide +kernel) rfl (by decide) (by decide +kernel) rfl rfl rfl rfl ?_
  intro env' L' h₁ k₁ A' E' he hs hA' hE hL' S'
  have hG : EnvG w env' [("TableFault", .ref 61), ("range", .type "range"), ("read_coverage", .ref 355), ("tuple", .type "tuple")] := .cons (kindOf_of hs (by decide +kernel)) (G_TableFault w) (.cons (kindOf_of hs (by decide +kernel)) (G_range w) (.cons (kindOf_of hs (by decide +kernel)) (G_read_coverage w) (.cons (kindOf_of hs (by decide +kernel)) (G_tuple w) .nil)))
  have hx' : (hideAll h (List.map (fun x => x.1) [(dx, od)])).get? x = some (instObj 163 dx) := S.below1 hi hx
  walk_at "go"
  rename St _ _ _ _ _ _ _ _ _ => S₁
  refine c_rows (i := 0) S₁ (hA'.less (by decide)) hx' rfl hD hk hz hm (fun _ hlen h₂ k₂ l o xs od₂ u₂ hLO hits hD₂ S₂ => ?_) fun hc => er_pass (foot := [(dx, od)]) hA' hE S₁ (stays_refl _) (fun p hp => hp) (her _ (by unfold rcs; rw [if_neg (by omega)]))
  dsimp only [List.set] at S₂
  have hrcs : rcs ks a q m = covsA ks a m q [] := if_pos (by omega)
  obtain ⟨g2, hg2, hl2, S₃⟩ := S₂.freeze
  walk_at "go"
  refine g_newList (by assumption) (by decide) fun lf of h₄ hof _ _ _ S₄ => ?_
  walk_at "go"
  refine x_for ?_
  walk_at "go"
  rename St _ _ _ _ _ _ _ _ _ => S₅
  refine l_range1 S₅ fun r h₅ k₅ t₅ v₅ hr S₅ => ?_
  refine it_range m hA'.hd S₅ hr (by omega) (by decide) (by decide) (by omega) (by omega) fun I oI h₆ k₆ W S₆ => ?_
  refine f_loop 7 (JJ25_5 h b t tn ta tc q a m ks x dx l od₂ lf)
    he hE.pass rfl W S₆ ⟨[], [], of, none, rfl, rfl, hof, .nil, rfl, rfl⟩ ?_ ?_
  · rintro j v g' vs' led' h₇ k₇ oI' hj ⟨u, rfl⟩ ⟨cs, ys, ol', v1, rfl, rfl, hLO', hcs, hcl, hcov⟩ hg S₇
    dsimp only [List.set] at S₇
    rw [Int.zero_add] at S₇
    have hl7 := hg _ _ hl2
    have hsz : h.objs.size < h₇.objs.size := by rw [← hL']; exact S₇.Llt
    have hxl := hits.length
    have hyl := hcs.length
    have hr := rd_range hk (q + 2 * j)
    obtain ⟨r, hr'⟩ : ∃ r, m - j = r + 1 := ⟨m - j - 1, by omega⟩
    rw [hr', covsA_succ] at hcov
    obtain ⟨tj, htj⟩ := ints_get (j := j) (n := rd ks (q + 2 * j)) hits (by rw [List.getElem?_map, List.getElem?_range (by omega)]; rfl)
    have hxs : xs.length ≤ 16777216 := by rw [List.length_map, List.length_range] at hxl; omega
    walk_at "go"
    refine sub_list (S₇.get hl7) hLO hxs (Int.natCast_nonneg j) (i := (j : Int)) (by rw [Int.toNat_natCast]; exact htj) ?_
    walk_at "go"
    refine ite_c (fun hc => ?_) fun hc => ?_
    · walk_at "go"
      rw [show (q : Int) + 2 * (j : Int) = ((q + 2 * j : Nat) : Int) by omega]
      exact call_fault S₇ hA' hE (stays_trans hg2 hg) (her _ (by rw [hrcs, ← hcov, if_pos (by simpa using hc)]))
    rw [if_neg (by simpa using hc)] at hcov
    walk_at "go"
    refine gm_append (S₇.at_ (i := 1) rfl) hLO' ?_
    walk_at "go"
    refine sub_list (S₇.get hl7) hLO hxs (Int.natCast_nonneg j) (i := (j : Int)) (by rw [Int.toNat_natCast]; exact htj) ?_
    walk_at "go"
    rw [show (a : Int) + rd ks (q + 2 * j) = ((a + (rd ks (q + 2 * j)).toNat : Nat) : Int) by omega]
    refine c_read_coverage S₇ (hA'.less (by decide)) hk hz (fun gl hgl hg6 g3 h₈ k₈ v hg3 hcv S₈ => ?_) fun e he' => er_pass0 hA' hE S₇ (stays_trans hg2 hg) (her _ (by rw [hrcs, ← hcov, he']))
    rw [hgl] at hcov
    dsimp only at hcov
    walk_at "go"
    refine m_append S₈ (i := 1) rfl hLO' (by omega) fun h₉ ol₉ hLO₉ S₉ => ⟨rfl, ?_⟩
    dsimp only [List.set] at S₉
    walk_at "go"
    refine turn_next S₉ hg3 ⟨cs ++ [gl], _, ol₉, _, rfl, rfl, hLO₉, (hcs.map fun _ _ z => z.up hg3 (Nat.le_refl _)).snoc (hcv.up (stays_refl _) (Nat.le_of_lt hsz)), by simp [hcl], ?_⟩
    rw [show m - (j + 1) = r by omega]; exact hcov
  · rintro g' vs' led' h₇ k₇ ⟨cs, ys, ol', v1, rfl, rfl, hLO', hcs, hcl, hcov⟩ hg S₇
    rw [Nat.sub_self, covsA_zero] at hcov
    have hyl := hcs.length
    walk_at "go"
    refine m_tuple S₇ (S₇.at_ (i := 0) rfl) hLO' (by omega) fun tt ot h₈ hTO htn htL hst S₈ => ?_
    obtain ⟨g3, hg3, ht3, S₉⟩ := S₈.freeze
    rw [hL'] at htL
    walk_at "go"
    obtain ⟨g5, HH1⟩ := S.retg1 hi S₉ (stays_trans hg2 (stays_trans hg hg3)) (.tail _ (.head _))
    have hg5 := HH1.1
    have hnew := HH1.2.1
    have S₁₀ := HH1.2.2
    clear HH1
    exact hok cs (by rw [hrcs, ← hcov]) hcl _ _ _ _ _ _ hg5 (TupCovs.into (m := h.objs.size) ⟨tt, ot, _, rfl, Nat.le_of_lt htL, ht3, hTO, hcs.map fun _ _ z => z.up hg3 (Nat.le_refl _)⟩ hnew (Nat.le_refl _)) (by simpa using hD₂) S₁₀
end
end
section
inductive MI : List (Int × Value) → List (Int × Int) → Prop
  | nil : MI [] []
  | cons {k n t kvs ps} : MI kvs ps → MI ((k, .int n t) :: kvs) ((k, n) :: ps)
theorem MI.length {kvs : List (Int × Value)} {ps : List (Int × Int)} (h : MI kvs ps) : kvs.length = ps.length := by
  induction h with
  | nil => rfl
  | cons _ ih => exact congrArg Nat.succ ih
theorem MI.keys : ∀ {kvs : List (Int × Value)} {ps : List (Int × Int)}, MI kvs ps → kvs.map (·.1) = ps.map (·.1)
  | _, _, .nil => rfl
  | _, _, .cons a => by simp [a.keys]
theorem MI.snoc {k n : Int} {t : Tok} : ∀ {kvs : List (Int × Value)} {ps : List (Int × Int)}, MI kvs ps → MI (kvs ++ [(k, .int n t)]) (ps ++ [(k, n)])
  | _, _, .nil => .cons .nil
  | _, _, .cons a => .cons a.snoc
noncomputable def getI (ps : List (Int × Int)) (k : Int) : Option Int := (ps.find? fun q => q.1 = k).map (·.2)
noncomputable def putI (ps : List (Int × Int)) (k n : Int) : List (Int × Int) := if ps.any (fun q => q.1 = k) then ps.map (fun q => if q.1 = k then (q.1, n) else q) else ps ++ [(k, n)]
theorem MI.get {k n : Int} {kvs : List (Int × Value)} {ps : List (Int × Int)} (h : MI kvs ps) : getI ps k = some n → ∃ t, valueAt kvs k = some (.int n t) := by
  induction h with
  | nil => intro e; simp [getI] at e
  | @cons k' n' t kvs ps a ih =>
    intro e
    unfold getI at e ih
    unfold valueAt at ih ⊢
    rw [List.find?_cons] at e ⊢
    by_cases hk : k' = k
    · simp [hk] at e ⊢; simp [e]
    · simp only [hk, decide_false] at e ⊢
      exact ih e
theorem MI.put {k n : Int} {t : Tok} {kvs : List (Int × Value)} {ps : List (Int × Int)} (a : MI kvs ps) : MI (stored kvs k (.int n t)) (putI ps k n) := by
  have hany : kvs.any (fun q => q.1 = k) = ps.any (fun q => q.1 = k) := by
    induction a with
    | nil => rfl
    | cons a ih => simp [ih]
  unfold stored putI
  rw [hany]
  cases h : ps.any (fun q => q.1 = k) with
  | false => simpa using a.snoc
  | true =>
    simp only [if_true]
    clear hany h
    induction a with
    | nil => exact .nil
    | cons a ih =>
      rename_i k' _ _ _ _
      rw [List.map_cons, List.map_cons]
      dsimp only
      by_cases hk : k' = k
      · rw [if_pos hk, if_pos hk]; exact .cons ih
      · rw [if_neg hk, if_neg hk]; exact .cons ih
theorem stored_new {K : Type} [DecidableEq K] {kvs : List (K × Value)} {k : K} {v : Value} (h : k ∉ kvs.map (·.1)) : stored kvs k v = kvs ++ [(k, v)] := by
  unfold stored
  rw [if_neg]
  simp only [List.any_eq_true, decide_eq_true_eq, not_exists, not_and]
  intro q hq e
  exact h (e ▸ List.mem_map_of_mem hq)
theorem ints_of_at {us : List Value} {ns : List Int} (h : us.length = ns.length) (hv : ∀ (j : Nat) v, us[j]? = some v → ∃ n t, ns[j]? = some n ∧ v = .int n t) : IntsAre us ns := by
  induction us generalizing ns with
  | nil => cases ns with
    | nil => exact .nil
    | cons => simp at h
  | cons v us ih => cases ns with
    | nil => simp at h
    | cons n ns =>
      obtain ⟨m, t, HH1⟩ := ex2 (hv 0 v rfl)
      have h1 := HH1.1
      obtain rfl := HH1.2
      clear HH1
      simp at h1; subst h1
      exact .cons n t (ih (by simpa using h) fun j v e => by simpa using hv (j + 1) v (by simpa using e))
section
variable {prog : Program} {w : World} {A : Around} {E : Value → Shared → Prop} {s₀ : Shared} {h hc : Heap} {k : Nat} {base g g' gc : Heap} {fs fs' : List Env} {L L' : Addr} {ns ns' : List Str} {vs vs' : List (Option Value)} {led led' ledc : List (Addr × Obj)}
  {env : Env} {cl : List (Str × Addr)} {Q : Value → Shared → Prop} {K : Type} [DecidableEq K] {knd : KeyKind prog w K} {kvs : List (K × Value)} {kk : K} {key v : Value} {d : Addr} {o : Obj}
theorem St.mods (S : St w base fs g L ns vs led h) : sysModules < L := by
  obtain ⟨_, _, _, t⟩ := S.T
  exact Nat.lt_of_lt_of_le (modules_low (Top.nolimit t)) S.low
theorem g_dict {pos : Pos} (S : St w base fs g L ns vs led h) (hq : ∀ d o h', o.IsDictOf knd [] → h.get? d = none → L < d → h.StaysIn h' → St w base fs g L ns vs ((d, o) :: led) h' → Q (.ref d) (sh s₀ h' k)) :
    wpAny (model prog w) A (eval (.Dict [] [] pos) env) Q E (sh s₀ h k) := by
  refine wpAny_Dict_empty ?_
  refine hq _ _ _ ⟨#[], 0, ⟨rfl, rfl, rfl⟩, rfl, fun _ he => by simp at he, .nil, List.nodup_nil⟩ ?_ S.loc.lt (fun b o e => Heap.get?_push_of_some _ e) (S.alloc _ rfl)
  show h.get? h.objs.size = none
  cases q : h.get? h.objs.size with
  | none => rfl
  | some o => exact absurd (Heap.lt_size q) (Nat.lt_irrefl _)
theorem IsDictOf.nodup (x : o.IsDictOf knd kvs) : (kvs.map (·.1)).Nodup := by
  obtain ⟨_, _, _, _, _, _, e⟩ := x; exact e
theorem d_set {i : Nat} {Q : Unit → Shared → Prop} (S : St w base fs g L ns vs led h) (hi : led[i]? = some (d, o)) (hd : o.IsDictOf knd kvs) (hkey : knd.is kk key = true) (hz : kvs.length ≤ 16777216)
    (hq : ∀ h' k' o', o'.IsDictOf knd (stored kvs kk v) → St w base fs g L ns vs (led.set i (d, o')) h' → Q () (sh s₀ h' k')) : wpAny (model prog w) A (setItem (.ref d) key v) Q E (sh s₀ h k) := by
  refine wpAny_setItem_pairs hkey (Heap.dictOf_iff.mpr ⟨o, S.at_ hi, hd⟩) (fun h' hm hs => ?_) (by rw [sizeLine_eq]; exact hz)
  obtain ⟨o', HH1⟩ := Heap.dictOf_iff.mp hm
  have ho' := HH1.1
  have hd' := HH1.2
  clear HH1
  exact hq h' _ o' hd' (S.turned hi hs ho')
theorem d_in (ho : h.get? d = some o) (hd : o.IsDictOf knd kvs) (hlo : sysModules < d) (hkey : knd.is kk key = true) (hq : ∀ k', Q (.bool (valueAt kvs kk).isSome) (sh s₀ h k')) :
    wpAny (model prog w) A (compareOp .In key (.ref d)) Q E (sh s₀ h k) :=
  have hD : (sh s₀ h k).heap.DictOf knd d kvs := Heap.dictOf_iff.mpr ⟨o, ho, hd⟩
  wpAny_in_of hkey (beq_eq_false_iff_ne.mpr (Nat.ne_of_gt hlo)) hD.mapOf (hq _)
theorem d_sorted {kvs : List (Int × Value)} (hh : A.handled = none) (S : St w base fs g L ns vs led h) (ho : h.get? d = some o) (hd : o.IsDictOf (intKind prog w) kvs) (hlo : sysModules < d) (hz : kvs.length < 64)
    (hq : ∀ l lo h' k' xs ks, LO lo xs → IntsAre xs ks → ks.Perm (kvs.map (·.1)) → ks.Pairwise (fun x y => x ≤ y) → St w base fs g L ns vs ((l, lo) :: led) h' → Q (.ref l) (sh s₀ h' k')) :
    wpAny (model prog w) A (call (.builtin "sorted") [.ref d]) Q E (sh s₀ h k) := by
  have hD : (sh s₀ h k).heap.DictOf (intKind prog w) d kvs := Heap.dictOf_iff.mpr ⟨o, ho, hd⟩
  obtain ⟨ep, hat⟩ := hD.dictAt
  refine kdu_sorted (kdl_dict (knd := intKind prog w) (kvs := kvs) (ep := ep) (beq_eq_false_iff_ne.mpr (Nat.ne_of_gt hlo))) hh S.toFr S.toNews hat (by rw [sizeLine_eq]; omega) fun D h' tk us F' N' l1 hl hv => ?_
  have hnone : g.get? D = none := by
    cases q : g.get? D with
    | none => rfl
    | some x => exact absurd (S.keep _ _ q) (fun q' => by
        have := l1
        cases q2 : base.get? D with
        | some y => exact absurd (F'.keep _ _ q2) (by have := (N' _ (.head _)).2.2; rw [q2] at this; cases this)
        | none => exact absurd (l1 (D, x) (List.mem_append_right _ (St.mem_newOf.mpr ⟨q, q2⟩))) (Nat.lt_irrefl _))
  have hnd : ((D :: led.map (·.1))).Nodup := List.nodup_cons.mpr ⟨fun hm => by
    obtain ⟨p, HH1⟩ := List.mem_map.mp hm
    have hp := HH1.1
    have e := HH1.2
    clear HH1
    exact absurd (l1 p (List.mem_append_left _ hp)) (by rw [e]; exact Nat.lt_irrefl _), S.ndl⟩
  have S1 : St w base fs g L ns vs ((D, listOf us.toArray 0) :: led) h' := S.ofNews F' S.len N' hnd (fun p hp => by
    cases hp with
    | head => exact hnone
    | tail _ hp => exact (S.ldg p hp).2.2)
  have hi : IntsAre us (kvs.map (·.1)) := ints_of_at (by simpa using hl) fun j v hj => by
    obtain ⟨k', x, HH1⟩ := ex2 (hv j v hj)
    have h1 := HH1.1
    have h2 := HH1.2
    clear HH1
    obtain ⟨t, rfl⟩ := Value.isInt_shape h2
    exact ⟨k', t, by rw [List.getElem?_map, h1]; rfl, rfl⟩
  refine ksk_lsort (A := A.in1) (s := sh s₀ h' tk) F' N' (fun o' => S1.upd (i := 0) o' rfl) rfl hi (by simpa using hz) fun vs' ns₂ c h₂ F₂ N₂ hi₂ hlen hp hP _ => ?_
  have S2 : St w base fs g L ns vs ((D, listOf (List.toArray vs') c) :: led) h₂ := S1.ofNews F₂ S1.len N₂ hnd (fun p hp => by
      cases hp with
      | head => exact hnone
      | tail _ hp => exact (S.ldg p hp).2.2)
  exact hq D _ h₂ tk vs' ns₂ ⟨_, rfl⟩ hi₂ hp hP S2
end
end
section
theorem take_notin {l : List Int} {j : Nat} {x : Int} (hn : l.Nodup) (hx : l[j]? = some x) : x ∉ l.take j := by
  intro hm
  obtain ⟨i, hi, e⟩ := List.getElem_of_mem hm
  have hj := (List.getElem?_eq_some_iff.mp hx)
  obtain ⟨hj, ej⟩ := hj
  have h1 : i < j := by simp at hi; omega
  rw [List.getElem_take] at e
  exact (List.pairwise_iff_getElem.mp hn) i j (by omega) hj h1 (e.trans ej.symm)
theorem zip_take_succ {l m : List Int} {j : Nat} {x y : Int} (hx : l[j]? = some x) (hy : m[j]? = some y) : (l.zip m).take (j + 1) = (l.zip m).take j ++ [(x, y)] := by
  rw [List.take_add_one]
  congr 1
  rw [List.getElem?_zip_eq_some (z := (x, y)) |>.mpr ⟨hx, hy⟩]; rfl
section
variable {prog : Program} {w : World} {A : Around} {E : Value → Shared → Prop} {s₀ : Shared} {h hc : Heap} {k : Nat} {base g g' gc : Heap} {fs fs' : List Env} {L L' : Addr} {ns ns' : List Str} {vs vs' : List (Option Value)} {led led' ledc : List (Addr × Obj)}
  {env : Env} {cl : List (Str × Addr)} {Q : Value → Shared → Prop}
noncomputable abbrev JJ27_6 (prog : Program) (w : World) (l : Nat) (gl : List Int) (ms : List Int) (x : Addr) (d : Addr) : Nat → Heap → List (Option Value) → List (Addr × Obj) → Prop :=
  fun j g' vs' led' => Ex4 fun (kvs : List (Int × Value)) (o' : Obj) (v0 : Value) (v1 : Option Value) => An4 (vs' = [some (.ref x), some (.ref l), some v0, some (.ref d), v1]) (led' = [(d, o')]) (o'.IsDictOf (intKind prog w) kvs) (MI kvs ((gl.zip ms).take j))
theorem c_by_glyph {n l : Nat} {v : Value} {lo : Obj} {xs : List Value} {gl ms : List Int} (S : St w base fs g L ns vs led h) (hA : Ax prog A fs 4) (hc : CovIs n g v gl) (hl : g.get? l = some lo) (hlo : LO lo xs) (hxs : IntsAre xs ms) (hlen : gl.length = ms.length) (hz : gl.length ≤ 65536) (hn : gl.Nodup)
    (hok : ∀ h' k' d o kvs, o.IsDictOf (intKind prog w) kvs → MI kvs (gl.zip ms) → h.objs.size < d → sysModules < d → St w base fs g L ns vs ((d, o) :: led) h' → Q (.ref d) (sh s₀ h' k')) :
    wpAny (model prog w) A (call (.ref 371) [v, .ref l]) Q E (sh s₀ h k) := by
  obtain ⟨x, dx, od, tv, rfl, _, _, hx, hdx, hD, t, ot, gs, rfl, _, ht, hTO, hgs⟩ := hc.ex
  refine enter (ns' := ["coverage", "rows", "at", "found", "spot"]) (args' := [.ref x, .ref l, _]) (n := 3) (vs' := [some (.ref x), some (.ref l), some _, none, none]) S hA (by k_is) (by k_is) (binds_K S.Xh rfl (by k_is) rfl rfl rfl) [] (fun _ h => nomatch h) (by simp) (by decide +kernel) (by decide +kernel) rfl (by decide) (by decide +kernel) rfl rfl rfl rfl ?_
  intro env' L' h₁ k₁ A' E' he hs hA' hE hL' S'
  have hG : EnvG w env' [("len", .builtin "len"), ("range", .type "range")] := .cons (kindOf_of hs (by decide +kernel)) (G_len w) (.cons (kindOf_of hs (by decide +kernel)) (G_range w) .nil)
  have hx' : (hideAll h (List.map (fun x : Addr × Obj => x.1) [])).get? x = some (instObj 309 dx) := hideNil h _ _ (S.get hx)
  have hdx' : (hideAll h (List.map (fun x : Addr × Obj => x.1) [])).get? dx = some od := hideNil h _ _ (S.get hdx)
  have ht' : (hideAll h (List.map (fun x : Addr × Obj => x.1) [])).get? t = some ot := hideNil h _ _ (S.get ht)
  have hl' : (hideAll h (List.map (fun x : Addr × Obj => x.1) [])).get? l = some lo := hideNil h _ _ (S.get hl)
  have hg1 := hgs.length
  have hx1 := hxs.length
  walk_at "go"
  refine l_len_list (S'.get hl') hlo (by omega) fun t₂ k₂ => ?_
  walk_at "go"
  refine l_len_tup (S'.get ht') hTO (by omega) fun t₃ k₃ => ?_
  walk_at "go"
  refine ite_f (by simp; omega) ?_
  walk_at "go"
  refine g_dict (knd := intKind prog w) S' fun d o h₂ hd _ hLd _ S₂ => ?_
  walk_at "go"
  rename St _ _ _ _ _ _ _ _ _ => S₃
  refine x_for ?_
  walk_at "go"
  refine l_len_list (S₃.get hl') hlo (by omega) fun t₄ k₄ => ?_
  walk_at "go"
  refine l_range1 S₃ fun r h₅ k₅ t₅ v₅ hr S₅ => ?_
  refine it_range xs.length hA'.hd S₅ hr (by omega) (by decide) (by decide) (by omega) (by omega) fun I oI h₆ k₆ W S₆ => ?_
  refine f_loop 4 (JJ27_6 prog w l gl ms x d)
    he hE.pass rfl W S₆ ⟨[], _, _, none, rfl, rfl, hd, .nil⟩ ?_ ?_
  · rintro j v g' vs' led' h₇ k₇ oI' hj ⟨u, rfl⟩ ⟨kvs, o', v0, v1, rfl, rfl, hdo, hmi⟩ hg S₇
    dsimp only [List.set] at S₇
    rw [Int.zero_add] at S₇
    obtain ⟨a, ha⟩ : ∃ a, gl[j]? = some a := ⟨_, List.getElem?_eq_getElem (by omega)⟩
    obtain ⟨c, hc⟩ : ∃ c, ms[j]? = some c := ⟨_, List.getElem?_eq_getElem (by omega)⟩
    obtain ⟨ta, hta⟩ := ints_get hgs ha
    obtain ⟨tc, htc⟩ := ints_get hxs hc
    have hx7 := hg _ _ hx'
    have hdx7 := hg _ _ hdx'
    have hfr : a ∉ kvs.map (·.1) := by
      rw [hmi.keys, List.map_take, List.map_fst_zip (by omega)]
      exact take_notin hn ha
    have hkl : kvs.length ≤ 65536 := by rw [hmi.length]; simp; omega
    walk_at "go"
    refine sub_list (S₇.get (hg _ _ hl')) hlo (by omega) (Int.natCast_nonneg j) (i := (j : Int)) (by rw [Int.toNat_natCast]; exact htc) ?_
    walk_at "go"
    refine sub_tup (S₇.get (hg _ _ ht')) hTO (by omega) (Int.natCast_nonneg j) (i := (j : Int)) (by rw [Int.toNat_natCast]; exact hta) ?_
    refine d_set (i := 1) S₇ rfl hdo (intKind_is _ _ _ _) (by omega) fun h₈ k₈ o₈ hdo₈ S₈ => ?_
    rw [stored_new hfr] at hdo₈
    dsimp only [List.set] at S₈
    walk_at "go"
    refine turn_next S₈ (stays_refl _) ⟨_, o₈, v0, _, rfl, rfl, hdo₈, ?_⟩
    rw [zip_take_succ ha hc]
    exact hmi.snoc
  · rintro g' vs' led' h₇ k₇ ⟨kvs, o', v0, v1, rfl, rfl, hdo, hmi⟩ hg S₇
    walk_at "go"
    rw [List.take_of_length_le (by simp; omega)] at hmi
    exact hok _ _ _ _ kvs hdo hmi (by rw [← hL']; exact hLd) (Nat.lt_trans S'.mods hLd) (S.ret0n (new := [(d, o')]) S₇ (stays_trans (hideNil h) hg) (fun p hp => hp) S₇.ndl)
structure RevIs (prog : Program) (w : World) (n : Nat) (g : Heap) (v : Value) (ps : List (Int × Int)) (back ahead : List (List Int)) : Prop where
  ex : Ex8 fun x dx od d o kvs bv av => An13 (v = .ref x) (n ≤ x) (n ≤ dx) (n ≤ d) (g.get? x = some (instObj 414 dx)) (g.get? dx = some od) (IsD od [("mapping", .ref d), ("back", bv), ("ahead", av)]) (sysModules < d) (g.get? d = some o) (o.IsDictOf (intKind prog w) kvs) (MI kvs ps) (TupCovs n g bv back) (TupCovs n g av ahead)
theorem RevIs.into {n m : Nat} {gc g' : Heap} {v : Value} {ps : List (Int × Int)} {back ahead : List (List Int)} (y : RevIs prog w m gc v ps back ahead) (hN : NewIn n gc g') (hm : n ≤ m) : RevIs prog w n g' v ps back ahead := by
  obtain ⟨x, dx, od, d, o, kvs, bv, av, rfl, h1, h2, h3, h4, h5, h6, h7, h8, h9, h10, h11, h12⟩ := y.ex
  exact ⟨x, dx, od, d, o, kvs, bv, av, rfl, Nat.le_trans hm h1, Nat.le_trans hm h2, Nat.le_trans hm h3, hN.get hm h1 h4, hN.get hm h2 h5, h6, h7, hN.get hm h3 h8, h9, h10, h11.into hN hm, h12.into hN hm⟩
theorem c_Reverse {mv bv av : Value} (S : St w base fs g L ns vs led h) (hA : Ax prog A fs 3)
    (hok : ∀ g' h' k' x dx od, g.StaysIn g' → h.objs.size ≤ x → h.objs.size ≤ dx → g'.get? x = some (instObj 414 dx) → g'.get? dx = some od → IsD od [("mapping", mv), ("back", bv), ("ahead", av)] → St w base fs g' L ns vs led h' → Q (.ref x) (sh s₀ h' k')) :
    wpAny (model prog w) A (call (.ref 414) [mv, bv, av]) Q E (sh s₀ h k) := by
  refine make_i S (C_Reverse w) fun x dx h₀ S0 hdx hxx => ?_
  obtain ⟨g1, hg1, hx, S1⟩ := S0.freeze
  refine enterR (ns' := ["self", "mapping", "back", "ahead"]) (args' := [.ref x, mv, bv, av]) (n := 4) (vs' := [some (.ref x), some mv, some bv, some av]) S1 (hA.make (d := 2)) (by k_is) (by k_is) (BindsTo.of_eq rfl) [(dx, dictOf [] 0)] (fun p hp => by rw [List.mem_singleton.mp hp]; exact .head _) (by simp) (by decide +kernel) (by decide +kernel) rfl (by decide) (by decide +kernel) rfl rfl rfl rfl ?_
  intro env' L' h₁ k₁ A' E' he hs hA' hE hL' S'
  have hxd : x ≠ dx := fun q => by
    have := (S1.ldg _ (.head _)).2.2
    rw [← q, hx] at this; cases this
  have hx' : (hideAll h₀ [dx]).get? x = some (instObj 414 dx) := hideAll_get _ (S1.get hx) (by simpa using hxd)
  walk_at "go"
  refine setattr_i S' (S'.get hx') (i := 0) rfl isD_new (S_Reverse_mapping w) (by decide) fun h₂ k₂ od₂ hD₂ S₂ => ?_
  walk_at "go"
  refine setattr_i S₂ (S₂.get hx') (i := 0) rfl hD₂ (S_Reverse_back w) (by have h1 := putF_len (Str.ofString "mapping") mv []; simp only [List.length_nil] at h1; omega) fun h₃ k₃ od₃ hD₃ S₃ => ?_
  walk_at "go"
  refine setattr_i S₃ (S₃.get hx') (i := 0) rfl hD₃ (S_Reverse_ahead w) (by have h1 := putF_len (Str.ofString "mapping") mv []; have h2 := putF_len (Str.ofString "back") bv (putF (Str.ofString "mapping") mv []); simp only [List.length_nil] at h1; omega) fun h₄ k₄ od₄ hD₄ S₄ => ?_
  walk_at "go"
  refine ⟨rfl, ?_⟩
  have S5 := S1.ret1 (i := 0) rfl S₄ (stays_refl _) (.head _)
  obtain ⟨g2, hg2, hd2, S6⟩ := S5.freeze
  exact hok g2 h₄ k₄ x dx od₄ (stays_trans hg1 hg2) hxx (Nat.le_of_eq hdx.symm) (hg2 _ _ hx) hd2 hD₄ S6
end
noncomputable def Asc (f : List Int) (least : Int) : Prop := f.Pairwise (· < ·) ∧ ∀ x ∈ f, x < least
theorem asc_snoc {f : List Int} {least a : Int} (h : Asc f least) (ha : least ≤ a) : Asc (f ++ [a]) (a + 1) := by
  refine ⟨List.pairwise_append.mpr ⟨h.1, List.pairwise_singleton _ _, fun x hx y hy => ?_⟩, fun x hx => ?_⟩
  · rw [List.mem_singleton.mp hy]; have := h.2 x hx; omega
  · rcases List.mem_append.mp hx with hx | hx
    · have := h.2 x hx; omega
    · rw [List.mem_singleton.mp hx]; omega
theorem irange_mem {a b x : Int} (h : x ∈ irange a b) : a ≤ x ∧ x < b := by
  unfold irange at h
  obtain ⟨i, HH1⟩ := List.mem_map.mp h
  have hi := HH1.1
  obtain rfl := HH1.2
  clear HH1
  rw [List.mem_range] at hi
  omega
theorem irange_asc (a b : Int) : (irange a b).Pairwise (· < ·) := by
  unfold irange
  rw [List.pairwise_map]
  exact List.pairwise_lt_range.imp fun h => by omega
theorem asc_irange {f : List Int} {least a b : Int} (h : Asc f least) (ha : least ≤ a) (hb : least ≤ b) : Asc (f ++ irange a b) b := by
  refine ⟨List.pairwise_append.mpr ⟨h.1, irange_asc _ _, fun x hx y hy => ?_⟩, fun x hx => ?_⟩
  · have := irange_mem hy; have := h.2 x hx; omega
  · rcases List.mem_append.mp hx with hx | hx
    · have := h.2 x hx; omega
    · exact (irange_mem hx).2
theorem cov_asc (ks : List Int) (form : Int) : ∀ (m p : Nat) (least : Int) (f gl : List Int), cov ks form m p least f = .ok gl → Asc f least → gl.Pairwise (· < ·)
  | 0, p, least, f, gl, h, ha => by rw [cov_zero] at h; cases h; exact ha.1
  | m + 1, p, least, f, gl, h, ha => by
    unfold cov at h
    split at h
    · cases h
    · rename_i first _
      split at h
      · cases h
      · rename_i h1
        split at h
        · exact cov_asc ks form m _ _ _ _ h (asc_snoc ha (by omega))
        · split at h
          · cases h
          · rename_i last _
            split at h
            · cases h
            · rename_i h2
              split at h
              · cases h
              · split at h
                · exact cov_asc ks form m _ _ _ _ h (asc_irange ha (by omega) (by omega))
                · cases h
theorem cvr_asc {ks : List Int} {p : Nat} {gl : List Int} (h : cvr ks p = .ok gl) : gl.Pairwise (· < ·) := by
  unfold cvr at h
  split at h
  · cases h
  · split at h
    · unfold counted at h
      split at h
      · cases h
      · exact cov_asc _ _ _ _ _ _ _ h ⟨.nil, fun _ hx => nomatch hx⟩
    · cases h
theorem nodup_of_asc {gl : List Int} (h : gl.Pairwise (· < ·)) : gl.Nodup := h.imp fun hlt e => by omega
noncomputable def cvs (ks : List Int) (a q : Nat) : Except Int (List (List Int)) := match U ks q with
  | .error e => .error e
  | .ok m => rcs ks a (q + 2) m.toNat
noncomputable abbrev Tab := List (Int × Int) × List (List Int) × List (List Int)
noncomputable def RR6 (ks : List Int) (a : Nat) (gl : List Int) (back ahead : List (List Int)) : Except Int Tab := match U ks (a + 8 + 2 * back.length + 2 * ahead.length) with
  | .error e => .error e
  | .ok c => if c ≠ gl.length then .error (a + 8 + 2 * back.length + 2 * ahead.length : Nat) else
    if a + 10 + 2 * back.length + 2 * ahead.length + 2 * gl.length ≤ ks.length then
      .ok (gl.zip ((List.range gl.length).map fun j => rd ks (a + 10 + 2 * back.length + 2 * ahead.length + 2 * j)), back, ahead)
    else .error (a + 10 + 2 * back.length + 2 * ahead.length : Nat)
noncomputable def RR4 (ks : List Int) (a : Nat) (gl : List Int) (back : List (List Int)) : Except Int Tab := match cvs ks a (a + 6 + 2 * back.length) with
  | .error e => .error e
  | .ok ahead => RR6 ks a gl back ahead
noncomputable def RR3 (ks : List Int) (a : Nat) (gl : List Int) : Except Int Tab := match cvs ks a (a + 4) with
  | .error e => .error e
  | .ok back => RR4 ks a gl back
noncomputable def RR2 (ks : List Int) (a : Nat) : Except Int Tab := match U ks (a + 2) with
  | .error e => .error e
  | .ok o => if o = 0 then .error (a + 2 : Nat) else match cvr ks (a + o.toNat) with
    | .error e => .error e
    | .ok gl => RR3 ks a gl
noncomputable def RR (ks : List Int) (a : Nat) : Except Int Tab := match U ks a with
  | .error e => .error e
  | .ok f => if f ≠ 1 then .error a else RR2 ks a
section
variable {prog : Program} {w : World} {A : Around} {E : Value → Shared → Prop} {s₀ : Shared} {h hc : Heap} {k : Nat} {base g g' gc : Heap} {fs fs' : List Env} {L L' : Addr} {ns ns' : List Str} {vs vs' : List (Option Value)} {led led' ledc : List (Addr × Obj)}
  {env : Env} {cl : List (Str × Addr)} {Q : Value → Shared → Prop}
theorem c_read_reverse {b : Array UInt8} {t ta : Tok} {a : Nat} {ks : List Int} (S : St w base fs g L ns vs led h) (hA : Ax prog A fs 12) (hk : KBw.bInts b = ks) (hz : ks.length ≤ 16777216)
    (hok : ∀ T : Tab, RR ks a = .ok T → ∀ g' h' k' v, g.StaysIn g' → RevIs prog w h.objs.size g' v T.1 T.2.1 T.2.2 → St w base fs g' L ns vs led h' → Q v (sh s₀ h' k'))
    (her : ∀ e, RR ks a = .error e → Er E s₀ base fs (hideAll h []) e) : wpAny (model prog w) A (call (.ref 425) [.bytes b t, .int a ta]) Q E (sh s₀ h k) := by
  refine enter (ns' := ["data", "at", "head", "covered", "back", "ahead", "spot", "count"]) (args' := [.bytes b t, .int a ta]) (n := 2) (vs' := [some (.bytes b t), some (.int a ta), none, none, none, none, none, none]) S hA (by k_is) (by k_is) (BindsTo.of_eq rfl) [] (fun _ h => nomatch h) (by simp) (by decide +kernel) (by decide +kernel) rfl (by decide) (by decide +kernel) rfl rfl rfl rfl ?_
  intro env' L' h₁ k₁ A' E' he hs hA' hE hL' S'
  have hG : EnvG w env' [("OctetsIn", .ref 163), ("TableFault", .ref 61), ("read_coverage", .ref 355), ("place_of", .ref 378), ("read_coverages", .ref 385), ("len", .builtin "len"), ("Reverse", .ref 414), ("by_glyph", .ref 371)] :=
    .cons (kindOf_of hs (by decide +kernel)) (G_OctetsIn w) (.cons (kindOf_of hs (by decide +kernel)) (G_TableFault w) (.cons (kindOf_of hs (by decide +kernel)) (G_read_coverage w) (.cons (kindOf_of hs (by decide +kernel)) (G_place_of w) (.cons (kindOf_of hs (by decide +kernel)) (G_read_coverages w) (.cons (kindOf_of hs (by decide +kernel)) (G_len w) (.cons (kindOf_of hs (by decide +kernel)) (G_Reverse w) (.cons (kindOf_of hs (by decide +kernel)) (G_by_glyph w) .nil)))))))
  have hsz : h.objs.size < h₁.objs.size := by rw [← hL']; exact S'.Llt
  have hr0 := rd_range hk a
  have hr2 := rd_range hk (a + 2)
  have hr4 := rd_range hk (a + 4)
  walk_at "go"
  refine c_OctetsIn S' (hA'.less (by decide)) fun g2 h₂ k₂ x dx od hg2 hx hD S₂ => ?_
  walk_at "go"
  rename St _ _ _ _ _ _ _ _ _ => S₃
  refine c_u16n (i := 0) S₃ (hA'.less (by decide)) hx rfl hD hk hz (fun hU h₄ k₄ t₄ od₄ u₄ hD₄ S₄ => ?_) fun hU => er_pass (foot := [(dx, od)]) hA' hE S₃ hg2 (fun p hp => hp) (her _ (by unfold RR; rw [hU]))
  dsimp only [List.set] at S₄
  walk_at "go"
  refine ite_c (fun hc => ?_) fun hc => ?_
  · walk_at "go"
    exact call_fault S₄ hA' hE hg2 (her _ (by unfold RR; rw [hU]; dsimp only; rw [if_pos (by simpa using hc)]))
  have hf1 : ¬ rd ks a ≠ 1 := by simpa using hc
  have hR1 : RR ks a = RR ks a := rfl
  conv at hR1 => rhs; unfold RR; rw [hU]; dsimp only; rw [if_neg hf1]
  conv at hR1 => rhs; unfold RR2
  walk_at "go"
  refine c_place_of (i := 0) S₄ (hA'.less (by decide)) hx rfl hD₄ hk hz (fun hV hne h₅ k₅ t₅ od₅ u₅ hD₅ S₅ => ?_) fun hV => er_pass (foot := [(dx, od₄)]) hA' hE S₄ hg2 (fun p hp => hp) (her _ (by rw [hR1]; rcases hV with hV | ⟨hV, h0⟩ <;> rw [hV]; dsimp only; rw [if_pos h0]))
  dsimp only [List.set] at S₅
  rw [hV] at hR1
  dsimp only at hR1
  rw [if_neg hne] at hR1
  walk_at "go"
  refine c_read_coverage S₅ (hA'.less (by decide)) hk hz (fun gl hgl hg6 g6 h₆ k₆ vc hg6' hcv S₆ => ?_) fun e he' => er_pass0 hA' hE S₅ hg2 (her _ (by rw [hR1, he']))
  rw [hgl] at hR1
  dsimp only at hR1
  conv at hR1 => rhs; unfold RR3
  have hcv0 : CovIs h.objs.size g6 vc gl := hcv.up (stays_refl _) (by rw [← hL']; exact Nat.le_of_lt S₅.Llt)
  have hx6 := hg6' _ _ hx
  clear S₅ S₄ S₃ S₂ hcv
  walk_at "go"
  rename St _ _ _ _ _ _ _ _ _ => S₇
  refine c_u16n (i := 0) (p := a + 4) S₇ (hA'.less (by decide)) hx6 rfl hD₅ hk hz (fun hW h₈ k₈ t₈ od₈ u₈ hD₈ S₈ => ?_) fun hW => er_pass (foot := [(dx, od₅)]) hA' hE S₇ (stays_trans hg2 hg6') (fun p hp => hp) (her _ (by rw [hR1]; unfold cvs; rw [hW]))
  dsimp only [List.set] at S₈
  obtain ⟨m, hmm⟩ := Int.eq_ofNat_of_zero_le hr4.1
  have hcvs : cvs ks a (a + 4) = rcs ks a (a + 4 + 2) m := by unfold cvs; rw [hW, hmm]; rfl
  rw [hmm]
  walk_at "go"
  refine c_read_coverages (i := 0) S₈ (hA'.less (by decide)) hx6 rfl hD₈ hk hz (by omega) (fun back hback hbl g9 h₉ k₉ vb od₉ u₉ hg9 hvb hD₉ S₉ => ?_) fun e he' => er_pass (foot := [(dx, od₈)]) hA' hE S₈ (stays_trans hg2 hg6') (fun p hp => hp) (her _ (by rw [hR1, hcvs, he']))
  dsimp only [List.set] at S₉
  rw [hcvs, hback] at hR1
  dsimp only at hR1
  conv at hR1 => rhs; unfold RR4
  subst hbl
  have hvb0 : TupCovs h.objs.size g9 vb back := hvb.up (stays_refl _) (by rw [← hL']; exact Nat.le_of_lt S₈.Llt)
  have hx9 := hg9 _ _ hx6
  have hr6 := rd_range hk (a + 6 + 2 * back.length)
  rw [show a + 4 + 2 + 2 * back.length = a + 6 + 2 * back.length by omega] at hD₉
  clear S₇ S₈ hvb
  walk_at "go"
  rename St _ _ _ _ _ _ _ _ _ => S₁₀
  refine c_u16n (i := 0) S₁₀ (hA'.less (by decide)) hx9 rfl hD₉ hk hz (fun hW2 h₁₁ k₁₁ t₁₁ od₁₁ u₁₁ hD₁₁ S₁₁ => ?_) fun hW2 => er_pass (foot := [(dx, od₉)]) hA' hE S₁₀ (stays_trans hg2 (stays_trans hg6' hg9)) (fun p hp => hp) (her _ (by rw [hR1]; unfold cvs; rw [hW2]))
  dsimp only [List.set] at S₁₁
  obtain ⟨m2, hmm2⟩ := Int.eq_ofNat_of_zero_le hr6.1
  have hcvs2 : cvs ks a (a + 6 + 2 * back.length) = rcs ks a (a + 6 + 2 * back.length + 2) m2 := by unfold cvs; rw [hW2, hmm2]; rfl
  rw [hmm2]
  walk_at "go"
  refine c_read_coverages (i := 0) S₁₁ (hA'.less (by decide)) hx9 rfl hD₁₁ hk hz (by omega) (fun ahead hahead hal g12 h₁₂ k₁₂ va od₁₂ u₁₂ hg12 hva hD₁₂ S₁₂ => ?_) fun e he' => er_pass (foot := [(dx, od₁₁)]) hA' hE S₁₁ (stays_trans hg2 (stays_trans hg6' hg9)) (fun p hp => hp) (her _ (by rw [hR1, hcvs2, he']))
  dsimp only [List.set] at S₁₂
  rw [hcvs2, hahead] at hR1
  dsimp only at hR1
  conv at hR1 => rhs; unfold RR6
  subst hal
  have hva0 : TupCovs h.objs.size g12 va ahead := hva.up (stays_refl _) (by rw [← hL']; exact Nat.le_of_lt S₁₁.Llt)
  have hvb1 := hvb0.up hg12 (Nat.le_refl _)
  have hcv1 := hcv0.up (stays_trans hg9 hg12) (Nat.le_refl _)
  have hx12 := hg12 _ _ hx9
  have hgA := stays_trans hg2 (stays_trans hg6' (stays_trans hg9 hg12))
  rw [show a + 6 + 2 * back.length + 2 + 2 * ahead.length = a + 8 + 2 * back.length + 2 * ahead.length by omega] at hD₁₂
  clear S₁₀ S₁₁ hva hvb0 hcv0
  obtain ⟨y, dy, ody, tv, rfl, _, _, hy, hdy, hDy, tt, ot, gs, rfl, _, ht, hTO, hgs⟩ := hcv1.ex
  have hgl1 := hgs.length
  have hr8 := rd_range hk (a + 8 + 2 * back.length + 2 * ahead.length)
  walk_at "go"
  rename St _ _ _ _ _ _ _ _ _ => S₁₃
  refine c_u16n (i := 0) S₁₃ (hA'.less (by decide)) hx12 rfl hD₁₂ hk hz (fun hW3 h₁₄ k₁₄ t₁₄ od₁₄ u₁₄ hD₁₄ S₁₄ => ?_) fun hW3 => er_pass (foot := [(dx, od₁₂)]) hA' hE S₁₃ hgA (fun p hp => hp) (her _ (by rw [hR1, hW3]))
  dsimp only [List.set] at S₁₄
  rw [hW3] at hR1
  dsimp only at hR1
  walk_at "go"
  rename St _ _ _ _ _ _ _ _ _ => S₁₅
  refine l_len_tup (S₁₅.get ht) hTO (by omega) fun t₁₆ k₁₆ => ?_
  walk_at "go"
  refine ite_c (fun hc => ?_) fun hc => ?_
  · walk_at "go"
    exact call_fault S₁₅ hA' hE hgA (her _ (by rw [hR1, if_pos (by rw [hgl1] at hc; simpa using hc)]))
  have hcnt : rd ks (a + 8 + 2 * back.length + 2 * ahead.length) = (gl.length : Int) := by rw [hgl1] at hc; simpa using hc
  rw [if_neg (fun q => q hcnt)] at hR1
  rw [hcnt] at S₁₅
  rw [show a + 8 + 2 * back.length + 2 * ahead.length + 2 = a + 10 + 2 * back.length + 2 * ahead.length by omega] at hD₁₄
  clear S₁₄ S₁₃ S₁₂
  walk_at "go"
  refine c_rows (i := 0) (m := gl.length) S₁₅ (hA'.less (by decide)) hx12 rfl hD₁₄ hk hz (by omega) (fun _ hlen h₁₇ k₁₇ l lo xs od₁₇ u₁₇ hLO hits hD₁₇ S₁₇ => ?_) fun hc => er_pass (foot := [(dx, od₁₄)]) hA' hE S₁₅ hgA (fun p hp => hp) (her _ (by rw [hR1, if_neg (by omega)]))
  dsimp only [List.set] at S₁₇
  rw [if_pos (by omega)] at hR1
  obtain ⟨g18, hg18, hl18, S₁₈⟩ := S₁₇.freeze
  walk_at "go"
  refine c_by_glyph (n := h.objs.size) S₁₈ (hA'.less (by decide)) (hcv1.up hg18 (Nat.le_refl _)) hl18 hLO hits (by simp) (by omega) (nodup_of_asc (cvr_asc hgl)) fun h₁₉ k₁₉ d o kvs hdo hmi hd1 hd2 S₁₉ => ?_
  obtain ⟨g20, hg20, hd20, S₂₀⟩ := S₁₉.freeze
  walk_at "go"
  refine c_Reverse S₂₀ (hA'.less (by decide)) fun g21 h₂₁ k₂₁ z dz odz hg21 hz1 hz2 hz3 hz4 hDz S₂₁ => ?_
  have hgB := stays_trans hg18 (stays_trans hg20 hg21)
  have hbig : h.objs.size ≤ h₁₇.objs.size := by rw [← hL']; exact Nat.le_of_lt S₁₇.Llt
  have hbig2 : h.objs.size ≤ h₁₉.objs.size := by rw [← hL']; exact Nat.le_of_lt S₁₉.Llt
  walk_at "go"
  obtain ⟨g5, hg5, hnew, S₂₂⟩ := S.retg0 S₂₁ (stays_trans (hideNil h) (stays_trans hgA hgB))
  refine hok _ hR1 g5 _ _ _ hg5 (RevIs.into (m := h.objs.size) ?_ hnew (Nat.le_refl _)) S₂₂
  refine ⟨z, dz, odz, d, o, kvs, vb, va, rfl, Nat.le_trans hbig2 hz1, Nat.le_trans hbig2 hz2, Nat.le_trans hbig (Nat.le_of_lt hd1), hz3, hz4, hDz, hd2, hg21 _ _ hd20, hdo, ?_, hvb1.up hgB (Nat.le_refl _), hva0.up hgB (Nat.le_refl _)⟩
  rw [Int.toNat_natCast] at hmi
  exact hmi
end
section
variable {prog : Program} {w : World} {A : Around} {E : Value → Shared → Prop} {s₀ : Shared} {h hc : Heap} {k : Nat} {base g g' gc : Heap} {fs fs' : List Env} {L L' : Addr} {ns ns' : List Str} {vs vs' : List (Option Value)} {led led' ledc : List (Addr × Obj)}
  {env : Env} {cl : List (Str × Addr)} {Q : Value → Shared → Prop}
theorem St.ofNew (S : St w base fs g L ns vs led h) {h' : Heap} {D : Addr} {o : Obj} (F' : Fr base L h' (mOf ns vs)) (N' : News base L h' ((D, o) :: (led ++ St.newOf base g))) (l1 : ∀ p ∈ led ++ St.newOf base g, p.1 < D) : St w base fs g L ns vs ((D, o) :: led) h' := by
  have hnone : g.get? D = none := by
    cases q : g.get? D with
    | none => rfl
    | some x => exact absurd (S.keep _ _ q) (fun q' => by
        cases q2 : base.get? D with
        | some y => exact absurd (F'.keep _ _ q2) (by have := (N' _ (.head _)).2.2; rw [q2] at this; cases this)
        | none => exact absurd (l1 (D, x) (List.mem_append_right _ (St.mem_newOf.mpr ⟨q, q2⟩))) (Nat.lt_irrefl _))
  have hnd : ((D :: led.map (·.1))).Nodup := List.nodup_cons.mpr ⟨fun hm => by
    obtain ⟨p, HH1⟩ := List.mem_map.mp hm
    have hp := HH1.1
    have e := HH1.2
    clear HH1
    exact absurd (l1 p (List.mem_append_left _ hp)) (by rw [e]; exact Nat.lt_irrefl _), S.ndl⟩
  exact S.ofNews F' S.len N' hnd (fun p hp => by
    cases hp with
    | head => exact hnone
    | tail _ hp => exact (S.ldg p hp).2.2)
theorem g_add {a b : Addr} {oa ob : Obj} {xs ys : List Value} (S : St w base fs g L ns vs led h) (ha : h.get? a = some oa) (hb : h.get? b = some ob) (hla : LO oa xs) (hlb : LO ob ys) (hz : xs.length + ys.length ≤ 16777216)
    (hq : ∀ l o h', LO o (xs ++ ys) → L < l → St w base fs g L ns vs ((l, o) :: led) h' → Q (.ref l) (sh s₀ h' k)) : wpAny (model prog w) A (binaryOp .Add (.ref a) (.ref b)) Q E (sh s₀ h k) := by
  refine add_lists (s := sh s₀ h k) S.toFr S.toNews (hla.isList ha) (hlb.isList hb) (fun h' F' N' => ?_) (by rw [sizeLine_eq]; exact hz)
  exact hq _ _ h' ⟨0, rfl⟩ S.loc.lt (S.ofNew F' N' fun p hp => Heap.lt_size (S.toNews p hp).1)
theorem g_list_tup {t : Addr} {ot : Obj} {xs : List Value} (S : St w base fs g L ns vs led h) (ht : h.get? t = some ot) (hT : TO ot xs) (hz : xs.length ≤ 16777216)
    (hq : ∀ l o h', LO o xs → L < l → St w base fs g L ns vs ((l, o) :: led) h' → Q (.ref l) (sh s₀ h' k)) : wpAny (model prog w) A (call (.type "list") [.ref t]) Q E (sh s₀ h k) := by
  obtain ⟨o, HH1⟩ := hT.isTup ht
  have ho := HH1.1
  have hc := HH1.2.1
  obtain ⟨n, hd⟩ := HH1.2.2
  clear HH1
  refine call_list_seq (hsz := by rw [List.size_toArray, sizeLine_eq]; exact hz) t (.inr rfl) ho hc hd fun h' c' hk hD => ?_
  have hk' : h.StaysIn h' := fun b o e => hk b o e
  exact hq _ _ h' ⟨c', rfl⟩ S.loc.lt (S.more hk' hD (Heap.get?_none_of_le (Nat.le_refl _)))
theorem g_list_range {r : Addr} {a b : Int} {t u v : Tok} (hh : A.handled = none) (S : St w base fs g L ns vs led h) (hr : h.get? r = some { cls := .type "range", data := .fields #[.int a t, .int b u, .int 1 v] }) (ha : 0 ≤ a) (ha2 : a < 2 ^ 17) (hb : b < 2 ^ 17) (hb0 : -(2 ^ 17) < b)
    (hq : ∀ l o h' k' ys, LO o ys → IntsAre ys (irange a b) → L < l → St w base fs g L ns vs ((l, o) :: led) h' → Q (.ref l) (sh s₀ h' k')) : wpAny (model prog w) A (call (.type "list") [.ref r]) Q E (sh s₀ h k) := by
  obtain ⟨n, hn⟩ : ∃ n : Nat, (n : Int) = max 0 (b - a) := ⟨(b - a).toNat, by omega⟩
  have hsz := rsz hn
  have hsm := rsm hn (by omega) (by omega) (by omega) (by omega)
  refine call_list_range hh hr hsm hsz (by omega) fun h' tk acc' c' hk hD hacc => ?_
  have hk' : h.StaysIn h' := fun b o e => hk b o e
  refine hq _ _ h' tk acc'.toList ⟨c', rfl⟩ ?_ S.loc.lt (S.more hk' hD (Heap.get?_none_of_le (Nat.le_refl _)))
  unfold irange
  rw [show (b - a).toNat = n by omega]
  refine ints_of_items (by simp [hacc.1]) fun j v hj => ?_
  obtain ⟨t, e⟩ := hacc.2 j v (by simpa using hj)
  exact ⟨t, by rw [e]; congr 1; omega⟩
theorem in_tup {t : Addr} {ot : Obj} {xs : List Value} {ms : List Int} {x : Int} {u : Tok} (ht : h.get? t = some ot) (hT : TO ot xs) (hi : IntsAre xs ms) (hq : Q (.bool (ms.any (· == x))) (sh s₀ h k)) : wpAny (model prog w) A (compareOp .In (.int x u) (.ref t)) Q E (sh s₀ h k) :=
  in_tuple_ints (hT.isTup ht) hi hq
end
section
variable {prog : Program} {w : World} {A : Around} {E : Value → Shared → Prop} {s₀ : Shared} {h hc : Heap} {k : Nat} {base g g' gc : Heap} {fs fs' : List Env} {L L' : Addr} {ns ns' : List Str} {vs vs' : List (Option Value)} {led led' ledc : List (Addr × Obj)}
  {env : Env} {cl : List (Str × Addr)} {Q : Value → Shared → Prop}
theorem c_law_u16 {b : Array UInt8} {t ta : Tok} {p : Nat} {ks : List Int} (S : St w base fs g L ns vs led h) (hA : Ax prog A fs 4) (hk : KBw.bInts b = ks) (hz : ks.length ≤ 16777216)
    (hok : U ks p = .ok (rd ks p) → ∀ h' k' t', St w base fs g L ns vs led h' → Q (.int (rd ks p) t') (sh s₀ h' k'))
    (her : U ks p = .error (p : Int) → Er E s₀ base fs (hideAll h []) p) : wpAny (model prog w) A (call (.ref 444) [.bytes b t, .int p ta]) Q E (sh s₀ h k) := by
  refine enter (ns' := ["data", "at"]) (args' := [.bytes b t, .int p ta]) (n := 2) (vs' := [some (.bytes b t), some (.int p ta)]) S hA (by k_is) (by k_is) (BindsTo.of_eq rfl) [] (fun _ h => nomatch h) (by simp) (by decide +kernel) (by decide +kernel) rfl (by decide) (by decide +kernel) rfl rfl rfl rfl ?_
  intro env' L' h₁ k₁ A' E' he hs hA' hE hL' S'
  have hG : EnvG w env' [("len", .builtin "len"), ("TableFault", .ref 61)] := .cons (kindOf_of hs (by decide +kernel)) (G_len w) (.cons (kindOf_of hs (by decide +kernel)) (G_TableFault w) .nil)
  walk_at "go"
  refine ite_c (fun hc => ?_) fun hc => ?_
  · walk_at "go"
    exact call_fault S' hA' hE (stays_refl _) (her (U_err (by simp at hc; omega)))
  simp only [decide_eq_false_iff_not] at hc
  walk_at "go"
  refine sub_bytes hk hz (by omega) (by omega) fun t₂ k₂ => ?_
  walk_at "go"
  refine sub_bytes hk hz (by omega) (by omega) fun t₃ k₃ => ?_
  walk_at "go"
  rw [show ((p : Int) + 1).toNat = p + 1 by omega, Int.toNat_natCast]
  exact hok (U_ok (by omega)) _ _ _ (S.ret0 S' (hideNil h))
theorem c_law_want {c : Bool} {p : Int} {ta : Tok} (S : St w base fs g L ns vs led h) (hA : Ax prog A fs 4)
    (hok : c = true → ∀ h' k', St w base fs g L ns vs led h' → Q .none (sh s₀ h' k'))
    (her : c = false → Er E s₀ base fs (hideAll h []) p) : wpAny (model prog w) A (call (.ref 456) [.bool c, .int p ta]) Q E (sh s₀ h k) := by
  refine enter (ns' := ["is_right", "at"]) (args' := [.bool c, .int p ta]) (n := 2) (vs' := [some (.bool c), some (.int p ta)]) S hA (by k_is) (by k_is) (BindsTo.of_eq rfl) [] (fun _ h => nomatch h) (by simp) (by decide +kernel) (by decide +kernel) rfl (by decide) (by decide +kernel) rfl rfl rfl rfl ?_
  intro env' L' h₁ k₁ A' E' he hs hA' hE hL' S'
  have hG : EnvG w env' [("TableFault", .ref 61)] := .cons (kindOf_of hs (by decide +kernel)) (G_TableFault w) .nil
  walk_at "go"
  refine ite_c (fun hc => ?_) fun hc => ?_
  · walk_at "go"
    exact call_fault S' hA' hE (stays_refl _) (her (by simpa using hc))
  · walk_at "go"
    exact hok (by simpa using hc) _ _ (S.ret0 S' (hideNil h))
noncomputable abbrev JJ27_7 (p : Nat) (ks : List Int) : Nat → Heap → List (Addr × Obj) → List Value → Prop :=
  fun j g' led' items => led' = [] ∧ IntsAre items ((List.range j).map fun j => rd ks (p + 2 * j))
theorem c_law_numbers {b : Array UInt8} {t ta tc : Tok} {p m : Nat} {ks : List Int} (S : St w base fs g L ns vs led h) (hA : Ax prog A fs 4) (hk : KBw.bInts b = ks) (hz : ks.length ≤ 16777216) (hm : m < 65536)
    (hok : p + 2 * m ≤ ks.length → ∀ h' k' l o xs, LO o xs → IntsAre xs ((List.range m).map fun j => rd ks (p + 2 * j)) → St w base fs g L ns vs ((l, o) :: led) h' → Q (.ref l) (sh s₀ h' k'))
    (her : ks.length < p + 2 * m → Er E s₀ base fs (hideAll h []) p) : wpAny (model prog w) A (call (.ref 449) [.bytes b t, .int p ta, .int m tc]) Q E (sh s₀ h k) := by
  refine enterCC (ns' := ["count"]) (args' := [.int m tc]) (n := 1) (vs' := [some (.int m tc)]) (binds := [("data", .bytes b t), ("at", .int p ta), ("count", .int m tc)]) S hA (by k_is) (by k_is) (BindsTo.of_eq rfl) rfl (fun n => ⟨.inr ⟨rfl, rfl⟩, .inr ⟨rfl, rfl⟩, .inl rfl, trivial⟩) [] (fun _ h => nomatch h) (by simp) (by decide +kernel) (by decide +kernel) rfl (by decide) (by decide +kernel) rfl rfl rfl rfl ?_
  intro env' L' h₁ k₁ A' E' cells he hs hA' hE hL' hcells S'
  obtain ⟨oc, od, HH1⟩ := ex2 (CellsAre.two hcells)
  obtain rfl := HH1.1
  have hoc := HH1.2.1
  have hod := HH1.2.2
  clear HH1
  obtain ⟨g2, hg2, hc2, S2⟩ := S'.freeze
  obtain ⟨g3, hg3, hc3, S3⟩ := S2.freeze
  replace hc2 := hg3 _ _ hc2
  have hg := stays_trans hg2 hg3
  replace S3 : St w base (env' :: fs) g3 L' ["count"] [some (.int m tc)] [] h₁ := S3
  replace he : EnvOk env' L' ["count"] [("at", L' + 1 + 1), ("data", L' + 1)] := he
  have hC1 : CN env' [("at", L' + 1 + 1), ("data", L' + 1)] g3 "data" (.bytes b t) := ⟨kindOf_of hs (by decide +kernel), _, _, rfl, hc3, hod⟩
  have hC2 : CN env' [("at", L' + 1 + 1), ("data", L' + 1)] g3 "at" (.int p ta) := ⟨kindOf_of hs (by decide +kernel), _, _, rfl, hc2, hoc⟩
  have hG : EnvG w env' [("len", .builtin "len"), ("TableFault", .ref 61), ("range", .type "range")] := .cons (kindOf_of hs (by decide +kernel)) (G_len w) (.cons (kindOf_of hs (by decide +kernel)) (G_TableFault w) (.cons (kindOf_of hs (by decide +kernel)) (G_range w) .nil))
  clear hs hoc hod hcells S2 S'
  walk_at "go"
  refine ite_c (fun hc => ?_) fun hc => ?_
  · walk_at "go"
    exact call_fault S3 hA' hE hg (her (by simp at hc; omega))
  simp only [decide_eq_false_iff_not] at hc
  walk_at "go"
  refine e_comp (closure_two rfl (by decide +kernel) (by rw [he.cells]; rfl) (by rw [he.cells]; rfl)) rfl (by decide +kernel) ?_
  walk_at "go"
  refine l_range1 S3 fun r h₃ k₃ t₃ v₃ hr S₄ => ?_
  refine it_range m hA'.hd S₄ hr (by omega) (by decide) (by decide) (by omega) (by omega) fun I oI h₄ k₄ W S₅ => ?_
  refine g_elts (JJ27_7 p ks) he W S₅ (by decide +kernel) rfl (by decide +kernel) (by omega) (fun _ _ _ _ _ _ hj => hj) ⟨rfl, .nil⟩ ?_ ?_ ?_
  · rintro j g' led' items ⟨_, hi⟩
    simpa using hi.length
  · rintro C cenv j v g' led' items h₅ k₅ oI' oD E'' _ hj ⟨u, rfl⟩ ⟨rfl, hits⟩ hg' hcs hce S₆
    have hC1' := (hC1.up hg').into he.kind hcs (by decide +kernel) (cl' := [("data", L' + 1), ("at", L' + 1 + 1)]) rfl
    have hC2' := (hC2.up hg').into he.kind hcs (by decide +kernel) (cl' := [("data", L' + 1), ("at", L' + 1 + 1)]) rfl
    walk_at "go"
    rw [Int.zero_add]
    refine sub_bytes hk hz (by omega) (by omega) fun t₂ k₂ => ?_
    walk_at "go"
    rw [Int.zero_add]
    refine sub_bytes hk hz (by omega) (by omega) fun t₃ k₃ => ?_
    walk_at "go"
    refine elt_done S₆ (stays_refl _) ⟨rfl, ?_⟩
    rw [List.range_succ, List.map_append]
    rw [show ((p : Int) + 2 * (j : Int)).toNat = p + 2 * j by omega, show ((p : Int) + 2 * (j : Int) + 1).toNat = p + 2 * j + 1 by omega]
    exact ints_snoc hits _ _
  · rintro g' led' items oD h₅ k₅ ⟨rfl, hits⟩ hlen hLO hg' S₆
    walk_at "go"
    exact hok (by omega) _ _ _ _ _ hLO hits (S.ret0n (new := [(h₄.objs.size, oD)]) S₆ (stays_trans (hideNil h) (stays_trans hg hg')) (fun p hp => hp) S₆.ndl)
end
theorem irange_one (a : Int) : irange a (a + 1) = [a] := by
  unfold irange
  rw [show (a + 1 - a).toNat = 1 by omega]; simp
theorem cov_succ (ks : List Int) (form : Int) (m p : Nat) (least : Int) (f : List Int) : cov ks form (m + 1) p least f = (match U ks p with
    | .error e => .error e
    | .ok first => if first < least then .error (p : Int) else if form = 1 then cov ks form m (p + 2) (first + 1) (f ++ [first])
      else match U ks (p + 2) with
        | .error e => .error e
        | .ok last => if last < first then .error ((p + 2 : Nat) : Int) else match U ks (p + 4) with
          | .error e => .error e
          | .ok ix => if ix = f.length then cov ks form m (p + 6) (last + 1) (f ++ irange first (last + 1)) else .error ((p + 4 : Nat) : Int)) := by
  conv => lhs; unfold cov
  all_goals rfl
inductive Each {α : Type} (R : Value → α → Prop) : List Value → List α → Prop
  | nil : Each R [] []
  | cons {v : Value} {c : α} {xs : List Value} {cs : List α} : R v c → Each R xs cs → Each R (v :: xs) (c :: cs)
theorem Each.map {α : Type} {R R' : Value → α → Prop} (F : ∀ v c, R v c → R' v c) {xs : List Value} {cs : List α} (h : Each R xs cs) : Each R' xs cs := by
  induction h with
  | nil => exact .nil
  | cons a _ ih => exact .cons (F _ _ a) ih
theorem Each.snoc {α : Type} {R : Value → α → Prop} {v : Value} {c : α} (y : R v c) {xs : List Value} {cs : List α} (h : Each R xs cs) : Each R (xs ++ [v]) (cs ++ [c]) := by
  induction h with
  | nil => exact .cons y .nil
  | cons a _ ih => exact .cons a ih
theorem Each.length {α : Type} {R : Value → α → Prop} {xs : List Value} {cs : List α} (h : Each R xs cs) : xs.length = cs.length := by
  induction h with
  | nil => rfl
  | cons _ _ ih => exact congrArg Nat.succ ih
theorem Each.get {α : Type} {R : Value → α → Prop} {xs : List Value} {cs : List α} {j : Nat} {v : Value} (h : Each R xs cs) : xs[j]? = some v → ∃ c, cs[j]? = some c ∧ R v c := by
  induction h generalizing j with
  | nil => intro e; simp at e
  | cons a b ih =>
    intro e
    cases j with
    | zero => simp at e; subst e; exact ⟨_, rfl, a⟩
    | succ j => simpa using ih (j := j) (by simpa using e)
structure TupR {α : Type} (R : Nat → Heap → Value → α → Prop) (n : Nat) (g : Heap) (v : Value) (cs : List α) : Prop where
  ex : Ex3 fun t o xs => An5 (v = .ref t) (n ≤ t) (g.get? t = some o) (TO o xs) (Each (R n g) xs cs)
structure Keeps {α : Type} (R : Nat → Heap → Value → α → Prop) : Prop where
  up : ∀ {n m : Nat} {g g' : Heap} {v : Value} {c : α}, R m g v c → g.StaysIn g' → n ≤ m → R n g' v c
  into : ∀ {n m : Nat} {gc g' : Heap} {v : Value} {c : α}, R m gc v c → NewIn n gc g' → n ≤ m → R n g' v c
theorem Keeps.tup {α : Type} {R : Nat → Heap → Value → α → Prop} (K : Keeps R) : Keeps (TupR R) where
  up := fun x hg hm => by
    obtain ⟨t, o, xs, h1, h2, h3, h4, h5⟩ := x.ex
    exact ⟨t, o, xs, h1, Nat.le_trans hm h2, hg _ _ h3, h4, h5.map fun _ _ q => K.up q hg hm⟩
  into := fun x hN hm => by
    obtain ⟨t, o, xs, h1, h2, h3, h4, h5⟩ := x.ex
    exact ⟨t, o, xs, h1, Nat.le_trans hm h2, hN.get hm h2 h3, h4, h5.map fun _ _ q => K.into q hN hm⟩
theorem keeps_ints : Keeps TupInts := ⟨fun x hg hm => x.up hg hm, fun x hN hm => x.into hN hm⟩
theorem keeps_cov : Keeps CovIs := ⟨fun x hg hm => x.up hg hm, fun x hN hm => x.into hN hm⟩
structure PairIs (n : Nat) (g : Heap) (v : Value) (p : Int × Int) : Prop where
  ex : Ex4 fun t o t1 t2 => An4 (v = .ref t) (n ≤ t) (g.get? t = some o) (TO o [.int p.1 t1, .int p.2 t2])
theorem keeps_pair : Keeps PairIs := ⟨fun x hg hm => by
    obtain ⟨t, o, t1, t2, h1, h2, h3, h4⟩ := x.ex
    exact ⟨t, o, t1, t2, h1, Nat.le_trans hm h2, hg _ _ h3, h4⟩, fun x hN hm => by
    obtain ⟨t, o, t1, t2, h1, h2, h3, h4⟩ := x.ex
    exact ⟨t, o, t1, t2, h1, Nat.le_trans hm h2, hN.get hm h2 h3, h4⟩⟩
structure TabIs (n : Nat) (g : Heap) (v : Value) (T : Tab) : Prop where
  ex : Ex5 fun t o pv bv av => An7 (v = .ref t) (n ≤ t) (g.get? t = some o) (TO o [pv, bv, av]) (TupR PairIs n g pv T.1) (TupR TupInts n g bv T.2.1) (TupR TupInts n g av T.2.2)
theorem keeps_tab : Keeps TabIs := ⟨fun x hg hm => by
    obtain ⟨t, o, pv, bv, av, h1, h2, h3, h4, h5, h6, h7⟩ := x.ex
    exact ⟨t, o, pv, bv, av, h1, Nat.le_trans hm h2, hg _ _ h3, h4, keeps_pair.tup.up h5 hg hm, keeps_ints.tup.up h6 hg hm, keeps_ints.tup.up h7 hg hm⟩, fun x hN hm => by
    obtain ⟨t, o, pv, bv, av, h1, h2, h3, h4, h5, h6, h7⟩ := x.ex
    exact ⟨t, o, pv, bv, av, h1, Nat.le_trans hm h2, hN.get hm h2 h3, h4, keeps_pair.tup.into h5 hN hm, keeps_ints.tup.into h6 hN hm, keeps_ints.tup.into h7 hN hm⟩⟩
section
variable {prog : Program} {w : World} {A : Around} {E : Value → Shared → Prop} {s₀ : Shared} {h hc : Heap} {k : Nat} {base g g' gc : Heap} {fs fs' : List Env} {L L' : Addr} {ns ns' : List Str} {vs vs' : List (Option Value)} {led led' ledc : List (Addr × Obj)}
  {env : Env} {cl : List (Str × Addr)} {Q : Value → Shared → Prop}
noncomputable abbrev JJ27_8 (b : Array UInt8) (t : Tok) (ta : Tok) (p : Nat) (ks : List Int) (t₂ : Tok) (m : Nat) : Nat → Heap → List (Option Value) → List (Addr × Obj) → Prop :=
  fun j g' vs' led' => Ex11 fun (f : List Int) (xs : List Value) (l : Addr) (ol : Obj) (p' : Nat) (t1 t2 : Tok) (least : Int) (v1 v2 v3 : Option Value) => An9 (vs' = [some (.bytes b t), some (.int p ta), some (.int (rd ks p) t₂), some (.ref l), some (.int least t1), some (.int p' t2), v1, v2, v3]) (led' = []) (g'.get? l = some ol) (LO ol xs) (IntsAre xs f) (cov ks (rd ks p) (m - j) p' least f = cov ks (rd ks p) m (p + 4) 0 []) (0 ≤ least) ((f.length : Int) ≤ least) (least ≤ 65536)
theorem c_law_cover {b : Array UInt8} {t ta : Tok} {p : Nat} {ks : List Int} (S : St w base fs g L ns vs led h) (hA : Ax prog A fs 5) (hk : KBw.bInts b = ks) (hz : ks.length ≤ 16777216)
    (hok : ∀ gl, cvr ks p = .ok gl → gl.length ≤ 65536 → ∀ g' h' k' v, g.StaysIn g' → TupInts h.objs.size g' v gl → St w base fs g' L ns vs led h' → Q v (sh s₀ h' k'))
    (her : ∀ e, cvr ks p = .error e → Er E s₀ base fs (hideAll h []) e) : wpAny (model prog w) A (call (.ref 463) [.bytes b t, .int p ta]) Q E (sh s₀ h k) := by
  refine enter (ns' := ["data", "at", "form", "glyphs", "fewest", "spot", "index", "first", "last"]) (args' := [.bytes b t, .int p ta]) (n := 2) (vs' := [some (.bytes b t), some (.int p ta), none, none, none, none, none, none, none]) S hA (by k_is) (by k_is) (BindsTo.of_eq rfl) [] (fun _ h => nomatch h) (by simp) (by decide +kernel) (by decide +kernel) rfl (by decide) (by decide +kernel) rfl rfl rfl rfl ?_
  intro env' L' h₁ k₁ A' E' he hs hA' hE hL' S'
  have hG : EnvG w env' [("_law_u16", .ref 444), ("_law_want", .ref 456), ("range", .type "range"), ("len", .builtin "len"), ("list", .type "list"), ("tuple", .type "tuple")] := .cons (kindOf_of hs (by decide +kernel)) (G_law_u16 w) (.cons (kindOf_of hs (by decide +kernel)) (G_law_want w) (.cons (kindOf_of hs (by decide +kernel)) (G_range w) (.cons (kindOf_of hs (by decide +kernel)) (G_len w) (.cons (kindOf_of hs (by decide +kernel)) (G_list w) (.cons (kindOf_of hs (by decide +kernel)) (G_tuple w) .nil)))))
  have hr0 := rd_range hk p
  have hr2 := rd_range hk (p + 2)
  walk_at "go"
  refine c_law_u16 S' (hA'.less (by decide)) hk hz (fun hU h₂ k₂ t₂ S₂ => ?_) fun hU => er_pass0 hA' hE S' (stays_refl _) (her _ (by unfold cvr; rw [hU]))
  walk_at "go"
  rename St _ _ _ _ _ _ _ _ _ => S₃
  refine g_newTuple S₃ (by simp) fun tt ot h₄ hTO _ _ _ S₄ => ?_
  walk_at "go"
  refine in_tup (S₄.at_ (i := 0) rfl) hTO (.cons 1 _ (.cons 2 _ .nil)) ?_
  walk_at "go"
  refine c_law_want S₄ (hA'.less (by decide)) (fun hw h₅ k₅ S₅ => ⟨rfl, ?_⟩) fun hw => er_pass0 hA' hE S₄ (stays_refl _) (her _ (by unfold cvr; rw [hU]; exact if_neg (by simp at hw; omega)))
  have hF : rd ks p = 1 ∨ rd ks p = 2 := by simp at hw; omega
  have hcv : cvr ks p = counted ks (rd ks p) (p + 2) := by unfold cvr; rw [hU]; exact if_pos hF
  replace S₅ := S₅.part (sub := []) (fun _ h => nomatch h) .nil
  clear S₂ S₃ S₄
  walk_at "go"
  refine g_newList S₅ (by decide) fun l ol h₆ hol _ _ _ S₆ => ?_
  obtain ⟨g2, hg2, hl2, S₇⟩ := S₆.freeze
  clear S₅ S₆
  walk_at "go"
  refine x_for ?_
  walk_at "go"
  rename St _ _ _ _ _ _ _ _ _ => S₈
  rw [show (p : Int) + 2 = ((p + 2 : Nat) : Int) by omega]
  refine c_law_u16 S₈ (hA'.less (by decide)) hk hz (fun hV h₉ k₉ t₉ S₉ => ?_) fun hV => er_pass0 hA' hE S₈ hg2 (her _ (by rw [hcv]; unfold counted; rw [hV]))
  obtain ⟨m, hmm⟩ := Int.eq_ofNat_of_zero_le hr2.1
  rw [hmm] at hr2 ⊢
  walk_at "go"
  refine l_range1 S₉ fun r h₅ k₅ t₅ v₅ hr S₁₀ => ?_
  refine it_range m hA'.hd S₁₀ hr (by omega) (by decide) (by decide) (by omega) (by omega) fun I oI h₆ k₆ W S₁₁ => ?_
  have hcnt : counted ks (rd ks p) (p + 2) = cov ks (rd ks p) m (p + 4) 0 [] := by unfold counted; rw [hV, hmm]; rfl
  rw [show (p : Int) + 4 = ((p + 4 : Nat) : Int) by omega] at S₁₁
  refine f_loop 6 (JJ27_8 b t ta p ks t₂ m)
    he hE.pass rfl W S₁₁ ⟨[], [], l, ol, p + 4, _, _, 0, none, none, none, rfl, rfl, hl2, hol, .nil, rfl, by decide, by decide, by decide⟩ ?_ ?_
  · rintro j v g' vs' led' h₇ k₇ oI' hj ⟨u, rfl⟩ ⟨f, xs, l, ol, p', t1, t2, least, v1, v2, v3, rfl, rfl, hl, hLO, hits, hcov, hl0, hfl, hl6⟩ hg S₇
    dsimp only [List.set] at S₇
    have hxl := hits.length
    obtain ⟨r', hr'⟩ : ∃ r, m - j = r + 1 := ⟨m - j - 1, by omega⟩
    rw [hr', cov_succ] at hcov
    have hp0 := rd_range hk p'
    have hp2 := rd_range hk (p' + 2)
    have hgg := stays_trans hg2 hg
    clear S₈ S₉ S₁₀ S₁₁
    walk_at "go"
    refine c_law_u16 S₇ (hA'.less (by decide)) hk hz (fun hU1 h₈ k₈ t₈ S₈ => ?_) fun hU1 => er_pass0 hA' hE S₇ hgg (her _ (by rw [hcv, hcnt, ← hcov, hU1]))
    rw [hU1] at hcov; dsimp only at hcov
    clear S₇
    walk_at "go"
    rename St _ _ _ _ _ _ _ _ _ => S₉
    refine c_law_want S₉ (hA'.less (by decide)) (fun hw1 h₁₀ k₁₀ S₁₀ => ⟨rfl, ?_⟩) fun hw1 => er_pass0 hA' hE S₉ hgg (her _ (by rw [hcv, hcnt, ← hcov, if_pos (by simp at hw1; omega)]))
    simp only [decide_eq_true_eq] at hw1
    rw [if_neg (by omega)] at hcov
    clear S₉
    walk_at "go"
    rename St _ _ _ _ _ _ _ _ _ => S₁₁
    refine ite_c (fun hc => ?_) fun hc => ?_
    · have hF2 : rd ks p = 2 := by simpa using hc
      rw [if_neg (by omega)] at hcov
      walk_at "go"
      rw [show (p' : Int) + 2 = ((p' + 2 : Nat) : Int) by omega]
      refine c_law_u16 S₁₁ (hA'.less (by decide)) hk hz (fun hU2 h₁₂ k₁₂ t₁₂ S₁₂ => ?_) fun hU2 => er_pass0 hA' hE S₁₁ hgg (her _ (by rw [hcv, hcnt, ← hcov, hU2]))
      rw [hU2] at hcov; dsimp only at hcov
      clear S₁₁
      walk_at "go"
      rename St _ _ _ _ _ _ _ _ _ => S₁₃
      rw [show (p' : Int) + 2 = ((p' + 2 : Nat) : Int) by omega]
      refine c_law_want S₁₃ (hA'.less (by decide)) (fun hw2 h₁₄ k₁₄ S₁₄ => ⟨rfl, ?_⟩) fun hw2 => er_pass0 hA' hE S₁₃ hgg (her _ (by rw [hcv, hcnt, ← hcov, if_pos (by simp at hw2; omega)]))
      simp only [decide_eq_true_eq] at hw2
      rw [if_neg (by omega)] at hcov
      clear S₁₃
      walk_at "go"
      rw [show (p' : Int) + 4 = ((p' + 4 : Nat) : Int) by omega]
      refine c_law_u16 S₁₄ (hA'.less (by decide)) hk hz (fun hU3 h₁₅ k₁₅ t₁₅ S₁₅ => ?_) fun hU3 => er_pass0 hA' hE S₁₄ hgg (her _ (by rw [hcv, hcnt, ← hcov, hU3]))
      rw [hU3] at hcov; dsimp only at hcov
      clear S₁₄
      walk_at "go"
      refine l_len_list (S₁₅.get hl) hLO (by omega) fun t₁₆ k₁₆ => ?_
      walk_at "go"
      rw [show (p' : Int) + 4 = ((p' + 4 : Nat) : Int) by omega]
      refine c_law_want S₁₅ (hA'.less (by decide)) (fun hw3 h₁₇ k₁₇ S₁₇ => ⟨rfl, ?_⟩) fun hw3 => er_pass0 hA' hE S₁₅ hgg (her _ (by rw [hcv, hcnt, ← hcov, if_neg (by simp at hw3; omega)]))
      rw [if_pos (by simp at hw3; omega)] at hcov
      clear S₁₅
      walk_at "go"
      refine l_range2 S₁₇ fun r₂ h₁₈ k₁₈ v₁₈ hr₂ S₁₈ => ?_
      walk_at "go"
      refine g_list_range hA'.hd S₁₈ hr₂ (by omega) (by omega) (by omega) (by omega) fun l2 o2 h₁₉ k₁₉ ys hLO2 hys _ S₁₉ => ?_
      have hyl := hys.length
      have hil := irange_len (a := rd ks p') (b := rd ks (p' + 2) + 1) (by omega)
      walk_at "go"
      refine g_add S₁₉ (S₁₉.get hl) (S₁₉.at_ (i := 0) rfl) hLO hLO2 (by omega) fun l3 o3 h₂₀ hLO3 _ S₂₀ => ?_
      obtain ⟨g3, hg3, hl3, S₂₁⟩ := S₂₀.freeze
      replace S₂₁ := S₂₁.part (sub := [(I, oI')]) (fun p hp => .tail _ hp) (by simp)
      clear S₁₇ S₁₈ S₁₉ S₂₀
      walk_at "go"
      rename St _ _ _ _ _ _ _ _ _ => S₂₂
      rw [show (p' : Int) + 4 * rd ks p - 2 = ((p' + 6 : Nat) : Int) by omega] at S₂₂
      refine turn_next S₂₂ hg3 ⟨_, _, l3, o3, p' + 6, _, _, _, _, _, _, rfl, rfl, hl3, hLO3, ints_app hits hys, ?_, by omega, ?_, by omega⟩
      · rw [show m - (j + 1) = r' by omega]; exact hcov
      · rw [List.length_append]; omega
    · have hF1 : rd ks p = 1 := by rcases hF with hF | hF; exact hF; rw [hF] at hc; cases hc
      rw [if_pos (by omega)] at hcov
      walk_at "go"
      refine l_range2 S₁₁ fun r₂ h₁₈ k₁₈ v₁₈ hr₂ S₁₈ => ?_
      walk_at "go"
      refine g_list_range hA'.hd S₁₈ hr₂ (by omega) (by omega) (by omega) (by omega) fun l2 o2 h₁₉ k₁₉ ys hLO2 hys _ S₁₉ => ?_
      rw [irange_one] at hys
      have hyl := hys.length
      walk_at "go"
      refine g_add S₁₉ (S₁₉.get hl) (S₁₉.at_ (i := 0) rfl) hLO hLO2 (by simp at hyl; omega) fun l3 o3 h₂₀ hLO3 _ S₂₀ => ?_
      obtain ⟨g3, hg3, hl3, S₂₁⟩ := S₂₀.freeze
      replace S₂₁ := S₂₁.part (sub := [(I, oI')]) (fun p hp => .tail _ hp) (by simp)
      clear S₁₁ S₁₈ S₁₉ S₂₀
      walk_at "go"
      rename St _ _ _ _ _ _ _ _ _ => S₂₂
      rw [show (p' : Int) + 4 * rd ks p - 2 = ((p' + 2 : Nat) : Int) by omega] at S₂₂
      refine turn_next S₂₂ hg3 ⟨_, _, l3, o3, p' + 2, _, _, _, _, _, _, rfl, rfl, hl3, hLO3, ints_app hits hys, ?_, by omega, ?_, by omega⟩
      · rw [show m - (j + 1) = r' by omega]; exact hcov
      · rw [List.length_append, List.length_singleton]; omega
  · rintro g' vs' led' h₇ k₇ ⟨f, xs, l, ol, p', t1, t2, least, v1, v2, v3, rfl, rfl, hl, hLO, hits, hcov, hl0, hfl, hl6⟩ hg S₇
    rw [Nat.sub_self, cov_zero] at hcov
    have hxl := hits.length
    clear S₈ S₉ S₁₀ S₁₁
    walk_at "go"
    refine m_tuple S₇ (S₇.get hl) hLO (by omega) fun tt ot h₈ hTO htn htL hst S₈ => ?_
    obtain ⟨g3, hg3, ht3, S₉⟩ := S₈.freeze
    rw [hL'] at htL
    walk_at "go"
    obtain ⟨g5, hg5, hnew, S₁₀⟩ := S.retg0 S₉ (stays_trans (hideNil h) (stays_trans hg2 (stays_trans hg hg3)))
    exact hok f (by rw [hcv, hcnt, ← hcov]) (by omega) g5 _ _ _ hg5 (TupInts.into (m := h.objs.size) ⟨tt, ot, _, rfl, Nat.le_of_lt htL, ht3, hTO, hits⟩ hnew (Nat.le_refl _)) S₁₀
end
section
variable {prog : Program} {w : World} {A : Around} {E : Value → Shared → Prop} {s₀ : Shared} {h hc : Heap} {k : Nat} {base g g' gc : Heap} {fs fs' : List Env} {L L' : Addr} {ns ns' : List Str} {vs vs' : List (Option Value)} {led led' ledc : List (Addr × Obj)}
  {env : Env} {cl : List (Str × Addr)} {Q : Value → Shared → Prop}
noncomputable abbrev JJ27_9 (h : Heap) (b : Array UInt8) (t : Tok) (ta : Tok) (tq : Tok) (a : Nat) (q : Nat) (ks : List Int) (t₂ : Tok) (m : Nat) (lf : Addr) : Nat → Heap → List (Option Value) → List (Addr × Obj) → Prop :=
  fun j g' vs' led' => Ex4 fun (cs : List (List Int)) (ys : List Value) (ol' : Obj) (v1 : Option Value) => An6 (vs' = [some (.bytes b t), some (.int a ta), some (.int q tq), some (.int m t₂), some (.ref lf), v1]) (led' = [(lf, ol')]) (LO ol' ys) (Each (TupInts h.objs.size g') ys cs) (cs.length = j) (covsA ks a (m - j) (q + 2 + 2 * j) cs = covsA ks a m (q + 2) [])
theorem c_law_covers {b : Array UInt8} {t ta tq : Tok} {a q : Nat} {ks : List Int} (S : St w base fs g L ns vs led h) (hA : Ax prog A fs 6) (hk : KBw.bInts b = ks) (hz : ks.length ≤ 16777216)
    (hok : ∀ cs, cvs ks a q = .ok cs → cs.length ≤ 65536 → ∀ g' h' k' tp otp tv u, g.StaysIn g' → TO otp [tv, .int ((q + 2 + 2 * cs.length : Nat) : Int) u] → TupR TupInts h.objs.size g' tv cs → St w base fs g' L ns vs ((tp, otp) :: led) h' → Q (.ref tp) (sh s₀ h' k'))
    (her : ∀ e, cvs ks a q = .error e → Er E s₀ base fs (hideAll h []) e) : wpAny (model prog w) A (call (.ref 470) [.bytes b t, .int a ta, .int q tq]) Q E (sh s₀ h k) := by
  refine enter (ns' := ["data", "at", "spot", "count", "found", "offset"]) (args' := [.bytes b t, .int a ta, .int q tq]) (n := 3) (vs' := [some (.bytes b t), some (.int a ta), some (.int q tq), none, none, none]) S hA (by k_is) (by k_is) (BindsTo.of_eq rfl) [] (fun _ h => nomatch h) (by simp) (by decide +kernel) (by decide +kernel) rfl (by decide) (by decide +kernel) rfl rfl rfl rfl ?_
  intro env' L' h₁ k₁ A' E' he hs hA' hE hL' S'
  have hG : EnvG w env' [("_law_u16", .ref 444), ("_law_numbers", .ref 449), ("_law_want", .ref 456), ("_law_cover", .ref 463), ("len", .builtin "len"), ("tuple", .type "tuple")] := .cons (kindOf_of hs (by decide +kernel)) (G_law_u16 w) (.cons (kindOf_of hs (by decide +kernel)) (G_law_numbers w) (.cons (kindOf_of hs (by decide +kernel)) (G_law_want w) (.cons (kindOf_of hs (by decide +kernel)) (G_law_cover w) (.cons (kindOf_of hs (by decide +kernel)) (G_len w) (.cons (kindOf_of hs (by decide +kernel)) (G_tuple w) .nil)))))
  have hr0 := rd_range hk q
  walk_at "go"
  refine c_law_u16 S' (hA'.less (by decide)) hk hz (fun hU h₂ k₂ t₂ S₂ => ?_) fun hU => er_pass0 hA' hE S' (stays_refl _) (her _ (by unfold cvs; rw [hU]))
  obtain ⟨m, hmm⟩ := Int.eq_ofNat_of_zero_le hr0.1
  have hcvs : cvs ks a q = rcs ks a (q + 2) m := by unfold cvs; rw [hU, hmm]; rfl
  rw [hmm] at hr0 ⊢
  walk_at "go"
  rename St _ _ _ _ _ _ _ _ _ => S₃
  refine g_newList S₃ (by decide) fun lf of h₄ hof _ _ _ S₄ => ?_
  walk_at "go"
  refine x_for ?_
  walk_at "go"
  rename St _ _ _ _ _ _ _ _ _ => S₅
  rw [show (q : Int) + 2 = ((q + 2 : Nat) : Int) by omega]
  refine c_law_numbers S₅ (hA'.less (by decide)) hk hz (by omega) (fun hlen h₆ k₆ l o xs hLO hits S₆ => ?_) fun hc => er_pass0 hA' hE S₅ (stays_refl _) (her _ (by rw [hcvs]; unfold rcs; rw [if_neg (by omega)]))
  have hrcs : cvs ks a q = covsA ks a m (q + 2) [] := by rw [hcvs]; exact if_pos (by omega)
  obtain ⟨g2, hg2, hl2, S₇⟩ := S₆.freeze
  have hxl := hits.length
  rw [List.length_map, List.length_range] at hxl
  clear S₂ S₃ S₄ S₅ S₆
  walk_at "go"
  refine it_list hA'.hd S₇ hl2 hLO fun I oI h₈ k₈ W S₈ => ?_
  refine f_loop 5 (JJ27_9 h b t ta tq a q ks t₂ m lf)
    he hE.pass rfl W S₈ ⟨[], [], of, none, rfl, rfl, hof, .nil, rfl, rfl⟩ ?_ ?_
  · rintro j v g' vs' led' h₇ k₇ oI' hj hv ⟨cs, ys, ol', v1, rfl, rfl, hLO', hcs, hcl, hcov⟩ hg S₉
    dsimp only [List.set] at S₉
    have hsz : h.objs.size < h₇.objs.size := by rw [← hL']; exact S₉.Llt
    have hyl := hcs.length
    have hr := rd_range hk (q + 2 + 2 * j)
    have hgg := stays_trans hg2 hg
    obtain ⟨r, hr'⟩ : ∃ r, m - j = r + 1 := ⟨m - j - 1, by omega⟩
    rw [hr', covsA_succ] at hcov
    obtain ⟨tj, htj⟩ := ints_get (j := j) (n := rd ks (q + 2 + 2 * j)) hits (by rw [List.getElem?_map, List.getElem?_range (by omega)]; rfl)
    rw [hv] at htj
    cases htj
    clear S₇ S₈
    walk_at "go"
    refine l_len_list (S₉.at_ (i := 1) rfl) hLO' (by omega) fun t₁₀ k₁₀ => ?_
    walk_at "go"
    rw [show (q : Int) + 2 + 2 * ((ys.length : Nat) : Int) = ((q + 2 + 2 * j : Nat) : Int) by omega]
    refine c_law_want S₉ (hA'.less (by decide)) (fun hw h₁₀ k₁₀ S₁₀ => ⟨rfl, ?_⟩) fun hw => er_pass0 hA' hE S₉ hgg (her _ (by rw [hrcs, ← hcov, if_pos (by simp at hw; omega)]))
    simp only [decide_eq_true_eq] at hw
    rw [if_neg (by omega)] at hcov
    clear S₉
    walk_at "go"
    refine gm_append (S₁₀.at_ (i := 1) rfl) hLO' ?_
    walk_at "go"
    rw [show (a : Int) + rd ks (q + 2 + 2 * j) = ((a + (rd ks (q + 2 + 2 * j)).toNat : Nat) : Int) by omega]
    have hsz2 : h.objs.size ≤ h₁₀.objs.size := by rw [← hL']; exact Nat.le_of_lt S₁₀.Llt
    refine c_law_cover S₁₀ (hA'.less (by decide)) hk hz (fun gl hgl hg6 g3 h₁₁ k₁₁ v hg3 hcv S₁₁ => ?_) fun e he' => er_pass0 hA' hE S₁₀ hgg (her _ (by rw [hrcs, ← hcov, he']))
    rw [hgl] at hcov
    dsimp only at hcov
    clear S₁₀
    walk_at "go"
    refine m_append S₁₁ (i := 1) rfl hLO' (by omega) fun h₁₂ ol₉ hLO₉ S₁₂ => ⟨rfl, ?_⟩
    dsimp only [List.set] at S₁₂
    walk_at "go"
    refine turn_next S₁₂ hg3 ⟨cs ++ [gl], _, ol₉, _, rfl, rfl, hLO₉, (hcs.map fun _ _ z => z.up hg3 (Nat.le_refl _)).snoc (hcv.up (stays_refl _) hsz2), by simp [hcl], ?_⟩
    rw [show m - (j + 1) = r by omega]; exact hcov
  · rintro g' vs' led' h₇ k₇ ⟨cs, ys, ol', v1, rfl, rfl, hLO', hcs, hcl, hcov⟩ hg S₉
    rw [hxl, Nat.sub_self, covsA_zero] at hcov
    rw [hxl] at hcl
    have hyl := hcs.length
    clear S₇ S₈
    walk_at "go"
    refine m_tuple S₉ (S₉.at_ (i := 0) rfl) hLO' (by omega) fun tt ot h₈ hTO htn htL hst S₁₀ => ?_
    obtain ⟨g3, hg3, ht3, S₁₁⟩ := S₁₀.freeze
    rw [hL'] at htL
    clear S₉ S₁₀
    walk_at "go"
    refine g_newTuple S₁₁ (by simp) fun tp otp h₁₂ hTOp _ _ _ S₁₂ => ?_
    walk_at "go"
    obtain ⟨g5, hg5, hnew, hg5', S₁₃⟩ := S.back0 S₁₂ (stays_trans (hideNil h) (stays_trans hg2 (stays_trans hg hg3))) (sub := [(tp, otp)]) (fun p hp => by rw [List.mem_singleton.mp hp]; exact .head _) (by simp)
    rw [show (q : Int) + 2 + 2 * (m : Int) = ((q + 2 + 2 * cs.length : Nat) : Int) by omega] at hTOp
    refine hok cs (by rw [hrcs, ← hcov]) (by omega) g5 _ _ tp otp (.ref tt) _ hg5 hTOp (keeps_ints.tup.into (m := h.objs.size) ⟨tt, ot, _, rfl, Nat.le_of_lt htL, ht3, hTO, hcs.map fun _ _ z => z.up hg3 (Nat.le_refl _)⟩ hnew (Nat.le_refl _)) S₁₃
end
section
variable {prog : Program} {w : World} {A : Around} {E : Value → Shared → Prop} {s₀ : Shared} {h hc : Heap} {k : Nat} {base g g' gc : Heap} {fs fs' : List Env} {L L' : Addr} {ns ns' : List Str} {vs vs' : List (Option Value)} {led led' ledc : List (Addr × Obj)}
  {env : Env} {cl : List (Str × Addr)} {Q : Value → Shared → Prop}
noncomputable abbrev JJ27_10 (a : Nat) (ks : List Int) (gl : List Int) (back : List (List Int)) (ahead : List (List Int)) (h₂₅ : Heap) : Nat → Heap → List (Addr × Obj) → List Value → Prop :=
  fun j g' led' items => led' = [] ∧ j ≤ gl.length ∧ Each (PairIs h₂₅.objs.size g') items ((gl.zip ((List.range gl.length).map fun j => rd ks (a + 10 + 2 * back.length + 2 * ahead.length + 2 * j))).take j)
theorem c_law_table {b : Array UInt8} {t ta : Tok} {a : Nat} {ks : List Int} (S : St w base fs g L ns vs led h) (hA : Ax prog A fs 7) (hk : KBw.bInts b = ks) (hz : ks.length ≤ 16777216)
    (hok : ∀ T : Tab, RR ks a = .ok T → ∀ g' h' k' v, g.StaysIn g' → TabIs h.objs.size g' v T → St w base fs g' L ns vs led h' → Q v (sh s₀ h' k'))
    (her : ∀ e, RR ks a = .error e → Er E s₀ base fs (hideAll h []) e) : wpAny (model prog w) A (call (.ref 475) [.bytes b t, .int a ta]) Q E (sh s₀ h k) := by
  refine enterCC (ns' := ["data", "at", "offset", "back", "spot", "ahead", "count"]) (args' := [.bytes b t, .int a ta]) (n := 2) (vs' := [some (.bytes b t), some (.int a ta), none, none, none, none, none]) (binds := [("data", .bytes b t), ("at", .int a ta)]) S hA (by k_is) (by k_is) (BindsTo.of_eq rfl) rfl (fun n => ⟨.inl rfl, .inl rfl, trivial⟩) [] (fun _ h => nomatch h) (by simp) (by decide +kernel) (by decide +kernel) rfl (by decide) (by decide +kernel) rfl rfl rfl rfl ?_
  intro env' L' h₁ k₁ A' E' cells he hs hA' hE hL' hcells S'
  obtain ⟨oc, od, HH1⟩ := ex2 (CellsAre.two hcells)
  obtain rfl := HH1.1
  have hoc := HH1.2.1
  have hod := HH1.2.2
  clear HH1
  replace S' : St w base (env' :: fs) (hideAll h (List.map (fun x : Addr × Obj => x.1) [])) L' ["data", "at", "offset", "back", "spot", "ahead", "count"] [some (.bytes b t), some (.int a ta), none, none, none, none, none] [(L' + 1 + 1, oc), (L' + 1, od)] h₁ := S'
  replace he : EnvOk env' L' ["data", "at", "offset", "back", "spot", "ahead", "count"] [("others", L' + 1 + 1), ("glyphs", L' + 1)] := he
  replace hoc : oc.data = .cell none := hoc
  replace hod : od.data = .cell none := hod
  have hG : EnvG w env' [("_law_want", .ref 456), ("_law_u16", .ref 444), ("_law_cover", .ref 463), ("_law_covers", .ref 470), ("len", .builtin "len"), ("_law_numbers", .ref 449), ("tuple", .type "tuple"), ("range", .type "range")] := .cons (kindOf_of hs (by decide +kernel)) (G_law_want w) (.cons (kindOf_of hs (by decide +kernel)) (G_law_u16 w) (.cons (kindOf_of hs (by decide +kernel)) (G_law_cover w) (.cons (kindOf_of hs (by decide +kernel)) (G_law_covers w) (.cons (kindOf_of hs (by decide +kernel)) (G_len w) (.cons (kindOf_of hs (by decide +kernel)) (G_law_numbers w) (.cons (kindOf_of hs (by decide +kernel)) (G_tuple w) (.cons (kindOf_of hs (by decide +kernel)) (G_range w) .nil)))))))
  have hsz : h.objs.size < h₁.objs.size := by rw [← hL']; exact S'.Llt
  have hr0 := rd_range hk a
  have hr2 := rd_range hk (a + 2)
  have hR1 : RR ks a = RR ks a := rfl
  conv at hR1 => rhs; unfold RR
  clear hcells
  walk_at "go"
  refine c_law_u16 S' (hA'.less (by decide)) hk hz (fun hU h₂ k₂ t₂ S₂ => ?_) fun hU => er_pass0 hA' hE S' (stays_refl _) (her _ (by rw [hR1, hU]))
  rw [hU] at hR1; dsimp only at hR1
  walk_at "go"
  refine c_law_want S₂ (hA'.less (by decide)) (fun hw h₃ k₃ S₃ => ⟨rfl, ?_⟩) fun hw => er_pass0 hA' hE S₂ (stays_refl _) (her _ (by rw [hR1, if_pos (by simpa using hw)]))
  rw [if_neg (by simpa using hw)] at hR1
  conv at hR1 => rhs; unfold RR2
  clear S₂ S'
  walk_at "go"
  rw [show (a : Int) + 2 = ((a + 2 : Nat) : Int) by omega]
  refine c_law_u16 S₃ (hA'.less (by decide)) hk hz (fun hU2 h₄ k₄ t₄ S₄ => ?_) fun hU2 => er_pass0 hA' hE S₃ (stays_refl _) (her _ (by rw [hR1, hU2]))
  rw [hU2] at hR1; dsimp only at hR1
  clear S₃
  walk_at "go"
  rename St _ _ _ _ _ _ _ _ _ => S₅
  rw [show (a : Int) + 2 = ((a + 2 : Nat) : Int) by omega]
  refine c_law_want S₅ (hA'.less (by decide)) (fun hw2 h₆ k₆ S₆ => ⟨rfl, ?_⟩) fun hw2 => er_pass0 hA' hE S₅ (stays_refl _) (her _ (by rw [hR1, if_pos (by simp at hw2; omega)]))
  simp only [decide_eq_true_eq] at hw2
  rw [if_neg (by omega)] at hR1
  clear S₄ S₅
  walk_at "go"
  rw [show (a : Int) + rd ks (a + 2) = ((a + (rd ks (a + 2)).toNat : Nat) : Int) by omega]
  refine c_law_cover S₆ (hA'.less (by decide)) hk hz (fun gl hgl hg6 g3 h₇ k₇ v hg3 hcv S₇ => ?_) fun e he' => er_pass0 hA' hE S₆ (stays_refl _) (her _ (by rw [hR1, he']))
  rw [hgl] at hR1; dsimp only at hR1
  conv at hR1 => rhs; unfold RR3
  replace hcv : TupInts h.objs.size g3 v gl := hcv.up (stays_refl _) (by rw [← hL']; exact Nat.le_of_lt S₆.Llt)
  clear S₆
  walk_at "go"
  refine s_cell S₇ he (kindOf_of hs (by decide +kernel)) rfl 1 rfl hod fun h₈ od' hod' S₈ => ?_
  obtain ⟨g4, hg4, hc4, S₉⟩ := S₈.freezeAt (i := 1) rfl
  dsimp only [List.set, List.eraseIdx] at S₉
  replace hcv := hcv.up hg4 (Nat.le_refl _)
  have hgA := stays_trans hg3 hg4
  have hC1 : CN env' [("others", L' + 1 + 1), ("glyphs", L' + 1)] g4 "glyphs" v := ⟨kindOf_of hs (by decide +kernel), _, _, rfl, hc4, hod'⟩
  clear S₇ S₈
  refine x_unpack2 (s₀ := s₀) hA'.hd ?_
  walk_at "go"
  rw [show (a : Int) + 4 = ((a + 4 : Nat) : Int) by omega]
  refine c_law_covers S₉ (hA'.less (by decide)) hk hz (fun back hback hbl g5 h₁₀ k₁₀ tp otp bv u hg5 hT hbv S₁₀ => ?_) fun e he' => er_pass0 hA' hE S₉ hgA (her _ (by rw [hR1, he']))
  rw [hback] at hR1; dsimp only at hR1
  conv at hR1 => rhs; unfold RR4
  have hsz9 : h.objs.size ≤ h₈.objs.size := by rw [← hL']; exact Nat.le_of_lt S₉.Llt
  replace hbv := keeps_ints.tup.up hbv (stays_refl _) hsz9
  refine ⟨h₁₀, k₁₀, tp, otp, _, _, rfl, rfl, S₁₀.at_ (i := 0) rfl, hT, fun h₁₁ hk₁₁ => ?_⟩
  have S₁₁ := (S₁₀.grown hk₁₁).part (sub := [(L' + 1 + 1, oc)]) (fun p hp => .tail _ hp) (by simp)
  replace hC1 := hC1.up hg5
  replace hcv := hcv.up hg5 (Nat.le_refl _)
  replace hgA := stays_trans hgA hg5
  clear S₉ S₁₀
  walk_at "go"
  rename St _ _ _ _ _ _ _ _ _ => S₁₂
  refine x_unpack2 (s₀ := s₀) hA'.hd ?_
  walk_at "go"
  refine c_law_covers S₁₂ (hA'.less (by decide)) hk hz (fun ahead hahead hal g6 h₁₃ k₁₃ tp otp av u hg6 hT hav S₁₃ => ?_) fun e he' => er_pass0 hA' hE S₁₂ hgA (her _ (by rw [hR1]; rw [show a + 4 + 2 + 2 * back.length = a + 6 + 2 * back.length by omega] at he'; rw [he']))
  rw [show a + 4 + 2 + 2 * back.length = a + 6 + 2 * back.length by omega] at hahead hT
  rw [hahead] at hR1; dsimp only at hR1
  conv at hR1 => rhs; unfold RR6
  replace hav := keeps_ints.tup.up hav (stays_refl _) (show h.objs.size ≤ _ by rw [← hL']; exact Nat.le_of_lt S₁₂.Llt)
  replace hbv := keeps_ints.tup.up hbv hg6 (Nat.le_refl _)
  refine ⟨h₁₃, k₁₃, tp, otp, _, _, rfl, rfl, S₁₃.at_ (i := 0) rfl, hT, fun h₁₄ hk₁₄ => ?_⟩
  have S₁₄ := (S₁₃.grown hk₁₄).part (sub := [(L' + 1 + 1, oc)]) (fun p hp => .tail _ hp) (by simp)
  replace hC1 := hC1.up hg6
  replace hcv := hcv.up hg6 (Nat.le_refl _)
  replace hgA := stays_trans hgA hg6
  clear S₁₂ S₁₃
  walk_at "go"
  rename St _ _ _ _ _ _ _ _ _ => S₁₅
  rw [show a + 6 + 2 * back.length + 2 + 2 * ahead.length = a + 8 + 2 * back.length + 2 * ahead.length by omega] at *
  have hr8 := rd_range hk (a + 8 + 2 * back.length + 2 * ahead.length)
  refine c_law_u16 S₁₅ (hA'.less (by decide)) hk hz (fun hU3 h₁₆ k₁₆ t₁₆ S₁₆ => ?_) fun hU3 => er_pass0 hA' hE S₁₅ hgA (her _ (by rw [hR1, hU3]))
  rw [hU3] at hR1; dsimp only at hR1
  obtain ⟨tt, ot, gs, rfl, htl, htg, hTO, hgs⟩ := hcv.ex
  have hgl1 := hgs.length
  clear S₁₅
  walk_at "go"
  rename St _ _ _ _ _ _ _ _ _ => S₁₇
  refine l_len_tup (S₁₇.get htg) hTO (by omega) fun t₁₈ k₁₈ => ?_
  walk_at "go"
  refine c_law_want S₁₇ (hA'.less (by decide)) (fun hw3 h₁₉ k₁₉ S₁₉ => ⟨rfl, ?_⟩) fun hw3 => er_pass0 hA' hE S₁₇ hgA (her _ (by rw [hR1, if_pos (by rw [hgl1] at hw3; simpa using hw3)]))
  have hcnt : rd ks (a + 8 + 2 * back.length + 2 * ahead.length) = (gl.length : Int) := by rw [hgl1] at hw3; simpa using hw3
  rw [if_neg (fun q => q hcnt)] at hR1
  rw [hcnt] at S₁₉
  clear S₁₆ S₁₇
  walk_at "go"
  rw [show ((a + 8 + 2 * back.length + 2 * ahead.length : Nat) : Int) + 2 = ((a + 10 + 2 * back.length + 2 * ahead.length : Nat) : Int) by omega]
  refine c_law_numbers S₁₉ (hA'.less (by decide)) hk hz (by omega) (fun hlen h₂₀ k₂₀ l o xs hLO hits S₂₀ => ?_) fun hc => er_pass0 hA' hE S₁₉ hgA (her _ (by rw [hR1, if_neg (by omega)]))
  rw [if_pos (by omega)] at hR1
  have hxl := hits.length
  rw [List.length_map, List.length_range] at hxl
  clear S₁₉
  walk_at "go"
  refine s_cell S₂₀ he (kindOf_of hs (by decide +kernel)) rfl 1 rfl hoc fun h₂₁ oc' hoc' S₂₁ => ?_
  dsimp only [List.set] at S₂₁
  obtain ⟨g7, hg7, hl7, S₂₂⟩ := S₂₁.freeze
  obtain ⟨g8, hg8, hc8, S₂₃⟩ := S₂₂.freeze
  have hg78 := stays_trans hg7 hg8
  replace hC1 := hC1.up hg78
  have hC2 : CN env' [("others", L' + 1 + 1), ("glyphs", L' + 1)] g8 "others" (.ref l) := ⟨kindOf_of hs (by decide +kernel), _, _, rfl, hc8, hoc'⟩
  replace hbv := keeps_ints.tup.up hbv hg78 (Nat.le_refl _)
  replace hav := keeps_ints.tup.up hav hg78 (Nat.le_refl _)
  replace hgA := stays_trans hgA hg78
  replace htg := hg78 _ _ htg
  replace hl7 := hg8 _ _ hl7
  clear S₂₀ S₂₁ S₂₂ hcv
  walk_at "go"
  refine e_comp (closure_two rfl (by decide +kernel) (by rw [he.cells]; rfl) (by rw [he.cells]; rfl)) rfl (by decide +kernel) ?_
  walk_at "go"
  refine l_range1 S₂₃ fun r h₂₄ k₂₄ t₂₄ v₂₄ hr S₂₄ => ?_
  refine it_range gl.length hA'.hd S₂₄ hr (by omega) (by decide) (by decide) (by omega) (by omega) fun I oI h₂₅ k₂₅ W S₂₅ => ?_
  have hsz25 : h.objs.size < h₂₅.objs.size := by rw [← hL']; exact S₂₅.Llt
  refine g_elts (JJ27_10 a ks gl back ahead h₂₅) he W S₂₅ (by decide +kernel) rfl (by decide +kernel) (by omega) (fun _ _ _ _ _ hN hj => ⟨hj.1, hj.2.1, hj.2.2.map fun _ _ q => keeps_pair.into q hN (Nat.le_refl _)⟩) ⟨rfl, Nat.zero_le _, .nil⟩ ?_ ?_ ?_
  · rintro j g' led' items ⟨_, hj, hi⟩
    have := hi.length
    rw [this, List.length_take, List.length_zip, List.length_map, List.length_range]; omega
  · rintro C cenv j v g' led' items h₅ k₅ oI' oD E'' hC0 hj ⟨u, rfl⟩ ⟨rfl, _, hits'⟩ hg' hcs hce S₆
    have hC1' := (hC1.up hg').into he.kind hcs (by decide +kernel) (cl' := [("others", L' + 1 + 1), ("glyphs", L' + 1)]) rfl
    have hC2' := (hC2.up hg').into he.kind hcs (by decide +kernel) (cl' := [("others", L' + 1 + 1), ("glyphs", L' + 1)]) rfl
    rw [Int.zero_add] at S₆
    obtain ⟨x, hx⟩ : ∃ x, gl[j]? = some x := ⟨_, List.getElem?_eq_getElem hj⟩
    obtain ⟨tx, htx⟩ := ints_get hgs hx
    obtain ⟨ty, hty⟩ := ints_get (j := j) (n := rd ks (a + 10 + 2 * back.length + 2 * ahead.length + 2 * j)) hits (by rw [List.getElem?_map, List.getElem?_range (by omega)]; rfl)
    walk_at "go"
    refine sub_tup (S₆.get (hg' _ _ htg)) hTO (by omega) (Int.natCast_nonneg j) (i := (j : Int)) (by rw [Int.toNat_natCast]; exact htx) ?_
    walk_at "go"
    refine sub_list (S₆.get (hg' _ _ hl7)) hLO (by omega) (Int.natCast_nonneg j) (i := (j : Int)) (by rw [Int.toNat_natCast]; exact hty) ?_
    walk_at "go"
    refine g_newTuple S₆ (by simp) fun tq oq h₇ hTq _ hCq _ S₇ => ?_
    obtain ⟨g9, hg9, hq9, S₈⟩ := S₇.freeze
    refine elt_done S₈ hg9 ⟨rfl, hj, ?_⟩
    rw [zip_take_succ hx (by rw [List.getElem?_map, List.getElem?_range (by omega)]; rfl)]
    exact (hits'.map fun _ _ q => keeps_pair.up q hg9 (Nat.le_refl _)).snoc ⟨tq, oq, tx, ty, rfl, Nat.le_of_lt (Nat.lt_trans hC0 hCq), hq9, hTq⟩
  · rintro g' led' items oD h₅ k₅ ⟨rfl, _, hits'⟩ hlen' hLO' hg' S₆
    rw [List.take_of_length_le (by simp)] at hits'
    clear S₂₃ S₂₄ S₂₅
    walk_at "go"
    refine m_tuple S₆ (S₆.at_ (i := 0) rfl) hLO' (by omega) fun pt po h₇ hpT _ hLp _ S₇ => ?_
    obtain ⟨g9, hg9, hp9, S₈⟩ := S₇.freeze
    clear S₆ S₇
    walk_at "go"
    refine g_newTuple S₈ (by simp) fun tq oq h₉ hTq _ hCq _ S₉ => ?_
    obtain ⟨g10, hg10, hq10, S₁₀⟩ := S₉.freeze
    have hgB := stays_trans hg' (stays_trans hg9 hg10)
    walk_at "go"
    obtain ⟨g5, hg5, hnew, S₁₁⟩ := S.retg0 S₁₀ (stays_trans (hideNil h) (stays_trans hgA hgB))
    rw [hL'] at hLp hCq
    refine hok _ hR1 g5 _ _ _ hg5 (keeps_tab.into (m := h.objs.size) ⟨tq, oq, _, _, _, rfl, Nat.le_of_lt hCq, hq10, hTq, ?_, keeps_ints.tup.up hbv hgB (Nat.le_refl _), keeps_ints.tup.up hav hgB (Nat.le_refl _)⟩ hnew (Nat.le_refl _)) S₁₁
    exact ⟨pt, po, items, rfl, Nat.le_of_lt hLp, hg10 _ _ hp9, hpT, hits'.map fun _ _ q => keeps_pair.up q (stays_trans hg9 hg10) (Nat.le_of_lt hsz25)⟩
end
theorem getI_mem : ∀ {ps : List (Int × Int)} {k : Int}, k ∈ ps.map (·.1) → ∃ n, getI ps k = some n
  | [], _, h => nomatch h
  | (a, b) :: ps, k, h => by
    unfold getI
    by_cases e : a = k
    · exact ⟨b, by simp [e]⟩
    · rw [List.map_cons] at h
      rcases List.mem_cons.mp h with h | h
      · exact absurd h.symm e
      · obtain ⟨n, hn⟩ := getI_mem h
        refine ⟨n, ?_⟩
        unfold getI at hn
        simpa [e] using hn
noncomputable def sortedBy (ks : List Int) (ps : List (Int × Int)) : List (Int × Int) := ks.map fun k => (k, (getI ps k).getD 0)
theorem getI_self : ∀ {ps : List (Int × Int)}, (ps.map (·.1)).Nodup → sortedBy (ps.map (·.1)) ps = ps
  | [], _ => rfl
  | (a, b) :: ps, h => by
    rw [List.map_cons, List.nodup_cons] at h
    unfold sortedBy
    rw [List.map_cons, List.map_cons]
    congr 1
    · simp [getI]
    · have ih := getI_self h.2
      unfold sortedBy at ih
      refine Eq.trans ?_ ih
      rw [List.map_map, List.map_map]
      apply List.map_congr_left
      intro q hq
      have hne : a ≠ q.1 := fun e => h.1 (by rw [show (a, b).1 = a from rfl, e]; exact List.mem_map_of_mem hq)
      simp [getI, hne]
theorem perm_asc {ks ls : List Int} (hp : ks.Perm ls) (hs : ks.Pairwise fun x y => x ≤ y) (ha : ls.Pairwise (· < ·)) : ks = ls :=
  hp.eq_of_pairwise (fun a b _ _ h1 h2 => by omega) hs (ha.imp fun h => by omega)
theorem RR_facts {ks : List Int} {a : Nat} {T : Tab} (h : RR ks a = .ok T) : (T.1.map (·.1)).Pairwise (· < ·) ∧ 2 * T.1.length + 10 ≤ ks.length := by
  unfold RR at h
  split at h
  · cases h
  · split at h
    · cases h
    · unfold RR2 at h
      split at h
      · cases h
      · split at h
        · cases h
        · split at h
          · cases h
          · rename_i gl hgl
            unfold RR3 at h
            split at h
            · cases h
            · unfold RR4 at h
              split at h
              · cases h
              · unfold RR6 at h
                split at h
                · cases h
                · split at h
                  · cases h
                  · split at h
                    · cases h
                      refine ⟨?_, by simp; omega⟩
                      rw [List.map_fst_zip (by simp)]
                      exact cvr_asc hgl
                    · cases h
section
variable {prog : Program} {w : World} {A : Around} {E : Value → Shared → Prop} {s₀ : Shared} {h hc : Heap} {k : Nat} {base g g' gc : Heap} {fs fs' : List Env} {L L' : Addr} {ns ns' : List Str} {vs vs' : List (Option Value)} {led led' ledc : List (Addr × Obj)}
  {env : Env} {cl : List (Str × Addr)} {Q : Value → Shared → Prop}
theorem d_item' {K : Type} [DecidableEq K] {knd : KeyKind prog w K} {kvs : List (K × Value)} {kk : K} {key v : Value} {d : Addr} {o : Obj} {value slice : Expr} (ho : h.get? d = some o) (hd : o.IsDictOf knd kvs) (hkey : knd.is kk key = true) (hv : valueAt kvs kk = some v) (hq : ∀ k', Q v (sh s₀ h k'))
    (hs : subscripted slice false (.ref d) key = operate [.ref d, key] (getItem (.ref d) key) := by with_unfolding_all rfl) :
    wpAny (model prog w) A (subscriptTail value slice (.ref d) key) Q E (sh s₀ h k) :=
  have hD : (sh s₀ h k).heap.DictOf knd d kvs := Heap.dictOf_iff.mpr ⟨o, ho, hd⟩
  tail_any hD.typeIs slot_dict_getitem.lookup (wpAny_getItem_of hkey hD.mapOf hv (hq _)) hs
theorem c_cov_told {x dx t : Addr} {od ot : Obj} {gs : List Value} (S : St w base fs g L ns vs led h) (hA : Ax prog A fs 1) (hx : g.get? x = some (instObj 309 dx)) (hdx : g.get? dx = some od) (hD : IsD od [("glyphs", .ref t)]) (ht : g.get? t = some ot) (hTO : TO ot gs)
    (hok : ∀ h' k', St w base fs g L ns vs led h' → Q (.ref t) (sh s₀ h' k')) : wpAny (model prog w) A (call (.ref 306) [.ref x]) Q E (sh s₀ h k) := by
  refine enter (ns' := ["self"]) (args' := [.ref x]) (n := 1) (vs' := [some (.ref x)]) S hA (by k_is) (by k_is) (BindsTo.of_eq rfl) [] (fun _ h => nomatch h) (by simp) (by decide +kernel) (by decide +kernel) rfl (by decide) (by decide +kernel) rfl rfl rfl rfl ?_
  intro env' L' h₁ k₁ A' E' he hs hA' hE hL' S'
  have hG : EnvG w env' [("tuple", .type "tuple")] := .cons (kindOf_of hs (by decide +kernel)) (G_tuple w) .nil
  have hx' : (hideAll h (List.map (fun x : Addr × Obj => x.1) [])).get? x = some (instObj 309 dx) := hideNil h _ _ (S.get hx)
  have hdx' : (hideAll h (List.map (fun x : Addr × Obj => x.1) [])).get? dx = some od := hideNil h _ _ (S.get hdx)
  have ht' : (hideAll h (List.map (fun x : Addr × Obj => x.1) [])).get? t = some ot := hideNil h _ _ (S.get ht)
  walk_at "go"
  refine call_tuple_tup (hTO.isTup (S'.get ht')) ?_
  walk_at "go"
  exact hok _ _ (S.ret0 S' (hideNil h))
theorem CovsAre.getEx {n : Nat} {g : Heap} {xs : List Value} {cs : List (List Int)} {j : Nat} {v : Value} (hc : CovsAre n g xs cs) (e : xs[j]? = some v) : Ex7 fun x dx od t ot gs c => An8 (v = .ref x) (g.get? x = some (instObj 309 dx)) (g.get? dx = some od) (IsD od [("glyphs", .ref t)]) (g.get? t = some ot) (TO ot gs) (TupInts n g (.ref t) c) (cs[j]? = some c) := by
  obtain ⟨c, HH1⟩ := hc.get e
  have hcj := HH1.1
  have hcv := HH1.2
  clear HH1
  obtain ⟨x, dx, od, tv, rfl, _, _, hx, hdx, hD, ti⟩ := hcv.ex
  obtain ⟨t, ot, gs, rfl, _, ht, hTO, hgs⟩ := id ti.ex
  exact ⟨x, dx, od, t, ot, gs, c, rfl, hx, hdx, hD, ht, hTO, ti, hcj⟩
theorem take_snoc {α : Type} {l : List α} {j : Nat} {c : α} (h : l[j]? = some c) : l.take (j + 1) = l.take j ++ [c] := by
  rw [List.take_add_one, h]; rfl
noncomputable abbrev JJ27_11 (ps : List (Int × Int)) (ks : List Int) (h₅ : Heap) : Nat → Heap → List (Addr × Obj) → List Value → Prop :=
  fun j g' led' items => led' = [] ∧ j ≤ ks.length ∧ Each (PairIs h₅.objs.size g') items ((sortedBy ks ps).take j)
noncomputable abbrev JJ27_12 (g : Heap) (n : Nat) (back : List (List Int)) : Nat → Heap → List (Addr × Obj) → List Value → Prop :=
  fun j g' led' items => led' = [] ∧ j ≤ back.length ∧ Each (TupInts n g) items (back.take j)
noncomputable abbrev JJ27_13 (g : Heap) (n : Nat) (ahead : List (List Int)) : Nat → Heap → List (Addr × Obj) → List Value → Prop :=
  fun j g' led' items => led' = [] ∧ j ≤ ahead.length ∧ Each (TupInts n g) items (ahead.take j)
theorem c_rev_told {n : Nat} {v : Value} {ps : List (Int × Int)} {back ahead : List (List Int)} (S : St w base fs g L ns vs led h) (hA : Ax prog A fs 3) (hr : RevIs prog w n g v ps back ahead) (hn : n ≤ h.objs.size) (hps : ps.length < 64) (hbl : back.length ≤ 65536) (hal : ahead.length ≤ 65536)
    (hok : ∀ ks, ks.Perm (ps.map (·.1)) → ks.Pairwise (fun x y => x ≤ y) → ∀ g' h' k' tv, g.StaysIn g' → TabIs n g' tv (sortedBy ks ps, back, ahead) → St w base fs g' L ns vs led h' → Q tv (sh s₀ h' k')) :
    wpAny (model prog w) A (call (.ref 411) [v]) Q E (sh s₀ h k) := by
  obtain ⟨x, dx, od, d, o, kvs, bv, av, rfl, hnx, hndx, hnd, hx, hdx, hD, hdm, hd, hdo, hmi, hbv, hav⟩ := hr.ex
  obtain ⟨bt, bo, bxs, rfl, hnb, hb, hbT, hbs⟩ := hbv.ex
  obtain ⟨at_, ao, axs, rfl, hna, ha, haT, has⟩ := hav.ex
  refine enterCC (ns' := ["pairs", "back"]) (args' := []) (n := 0) (vs' := [none, none]) (binds := [("self", .ref x)]) S hA (by k_is) (by k_is) (BindsTo.of_eq rfl) rfl (fun n => ⟨.inr ⟨rfl, rfl⟩, trivial⟩) [] (fun _ h => nomatch h) (by simp) (by decide +kernel) (by decide +kernel) rfl (by decide) (by decide +kernel) rfl rfl rfl rfl ?_
  intro env' L' h₁ k₁ A' E' cells he hs hA' hE hL' hcells S'
  obtain ⟨oc, HH1⟩ := CellsAre.one hcells
  obtain rfl := HH1.1
  have hoc := HH1.2
  clear HH1
  obtain ⟨g2, hg2, hc2, S2⟩ := S'.freeze
  replace S2 : St w base (env' :: fs) g2 L' ["pairs", "back"] [none, none] [] h₁ := S2
  replace he : EnvOk env' L' ["pairs", "back"] [("self", L' + 1)] := he
  have hC : CN env' [("self", L' + 1)] g2 "self" (.ref x) := ⟨kindOf_of hs (by decide +kernel), _, _, rfl, hc2, hoc⟩
  have hG : EnvG w env' [("sorted", .builtin "sorted"), ("tuple", .type "tuple")] := .cons (kindOf_of hs (by decide +kernel)) (G_sorted w) (.cons (kindOf_of hs (by decide +kernel)) (G_tuple w) .nil)
  have hgh : g.StaysIn (hideAll h (List.map (fun x : Addr × Obj => x.1) [])) := fun b o e => hideNil h _ _ (S.get e)
  have hgA : g.StaysIn g2 := stays_trans hgh hg2
  have hsz : h.objs.size < h₁.objs.size := by rw [← hL']; exact S2.Llt
  have hx2 := hgA _ _ hx
  have hdx2 := hgA _ _ hdx
  have hd2 := hgA _ _ hd
  have hb2 := hgA _ _ hb
  have ha2 := hgA _ _ ha
  have hkl := hmi.length
  have hbl' := hbs.length
  have hal' := has.length
  clear hcells S'
  walk_at "go"
  refine e_comp (closure_one rfl (by rw [he.cells]; rfl)) rfl (by decide +kernel) ?_
  walk_at "go"
  refine d_sorted hA'.hd S2 (S2.get hd2) hdo hdm (by omega) fun l lo h₃ k₃ xs ks hLO hits hperm hsort S₃ => ?_
  have hxl := hits.length
  have hkl2 := hperm.length_eq
  rw [List.length_map] at hkl2
  rw [hmi.keys] at hperm
  obtain ⟨g3, hg3, hl3, S₄⟩ := S₃.freeze
  replace hC := hC.up hg3
  have hx3 := hg3 _ _ hx2
  have hdx3 := hg3 _ _ hdx2
  have hd3 := hg3 _ _ hd2
  have hb3 := hg3 _ _ hb2
  have ha3 := hg3 _ _ ha2
  replace hgA := stays_trans hgA hg3
  clear S2 S₃ hx2 hdx2 hd2 hb2 ha2
  walk_at "go"
  refine it_list hA'.hd S₄ hl3 hLO fun I oI h₅ k₅ W S₅ => ?_
  have hsz5 : h.objs.size < h₅.objs.size := by rw [← hL']; exact S₅.Llt
  refine g_elts (JJ27_11 ps ks h₅) he W S₅ (by decide +kernel) rfl (by decide +kernel) (by omega) (fun _ _ _ _ _ hN hj => ⟨hj.1, hj.2.1, hj.2.2.map fun _ _ q => keeps_pair.into q hN (Nat.le_refl _)⟩) ⟨rfl, Nat.zero_le _, .nil⟩ ?_ ?_ ?_
  · rintro j g' led' items ⟨_, hj, hi⟩
    have := hi.length
    rw [this, List.length_take]; unfold sortedBy; rw [List.length_map]; omega
  · rintro C cenv j v g' led' items h₆ k₆ oI' oD E'' hC0 hj hv ⟨rfl, _, hits'⟩ hg' hcs hce S₆
    have hC' := (hC.up hg').into he.kind hcs (by decide +kernel) (cl' := [("self", L' + 1)]) rfl
    obtain ⟨kk, hkk⟩ : ∃ kk, ks[j]? = some kk := ⟨_, List.getElem?_eq_getElem (by omega)⟩
    obtain ⟨tk, htk⟩ := ints_get hits hkk
    rw [hv] at htk
    cases htk
    have hmem : kk ∈ ps.map (·.1) := hperm.mem_iff.mp (List.mem_of_getElem? hkk)
    obtain ⟨m, hm⟩ := getI_mem hmem
    obtain ⟨tm, htm⟩ := hmi.get hm
    have hx6 := hg' _ _ hx3
    have hdx6 := hg' _ _ hdx3
    have hd6 := hg' _ _ hd3
    walk_at "go"
    refine d_item' (S₆.get hd6) hdo (intKind_is _ _ _ _) htm fun k₇ => ?_
    walk_at "go"
    refine g_newTuple S₆ (by simp) fun tq oq h₇ hTq _ hCq _ S₇ => ?_
    obtain ⟨g9, hg9, hq9, S₈⟩ := S₇.freeze
    refine elt_done S₈ hg9 ⟨rfl, by omega, ?_⟩
    rw [take_snoc (c := (kk, m)) (by unfold sortedBy; rw [List.getElem?_map, hkk]; simp [hm])]
    exact (hits'.map fun _ _ q => keeps_pair.up q hg9 (Nat.le_refl _)).snoc ⟨tq, oq, _, tm, rfl, Nat.le_of_lt (Nat.lt_trans hC0 hCq), hq9, hTq⟩
  · rintro g' led' items oD h₆ k₆ ⟨rfl, _, hits'⟩ hlen' hLO' hg' S₆
    rw [List.take_of_length_le (by unfold sortedBy; simp; omega)] at hits'
    clear S₄ S₅
    walk_at "go"
    refine m_tuple S₆ (S₆.at_ (i := 0) rfl) hLO' (by omega) fun pt po h₇ hpT _ hLp _ S₇ => ?_
    obtain ⟨g4, hg4, hp4, S₈⟩ := S₇.freeze
    replace S₈ := S₈.part (sub := []) (fun _ h => nomatch h) .nil
    have hg34 := stays_trans hg' hg4
    replace hC := hC.up hg34
    have hx4 := hg34 _ _ hx3
    have hdx4 := hg34 _ _ hdx3
    have hb4 := hg34 _ _ hb3
    have ha4 := hg34 _ _ ha3
    replace hgA := stays_trans hgA hg34
    have hpairs : TupR PairIs h.objs.size g4 (.ref pt) (sortedBy ks ps) := ⟨pt, po, items, rfl, by rw [← hL']; exact Nat.le_of_lt hLp, hp4, hpT, hits'.map fun _ _ q => keeps_pair.up q hg4 (Nat.le_of_lt hsz5)⟩
    clear S₆ S₇ hx3 hdx3 hb3 ha3
    walk_at "go"
    refine e_comp (closure_zero rfl) rfl (by decide +kernel) ?_
    walk_at "go"
    rename St _ _ _ _ _ _ _ _ _ => S₉
    refine it_tuple hA'.hd S₉ hb4 hbT fun I2 oI2 h₁₀ k₁₀ W2 S₁₀ => ?_
    refine g_elts (JJ27_12 g n back) he W2 S₁₀ (by decide +kernel) rfl (by decide +kernel) (by omega) (fun _ _ _ _ _ hN hj => hj) ⟨rfl, Nat.zero_le _, .nil⟩ ?_ ?_ ?_
    · rintro j g' led' items ⟨_, hj, hi⟩
      have := hi.length
      rw [this, List.length_take]; omega
    · rintro C cenv j v g' led' items h₁₁ k₁₁ oI' oD E'' hC0 hj hv ⟨rfl, _, hits2⟩ hg' hcs hce S₁₁
      obtain ⟨y, dy, oy, t, ot, gs, c, rfl, hy, hdy, hDy, ht, hTO, hti, hcj⟩ := hbs.getEx hv
      have hgB := stays_trans hgA hg'
      have hy1 := hgB _ _ hy
      have hdy1 := hgB _ _ hdy
      have ht1 := hgB _ _ ht
      walk_at "go"
      refine c_cov_told S₁₁ (hA'.less (by decide)) hy1 hdy1 hDy ht1 hTO fun h₁₂ k₁₂ S₁₂ => ?_
      refine elt_done S₁₂ (stays_refl _) ⟨rfl, by omega, ?_⟩
      rw [take_snoc hcj]
      exact hits2.snoc hti
    · rintro g' led' items2 oD h₁₁ k₁₁ ⟨rfl, _, hits2⟩ hlen2 hLO2 hg' S₁₁
      rw [List.take_of_length_le (by omega)] at hits2
      clear S₈ S₉ S₁₀
      walk_at "go"
      refine m_tuple S₁₁ (S₁₁.at_ (i := 0) rfl) hLO2 (by omega) fun bt2 bo2 h₁₂ hbT2 _ hLb _ S₁₂ => ?_
      obtain ⟨g5, hg5, hb5, S₁₃⟩ := S₁₂.freeze
      replace S₁₃ := S₁₃.part (sub := []) (fun _ h => nomatch h) .nil
      have hg45 := stays_trans hg' hg5
      replace hC := hC.up hg45
      have hx5 := hg45 _ _ hx4
      have hdx5 := hg45 _ _ hdx4
      have ha5 := hg45 _ _ ha4
      replace hgA := stays_trans hgA hg45
      replace hpairs := keeps_pair.tup.up hpairs hg45 (Nat.le_refl _)
      clear S₁₁ S₁₂ hx4 hdx4 ha4
      walk_at "go"
      refine e_comp (closure_zero rfl) rfl (by decide +kernel) ?_
      walk_at "go"
      rename St _ _ _ _ _ _ _ _ _ => S₁₄
      refine it_tuple hA'.hd S₁₄ ha5 haT fun I3 oI3 h₁₅ k₁₅ W3 S₁₅ => ?_
      refine g_elts (JJ27_13 g n ahead) he W3 S₁₅ (by decide +kernel) rfl (by decide +kernel) (by omega) (fun _ _ _ _ _ hN hj => hj) ⟨rfl, Nat.zero_le _, .nil⟩ ?_ ?_ ?_
      · rintro j g' led' items ⟨_, hj, hi⟩
        have := hi.length
        rw [this, List.length_take]; omega
      · rintro C cenv j v g' led' items h₁₆ k₁₆ oI' oD E'' hC0 hj hv ⟨rfl, _, hits3⟩ hg' hcs hce S₁₆
        obtain ⟨y, dy, oy, t, ot, gs, c, rfl, hy, hdy, hDy, ht, hTO, hti, hcj⟩ := has.getEx hv
        have hgB := stays_trans hgA hg'
        have hy1 := hgB _ _ hy
        have hdy1 := hgB _ _ hdy
        have ht1 := hgB _ _ ht
        walk_at "go"
        refine c_cov_told S₁₆ (hA'.less (by decide)) hy1 hdy1 hDy ht1 hTO fun h₁₂ k₁₂ S₁₂ => ?_
        refine elt_done S₁₂ (stays_refl _) ⟨rfl, by omega, ?_⟩
        rw [take_snoc hcj]
        exact hits3.snoc hti
      · rintro g' led' items3 oD h₁₆ k₁₆ ⟨rfl, _, hits3⟩ hlen3 hLO3 hg' S₁₆
        rw [List.take_of_length_le (by omega)] at hits3
        clear S₁₃ S₁₄ S₁₅
        walk_at "go"
        refine m_tuple S₁₆ (S₁₆.at_ (i := 0) rfl) hLO3 (by omega) fun at2 ao2 h₁₇ haT2 _ hLa _ S₁₇ => ?_
        obtain ⟨g6, hg6, ha6, S₁₈⟩ := S₁₇.freeze
        have hg56 := stays_trans hg' hg6
        replace hpairs := keeps_pair.tup.up hpairs hg56 (Nat.le_refl _)
        clear S₁₆ S₁₇
        walk_at "go"
        refine g_newTuple S₁₈ (by simp) fun tq oq h₁₉ hTq _ hLq _ S₁₉ => ?_
        obtain ⟨g7, hg7, hq7, S₂₀⟩ := S₁₉.freeze
        walk_at "go"
        have hb7 := hg7 _ _ (hg56 _ _ hb5)
        have ha7 := hg7 _ _ ha6
        replace hpairs := keeps_pair.tup.up hpairs hg7 (Nat.le_refl _)
        obtain ⟨g8, hg8, hnew, S₂₁⟩ := S.retg0 S₂₀ (stays_trans (hideNil h) (stays_trans hg2 (stays_trans hg3 (stays_trans hg34 (stays_trans hg45 (stays_trans hg56 hg7))))))
        rw [hL'] at hLb hLa hLq
        refine hok ks hperm hsort g8 _ _ _ hg8 ⟨tq, oq, _, _, _, rfl, Nat.le_trans hn (Nat.le_of_lt hLq), hnew.get (Nat.le_refl _) (Nat.le_of_lt hLq) hq7, hTq, keeps_pair.tup.up (keeps_pair.tup.into hpairs hnew (Nat.le_refl _)) (stays_refl _) hn, ?_, ?_⟩ S₂₁
        · exact ⟨bt2, bo2, items2, rfl, Nat.le_trans hn (Nat.le_of_lt hLb), hnew.get (Nat.le_refl _) (Nat.le_of_lt hLb) hb7, hbT2, hits2.map fun _ _ q => q.up hg8 (Nat.le_refl _)⟩
        · exact ⟨at2, ao2, items3, rfl, Nat.le_trans hn (Nat.le_of_lt hLa), hnew.get (Nat.le_refl _) (Nat.le_of_lt hLa) ha7, haT2, hits3.map fun _ _ q => q.up hg8 (Nat.le_refl _)⟩
end
section
variable {prog : Program} {w : World} {A : Around} {Q : Value → Shared → Prop} {E : Value → Shared → Prop} {s₀ : Shared} {h : Heap} {k : Nat} {base g : Heap} {fs : List Env} {L : Addr} {ns : List Str} {vs : List (Option Value)} {led : List (Addr × Obj)}
theorem enterRF {R : Result → Shared → Prop} {name qual : Str} {params : Arguments} {body : List Stmt} {scope : Scope} {dV kV doc pm cdv ct oc : Value} {an od : Option Addr} {osl : Array (Option Value)} {f : Addr} {args args' : List Value} {d n : Nat} {ns' : List Str} {vs' : List (Option Value)}
    (S : St w base fs g L ns vs led h) (hA : Ax prog A fs (d + 1))
    (ho : (hd.heap_39 w.params).lookup f = some ⟨oc, od, .func (fnOf name qual params body scope dV kV doc pm an cdv ct), osl⟩) (hcd : codeIn (hd.heap_39 w.params) cdv qual = true)
    (hbind : BindsTo (sh s₀ h k) (fnOf name qual params body scope dV kV doc pm an cdv ct) ⟨args, []⟩ ((ns'.take n).zip args'))
    (foot : List (Addr × Obj)) (hf : ∀ p ∈ foot, p ∈ led) (hfn : (foot.map (·.1)).Nodup)
    (hns : (ns'.all fun x => scope.names.lookup x == some .local) = true) (hnd : ns'.Nodup) (hn : args'.length = n) (hnl : n ≤ ns'.length) (hcell : (scope.names.all fun x => x.2 != .cell) = true)
    (hvs : args'.map some ++ List.replicate (ns'.length - n) none = vs') (hco : scope.isCoroutine = false) (hgen : scope.isGenerator = false) (hk : scope.kind = .function)
    (walk : ∀ env' L' h₁ k₁ A' E', EnvOk env' L' ns' [] → env'.frame = some L' → env'.scope = scope → Ax prog A' (env' :: fs) d → ExOk prog w A' env' (fun e s' => R (.error e) s') E' → L' = h.objs.size →
      St w base (env' :: fs) (hideAll h (foot.map (·.1))) L' ns' vs' foot h₁ →
      wpAny (model prog w) A' (execs body env') (RetQ fun v s' => R (.ok (.ret v)) s') E' (sh s₀ h₁ k₁)) :
    codeAny (model prog w) A (.call (.ref f) ⟨args, []⟩) R (sh s₀ h k) := by
  subst hvs
  have hroom : A.depth < recursionLimit := by have := hA.dep; show A.depth < 1000; omega
  have hl := List.all_eq_true.mp hns
  have hloc : ∀ y ∈ (ns'.take n).zip args', scope.names.lookup y.1 = some .local := fun y hy =>
    beq_iff_eq.mp (hl y.1 (List.mem_of_mem_take (List.of_mem_zip hy).1))
  obtain ⟨me, mg, mb, T⟩ := S.Th
  refine codeAny_call_def (fd := fnOf name qual params body scope dV kV doc pm an cdv ct) (body := body) hroom (S.Xh _ _ ho) rfl T.nolimit (codeRec_of S.Xh hcd) rfl hbind
    (fun x hx => by have := List.all_eq_true.mp hcell x hx; simpa using this) hloc (fun h₁ hns₁ hk₁ => ?_) hco hgen hk
  have e0 : (sh s₀ h k).heap = h := rfl
  rw [codeQual (fd := default), e0]
  rw [e0] at hns₁ hk₁
  rw [mOf_binds hnd hn hnl] at hns₁
  have S' : St w base (envX qual scope h.objs.size f cdv [] :: fs) (hideAll h (foot.map (·.1))) h.objs.size ns' (args'.map some ++ List.replicate (ns'.length - n) none) foot h₁ :=
    S.entered (cells := []) hf hfn hnd (by simp [hn]; omega) hns₁ hk₁ (by show scope.kind ≠ .module; rw [hk]; decide) rfl (fun _ h => nomatch h) (fun _ h => nomatch h) List.nodup_nil
  have he : EnvOk (envX qual scope h.objs.size f cdv []) h.objs.size ns' [] := ⟨rfl, hk, rfl, rfl, fun x hx => beq_iff_eq.mp (hl x hx), rfl⟩
  exact walk (envX qual scope h.objs.size f cdv []) h.objs.size h₁ _ (A.deeper (envX qual scope h.objs.size f cdv [])) _ he rfl rfl (hA.deeper _) ⟨PassesOwn.leaving, fun _ _ x => x⟩ rfl S'
end
theorem covsA_len (ks : List Int) (a : Nat) : ∀ (m q : Nat) (acc cs : List (List Int)), covsA ks a m q acc = .ok cs → cs.length = acc.length + m
  | 0, q, acc, cs, h => by rw [covsA_zero] at h; cases h; rfl
  | m + 1, q, acc, cs, h => by
    rw [covsA_succ] at h
    split at h
    · cases h
    · split at h
      · cases h
      · have := covsA_len ks a m _ _ _ h
        rw [List.length_append, List.length_singleton] at this
        omega
theorem cvs_len {ks : List Int} {a q : Nat} {cs : List (List Int)} (h : cvs ks a q = .ok cs) : q + 2 + 2 * cs.length ≤ ks.length := by
  unfold cvs at h
  split at h
  · cases h
  · rename_i m _
    unfold rcs at h
    split at h
    · rename_i hl
      have := covsA_len _ _ _ _ _ _ h
      rw [List.length_nil] at this
      omega
    · cases h
theorem RR_lens {ks : List Int} {a : Nat} {T : Tab} (h : RR ks a = .ok T) : 2 * T.2.1.length ≤ ks.length ∧ 2 * T.2.2.length ≤ ks.length := by
  unfold RR at h
  split at h
  · cases h
  · split at h
    · cases h
    · unfold RR2 at h
      split at h
      · cases h
      · split at h
        · cases h
        · split at h
          · cases h
          · unfold RR3 at h
            split at h
            · cases h
            · rename_i back hback
              unfold RR4 at h
              split at h
              · cases h
              · rename_i ahead hahead
                unfold RR6 at h
                split at h
                · cases h
                · split at h
                  · cases h
                  · split at h
                    · cases h
                      have h1 := cvs_len hback
                      have h2 := cvs_len hahead
                      exact ⟨by dsimp only; omega, by dsimp only; omega⟩
                    · cases h
section
variable {prog : Program} {w : World} {A : Around} {E : Value → Shared → Prop} {s₀ : Shared} {h hc : Heap} {k : Nat} {base g g' gc : Heap} {fs fs' : List Env} {L L' : Addr} {ns ns' : List Str} {vs vs' : List (Option Value)} {led led' ledc : List (Addr × Obj)}
  {env : Env} {cl : List (Str × Addr)} {Q : Value → Shared → Prop}
theorem c_law_read {b : Array UInt8} {t ta : Tok} {a : Nat} {ks : List Int} (S : St w base fs g L ns vs led h) (hA : Ax prog A fs 13) (hk : KBw.bInts b = ks) (hz : ks.length ≤ 130)
    (hok : ∀ T : Tab, RR ks a = .ok T → ∀ g' h' k' v, g.StaysIn g' → TabIs h.objs.size g' v T → St w base fs g' L ns vs led h' → Q v (sh s₀ h' k'))
    (her : ∀ e, RR ks a = .error e → Er E s₀ base fs (hideAll h []) e) : wpAny (model prog w) A (call (.ref 489) [.bytes b t, .int a ta]) Q E (sh s₀ h k) := by
  refine enter (ns' := ["data", "at", "table"]) (args' := [.bytes b t, .int a ta]) (n := 2) (vs' := [some (.bytes b t), some (.int a ta), none]) S hA (by k_is) (by k_is) (BindsTo.of_eq rfl) [] (fun _ h => nomatch h) (by simp) (by decide +kernel) (by decide +kernel) rfl (by decide) (by decide +kernel) rfl rfl rfl rfl ?_
  intro env' L' h₁ k₁ A' E' he hs hA' hE hL' S'
  have hG : EnvG w env' [("read_reverse", .ref 425)] := .cons (kindOf_of hs (by decide +kernel)) (G_read_reverse w) .nil
  have hsz : h.objs.size < h₁.objs.size := by rw [← hL']; exact S'.Llt
  walk_at "go"
  refine c_read_reverse S' (hA'.less (by decide)) hk (by omega) (fun T hT g2 h₂ k₂ v hg2 hrev S₂ => ?_) fun e he' => er_pass0 hA' hE S' (stays_refl _) (her _ he')
  obtain ⟨x, dx, od, d, o, kvs, bv, av, hv, hnx, hndx, hnd, hx, hdx, hD, hdm, hd, hdo, hmi, hbv, hav⟩ := id hrev.ex
  subst hv
  have hf := RR_facts hT
  have hl := RR_lens hT
  walk_at "go"
  rename St _ _ _ _ _ _ _ _ _ => S₃
  have hx3 : x < _ := Heap.lt_size (S₃.get hx)
  refine c_rev_told S₃ (hA'.less (by decide)) hrev (Nat.le_trans hnx (Nat.le_of_lt hx3)) (by omega) (by omega) (by omega) fun ls hp hs g4 h₄ k₄ tv hg4 htab S₄ => ?_
  rw [perm_asc hp hs hf.1, getI_self (nodup_of_asc hf.1)] at htab
  walk_at "go"
  obtain ⟨g5, hg5, hnew, S₅⟩ := S.retg0 S₄ (stays_trans (hideNil h) (stays_trans hg2 hg4))
  exact hok T hT g5 _ _ _ hg5 (keeps_tab.into (keeps_tab.up htab (stays_refl _) (Nat.le_of_lt hsz)) hnew (Nat.le_refl _)) S₅
end
end
section
section
variable {α β : Type} {M : Model} {A : Around} {s : Shared}
theorem wpC_holding {vs : List Value} {m : Sem α} {Q : α → Shared → Prop} (h : wpC M A m Q s) : wpC M A (holding vs m) Q s := fun Γ p hΓ hC => by
  rw [Sem.wp_holding]; exact h Γ p hΓ hC
theorem wpC_keep {vs : List Value} {m : Sem α} {Q : α → Shared → Prop} (h : wpC M A m Q s) : wpC M A (m.keep vs) Q s := fun Γ p hΓ hC => by
  rw [Sem.wp_keep]; exact h Γ p hΓ hC
theorem wpC_onRaise {m : Sem α} {k : Value → Sem Unit} {Q : α → Shared → Prop} (h : wpC M A m Q s) : wpC M A (m.onRaise k) Q s := fun Γ p hΓ hC => by
  rw [Sem.wp_onRaise]
  exact Sem.wp_mono M Γ m (fun _ _ _ x => x) (fun _ _ _ x => x.elim) p s (h Γ p hΓ hC)
theorem wpC_attempt {m : Sem α} {Q : Except Value α → Shared → Prop} (h : wpC M A m (fun a => Q (.ok a)) s) : wpC M A m.attempt Q s := fun Γ p hΓ hC => by
  rw [Sem.wp_attempt]
  exact Sem.wp_mono M Γ m (fun _ _ _ x => x) (fun _ _ _ x => x.elim) p s (h Γ p hΓ hC)
theorem wpC_standAt {pos : Pos} {Q : Unit → Shared → Prop} (h : Q () s) : wpC M A (standAt pos) Q s := wpC_of (wpAny_standAt h)
theorem wpC_ite {c : Prop} [Decidable c] {a b : Sem α} {Q : α → Shared → Prop} (h : if c then wpC M A a Q s else wpC M A b Q s) : wpC M A (if c then a else b) Q s := by split <;> simp_all
theorem enter_below {Γ : Ctx} {c : Code} {p : Pos} (hC : Cl Γ) : ClB (Γ.enter c none p).below := fun x hx => by
  have hb : (Γ.enter c none p).below = (Γ.code, p) :: Γ.below := rfl
  rw [hb] at hx
  rcases List.mem_cons.mp hx with rfl | hx
  · exact hC.code
  · exact hC.below x hx
theorem wpC_run {c : Code} {Q : Flow → Shared → Prop} (hc : codeC M A c Q s) : wpC M A (run c) Q s := fun Γ p hΓ hC => by
  rw [Sem.wp_run]
  refine wpCode_mono (fun r s' x => ?_) (hc _ p rfl (hΓ.enter c none p (by intro x; cases x)) (enter_below hC))
  cases r with
  | ok f => exact x
  | error e => exact x.elim
theorem wpC_runValue {c : Code} {Q : Value → Shared → Prop} (hc : codeC M A c (fun f s' => match f with | .ret v => Q v s' | _ => False) s) : wpC M A (runValue c) Q s := fun Γ p hΓ hC => by
  rw [Sem.wp_runValue]
  refine wpCode_mono (fun r s' x => ?_) (hc _ p rfl (hΓ.enter c none p (by intro x; cases x)) (enter_below hC))
  cases r with
  | ok f => cases f <;> exact x
  | error e => exact x.elim
theorem wpC_call {f : Value} {pos : List Value} {kw : List (Str × Value)} {Q : Value → Shared → Prop} (hc : codeC M A (.call f ⟨pos, kw⟩) (fun fl s' => match fl with | .ret v => Q v s' | _ => False) s) : wpC M A (call f pos kw) Q s := wpC_runValue hc
theorem wpC_runOwn {c : Code} {env : Env} {Q : Flow → Shared → Prop} (hc : codeC M A c Q s) : wpC M A (runOwn c env) Q s := by
  unfold runOwn
  exact wpC_onRaise (wpC_run hc)
theorem codeC_of {c : Code} {R : Flow → Shared → Prop} (h : codeAny M A c (fun r s' => match r with | .ok f => R f s' | .error _ => False) s) : codeC M A c R s := fun Γ p hc hΓ _ => h Γ p hc hΓ
theorem codeC_mono {c : Code} {R R' : Flow → Shared → Prop} (h : codeC M A c R s) (hR : ∀ f s', R f s' → R' f s') : codeC M A c R' s := fun Γ p hc hΓ hC =>
  wpCode_mono (fun r s' x => by cases r with | ok f => exact hR f s' x | error e => exact x) (h Γ p hc hΓ hC)
theorem codeC_of_tree {c : Code} {R : Flow → Shared → Prop} (hd : isDec c = false)
    (h : wpC M (A.under c) (M.den c) (fun fin s' => match fin with | .done f => R f s' | .again c' => c'.quiet = true ∧ codeC M A c' R s') s) : codeC M A c R s := fun Γ p hc hΓ hC => by
  rw [wpCode_iff_wp, hc]
  refine Sem.wp_mono M Γ _ (fun fin p' s' h' => ?_) (fun _ _ _ h' => h'.elim) p s (h Γ p (hc ▸ hΓ.in) ⟨by rw [hc]; exact hd, hC⟩)
  cases fin with
  | done f => exact h'
  | again c' => exact ⟨h'.1, h'.2 (Γ.goto c') p' rfl (hΓ.goto c') hC⟩
theorem codeC_loop {c : Code} {R : Flow → Shared → Prop} (hd : isDec c = false) (hq : c.quiet = true) (I : Nat → Shared → Prop)
    (turn : ∀ n s, I n s → wpC M (A.under c) (M.den c)
      (fun fin s' => match fin with
        | .done f => R f s'
        | .again c' => (c' = c ∧ ∃ m, m < n ∧ I m s') ∨ (c'.quiet = true ∧ codeC M A c' R s')) s)
    (n : Nat) (h : I n s) : codeC M A c R s := by
  induction n using Nat.strongRecOn generalizing s with
  | ind n ih =>
    refine codeC_of_tree hd (wpC_mono (turn n s h) fun fin s' hf => ?_)
    cases fin with
    | done f => exact hf
    | again c' =>
      rcases hf with ⟨rfl, m, hm, hI⟩ | hf
      · exact ⟨hq, ih m hm hI⟩
      · exact hf
end
section
variable {M : Model} {A : Around} {s : Shared} {env : Env}
theorem C_execs {st : Stmt} {rest : List Stmt} {Q : Flow → Shared → Prop} (h : wpC M A (exec st env) (fun f s' => match f with | .next => wpC M A (execs rest env) Q s' | f => Q f s') s) : wpC M A (execs (st :: rest) env) Q s := fun Γ p hΓ hC => by
  rw [execs_cons, Sem.wp_bind']
  refine Sem.wp_mono M Γ _ (fun f p' s' h' => ?_) (fun _ _ _ h' => h') _ _ (h Γ p hΓ hC)
  cases f <;> first | exact h' Γ p' hΓ hC | exact h'
noncomputable def CSeq (M : Model) (A : Around) (rest : List Stmt) (env : Env) (Q : Flow → Shared → Prop) (f : Flow) (s' : Shared) : Prop :=
  match f with
  | .next => wpC M A (execs rest env) Q s'
  | f => Q f s'
theorem cseq_next {rest : List Stmt} {Q : Flow → Shared → Prop} (h : wpC M A (execs rest env) Q s) : CSeq M A rest env Q .next s := h
theorem cseq_ret {rest : List Stmt} {Q : Flow → Shared → Prop} {v : Value} (h : Q (.ret v) s) : CSeq M A rest env Q (.ret v) s := h
theorem C_nil {Q : Flow → Shared → Prop} (h : Q .next s) : wpC M A (execs [] env) Q s := wpC_of (wpAny_execs_nil h)
theorem C_ret {e : Expr} {p : Pos} {rest : List Stmt} {Q : Flow → Shared → Prop} (h : wpC M A (eval e env) (fun v s' => Q (.ret v) s') s) : wpC M A (execs (.Return (some e) p :: rest) env) Q s :=
  C_execs fun Γ q hΓ hC => by
    simp only [exec_Return_some, Sem.wp_bind', Sem.wp_cmd_standAt, Sem.wp_pure']
    exact h Γ _ hΓ hC
theorem C_if {t : Expr} {b o : List Stmt} {p : Pos} {rest : List Stmt} {Q : Flow → Shared → Prop}
    (h : wpC M A (PySem.isTrue t env (eval t env)) (fun c s₂ => if c = true then wpC M A (execs b env) (CSeq M A rest env Q) s₂ else wpC M A (execs o env) (CSeq M A rest env Q) s₂) s) :
    wpC M A (execs (.If t b o p :: rest) env) Q s := by
  refine C_execs ?_
  rw [arm_exec_If]
  refine wpC_bind (wpC_standAt (wpC_bind (wpC_mono h fun c s₂ hc => wpC_ite ?_)))
  exact hc
theorem C_asg {x : Str} {p' p : Pos} {e : Expr} {rest : List Stmt} {Q : Flow → Shared → Prop}
    (h : wpC M A (eval e env) (fun v s₁ => wpC M A (storeName env x v) (fun _ s₂ => wpC M A (execs rest env) Q s₂) s₁) s)
    (hs : swapsWith e (some (Expr.Name x p')) p.line env = pure false := by with_unfolding_all rfl) : wpC M A (execs (.Assign [.Name x p'] e p :: rest) env) Q s := by
  refine C_execs fun Γ q hΓ hC => ?_
  simp only [exec_Assign_Name env x p' e p hs, Sem.wp_bind', Sem.wp_cmd_standAt, Sem.wp_bindName, Sem.wp_pure']
  exact Sem.wp_mono M Γ _ (fun v _ s₁ h₁ => h₁ Γ _ hΓ hC) (fun _ _ _ h' => h') _ _ (h Γ _ hΓ hC)
theorem C_expr {e : Expr} {p : Pos} {rest : List Stmt} {Q : Flow → Shared → Prop} (he : env.scope.kind = .function)
    (h : wpC M A (eval e env) (fun v s' => v = .none ∧ wpC M A (execs rest env) Q s') s) (hs : swapsWith e none p.line env = pure false := by with_unfolding_all rfl) : wpC M A (execs (.Expr e p :: rest) env) Q s := by
  refine C_execs ?_
  rw [arm_exec_Expr]
  have hi : interactive env = false := by unfold interactive; rw [he]; rfl
  refine wpC_bind (wpC_standAt ?_)
  rw [hi, if_neg (by decide), hs]
  refine wpC_bind (wpC_pure ?_)
  rw [if_neg (by decide)]
  refine wpC_bind (wpC_mono h fun v s' hv => ?_)
  obtain ⟨rfl, hv⟩ := hv
  rw [dropValue_plain (fun a q => by cases q)]
  exact wpC_pure hv
end
end
section
section
variable {prog : Program} {w : World} {M : Model} {A : Around} {s : Shared} {env : Env}
theorem wpC_of_eq {α : Type} {t u : Sem α} {Q : α → Shared → Prop} (e : t = u) (h : wpC M A u Q s) : wpC M A t Q s := e ▸ h
theorem C_spliced {x : Sem Value} {rest : List (Bool × Sem Value)} {Q : List Value → Shared → Prop}
    (h : wpC M A x (fun v s₁ => wpC M A (spliced rest) (fun vs s₂ => Q (v :: vs) s₂) s₁) s) : wpC M A (spliced ((false, x) :: rest)) Q s := by
  rw [spliced]
  refine wpC_bind (wpC_mono h fun v s₁ h₁ => ?_)
  simp only [Bool.false_eq_true, if_false]
  exact wpC_bind (wpC_pure (wpC_bind (wpC_holding (wpC_mono h₁ fun vs s₂ h₂ => wpC_pure h₂))))
theorem C_evalArgs {f : Value} {x : Sem Value} {rest : List (Bool × Sem Value)} {Q : Args → Shared → Prop}
    (h : wpC M A (spliced ((false, x) :: rest)) (fun vs s' => Q ⟨vs, []⟩ s') s) : wpC M A (evalArgs f true ((false, x) :: rest) []) Q s := by
  unfold evalArgs
  show wpC M A (spliced ((false, x) :: rest) >>= _) Q s
  refine wpC_bind (wpC_mono h fun vs s' h' => ?_)
  refine wpC_holding ?_
  exact wpC_bind (wpC_pure (wpC_bind (wpC_pure (wpC_pure h'))))
theorem C_sp_nil {pos : Pos} {Q : List Value → Shared → Prop} (h : Q [] s) : wpC M A (spliced (backTo pos (starEach [] env))) Q s := wpC_of (Calls.spliced_nil h)
theorem C_sp {e : Expr} {rest : List Expr} {pos : Pos} {Q : List Value → Shared → Prop}
    (h : wpC M A (eval e env) (fun v s₁ => wpC M A (spliced (backTo pos (starEach rest env))) (fun vs s₂ => Q (v :: vs) s₂) s₁) s)
    (he : starEach (e :: rest) env = (false, eval e env) :: starEach rest env := by with_unfolding_all rfl) : wpC M A (spliced (backTo pos (starEach (e :: rest) env))) Q s := by
  rw [he]
  exact C_spliced h
theorem C_callWith {f : Value} {first : List Value} {pos : Pos} {P : Heap → Prop} {args : List (Bool × Sem Value)} {Q : Value → Shared → Prop} (hplain : args.any (·.1) = false)
    (hk : ∀ h, P h → ∃ k, (k = Keeper.frame ∨ k = Keeper.machine ∨ k = Keeper.boundFrame) ∧ Looks M h (keeperOf f) k)
    (h : wpC M A (evalArgs f true args []) (fun a s₁ => P s₁.heap ∧ wpC M A (call f (first ++ a.pos) a.kw) Q s₁) s) : wpC M A (callWith pos f first args []) Q s := by
  unfold callWith
  refine wpC_bind (wpC_holding (wpC_mono h fun a s₁ h₁ => wpC_bind (wpC_standAt ?_)))
  obtain ⟨k, HH1⟩ := hk _ h₁.1
  have hk' := HH1.1
  have L := HH1.2
  clear HH1
  simp only [hplain, List.any_nil, Bool.or_false]
  refine wpC_bind (wpC_of (L.here ?_))
  have tail : ∀ {t : Sem Value}, wpC M A t Q s₁ → wpC M A (t >>= fun r => holding [r] point >>= fun _ => pure r) Q s₁ :=
    fun ht => wpC_bind (wpC_mono ht fun r s₂ hr => wpC_bind (wpC_holding (wpC_of (wpAny_point (wpC_pure hr)))))
  have marked (mk : Value) : wpC M A (callMarked mk f (first ++ a.pos) a.kw) Q s₁ := by unfold callMarked; exact wpC_keep h₁.2
  rcases hk' with rfl | rfl | rfl <;> dsimp only <;> first | exact tail h₁.2 | (split <;> first | exact tail h₁.2 | exact tail (marked _))
theorem C_name {fn : Str} {p pos : Pos} {args : List Expr} {Q : Value → Shared → Prop} (h : wpC M A (eval (.Name fn p) env) (fun f s₁ => wpC M A (callWith pos f [] (backTo pos (starEach args env)) []) Q s₁) s) :
    wpC M A (eval (.Call (.Name fn p) args [] pos) env) Q s := by
  rw [arm_eval_Call_Name']
  exact wpC_bind h
theorem C_attr {o : Expr} {a : Str} {ap pos : Pos} {args : List Expr} {Q : Value → Shared → Prop} {pl : Sem Bool}
    (h : wpC M A (eval o env) (fun ov s₁ => wpC M A (getMethod ov a pl) (fun fx s₂ => wpC M A (callWith pos fx.1 fx.2 (backTo pos (starEach args env)) []) Q s₂) s₁) s)
    (hs : eval (.Call (.Attribute o a ap) args [] pos) env = (do
        let ov ← eval o env
        standAt ap.atName
        let __x ← holding [ov] (getMethod ov a pl)
        match __x with
          | (f, first) => callWith pos f first (backTo pos (starEach args env)) (backToKw pos (keywordEach [] env))) := by with_unfolding_all rfl) :
    wpC M A (eval (.Call (.Attribute o a ap) args [] pos) env) Q s := by
  rw [hs]
  refine wpC_bind (wpC_mono h fun ov s₁ h₁ => wpC_bind (wpC_standAt (wpC_bind (wpC_holding (wpC_mono h₁ fun fx s₂ h₂ => ?_)))))
  exact h₂
theorem C_fun {f : Value} {first : List Value} {e : Expr} {rest : List Expr} {pos : Pos} {Q : Value → Shared → Prop} (hk : keepIn (hd.heap_39 w.params) f = true)
    (h : wpC (model prog w) A (spliced (backTo pos (starEach (e :: rest) env))) (fun vs s₁ => (hd.heap_39 w.params).In s₁.heap ∧ wpC (model prog w) A (call f (first ++ vs)) Q s₁) s)
    (he : starEach (e :: rest) env = (false, eval e env) :: starEach rest env := by with_unfolding_all rfl) (hplain : (backTo pos (starEach rest env)).any (·.1) = false := by with_unfolding_all rfl) :
    wpC (model prog w) A (callWith pos f first (backTo pos (starEach (e :: rest) env)) []) Q s := by
  rw [he] at h ⊢
  exact C_callWith (P := (hd.heap_39 w.params).In) (by show (false || (backTo pos (starEach rest env)).any (·.1)) = false; rw [hplain]; rfl) (keeps_K hk) (C_evalArgs h)
theorem C_fun0 {f : Value} {first : List Value} {pos : Pos} {Q : Value → Shared → Prop} (X : (hd.heap_39 w.params).In s.heap) (hk : keepIn (hd.heap_39 w.params) f = true) (hq : wpC (model prog w) A (call f (first ++ [])) Q s) :
    wpC (model prog w) A (callWith pos f first (backTo pos (starEach [] env)) []) Q s :=
  C_callWith (P := (hd.heap_39 w.params).In) rfl (keeps_K hk) (wpC_of (evalArgs_nil3 ⟨X, hq⟩))
theorem C_bi {i : String} {first : List Value} {e : Expr} {rest : List Expr} {pos : Pos} {Q : Value → Shared → Prop}
    (h : wpC (model prog w) A (spliced (backTo pos (starEach (e :: rest) env))) (fun vs s₁ => wpC (model prog w) A (call (.builtin i) (first ++ vs)) Q s₁) s)
    (he : starEach (e :: rest) env = (false, eval e env) :: starEach rest env := by with_unfolding_all rfl) (hplain : (backTo pos (starEach rest env)).any (·.1) = false := by with_unfolding_all rfl) :
    wpC (model prog w) A (callWith pos (.builtin i) first (backTo pos (starEach (e :: rest) env)) []) Q s := by
  rw [he] at h ⊢
  exact C_callWith (P := fun _ => True) (by show (false || (backTo pos (starEach rest env)).any (·.1)) = false; rw [hplain]; rfl) (fun _ _ => ⟨_, .inr (.inl rfl), Looks.of_pure rfl⟩) (C_evalArgs (wpC_mono h fun _ _ x => ⟨trivial, x⟩))
theorem C_ty0 {T : String} {first : List Value} {pos : Pos} {Q : Value → Shared → Prop}
    (h : wpC (model prog w) A (call (.type T) (first ++ [])) Q s) : wpC (model prog w) A (callWith pos (.type T) first (backTo pos (starEach [] env)) []) Q s :=
  C_callWith (P := fun _ => True) rfl (fun _ _ => ⟨_, .inr (.inl rfl), Looks.of_pure rfl⟩) (wpC_of (evalArgs_nil3 ⟨trivial, h⟩))
theorem C_ty {T : String} {first : List Value} {e : Expr} {rest : List Expr} {pos : Pos} {Q : Value → Shared → Prop}
    (h : wpC (model prog w) A (spliced (backTo pos (starEach (e :: rest) env))) (fun vs s₁ => wpC (model prog w) A (call (.type T) (first ++ vs)) Q s₁) s)
    (he : starEach (e :: rest) env = (false, eval e env) :: starEach rest env := by with_unfolding_all rfl) (hplain : (backTo pos (starEach rest env)).any (·.1) = false := by with_unfolding_all rfl) :
    wpC (model prog w) A (callWith pos (.type T) first (backTo pos (starEach (e :: rest) env)) []) Q s := by
  rw [he] at h ⊢
  exact C_callWith (P := fun _ => True) (by show (false || (backTo pos (starEach rest env)).any (·.1)) = false; rw [hplain]; rfl) (fun _ _ => ⟨_, .inr (.inl rfl), Looks.of_pure rfl⟩) (C_evalArgs (wpC_mono h fun _ _ x => ⟨trivial, x⟩))
theorem C_app0 {f : Value} {l : List Value} {Q : Value → Shared → Prop} (q : wpC M A (call f l) Q s) : wpC M A (call f ([] ++ l)) Q s := q
theorem C_app1 {f a : Value} {l : List Value} {Q : Value → Shared → Prop} (q : wpC M A (call f (a :: l)) Q s) : wpC M A (call f ([a] ++ l)) Q s := q
theorem codeC_func {body : List Stmt} {R : Flow → Shared → Prop}
    (h : wpC (model prog w) (A.deeper env) (execs body env) (fun f s' => R (.ret (match f with | .ret v => v | _ => .none)) s') s) : codeC (model prog w) A (.func body env) R s := by
  refine codeC_of_tree rfl ?_
  show wpC _ (A.deeper env) (do point; match ← (execs body env).onRaise (leaving env) with | .ret v => ret v | _ => ret .none) _ s
  refine wpC_bind (wpC_of (wpAny_point (wpC_bind (wpC_onRaise (wpC_mono h fun f s' h' => ?_)))))
  cases f <;> exact wpC_pure h'
theorem codeC_call_function {a : Addr} {args : Args} {o : Obj} {fd : FuncData} {body : List Stmt} {R : Flow → Shared → Prop} (hroom : A.depth < recursionLimit)
    (ho : s.heap.get? a = some o) (hd' : o.data = .func fd) (hco : fd.scope.isCoroutine = false) (hgen : fd.scope.isGenerator = false) (hbody : fd.body = .stmts body) (hcd : s.heap.CodeRec fd.code fd.qualname)
    (h : wpC (model prog w) A.in1 (bindArgs fd args) (fun binds s₁ =>
      wpC (model prog w) A.in1 (newFunctionEnv fd.scope fd.globals fd.closure binds (fd.qualname ++ ".<locals>.") (some a) fd.code none fd.builtins)
        (fun env s₂ => s₂.heap.NoLimit ∧ codeC (model prog w) A (.func body env) R s₂) s₁) s) :
    codeC (model prog w) A (.call (.ref a) args) R s := by
  refine codeC_of_tree rfl ?_
  show wpC _ A.in1 (callAny (.ref a) args) _ s
  simp only [callAny]
  refine wpC_bind (wpC_of (wpAny_load ho ?_))
  obtain ⟨c, oc, vs, tq, HH1⟩ := ex4 hcd
  have hc := HH1.1
  have hoc := HH1.2.1
  have hdc := HH1.2.2.1
  have hq := HH1.2.2.2
  clear HH1
  simp only [hd', callFunction, hco, hgen, hbody, hc]
  rw [hc] at h
  refine wpC_bind (m := field (.ref c) 1) (wpC_of (wpAny_field hoc hdc hq (wpC_bind (wpC_pure ?_))))
  exact wpC_bind (wpC_mono h fun binds s₁ h₁ => wpC_bind (wpC_mono h₁ fun env s₂ h₂ => wpC_bind (wpC_of (wpAny_enterFrame h₂.1 hroom (wpC_pure (And.intro rfl h₂.2))))))
theorem codeC_call_def {R : Flow → Shared → Prop} {a : Addr} {o : Obj} {fd : FuncData} {body : List Stmt} {args : Args} {binds : List (Str × Value)}
    (hroom : A.depth < recursionLimit) (ho : s.heap.get? a = some o) (hdata : o.data = .func fd) (hlim : s.heap.NoLimit) (hcd : s.heap.CodeRec fd.code fd.qualname)
    (hbody : fd.body = .stmts body) (hbind : BindsTo s fd args binds)
    (hcell : ∀ x ∈ fd.scope.names, x.2 ≠ .cell) (hloc : ∀ x ∈ binds, fd.scope.names.lookup x.1 = some .local)
    (h : ∀ h₀, h₀.Ns s.heap.objs.size (fun x => binds.reverse.lookup x) → (∀ b o, s.heap.get? b = some o → h₀.get? b = some o) →
      wpC (model prog w) (A.deeper (callEnv fd s.heap.objs.size a)) (execs body (callEnv fd s.heap.objs.size a)) (fun f s' => R (.ret (match f with | .ret v => v | _ => .none)) s')
        { s with heap := h₀, toks := s.toks + binds.length })
    (hco : fd.scope.isCoroutine = false := by rfl) (hgen : fd.scope.isGenerator = false := by rfl) (hk : fd.scope.kind = .function := by rfl) :
    codeC (model prog w) A (.call (.ref a) args) R s := by
  refine codeC_call_function hroom ho hdata hco hgen hbody hcd (wpC_of (hbind _ _ _ _ (wpC_of ?_)))
  refine wpAny_newFunctionEnv hcell hloc (fun h₀ hns₀ hsb₀ => ⟨hlim.fresh _ hsb₀, codeC_func (h h₀ hns₀ fun b o e => ?_)⟩) hk
  exact hsb₀.extBut b o (Nat.ne_of_lt (Heap.lt_size e)) (Heap.get?_push_of_some _ e)
end
end
section
section
variable {prog : Program} {w : World} {M : Model} {A : Around} {s₀ s : Shared} {env : Env} {h : Heap} {k : Nat} {base g : Heap} {fs : List Env} {L : Addr} {ns : List Str} {vs : List (Option Value)} {led : List (Addr × Obj)} {cl cl' : List (Str × Addr)}
theorem wpC_eqp {α : Type} {t : Sem α} {a : α} {Q : α → Shared → Prop} (e : t = pure a) (h : Q a s) : wpC M A t Q s := e ▸ wpC_pure h
theorem codeC_forLoop {R : Flow → Shared → Prop} {target : Expr} {it : Value} {body : List Stmt} (I : Nat → Shared → Prop)
    (turn : ∀ n s, I n s → wpC (model prog w) A (pyNext it) (fun r s₁ => match r with
      | none => R .next s₁
      | some v => wpC (model prog w) A (letOwnedTupleGo target it v) (fun _ s₁' => wpC (model prog w) A (assign target env v) (fun _ s₂ => wpC (model prog w) A (execs body env) (fun f s₃ => match f with
          | .next | .cont => ∃ m, m < n ∧ I m s₃
          | .brk => R .next s₃
          | .ret v => R (.ret v) s₃) s₂) s₁') s₁) s)
    (n : Nat) (h : I n s) : codeC (model prog w) A (.forLoop target it body [] env) R s := by
  refine codeC_loop rfl rfl I (fun n s hI => ?_) n h
  show wpC _ _ ((forTurn target it body [] env).onRaise (fun x => do noteFrame x env; theTreesLotGoes x)) _ s
  refine wpC_onRaise ?_
  simp only [forTurn]
  refine wpC_bind (wpC_standAt (wpC_bind (wpC_onRaise (wpC_mono (turn n s hI) fun r s₁ h₁ => ?_))))
  cases r with
  | none => exact wpC_pure (.inr ⟨rfl, codeC_of (codeAny_block (wpAny_execs_nil h₁))⟩)
  | some v =>
    refine wpC_bind (wpC_mono h₁ fun _ s₁' h₁' => ?_)
    refine wpC_bind (wpC_mono h₁' fun _ s₂ h₂ => wpC_bind (wpC_mono h₂ fun f s₃ h₃ => ?_))
    cases f with
    | next => exact wpC_pure (.inl ⟨rfl, h₃⟩)
    | cont => exact wpC_pure (.inl ⟨rfl, h₃⟩)
    | brk => exact wpC_pure h₃
    | ret v => exact wpC_pure h₃
theorem C_for {t iter : Expr} {body : List Stmt} {p : Pos} {rest : List Stmt} {Q : Flow → Shared → Prop}
    (hq : wpC M A (eval iter env) (fun xv s₁ => wpC M A (pyIter xv) (fun it s₂ => codeC M A (.forLoop t it body [] env) (CSeq M A rest env Q) s₂) s₁) s)
    (hs : ∀ x, foldedSetIterable iter env x = pure x := by intro _; with_unfolding_all rfl) :
    wpC M A (execs (.For t iter body [] p :: rest) env) Q s := by
  refine C_execs ?_
  rw [exec_For]
  exact wpC_bind (wpC_standAt (wpC_bind (wpC_mono hq fun x s₁ h₁ => wpC_bind (wpC_eqp (hs x) (wpC_bind (wpC_standAt (wpC_bind (wpC_holding (wpC_mono h₁ fun it s₂ h₂ => wpC_runOwn h₂)))))))))
theorem C_loop {x : Str} {px : Pos} {body : List Stmt} {Q : Flow → Shared → Prop} {I : Addr} {oI : Obj} {n : Nat} {P : Nat → Value → Prop} (i : Nat)
    (J : Nat → Heap → List (Option Value) → List (Addr × Obj) → Prop)
    (he : EnvOk env L ns cl) (hn : ns[i]? = some x)
    (W : Wk prog w A g I n P h) (S : St w base fs g L ns vs ((I, oI) :: led) h) (h0 : J 0 g vs led)
    (turn : ∀ j v g' vs' led' h' k' oI', j < n → P j v → J j g' vs' led' → g.StaysIn g' → St w base fs g' L ns (vs'.set i (some v)) ((I, oI') :: led') h' →
      wpC (model prog w) A (execs body env) (TurnQ s₀ w base fs g' L ns I oI' (J (j + 1)) (fun s' => Q .next s') (fun v s' => Q (.ret v) s')) (sh s₀ h' k'))
    (done : ∀ g' vs' led' h' k', J n g' vs' led' → g.StaysIn g' → St w base fs g' L ns vs' led' h' → Q .next (sh s₀ h' k')) :
    codeC (model prog w) A (.forLoop (.Name x px) (.ref I) body [] env) Q (sh s₀ h k) := by
  obtain ⟨fp, StI, W, hI, hst, hfp⟩ := W.ex
  refine codeC_forLoop
    (fun m s' => Ex7 fun j g' vs' led' h' k' oI' => An7 (s' = sh s₀ h' k') (j ≤ n) (m = n + 1 - j) (StI j h') (J j g' vs' led') (g.StaysIn g') (St w base fs g' L ns vs' ((I, oI') :: led') h')) ?_ (n + 1)
    ⟨0, g, vs, led, h, k, oI, rfl, Nat.zero_le _, rfl, hst, h0, stays_refl g, S⟩
  rintro m s' ⟨j, g', vs', led', h', k', oI', rfl, hj, rfl, hstj, hJ, hg, S'⟩
  by_cases hlt : j < n
  · refine wpC_of (W.item j _ _ _ hlt hstj fun v h₁ k₁ hP hst₁ hk₁ => ?_)
    obtain ⟨o₁, ho₁⟩ := hI _ _ hst₁
    have S₁ : St w base fs g' L ns vs' ((I, o₁) :: led') h₁ := S'.turnedX (i := 0) rfl (fun b o hb e => hk₁ b o (by simpa using hb) e) ho₁
    refine wpC_eqp (a := ()) rfl ?_
    refine wpC_of (wpAny_assign_Name ?_)
    refine s_loc S₁ he i hn fun h₂ k₂ S₂ => ?_
    refine wpC_mono (turn j v g' vs' led' h₂ k₂ o₁ hlt hP hJ hg S₂) (fun f s₃ h₃ => ?_)
    have hst₂ : StI (j + 1) h₂ := W.frame _ _ _ hst₁ fun b hb o e => comp_frame S₁ S₂ hg hg (hfp b hb) e
    have goon : (Ex5 fun g₃ vs₃ led₃ h₃ k₃ => An4 (s₃ = sh s₀ h₃ k₃) (g'.StaysIn g₃) (St w base fs g₃ L ns vs₃ ((I, o₁) :: led₃) h₃) (J (j + 1) g₃ vs₃ led₃)) →
        ∃ m, m < n + 1 - j ∧ Ex7 fun j' g' vs' led' h' k' oI' => An7 (s₃ = sh s₀ h' k') (j' ≤ n) (m = n + 1 - j') (StI j' h') (J j' g' vs' led') (g.StaysIn g') (St w base fs g' L ns vs' ((I, oI') :: led') h') := by
      rintro ⟨g₃, vs₃, led₃, H₃, k₃, rfl, hg₃, S₃, hJ₃⟩
      refine ⟨n + 1 - (j + 1), by omega, j + 1, g₃, vs₃, led₃, H₃, k₃, o₁, rfl, hlt, rfl, ?_, hJ₃, stays_trans hg hg₃, S₃⟩
      exact W.frame _ _ _ hst₂ fun b hb o e => comp_frame S₂ S₃ hg (stays_trans hg hg₃) (hfp b hb) e
    cases f with
    | ret v => exact h₃
    | brk => exact h₃
    | next => exact goon h₃
    | cont => exact goon h₃
  · have hjn : j = n := by omega
    subst hjn
    refine wpC_of (W.done _ _ _ hstj fun h₁ k₁ hk₁ => ?_)
    exact done g' vs' led' h₁ k₁ hJ hg (S'.dropI hk₁)
theorem C_pairs {x y : Str} {px py tp : Pos} {jt : Nat} {body : List Stmt} {Q : Flow → Shared → Prop} {l : Addr} {ol : Obj} {xs : List Value} (i i' : Nat)
    (J : Nat → Heap → List (Option Value) → List (Addr × Obj) → Prop)
    (he : EnvOk env L ns cl) (hh : A.handled = none) (hn : ns[i]? = some x) (hn' : ns[i']? = some y)
    (S : St w base fs g L ns vs led h) (hl : g.get? l = some ol) (hlo : LO ol xs) (hxs : ∀ v ∈ xs, ∃ t ot a b, v = .ref t ∧ g.get? t = some ot ∧ TO ot [a, b]) (h0 : J 0 g vs led)
    (turn : ∀ j t ot a b g' vs' led' h' k' I oI', xs[j]? = some (.ref t) → g.get? t = some ot → TO ot [a, b] → J j g' vs' led' → g.StaysIn g' → St w base fs g' L ns ((vs'.set i (some a)).set i' (some b)) ((I, oI') :: led') h' →
      wpC (model prog w) A (execs body env) (TurnQ s₀ w base fs g' L ns I oI' (J (j + 1)) (fun s' => Q .next s') (fun v s' => Q (.ret v) s')) (sh s₀ h' k'))
    (done : ∀ g' vs' led' h' k', J xs.length g' vs' led' → g.StaysIn g' → St w base fs g' L ns vs' led' h' → Q .next (sh s₀ h' k')) :
    wpC (model prog w) A (pyIter (.ref l)) (fun it s₂ => codeC (model prog w) A (.forLoop (.Tuple [.Name x px, .Name y py] jt tp) it body [] env) Q s₂) (sh s₀ h k) := by
  refine wpC_of (wpAny_pyIter_list (hlo.isList (S.get hl)) ?_)
  have S1 := S.alloc { cls := .type "list_iterator", data := .fields #[.ref l, .int 0 0] } rfl
  have hlt : l < h.objs.size := Heap.lt_size (S.get hl)
  have W := Walks.list (prog := prog) (w := w) (A := A) hh h.objs.size l (Nat.ne_of_lt hlt) xs.toArray
  simp only [List.size_toArray, List.getElem?_toArray] at W
  have hst1 : (h.push { cls := .type "list_iterator", data := .fields #[.ref l, .int 0 0] }).IsListIter h.objs.size l 0 := ⟨_, Heap.get?_push_size _ rfl, rfl, rfl⟩
  have hK : (sh s₀ h k).heap = h := rfl
  rw [hK]
  generalize hI : h.objs.size = I at *
  generalize h.push { cls := .type "list_iterator", data := .fields #[.ref l, .int 0 0] } = h₁ at *
  refine codeC_forLoop
    (fun m s' => Ex7 fun j g' vs' led' h' k' oI' => An7 (s' = sh s₀ h' k') (j ≤ xs.length) (m = xs.length + 1 - j) ((h'.IsListIter I l j ∧ h'.IsList l xs.toArray)) (J j g' vs' led') (g.StaysIn g') (St w base fs g' L ns vs' ((I, oI') :: led') h')) ?_ (xs.length + 1)
    ⟨0, g, vs, led, h₁, k, _, rfl, Nat.zero_le _, rfl, ⟨hst1, hlo.isList (S1.get hl)⟩, h0, stays_refl g, S1⟩
  rintro m s' ⟨j, g', vs', led', h', k', oI', rfl, hj, rfl, hstj, hJ, hg, S'⟩
  by_cases hlt : j < xs.length
  · refine wpC_of (W.item j _ _ _ hlt hstj fun v h₁ k₁ hP hst₁ hk₁ => ?_)
    obtain ⟨t, ot, a, b, HH1⟩ := ex4 (hxs v (List.mem_of_getElem? hP))
    obtain rfl := HH1.1
    have ht := HH1.2.1
    have hT := HH1.2.2
    clear HH1
    obtain ⟨⟨o₁, ho₁, r1⟩, hl1⟩ := id hst₁
    have S₁ : St w base fs g' L ns vs' ((I, o₁) :: led') h₁ := S'.turnedX (i := 0) rfl (fun b o hb e => hk₁ b o (by simpa using hb) e) ho₁
    refine wpC_of (wpAny_letOwnedTupleGo_listiter hst₁.1 ?_)
    have ht1 := S₁.get (hg _ _ ht)
    refine wpC_of (wpAny_assign_Tuple hh (hT.isTup ht1) rfl rfl fun h₂ he₂ => ?_)
    have S₂ := S₁.grown (fun b o e => he₂ b o (Nat.ne_of_lt (Heap.lt_size e)) e)
    show wpAny _ _ (holding [b] (assign (.Name x px) env a) >>= fun _ => (holding [] (assign (.Name y py) env b) >>= fun _ => pure ())) _ _ _
    refine wpAny_bind (wpAny_holding (wpAny_assign_Name (s_loc S₂ he i hn fun h₃ k₃ S₃ => ?_)))
    refine wpAny_bind (wpAny_holding (wpAny_assign_Name (s_loc S₃ he i' hn' fun h₄ k₄ S₄ => ?_)))
    refine wpAny_pure ?_
    refine wpC_mono (turn j t ot a b g' vs' led' h₄ k₄ I o₁ hP ht hT hJ hg S₄) (fun f s₃ h₃ => ?_)
    have goon : (Ex5 fun g₃ vs₃ led₃ h₃ k₃ => An4 (s₃ = sh s₀ h₃ k₃) (g'.StaysIn g₃) (St w base fs g₃ L ns vs₃ ((I, o₁) :: led₃) h₃) (J (j + 1) g₃ vs₃ led₃)) →
        ∃ m, m < xs.length + 1 - j ∧ Ex7 fun j' g' vs' led' h' k' oI' => An7 (s₃ = sh s₀ h' k') (j' ≤ xs.length) (m = xs.length + 1 - j') ((h'.IsListIter I l j' ∧ h'.IsList l xs.toArray)) (J j' g' vs' led') (g.StaysIn g') (St w base fs g' L ns vs' ((I, oI') :: led') h') := by
      rintro ⟨g₃, vs₃, led₃, H₃, k₃, rfl, hg₃, S₃, hJ₃⟩
      exact ⟨xs.length + 1 - (j + 1), by omega, j + 1, g₃, vs₃, led₃, H₃, k₃, o₁, rfl, hlt, rfl, ⟨⟨o₁, S₃.at_ (i := 0) rfl, r1⟩, hlo.isList (S₃.get (hg₃ _ _ (hg _ _ hl)))⟩, hJ₃, stays_trans hg hg₃, S₃⟩
    cases f with
    | ret v => exact h₃
    | brk => exact h₃
    | next => exact goon h₃
    | cont => exact goon h₃
  · have hjn : j = xs.length := by omega
    subst hjn
    refine wpC_of (W.done _ _ _ hstj fun h₁ k₁ hk₁ => ?_)
    exact done g' vs' led' h₁ k₁ hJ hg (S'.dropI hk₁)
end
end
section
section
variable {prog : Program} {w : World} {M : Model} {A : Around} {s₀ s : Shared} {env : Env} {h : Heap} {k : Nat} {base g : Heap} {fs : List Env} {L : Addr} {ns : List Str} {vs : List (Option Value)} {led : List (Addr × Obj)} {cl cl' : List (Str × Addr)}
theorem codeC_compLoop {R : Flow → Shared → Prop} {elt target iter : Expr} {scope : Scope} {pos : Pos} {it acc : Value} (I : Nat → Shared → Prop)
    (turn : ∀ n s, I n s → wpC (model prog w) A (pyNext it) (fun r s₁ => match r with
      | none => R .next s₁
      | some v => wpC (model prog w) A (assign target env v) (fun _ s₂ => wpC (model prog w) A (eval elt env) (fun x s₃ =>
          wpC (model prog w) A (call (.builtin "list.append") [acc, x]) (fun _ s₄ => ∃ m, m < n ∧ I m s₄) s₃) s₂) s₁) s)
    (n : Nat) (h : I n s) (ht : ∀ v, letOwnedTupleGo target it v = pure () := by intro _; rfl) :
    codeC (model prog w) A (.compLoop (.ListComp elt [⟨target, iter, [], 0⟩] scope pos) 0 it acc env) R s := by
  refine codeC_loop rfl rfl I (fun n s hI => ?_) n h
  show wpC _ _ ((compTurn (.ListComp elt [⟨target, iter, [], 0⟩] scope pos) 0 it acc env).onRaise (fun x => do noteFrame x env; theTreesLotGoes x)) _ s
  refine wpC_onRaise ?_
  rw [compTurn_list1]
  refine wpC_bind (wpC_standAt (wpC_bind (wpC_mono (turn n s hI) fun r s₁ h₁ => ?_)))
  cases r with
  | none => exact wpC_pure h₁
  | some v =>
    refine wpC_bind (wpC_eqp (ht v) ?_)
    exact wpC_bind (wpC_mono h₁ fun _ s₂ h₂ => wpC_bind (wpC_bind (wpC_mono h₂ fun x s₃ h₃ => wpC_bind (wpC_mono h₃ fun _ s₄ h₄ => wpC_pure (wpC_pure (.inl ⟨rfl, h₄⟩))))))
theorem codeC_compStart {R : Flow → Shared → Prop} {elt target iter : Expr} {ifs : List Expr} {rest : List Comprehension} {scope : Scope} {pos : Pos} {it acc : Value}
    (h0 : codeC (model prog w) A (.compLoop (.ListComp elt (⟨target, iter, ifs, 0⟩ :: rest) scope pos) 0 it acc env) R s)
    (h : wpC (model prog w) A (pyIter it) (fun it' s' => codeC (model prog w) A (.compLoop (.ListComp elt (⟨target, iter, ifs, 0⟩ :: rest) scope pos) 0 it' acc env) R s') s) :
    codeC (model prog w) A (.compStart (.ListComp elt (⟨target, iter, ifs, 0⟩ :: rest) scope pos) 0 it acc env) R s := by
  refine codeC_of_tree rfl ?_
  show wpC _ _ ((compStart (.ListComp elt (⟨target, iter, ifs, 0⟩ :: rest) scope pos) 0 it acc env).onRaise (fun x => do noteFrame x env; standAt theWindowsPlace)) _ s
  refine wpC_onRaise ?_
  unfold compStart
  show wpC _ _ (ask >>= _) _ s
  refine wpC_bind (wpC_of (wpAny_askSetting (wpC_ite ?_)))
  split
  · first
      | exact wpC_bind (wpC_pure (wpC_pure (And.intro rfl h0)))
      | exact wpC_pure (And.intro rfl h0)
  · first
      | exact wpC_bind (wpC_of (wpAny_rule (wpC_bind (wpC_standAt (wpC_bind (wpC_mono h fun it' s' h' => wpC_pure (And.intro rfl h')))))))
      | (refine wpC_bind (wpC_of (wpAny_rule ?_)); show wpC _ _ (standAt iter.pos >>= _) _ s; exact wpC_bind (wpC_standAt (wpC_bind (wpC_mono h fun it' s' h' => wpC_pure (And.intro rfl h')))))
noncomputable def CPost (Q : Value → Shared → Prop) (acc : Value) (C : Addr) (_ : Flow) (s' : Shared) : Prop := ∃ m, s'.heap.Ns C m ∧ ∀ h', Heap.SameBut C s'.heap h' → Q acc { s' with heap := h' }
theorem C_comprehension {e : Expr} {scope : Scope} {pos : Pos} {newAcc first : Sem Value} {g : Comprehension} {gs : List Comprehension} {Q : Value → Shared → Prop}
    (hcl : clausesOf e = g :: gs) (hs : ∀ x, foldedSetIterable g.iter env x = pure x) (hclos : closureFor scope env = pure cl)
    (hkind : scope.kind = .function) (hnames : ∀ x ∈ scope.names, x.2 = .local → scope.names.lookup x.1 = some .local)
    (h : wpC M A first (fun x s₁ => wpC M A (pyIter x) (fun it s₂ => wpC M A newAcc (fun acc s₃ =>
      wpC M A (newFunctionEnv scope env.globals cl [] env.qual none .none (some env)) (fun cenv s₄ =>
        codeC M A (.compStart e 0 it acc { cenv with scope := relabel scope env }) (CPost Q acc cenv.locals) s₄) s₃) s₂) s₁) s) :
    wpC M A (comprehension e scope env pos newAcc false first none) Q s := by
  unfold comprehension
  rw [hclos, hcl]
  refine wpC_bind (wpC_mono h fun x s₁ h₁ => wpC_bind (wpC_standAt (wpC_bind (wpC_eqp (hs x) (wpC_bind (wpC_holding (wpC_mono h₁ fun it s₂ h₂ => ?_)))))))
  have standIf : ∀ {α : Type} {c : Prop} [Decidable c] {pos : Pos} {k : PUnit → Sem α} {Q : α → Shared → Prop} {s : Shared}, wpC M A (k ()) Q s → wpC M A (if c then (standAt pos >>= k) else k ()) Q s := by
    intro α c _ pos k Q s h
    split
    · exact wpC_bind (wpC_standAt h)
    · exact h
  refine standIf (wpC_bind (wpC_mono h₂ fun acc s₃ h₃ => wpC_bind (wpC_pure (wpC_bind (wpC_mono h₃ fun cenv s₄ h₄ => ?_)))))
  dsimp only
  have hv : ∀ x ∈ (scope.names.filter fun x => (x.2 == .local || x.2 == .cell) && x.1 != (".0" : Str)).reverse, x.2 = .local →
      Env.kindOf { cenv with scope := relabel scope env } x.1 = some .local := fun x hx hl => lookup_relabel_local (hnames x (List.mem_filter.mp (List.mem_reverse.mp hx)).1 hl)
  refine wpC_holding (wpC_bind (wpC_attempt (wpC_holding (wpC_run (codeC_mono h₄ fun f s' hr => ?_)))))
  have HH0 := hr
  obtain ⟨m, HH1⟩ := HH0
  have hn := HH1.1
  have hr := HH1.2
  clear HH1
  exact wpC_bind (wpC_holding (wpC_of (wpAny_comp_letGo (cenv := { cenv with scope := relabel scope env }) hkind _ s' m hv hn fun h' m' _ hs' => wpC_pure (hr h' hs'))))
end
end
section
section
variable {prog : Program} {w : World} {A : Around} {s₀ : Shared} {h : Heap} {k : Nat} {base g : Heap} {fs : List Env} {L : Addr} {ns : List Str} {vs : List (Option Value)} {led : List (Addr × Obj)}
  {env : Env} {cl : List (Str × Addr)}
theorem C_comp_core {elt iter : Expr} {x : Str} {px : Pos} {scope : Scope} {cl' : List (Str × Addr)} {pos : Pos} {Q : Value → Shared → Prop} {I : Addr} {oI : Obj} {fp : List Addr} {n : Nat} {P : Nat → Value → Prop} {StI : Nat → Heap → Prop}
    (J : Nat → Heap → List (Addr × Obj) → List Value → Prop)
    (he : EnvOk env L ns cl) (hcell : ∀ y ∈ scope.names, y.2 ≠ .cell) (hkind : scope.kind = .function) (hx : scope.names.lookup x = some .local)
    (W : Walks prog w A I fp [I] n P StI) (hI : ∀ j h, StI j h → ∃ o, h.get? I = some o) (hst : StI 0 h) (S : St w base fs g L ns vs ((I, oI) :: led) h) (hfp : ∀ b ∈ fp, b = I ∨ ∃ o, g.get? b = some o) (hz : n ≤ 16777216)
    (hJm : ∀ j g₁ g₂ led' items, NewIn h.objs.size g₁ g₂ → J j g₁ led' items → J j g₂ led' items)
    (h0 : J 0 g led []) (hJl : ∀ j g' led' items, J j g' led' items → items.length = j)
    (turn : ∀ C cenv j v g' led' items h' k' oI' oD, h.objs.size < C → j < n → P j v → J j g' led' items → g.StaysIn g' → cenv.scope = relabel scope env → EnvOk cenv C [x] cl' → St w base fs g' C [x] [some v] ((I, oI') :: (h.objs.size, oD) :: led') h' →
      wpC (model prog w) A (eval elt cenv) (EltQ s₀ w base fs g' C [x] I h.objs.size oI' oD (J (j + 1)) items) (sh s₀ h' k'))
    (done : ∀ g' led' items oD h' k', J n g' led' items → items.length = n → LO oD items → g.StaysIn g' → St w base fs g' L ns vs ((h.objs.size, oD) :: led') h' → Q (.ref h.objs.size) (sh s₀ h' k')) :
    wpC (model prog w) A (newList []) (fun acc s₃ => wpC (model prog w) A (newFunctionEnv scope env.globals cl' [] env.qual none .none (some env)) (fun cenv s₄ =>
      codeC (model prog w) A (.compStart (.ListComp elt [⟨.Name x px, iter, [], 0⟩] scope pos) 0 (.ref I) acc { cenv with scope := relabel scope env }) (CPost Q acc cenv.locals) s₄) s₃) (sh s₀ h k) := by
  refine wpC_of (wpAny_newObj_type (wpC_of (wpAny_newFunctionEnv hcell (by intro y hy; simp at hy) (fun h₂ hns₂ hsb₂ => ?_) hkind)))
  dsimp only at hns₂ hsb₂ ⊢
  have hH1' : (sh s₀ h k).heap.push { cls := .type "list", dict := none, data := .seq ([] : List Value).toArray } = h.push { cls := .type "list", data := .seq ([] : List Value).toArray } := rfl
  rw [hH1'] at hns₂ hsb₂ ⊢
  generalize hC : (h.push { cls := .type "list", data := .seq ([] : List Value).toArray }).objs.size = C at hns₂ hsb₂ ⊢
  have hDe : (sh s₀ h k).heap.objs.size = h.objs.size := rfl
  rw [hDe]
  obtain ⟨gc, K⟩ := comp_in (x := x) S hC hns₂ hsb₂
  have hce : EnvOk (compEnvC scope cl' C env) C [x] cl' := ⟨rfl, hkind, he.glob, he.blt, fun y hy => by
    rw [List.mem_singleton.mp hy]; exact lookup_relabel_local hx, rfl⟩
  have hgI : ∀ b ∈ fp, b = I ∨ ∃ o, gc.get? b = some o := fun b hb => (hfp b hb).imp id fun ⟨o, ho⟩ => ⟨o, K.hgA _ _ ho⟩
  have hst₂ : StI 0 h₂ := W.frame _ _ _ hst fun b _ o e => K.keep _ _ e
  have loop : ∀ k₂, codeC (model prog w) A (.compLoop (.ListComp elt [⟨.Name x px, iter, [], 0⟩] scope pos) 0 (.ref I) (.ref h.objs.size) (compEnvC scope cl' C env)) (CPost Q (.ref h.objs.size) C) (sh s₀ h₂ k₂) := by
    intro k₂
    refine codeC_compLoop
      (fun m s' => Ex9 fun j g' vs' led' items h' k' oI' oD => An8 (s' = sh s₀ h' k') (j ≤ n) (m = n + 1 - j) (StI j h') (J j g' led' items) (LO oD items) (gc.StaysIn g') (St w base fs g' C [x] vs' ((I, oI') :: (h.objs.size, oD) :: led') h')) ?_ (n + 1)
      ⟨0, gc, [none], led, [], h₂, k₂, oI, _, rfl, Nat.zero_le _, rfl, hst₂, hJm 0 g gc led [] (fun a o _ e => K.hgA _ _ e) h0, ⟨0, rfl⟩, stays_refl _, K.Sc⟩
    rintro m s' ⟨j, g', vs', led', items, h', k', oI', oD, rfl, hj, rfl, hstj, hJ, hLO, hg, S'⟩
    by_cases hlt : j < n
    · refine wpC_of (W.item j _ _ _ hlt hstj fun v h₃ k₃ hP hst₃ hk₃ => ?_)
      obtain ⟨o₁, ho₁⟩ := hI _ _ hst₃
      have S₃ : St w base fs g' C [x] vs' ((I, o₁) :: (h.objs.size, oD) :: led') h₃ := S'.turnedX (i := 0) rfl (fun b o hb e => hk₃ b o (by simpa using hb) e) ho₁
      refine wpC_of (wpAny_assign_Name ?_)
      refine s_loc S₃ hce 0 rfl fun h₄ k₄ S₄ => ?_
      have S₄' : St w base fs g' C [x] [some v] ((I, o₁) :: (h.objs.size, oD) :: led') h₄ := by
        rw [← set_one (x := some v) S₃.len]; exact S₄
      have hst₄ : StI (j + 1) h₄ := W.frame _ _ _ hst₃ fun b hb o e => comp_frame S₃ S₄ hg hg (hgI b hb) e
      refine wpC_mono (turn C (compEnvC scope cl' C env) j v g' led' items h₄ k₄ o₁ oD K.hCh hlt hP hJ (stays_trans K.hgA hg) rfl hce S₄') (fun y s₅ h₅ => ?_)
      obtain ⟨g₅, vs₅, led₅, H₅, k₅, rfl, hg₅, S₅, hJ₅⟩ := h₅
      refine wpC_of <| m_append S₅ (i := 1) rfl hLO (by have := hJl _ _ _ _ hJ; omega) fun h₆ o₆ hLO₆ S₆ => ?_
      refine ⟨n + 1 - (j + 1), by omega, j + 1, g₅, vs₅, led₅, items ++ [y], h₆, k₅, o₁, o₆, rfl, hlt, rfl, ?_, hJ₅, hLO₆, stays_trans hg hg₅, S₆⟩
      exact W.frame _ _ _ hst₄ fun b hb o e => comp_frame S₄ S₆ hg (stays_trans hg hg₅) (hgI b hb) e
    · have hjn : j = n := by omega
      subst hjn
      refine wpC_of <| W.done _ _ _ hstj fun h₁ k₁ hk₁ => ?_
      refine ⟨mOf [x] vs', ?_, fun h₇ hs₇ => ?_⟩
      · refine S'.loc.at' fun o e => hk₁ _ o ?_ e
        rw [List.mem_singleton]
        exact fun q => (S'.ldg (I, oI') (.head _)).2.1 q.symm
      obtain ⟨g₂, hgg, hnew, S₉⟩ := K.back g' vs' led' oI' oD h' h₁ h₇ hg S' hk₁ hs₇
      exact done g₂ led' items oD h₇ k₁ (hJm _ _ _ _ _ hnew hJ) (hJl _ _ _ _ hJ) hLO hgg S₉
  exact codeC_compStart (loop _) (wpC_of (W.self 0 _ _ _ hst₂ (loop _)))
theorem C_comp {elt iter : Expr} {x : Str} {px : Pos} {scope : Scope} {pos : Pos} {s : Shared} {cl' : List (Str × Addr)} {Q : Value → Shared → Prop} (hclos : closureFor scope env = pure cl') (hkind : scope.kind = .function) (hnames : (scope.names.all fun y => y.2 != .local || scope.names.lookup y.1 == some .local) = true)
    (hq : wpC (model prog w) A (eval iter env) (fun xv s₁ => wpC (model prog w) A (pyIter xv) (fun it s₂ =>
      wpC (model prog w) A (newList []) (fun acc s₃ => wpC (model prog w) A (newFunctionEnv scope env.globals cl' [] env.qual none .none (some env)) (fun cenv s₄ =>
        codeC (model prog w) A (.compStart (.ListComp elt [⟨.Name x px, iter, [], 0⟩] scope pos) 0 it acc { cenv with scope := relabel scope env }) (CPost Q acc cenv.locals) s₄) s₃) s₂) s₁) s)
    (hs : ∀ x, foldedSetIterable iter env x = pure x := by intro _; with_unfolding_all rfl) :
    wpC (model prog w) A (eval (.ListComp elt [⟨.Name x px, iter, [], 0⟩] scope pos) env) Q s := by
  rw [eval_ListComp]
  exact C_comprehension rfl hs hclos hkind (names_local hnames) hq
theorem C_elts {elt iter : Expr} {x : Str} {px : Pos} {scope : Scope} {pos : Pos} {cl' : List (Str × Addr)} {Q : Value → Shared → Prop} {I : Addr} {oI : Obj} {n : Nat} {P : Nat → Value → Prop}
    (J : Nat → Heap → List (Addr × Obj) → List Value → Prop)
    (he : EnvOk env L ns cl) (W : Wk prog w A g I n P h) (S : St w base fs g L ns vs ((I, oI) :: led) h) (hcell : (scope.names.all fun y => y.2 != .cell) = true) (hkind : scope.kind = .function) (hx : (scope.names.lookup x == some .local) = true)
    (hz : n ≤ 16777216)
    (hJm : ∀ j g₁ g₂ led' items, NewIn h.objs.size g₁ g₂ → J j g₁ led' items → J j g₂ led' items)
    (h0 : J 0 g led []) (hJl : ∀ j g' led' items, J j g' led' items → items.length = j)
    (turn : ∀ C cenv j v g' led' items h' k' oI' oD, h.objs.size < C → j < n → P j v → J j g' led' items → g.StaysIn g' → cenv.scope = relabel scope env → EnvOk cenv C [x] cl' → St w base fs g' C [x] [some v] ((I, oI') :: (h.objs.size, oD) :: led') h' →
      wpC (model prog w) A (eval elt cenv) (EltQ s₀ w base fs g' C [x] I h.objs.size oI' oD (J (j + 1)) items) (sh s₀ h' k'))
    (done : ∀ g' led' items oD h' k', J n g' led' items → items.length = n → LO oD items → g.StaysIn g' → St w base fs g' L ns vs ((h.objs.size, oD) :: led') h' → Q (.ref h.objs.size) (sh s₀ h' k')) :
    wpC (model prog w) A (newList []) (fun acc s₃ => wpC (model prog w) A (newFunctionEnv scope env.globals cl' [] env.qual none .none (some env)) (fun cenv s₄ =>
      codeC (model prog w) A (.compStart (.ListComp elt [⟨.Name x px, iter, [], 0⟩] scope pos) 0 (.ref I) acc { cenv with scope := relabel scope env }) (CPost Q acc cenv.locals) s₄) s₃) (sh s₀ h k) := by
  obtain ⟨fp, StI, W, hI, hst, hfp⟩ := W.ex
  exact C_comp_core J he (names_nocell hcell) hkind (beq_iff_eq.mp hx) W hI hst S hfp hz hJm h0 hJl turn done
end
end
section
structure AxC (prog : Program) (A : Around) (fs : List Env) (d : Nat) : Prop where
  ax : Ax prog A fs d
  gd : A.guards = some []
theorem AxC.less {prog : Program} {A : Around} {fs : List Env} {d d' : Nat} (x : AxC prog A fs d) (h : d' ≤ d) : AxC prog A fs d' := ⟨x.ax.less h, x.gd⟩
theorem AxC.deeper {prog : Program} {A : Around} {fs : List Env} {d : Nat} (x : AxC prog A fs (d + 1)) (env : Env) : AxC prog (A.deeper env) (env :: fs) d := ⟨x.ax.deeper env, x.gd⟩
section
variable {prog : Program} {w : World} {A : Around} {Q : Value → Shared → Prop} {s₀ : Shared} {h : Heap} {k : Nat} {base g : Heap} {fs : List Env} {L : Addr} {ns : List Str} {vs : List (Option Value)} {led : List (Addr × Obj)}
theorem enterD' {R : Flow → Shared → Prop} {name qual : Str} {params : Arguments} {body : List Stmt} {scope : Scope} {dV kV doc pm cdv ct oc : Value} {an od : Option Addr} {osl : Array (Option Value)} {f : Addr} {args args' : List Value} {d n : Nat} {ns' : List Str} {vs' : List (Option Value)}
    (S : St w base fs g L ns vs led h) (hA : AxC prog A fs (d + 1))
    (ho : (hd.heap_39 w.params).lookup f = some ⟨oc, od, .func (fnOf name qual params body scope dV kV doc pm an cdv ct), osl⟩) (hcd : codeIn (hd.heap_39 w.params) cdv qual = true)
    (hbind : BindsTo (sh s₀ h k) (fnOf name qual params body scope dV kV doc pm an cdv ct) ⟨args, []⟩ ((ns'.take n).zip args'))
    (foot : List (Addr × Obj)) (hf : ∀ p ∈ foot, p ∈ led) (hfn : (foot.map (·.1)).Nodup)
    (hns : (ns'.all fun x => scope.names.lookup x == some .local) = true) (hnd : ns'.Nodup) (hn : args'.length = n) (hnl : n ≤ ns'.length) (hcell : (scope.names.all fun x => x.2 != .cell) = true)
    (hvs : args'.map some ++ List.replicate (ns'.length - n) none = vs') (hco : scope.isCoroutine = false) (hgen : scope.isGenerator = false) (hk : scope.kind = .function)
    (walk : ∀ env' L' h₁ k₁ A', EnvOk env' L' ns' [] → env'.scope = scope → AxC prog A' (env' :: fs) d → L' = h.objs.size →
      St w base (env' :: fs) (hideAll h (foot.map (·.1))) L' ns' vs' foot h₁ →
      wpC (model prog w) A' (execs body env') (RetQ fun v s' => R (.ret v) s') (sh s₀ h₁ k₁)) :
    codeC (model prog w) A (.call (.ref f) ⟨args, []⟩) R (sh s₀ h k) := by
  subst hvs
  have hroom : A.depth < recursionLimit := by have := hA.ax.dep; show A.depth < 1000; omega
  have hl := List.all_eq_true.mp hns
  have hloc : ∀ y ∈ (ns'.take n).zip args', scope.names.lookup y.1 = some .local := fun y hy =>
    beq_iff_eq.mp (hl y.1 (List.mem_of_mem_take (List.of_mem_zip hy).1))
  obtain ⟨me, mg, mb, T⟩ := S.Th
  refine codeC_call_def (fd := fnOf name qual params body scope dV kV doc pm an cdv ct) (body := body) hroom (S.Xh _ _ ho) rfl T.nolimit (codeRec_of S.Xh hcd) rfl hbind
    (fun x hx => by have := List.all_eq_true.mp hcell x hx; simpa using this) hloc (fun h₁ hns₁ hk₁ => ?_) hco hgen hk
  have e0 : (sh s₀ h k).heap = h := rfl
  rw [codeQual (fd := default), e0]
  rw [e0] at hns₁ hk₁
  rw [mOf_binds hnd hn hnl] at hns₁
  have S' : St w base (envX qual scope h.objs.size f cdv [] :: fs) (hideAll h (foot.map (·.1))) h.objs.size ns' (args'.map some ++ List.replicate (ns'.length - n) none) foot h₁ :=
    S.entered (cells := []) hf hfn hnd (by simp [hn]; omega) hns₁ hk₁ (by show scope.kind ≠ .module; rw [hk]; decide) rfl (fun _ h => nomatch h) (fun _ h => nomatch h) List.nodup_nil
  have he : EnvOk (envX qual scope h.objs.size f cdv []) h.objs.size ns' [] := ⟨rfl, hk, rfl, rfl, fun x hx => beq_iff_eq.mp (hl x hx), rfl⟩
  exact walk (envX qual scope h.objs.size f cdv []) h.objs.size h₁ _ (A.deeper (envX qual scope h.objs.size f cdv [])) he rfl (hA.deeper _) rfl S'
theorem enterD {name qual : Str} {params : Arguments} {body : List Stmt} {scope : Scope} {dV kV doc pm cdv ct oc : Value} {an od : Option Addr} {osl : Array (Option Value)} {f : Addr} {args args' : List Value} {d n : Nat} {ns' : List Str} {vs' : List (Option Value)}
    (S : St w base fs g L ns vs led h) (hA : AxC prog A fs (d + 1))
    (ho : (hd.heap_39 w.params).lookup f = some ⟨oc, od, .func (fnOf name qual params body scope dV kV doc pm an cdv ct), osl⟩) (hcd : codeIn (hd.heap_39 w.params) cdv qual = true)
    (hbind : BindsTo (sh s₀ h k) (fnOf name qual params body scope dV kV doc pm an cdv ct) ⟨args, []⟩ ((ns'.take n).zip args'))
    (foot : List (Addr × Obj)) (hf : ∀ p ∈ foot, p ∈ led) (hfn : (foot.map (·.1)).Nodup)
    (hns : (ns'.all fun x => scope.names.lookup x == some .local) = true) (hnd : ns'.Nodup) (hn : args'.length = n) (hnl : n ≤ ns'.length) (hcell : (scope.names.all fun x => x.2 != .cell) = true)
    (hvs : args'.map some ++ List.replicate (ns'.length - n) none = vs') (hco : scope.isCoroutine = false) (hgen : scope.isGenerator = false) (hk : scope.kind = .function)
    (walk : ∀ env' L' h₁ k₁ A', EnvOk env' L' ns' [] → env'.scope = scope → AxC prog A' (env' :: fs) d → L' = h.objs.size →
      St w base (env' :: fs) (hideAll h (foot.map (·.1))) L' ns' vs' foot h₁ →
      wpC (model prog w) A' (execs body env') (RetQ Q) (sh s₀ h₁ k₁)) :
    wpC (model prog w) A (call (.ref f) args) Q (sh s₀ h k) :=
  wpC_call (enterD' S hA ho hcd hbind foot hf hfn hns hnd hn hnl hcell hvs hco hgen hk walk)
theorem enterDC' {R : Flow → Shared → Prop} {name qual : Str} {params : Arguments} {body : List Stmt} {scope : Scope} {dV kV doc pm cdv ct oc : Value} {an od : Option Addr} {osl : Array (Option Value)} {f : Addr} {args args' : List Value} {d n : Nat} {ns' : List Str} {vs' : List (Option Value)} {binds : List (Str × Value)}
    (S : St w base fs g L ns vs led h) (hA : AxC prog A fs (d + 1))
    (ho : (hd.heap_39 w.params).lookup f = some ⟨oc, od, .func (fnOf name qual params body scope dV kV doc pm an cdv ct), osl⟩) (hcd : codeIn (hd.heap_39 w.params) cdv qual = true)
    (hbind : BindsTo (sh s₀ h k) (fnOf name qual params body scope dV kV doc pm an cdv ct) ⟨args, []⟩ binds)
    (hloc : binds.filter (fun p => scope.names.lookup p.1 == some .local) = (ns'.take n).zip args')
    (hkinds : ∀ n, KindsOk scope n binds)
    (foot : List (Addr × Obj)) (hf : ∀ p ∈ foot, p ∈ led) (hfn : (foot.map (·.1)).Nodup)
    (hns : (ns'.all fun x => scope.names.lookup x == some .local) = true) (hnd : ns'.Nodup) (hn : args'.length = n) (hnl : n ≤ ns'.length)
    (hcn : ((cellsFrom 0 scope.names []).map (·.1)).Nodup)
    (hvs : args'.map some ++ List.replicate (ns'.length - n) none = vs') (hco : scope.isCoroutine = false) (hgen : scope.isGenerator = false) (hk : scope.kind = .function)
    (walk : ∀ env' L' h₁ k₁ A' cells, EnvOk env' L' ns' (cellsFrom (L' + 1) scope.names []) → env'.scope = scope → AxC prog A' (env' :: fs) d → L' = h.objs.size →
      CellsAre (bindC (fun x => scope.names.lookup x) binds fun _ => none) (cellsFrom (L' + 1) scope.names []) cells →
      St w base (env' :: fs) (hideAll h (foot.map (·.1))) L' ns' vs' (cells ++ foot) h₁ →
      wpC (model prog w) A' (execs body env') (RetQ fun v s' => R (.ret v) s') (sh s₀ h₁ k₁)) :
    codeC (model prog w) A (.call (.ref f) ⟨args, []⟩) R (sh s₀ h k) := by
  subst hvs
  have hroom : A.depth < recursionLimit := by have := hA.ax.dep; show A.depth < 1000; omega
  have hl := List.all_eq_true.mp hns
  obtain ⟨me, mg, mb, T⟩ := S.Th
  refine codeC_call_function hroom (S.Xh _ _ ho) rfl hco hgen rfl (codeRec_of S.Xh hcd) (wpC_of (hbind _ _ _ _ (wpC_of ?_)))
  refine wpAny_newFunctionEnv_cells hk (kinds_of (hkinds _)) fun env' he s' x => ?_
  subst he
  refine ⟨T.nolimit.keeps x.toInCall.keep, codeC_func ?_⟩
  obtain ⟨h₁, tk, cells, rfl, hns₁, hk₁, Y, NC, hca, hcd'⟩ := opened hnd hn hnl hloc hcn x
  have S' : St w base (envX qual scope h.objs.size f cdv (cellsFrom (h.objs.size + 1) scope.names []) :: fs) (hideAll h (foot.map (·.1))) h.objs.size ns' (args'.map some ++ List.replicate (ns'.length - n) none) (cells ++ foot) h₁ :=
    S.entered hf hfn hnd (by simp [hn]; omega) hns₁ hk₁ (by show scope.kind ≠ .module; rw [hk]; decide) rfl NC hca hcd'
  have he : EnvOk (envX qual scope h.objs.size f cdv (cellsFrom (h.objs.size + 1) scope.names [])) h.objs.size ns' (cellsFrom (h.objs.size + 1) scope.names []) := ⟨rfl, hk, rfl, rfl, fun x hx => beq_iff_eq.mp (hl x hx), rfl⟩
  exact walk (envX qual scope h.objs.size f cdv (cellsFrom (h.objs.size + 1) scope.names [])) h.objs.size h₁ tk (A.deeper (envX qual scope h.objs.size f cdv (cellsFrom (h.objs.size + 1) scope.names []))) cells he rfl (hA.deeper _) rfl Y S'
theorem enterDC {name qual : Str} {params : Arguments} {body : List Stmt} {scope : Scope} {dV kV doc pm cdv ct oc : Value} {an od : Option Addr} {osl : Array (Option Value)} {f : Addr} {args args' : List Value} {d n : Nat} {ns' : List Str} {vs' : List (Option Value)} {binds : List (Str × Value)}
    (S : St w base fs g L ns vs led h) (hA : AxC prog A fs (d + 1))
    (ho : (hd.heap_39 w.params).lookup f = some ⟨oc, od, .func (fnOf name qual params body scope dV kV doc pm an cdv ct), osl⟩) (hcd : codeIn (hd.heap_39 w.params) cdv qual = true)
    (hbind : BindsTo (sh s₀ h k) (fnOf name qual params body scope dV kV doc pm an cdv ct) ⟨args, []⟩ binds)
    (hloc : binds.filter (fun p => scope.names.lookup p.1 == some .local) = (ns'.take n).zip args')
    (hkinds : ∀ n, KindsOk scope n binds)
    (foot : List (Addr × Obj)) (hf : ∀ p ∈ foot, p ∈ led) (hfn : (foot.map (·.1)).Nodup)
    (hns : (ns'.all fun x => scope.names.lookup x == some .local) = true) (hnd : ns'.Nodup) (hn : args'.length = n) (hnl : n ≤ ns'.length)
    (hcn : ((cellsFrom 0 scope.names []).map (·.1)).Nodup)
    (hvs : args'.map some ++ List.replicate (ns'.length - n) none = vs') (hco : scope.isCoroutine = false) (hgen : scope.isGenerator = false) (hk : scope.kind = .function)
    (walk : ∀ env' L' h₁ k₁ A' cells, EnvOk env' L' ns' (cellsFrom (L' + 1) scope.names []) → env'.scope = scope → AxC prog A' (env' :: fs) d → L' = h.objs.size →
      CellsAre (bindC (fun x => scope.names.lookup x) binds fun _ => none) (cellsFrom (L' + 1) scope.names []) cells →
      St w base (env' :: fs) (hideAll h (foot.map (·.1))) L' ns' vs' (cells ++ foot) h₁ →
      wpC (model prog w) A' (execs body env') (RetQ Q) (sh s₀ h₁ k₁)) :
    wpC (model prog w) A (call (.ref f) args) Q (sh s₀ h k) :=
  wpC_call (enterDC' S hA ho hcd hbind hloc hkinds foot hf hfn hns hnd hn hnl hcn hvs hco hgen hk walk)
end
end
section
noncomputable abbrev baObj (b : Array UInt8) : Obj := { cls := .type "bytearray", data := .bytearray b 0 }
theorem ba_ga : typeLookup (.type "bytearray") "__getattribute__" = pure (some (.builtin "bytearray.__getattribute__")) := by rw [typeLookup_type, builtinLookup_eq_fast]; kernel_rfl
theorem ba_noga : typeLookup (.type "bytearray") "__getattr__" = pure none := by rw [typeLookup_type, builtinLookup_eq_fast]; kernel_rfl
theorem ba_attrs : PlainAttrs "bytearray" := ⟨⟨_, ba_ga, by decide +kernel⟩, ba_noga⟩
theorem ba_slot_extend : Slot "bytearray" "extend" "bytearray.extend" :=
  .of (owner := "bytearray") (n := "extend") (by rw [typeLookup_type, builtinLookup_eq_fast]; kernel_rfl) (by decide +kernel) (by decide +kernel) (by decide +kernel)
    (by first | exact .inl (by decide +kernel) | exact .inr (by decide +kernel)) (by rw [isSubtype_type]; kernel_rfl)
theorem ba_type_extend : typeOf (.builtin "bytearray.extend") = pure (.type "method_descriptor") := by show builtinType _ = _; rw [builtinType_eq_fast]; kernel_rfl
theorem ba_entry_extend : entryFor table "bytearray.extend" = some Builtin.«bytearray.extend» := entryFor_of_tree (by kernel_rfl)
theorem ba_args_extend (a b : Value) : argsOk "bytearray.extend" ⟨[a, b], []⟩ := by unfold argsOk; kernel_rfl
theorem ba_slot_len : Slot "bytearray" "__len__" "bytearray.__len__" :=
  .of (owner := "bytearray") (n := "__len__") (by rw [typeLookup_type, builtinLookup_eq_fast]; kernel_rfl) (by decide +kernel) (by decide +kernel) (by decide +kernel)
    (by first | exact .inl (by decide +kernel) | exact .inr (by decide +kernel)) (by rw [isSubtype_type]; kernel_rfl)
theorem ba_entry_len : entryFor table "bytearray.__len__" = some Builtin.«bytearray.__len__» := entryFor_of_tree (by kernel_rfl)
theorem ba_args_len (a : Value) : argsOk "bytearray.__len__" ⟨[a], []⟩ := by unfold argsOk; kernel_rfl
theorem ba_slot_init : Slot "bytearray" "__init__" "bytearray.__init__" :=
  .of (owner := "bytearray") (n := "__init__") (by rw [typeLookup_type, builtinLookup_eq_fast]; kernel_rfl) (by decide +kernel) (by decide +kernel) (by decide +kernel)
    (by first | exact .inl (by decide +kernel) | exact .inr (by decide +kernel)) (by rw [isSubtype_type]; kernel_rfl)
theorem ba_entry_init : entryFor table "bytearray.__init__" = some Builtin.«bytearray.__init__» := entryFor_of_tree (by kernel_rfl)
theorem ba_args_init (a : Value) : argsOk "bytearray.__init__" ⟨[a], []⟩ := by unfold argsOk; kernel_rfl
theorem ba_mro : mroOf (.type "bytearray") = pure [.type "bytearray", .type "object"] := by rw [mroOf_type]; kernel_rfl
theorem ba_look_new : typeLookup (.type "bytearray") "__new__" = pure (some (.builtin "bytearray.__new__")) := by rw [typeLookup_type, builtinLookup_eq_fast]; kernel_rfl
theorem ba_sub : isSubtype (.type "bytearray") (.type "bytearray") = pure true := by rw [isSubtype_type]; kernel_rfl
theorem ba_called : TypeCalled "bytearray" "bytearray.__new__" "bytearray.__init__" :=
  ⟨by decide +kernel, by decide +kernel, ⟨_, _, ba_mro⟩, madeBy_type ba_mro ba_look_new (by decide +kernel), by decide +kernel, by rw [isSubtype_type]; kernel_rfl, ba_slot_init⟩
theorem ba_typeCall : checkTypeCall "bytearray" ⟨[], []⟩ = pure () := by kernel_rfl
theorem ba_newCall : checkBuiltinCall "bytearray.__new__" ⟨[.type "bytearray"], []⟩ = pure () := by kernel_rfl
theorem ba_entry_new : entryFor table "bytearray.__new__" = some Builtin.«list.__new__» := entryFor_alias (id' := "list.__new__") (by kernel_rfl) rfl (by decide +kernel) (by kernel_rfl)
theorem ba_plain_new : plainId "bytearray.__new__" = true := by decide +kernel
theorem ba_look_buffer : typeLookup (.type "bytearray") "__buffer__" = pure (some (.builtin "bytearray.__buffer__")) := by rw [typeLookup_type, builtinLookup_eq_fast]; kernel_rfl
theorem ba_look_release : typeLookup (.type "bytearray") "__release_buffer__" = pure (some (.builtin "bytearray.__release_buffer__")) := by rw [typeLookup_type, builtinLookup_eq_fast]; kernel_rfl
theorem ba_no_bytes : typeLookup (.type "bytearray") "__bytes__" = pure none := by rw [typeLookup_type, builtinLookup_eq_fast]; kernel_rfl
theorem ba_no_index : typeLookup (.type "bytearray") "__index__" = pure none := by rw [typeLookup_type, builtinLookup_eq_fast]; kernel_rfl
set_option maxRecDepth 1000000 in
set_option maxHeartbeats 4000000 in
theorem ba_owner : ("bytearray.__new__".splitOn ".__new__").headD "" = "bytearray" := by simp +decide [String.splitOn, String.splitOnAux]
end
section
section
variable {prog : Program} {w : World} {M : Model} {A : Around} {E : Value → Shared → Prop} {s s₀ : Shared} {h : Heap} {k : Nat} {a : Addr} {b : Array UInt8}
theorem ba_payload {Q : Array UInt8 → Shared → Prop} (ho : s.heap.get? a = some (baObj b)) (hq : Q b s) : wpAny M A (Builtin.Bytes.payload (.ref a)) Q E s := by
  unfold Builtin.Bytes.payload Builtin.Bytes.payload?
  refine wpAny_bind (wpAny_bind (wpAny_load ho ?_))
  exact wpAny_pure (wpAny_pure hq)
theorem ba_exports {Q : Nat → Shared → Prop} (ho : s.heap.get? a = some (baObj b)) (hq : Q 0 s) : wpAny M A (Builtin.Bytes.exportsOf (.ref a)) Q E s := by
  unfold Builtin.Bytes.exportsOf
  refine wpAny_bind (wpAny_load ho ?_)
  exact wpAny_pure hq
theorem ba_type (ho : s.heap.get? a = some (baObj b)) : s.TypeIs (.ref a) "bytearray" := ⟨_, ho, rfl⟩
theorem ba_own_buffer {Q : Bool → Shared → Prop} (ho : s.heap.get? a = some (baObj b)) (hq : Q true s) : wpAny M A (Builtin.Bytes.slotIsOwn (.ref a) "__buffer__") Q E s := by
  unfold Builtin.Bytes.slotIsOwn
  refine wpAny_bind (wpAny_specialOf (ba_type ho) ba_look_buffer ?_)
  dsimp only
  rw [if_neg (by decide +kernel)]
  have e : "bytearray.__buffer__".dropRight ("__buffer__".length + 1) = "bytearray" := by decide +kernel
  rw [e]
  exact wpAny_isInstance (ba_type ho) ba_sub hq
theorem ba_own_release {Q : Bool → Shared → Prop} (ho : s.heap.get? a = some (baObj b)) (hq : Q false s) : wpAny M A (Builtin.Bytes.ownRelease (.ref a)) Q E s := by
  unfold Builtin.Bytes.ownRelease Builtin.Bytes.slotIsOwn
  refine wpAny_bind (wpAny_bind (wpAny_specialOf (ba_type ho) ba_look_release ?_))
  dsimp only
  rw [if_neg (by decide +kernel)]
  have e : "bytearray.__release_buffer__".dropRight ("__release_buffer__".length + 1) = "bytearray" := by decide +kernel
  rw [e]
  exact wpAny_isInstance (ba_type ho) ba_sub (wpAny_pure hq)
theorem ba_buffer {i : String} {full : Bool} {Q : Option (Array UInt8) → Shared → Prop} (ho : s.heap.get? a = some (baObj b)) (hq : Q (some b) s) : wpAny M A (Builtin.Bytes.buffer? i (.ref a) full) Q E s := by
  unfold Builtin.Bytes.buffer?
  refine wpAny_bind (wpAny_specialOf (ba_type ho) ba_look_buffer ?_)
  dsimp only
  refine wpAny_bind (ba_own_buffer ho ?_)
  rw [if_neg (by decide)]
  refine wpAny_bind (wpAny_specialOf (ba_type ho) ba_look_buffer ?_)
  try dsimp only
  refine wpAny_bind (ba_own_release ho ?_)
  rw [if_neg (by decide)]
  exact wpAny_bind (ba_payload ho (wpAny_pure hq))
theorem l_len_ba {Q : Value → Shared → Prop} (ho : h.get? a = some (baObj b)) (hz : b.size ≤ 16777216) (hq : ∀ t k', Q (.int b.size t) (sh s₀ h k')) : wpAny (model prog w) A (call (.builtin "len") [.ref a]) Q E (sh s₀ h k) := by
  have hT : (sh s₀ h k).TypeIs (.ref a) "bytearray" := ba_type ho
  refine Calls.call_function_entry kind_len plain_len entry_len (args_len1 _) ?_
  unfold Builtin.«len»
  refine wpAny_bind (m := oneArg "len" _) (wpAny_pure ?_)
  refine wpAny_bind (m := callSpecial? (.ref a) (Str.ofString "__len__")) (wpAny_callSpecial?_slot (name := Str.ofString "__len__") hT ba_slot_len (wpAny_call_entry ba_slot_len hT ba_entry_len ?_ (ba_args_len _)))
  show wpAny _ _ (Builtin.Bytes.payload (.ref a) >>= _) _ _ _
  refine wpAny_bind (ba_payload ho ?_)
  refine wpAny_bind (wpAny_mkInt (wpAny_pure ⟨_, rfl, ?_⟩))
  refine wpAny_bind (wpAny_holding (wpAny_pure ?_))
  refine wpAny_bind (wpAny_letGo ?_)
  show wpAny _ _ (if ((b.size : Nat) : Int) < 0 then _ else _) _ _ _
  rw [if_neg (by omega)]
  show wpAny _ _ (if ((b.size : Nat) : Int) ≥ 2 ^ 63 then _ else _) _ _ _
  rw [if_neg (by omega)]
  exact wpAny_bind (wpAny_mkInt (wpAny_pure ⟨_, rfl, hq _ _⟩))
theorem gm_extend_ba {pl : Sem Bool} {Q : Value × List Value → Shared → Prop} (ho : h.get? a = some (baObj b)) (hq : Q (.builtin "bytearray.extend", [.ref a]) (sh s₀ h k)) : wpAny (model prog w) A (getMethod (.ref a) "extend" pl) Q E (sh s₀ h k) :=
  getMethod_builtin (ba_type ho) ba_attrs ba_slot_extend ba_type_extend (fun x e => by cases e; exact ⟨_, ho, rfl⟩) hq
theorem key (i : String) (x : Args) (h : guardIds.contains i = true) : (Code.builtin i x).isGuard = true := h
theorem C_exported (hg : A.guards = some []) {v : Value} {Q : Bool → Shared → Prop} (hq : Q false s) : wpC M A (Builtin.Bytes.exported v) Q s := fun Γ p hΓ hC => by
  have hG : ∀ x ∈ (Γ.code, p) :: Γ.below, x.1.isGuard = false := fun x hx => by
    have h1 : guardsOf ((Γ.code, p) :: Γ.below) = [] := by rw [guardsOf_cons]; exact hΓ.2.2.2.1 [] hg
    cases e : x.1.isGuard with
    | false => rfl
    | true =>
      have : x.1 ∈ guardsOf ((Γ.code, p) :: Γ.below) := List.mem_filter.mpr ⟨List.mem_map_of_mem hx, e⟩
      rw [h1] at this; cases this
  have hD : ∀ x ∈ (Γ.code, p) :: Γ.below, isDec x.1 = false := fun x hx => by
    rcases List.mem_cons.mp hx with rfl | hx
    · exact hC.code
    · exact hC.below x hx
  show Q (List.any ((Γ.code, p) :: Γ.below) _) s
  have e : ∀ f : Code × Pos → Bool, (∀ x, x.1.isGuard = false → isDec x.1 = false → f x = false) → List.any ((Γ.code, p) :: Γ.below) f = false := fun f hf => by
    rw [List.any_eq_false]
    intro x hx
    rw [hf x (hG x hx) (hD x hx)]; decide
  rw [e]
  · exact hq
  · intro x h1 h2
    obtain ⟨c, p⟩ := x
    cases c with
    | builtin id a =>
      have n1 : id ≠ "bytearray.__contains__" := fun q => by subst q; exact absurd ((key "bytearray.__contains__" _ (by decide +kernel)).symm.trans h1) (by decide)
      have n2 : id ≠ "bytearray.__mod__" := fun q => by subst q; exact absurd ((key "bytearray.__mod__" _ (by decide +kernel)).symm.trans h1) (by decide)
      have n3 : id ≠ "bytearray.__rmod__" := fun q => by subst q; exact absurd ((key "bytearray.__rmod__" _ (by decide +kernel)).symm.trans h1) (by decide)
      have n4 : id ≠ "_struct.pack_into.held" := fun q => by subst q; exact absurd ((key "_struct.pack_into.held" _ (by decide +kernel)).symm.trans h1) (by decide)
      have n5 : id ≠ "bytearray.find.held" := fun q => by subst q; exact absurd ((key "bytearray.find.held" _ (by decide +kernel)).symm.trans h1) (by decide)
      delta Builtin.Bytes.exported.match_1
      change dite _ _ _ = false
      rw [dif_neg n1, dif_neg n2, dif_neg n3, dif_neg n4, dif_neg n5]
      cases a with
      | mk pos kw => cases pos with
        | nil => rfl
        | cons v l => exact (Bool.and_eq_false_iff).mpr (.inr h2)
    | _ => rfl
end
end
section
section
variable {prog : Program} {w : World} {M : Model} {A : Around} {E : Value → Shared → Prop} {s s₀ : Shared} {h : Heap} {k : Nat} {a : Addr} {b c : Array UInt8} {t : Tok}
theorem notDec (i : String) (x : Args) (h : Builtin.Bytes.decodersThatHold.contains i = false) : isDec (.builtin i x) = false := h
theorem codeC_builtin {i : String} {args : Args} {B : Builtin} {R : Flow → Shared → Prop} (hdec : isDec (.builtin i args) = false) (hb : entryFor table i = some B)
    (h : wpC (model prog w) (A.under (.builtin i args)) (B args) (fun fin s' => match fin with | .done f => R f s' | .again c' => c'.quiet = true ∧ codeC (model prog w) A c' R s') s) : codeC (model prog w) A (.builtin i args) R s := by
  refine codeC_of_tree hdec ?_
  show wpC _ _ (match entryFor table i with | some b => b args | none => unsupported ((withoutEnding? i "#data").getD i)) _ _
  rw [hb]; exact h
theorem codeC_call_builtin {i : String} {args : Args} {B : Builtin} {R : Flow → Shared → Prop} (hq : plainId i = true) (hdec : isDec (.builtin i args) = false) (hb : entryFor table i = some B)
    (h : wpC (model prog w) A.in1 (checkBuiltinCall i args) (fun _ s₁ => wpC (model prog w) A.in1 (B args)
      (fun fin s' => match fin with | .done f => R f s' | .again c' => c'.quiet = true ∧ codeC (model prog w) A c' R s') s₁) s) : codeC (model prog w) A (.call (.builtin i) args) R s := by
  refine codeC_of_tree rfl ?_
  show wpC _ A.in1 (do checkBuiltinCall i args; again (.builtin i args)) _ s
  refine wpC_bind (wpC_mono h fun _ s₁ h₁ => wpC_pure ⟨plainId_quiet hq _, codeC_of_tree hdec ?_⟩)
  rw [Around.under_plainId hq _]
  show wpC _ _ (match entryFor table i with | some b => b args | none => unsupported ((withoutEnding? i "#data").getD i)) _ _
  rw [hb]; exact h₁
theorem C_orM {m m' : Sem Bool} {Q : Bool → Shared → Prop} (h : wpC M A m (fun x s' => if x = true then Q true s' else wpC M A m' Q s') s) : wpC M A (m <||> m') Q s := by
  unfold orM
  refine wpC_bind (wpC_mono h fun x s' hx => ?_)
  cases x
  · exact hx
  · exact wpC_pure hx
theorem C_checkResize (hg : A.guards = some []) {Q : Unit → Shared → Prop} (ho : s.heap.get? a = some (baObj b)) (hq : Q () s) : wpC M A (Builtin.Bytes.checkResize (.ref a)) Q s := by
  unfold Builtin.Bytes.checkResize
  refine wpC_bind (C_orM (C_exported hg ?_))
  rw [if_neg (by decide)]
  refine wpC_bind (wpC_of (ba_exports ho (wpC_pure ?_)))
  rw [if_neg (by decide)]
  exact wpC_pure hq
theorem ba_write {f : Array UInt8 → Array UInt8} {Q : Unit → Shared → Prop} (ho : s.heap.get? a = some (baObj b)) (hz : (f b).size ≤ 16777216) (hq : ∀ h', h'.get? a = some (baObj (f b)) → (∀ x o, x ≠ a → s.heap.get? x = some o → h'.get? x = some o) → Q () { s with heap := h' }) : wpAny M A (Builtin.Bytes.write (.ref a) f) Q E s := by
  show wpAny _ _ (updateBytearray a f) _ _ _
  unfold updateBytearray
  refine wpAny_bind (wpAny_load ho ?_)
  show wpAny _ _ (update a (Obj.mapBytearray f) >>= fun _ => lookBehind a) _ _ _
  refine wpAny_bind (wpAny_update ho ?_)
  have h2 : (s.heap.update a (Obj.mapBytearray f)).get? a = some (baObj (f b)) := Heap.get?_update_self (Obj.mapBytearray f) ho rfl
  refine wpAny_lookBehind h2 ?_ (hq _ h2 fun x o hx e => (Heap.get?_update_other _ _ (Ne.symm hx)).trans e)
  show (if (f b).size > sizeLine then some "bytearray:memory" else none) = none
  rw [if_neg]
  rw [sizeLine_eq]; omega
theorem take_eq : Builtin.Bytes.takeBufferQuiet? "bytearray.extend" (.bytes c t) 0 = pure (some (c, none)) := by
  unfold Builtin.Bytes.takeBufferQuiet? Builtin.Bytes.takeBuffer?
  rw [KBy.special_eq KBy.look_buffer, KBy.own_buffer, show ((0 : Int) == Builtin.Bytes.fullReadOnly) = false from by decide, KBy.buffer_eq]
  rfl
theorem C_extend (hg : A.guards = some []) {Q : Value → Shared → Prop} (ho : s.heap.get? a = some (baObj b)) (hz : b.size + c.size ≤ 16777216)
    (hq : ∀ h', h'.get? a = some (baObj (b ++ c)) → (∀ x o, x ≠ a → s.heap.get? x = some o → h'.get? x = some o) → Q .none { s with heap := h' }) :
    wpC (model prog w) A (call (.builtin "bytearray.extend") [.ref a, .bytes c t]) Q s := by
  refine wpC_call (codeC_call_builtin ba_slot_extend.plain (notDec _ _ (by decide +kernel)) ba_entry_extend (wpC_of (ba_slot_extend.check _ _ _ _ _ _ _ _ (ba_type ho) (ba_args_extend _ _) ?_)))
  unfold Builtin.«bytearray.extend»
  refine wpC_bind (wpC_eqp (a := (.ref a, .bytes c t)) rfl ?_)
  dsimp only
  refine wpC_bind (wpC_eqp (KBy.special_eq KBy.look_buffer) ?_)
  refine wpC_ite ?_
  rw [if_pos (by rfl)]
  refine wpC_bind (wpC_of (wpAny_rule ?_))
  refine wpC_bind (wpC_of (ba_payload ho ?_))
  refine wpC_bind (wpC_eqp take_eq ?_)
  dsimp only
  refine wpC_ite ?_
  rw [if_pos (by rfl)]
  have fin : wpC (model prog w) A.in1 (Builtin.Bytes.write (.ref a) (· ++ c) >>= fun _ => ret .none) (fun fin s' => match fin with | .done f => (match f with | .ret v => Q v s' | _ => False) | .again c' => c'.quiet = true ∧ codeC (model prog w) A c' (fun fl s' => match fl with | .ret v => Q v s' | _ => False) s') s := by
    refine wpC_bind (wpC_of (ba_write ho (by rw [Array.size_append]; exact hz) fun h' h1 h2 => ?_))
    exact wpC_pure (hq h' h1 h2)
  show wpC _ _ (if (!c.isEmpty) = true then (Builtin.Bytes.checkResize (.ref a) >>= fun _ => (Builtin.Bytes.write (.ref a) (· ++ c) >>= fun _ => ret .none)) else (Builtin.Bytes.write (.ref a) (· ++ c) >>= fun _ => ret .none)) _ _
  refine wpC_ite ?_
  split
  · exact wpC_bind (C_checkResize (A := A.in1) hg ho fin)
  · exact fin
theorem C_init {R : Fin → Shared → Prop} (hg : A.guards = some []) (ho : s.heap.get? a = some (baObj #[]))
    (hq : ∀ h', h'.get? a = some (baObj #[]) → (∀ x o, x ≠ a → s.heap.get? x = some o → h'.get? x = some o) → R (.done (.ret .none)) { s with heap := h' }) :
    wpC (model prog w) A (Builtin.«bytearray.__init__» ⟨[.ref a], []⟩) R s := by
  unfold Builtin.«bytearray.__init__»
  dsimp only
  refine wpC_bind (wpC_of (ba_own_release ho ?_))
  refine wpC_ite ?_
  rw [if_neg (by decide)]
  refine wpC_bind (wpC_eqp (a := [none, none, none]) (by kernel_rfl) ?_)
  dsimp only
  refine wpC_bind (wpC_eqp (a := ()) rfl ?_)
  refine wpC_bind (wpC_eqp (a := ()) rfl ?_)
  refine wpC_bind (C_orM (C_exported hg ?_))
  rw [if_neg (by decide)]
  refine wpC_bind (wpC_of (ba_exports ho (wpC_pure ?_)))
  refine wpC_ite ?_
  rw [if_neg (by decide)]
  refine wpC_bind (wpC_of (ba_write (f := fun _ => #[]) ho (by decide) fun h' h1 h2 => ?_))
  exact wpC_bind (wpC_eqp (a := ()) rfl (wpC_pure (hq h' h1 h2)))
theorem ba_new {Q : Value → Shared → Prop} (hq : Q (.ref h.objs.size) (sh s₀ (h.push (baObj #[])) k)) : wpAny (model prog w) A (call (.builtin "bytearray.__new__") [.type "bytearray"]) Q E (sh s₀ h k) := by
  refine wpAny_call (codeAny_of_tree ?_)
  show wpAny _ A.in1 (do checkBuiltinCall "bytearray.__new__" ⟨[.type "bytearray"], []⟩; again (.builtin "bytearray.__new__" ⟨[.type "bytearray"], []⟩)) _ _ _
  refine wpAny_bind (wpAny_of_eq ba_newCall (wpAny_pure ⟨plainId_quiet ba_plain_new _, codeAny_builtin_stack ba_entry_new rfl fun p st => ?_⟩))
  rw [Around.under_plainId ba_plain_new _]
  have hsub := ba_sub
  have hown := ba_owner
  simp only [hown]
  show wpAny _ _ _ _ _ ⟨h, s₀.gens, s₀.drawn, k, s₀.os⟩
  wp_walk
  exact hq
theorem C_bytearray (hg : A.guards = some []) {Q : Value → Shared → Prop} (hq : ∀ h', h'.get? h.objs.size = some (baObj #[]) → (∀ x o, h.get? x = some o → h'.get? x = some o) → Q (.ref h.objs.size) (sh s₀ h' k)) :
    wpC (model prog w) A (call (.type "bytearray") []) Q (sh s₀ h k) := by
  obtain ⟨c, tl, hmro⟩ := ex2 ba_called.mro
  have hmade := ba_called.made
  refine wpC_call (codeC_of_tree rfl ?_)
  show wpC _ _ (callAny (.type "bytearray") _) _ _
  refine wpC_pure ⟨Code.quiet_builtin _ (by decide +kernel), codeC_builtin (notDec _ _ (by decide +kernel)) F.entry_type_call ?_⟩
  rw [Around.under_plain (weight_type_call_type "bytearray" [] []) rfl]
  unfold Builtin.«type.__call__»
  dsimp only
  refine wpC_ite ?_
  rw [if_neg (by decide)]
  refine wpC_ite ?_
  rw [if_neg (by rw [ba_called.canCreate]; decide)]
  refine wpC_bind (wpC_eqp ba_typeCall ?_)
  refine wpC_bind (wpC_eqp hmro ?_)
  refine wpC_ite ?_
  rw [if_neg (by simp)]
  refine wpC_bind (wpC_eqp hmade ?_)
  dsimp only
  refine wpC_bind (wpC_pure ?_)
  refine wpC_bind (wpC_holding (wpC_of (ba_new ?_)))
  have ho : (h.push (baObj #[])).get? h.objs.size = some (baObj #[]) := Heap.get?_push_size _ rfl
  have hT : (sh s₀ (h.push (baObj #[])) k).TypeIs (.ref h.objs.size) "bytearray" := ba_type ho
  refine wpC_bind (wpC_of (wpAny_isInstance hT ba_sub ?_))
  refine wpC_ite ?_
  rw [if_neg (by decide)]
  refine wpC_bind (wpC_holding ?_)
  unfold callSpecial?
  refine wpC_bind (wpC_of (wpAny_specialOf hT ba_slot_init.lookup ?_))
  dsimp only
  refine wpC_holding (wpC_bind (wpC_eqp (ba_slot_init.bind _) ?_))
  dsimp only
  refine wpC_bind (wpC_call (codeC_call_builtin ba_slot_init.plain (notDec _ _ (by decide +kernel)) ba_entry_init (wpC_of (ba_slot_init.check _ _ _ _ _ _ _ _ hT (ba_args_init _) ?_))))
  refine C_init (A := A.in1.in1) hg ho fun h' h1 h2 => ?_
  refine wpC_pure ?_
  dsimp only
  refine wpC_ite ?_
  rw [if_neg (by decide)]
  exact wpC_pure (hq h' h1 fun x o e => h2 x o (Nat.ne_of_lt (Heap.lt_size e)) (Heap.get?_push_of_some _ e))
theorem l_bytes_ba {Q : Value → Shared → Prop} (ho : h.get? a = some (baObj b)) (hz : b.size ≤ 16777216) (hq : ∀ t k', Q (.bytes b t) (sh s₀ h k')) : wpAny (model prog w) A (call (.type "bytes") [.ref a]) Q E (sh s₀ h k) := by
  have hT : (sh s₀ h k).TypeIs (.ref a) "bytearray" := ba_type ho
  refine callType_codes (Q₁ := fun obj s₁ => s₁.TypeIs obj "bytes" ∧ Q obj s₁) F.bm_called (F.bm_typeCall _) F.entry_object_init ?_ fun obj s₁ h₁ => ?_
  · refine codeAny_of_tree ?_
    show wpAny _ A.in1.in1 (do checkBuiltinCall "bytes.__new__" ⟨[.type "bytes", .ref a], []⟩; again (.builtin "bytes.__new__" ⟨[.type "bytes", .ref a], []⟩)) _ _ _
    refine wpAny_bind (wpAny_of_eq (F.bm_newCall _) (wpAny_pure ⟨plainId_quiet F.bm_plain _, codeAny_builtin F.bm_entry ?_⟩))
    rw [Around.under_plainId F.bm_plain _]
    unfold Builtin.«bytes.__new__»
    refine wpAny_bind (wpAny_of_eq (a := true) rfl ?_)
    refine bm_if_false rfl ?_
    refine wpAny_bind (wpAny_of_eq F.bm_sub ?_)
    refine bm_if_false rfl ?_
    refine wpAny_bind (wpAny_of_eq (F.bm_bind _) ?_)
    refine wpAny_bind (wpAny_of_eq (a := ()) rfl ?_)
    refine wpAny_bind (wpAny_of_eq (a := ()) rfl ?_)
    refine bm_if_false rfl ?_
    refine wpAny_bind (wpAny_specialOf hT ba_no_bytes ?_)
    refine wpAny_bind (wpAny_bind ?_)
    show wpAny _ _ (load a >>= _) _ _ _
    refine wpAny_bind (wpAny_load ho ?_)
    refine wpAny_pure (wpAny_pure ?_)
    refine bm_if_false rfl ?_
    refine wpAny_bind (wpAny_specialOf hT ba_no_index ?_)
    refine bm_if_true rfl ?_
    first
      | show wpAny _ _ (Builtin.Bytes.buffer? "bytes.__new__" (.ref a) true >>= _) _ _ _
      | (refine wpAny_bind ?_; show wpAny _ _ (Builtin.Bytes.buffer? "bytes.__new__" (.ref a) true >>= _) _ _ _)
    refine wpAny_bind (ba_buffer ho ?_)
    refine wpAny_bind (wpAny_rule ?_)
    refine wpAny_bind (wpAny_mkBytes ?_ (by rw [sizeLine_eq]; exact hz))
    show wpAny _ _ (if (Value.type "bytes" == Value.type "bytes") = true then _ else _) _ _ _
    refine bm_if_true (by decide) ?_
    first
      | exact wpAny_pure ⟨PySem.W.typeIs_bytes _ _ _, hq _ _⟩
      | exact wpAny_bind (wpAny_pure (wpAny_pure ⟨PySem.W.typeIs_bytes _ _ _, hq _ _⟩))
  · exact ⟨h₁.1, F.args_object_init_2 obj _, object_init_meets F.bm_called.init.lookup F.bm_called.made (by decide) prog w A.in1 _ s₁ ⟨h₁.1, rfl, h₁.2⟩⟩
end
end
section
section
variable {prog : Program} {w : World} {A : Around} {s₀ : Shared} {h : Heap} {k : Nat} {base g : Heap} {fs : List Env} {L : Addr} {ns : List Str} {vs : List (Option Value)} {led : List (Addr × Obj)}
theorem nc_load {α : Type} {M : Model} {A : Around} {s : Shared} {a : Addr} {p : Option Value} {f : Obj → Sem α} {o : Obj} {Q : α → Shared → Prop} (ho : s.heap.get? a = some o) (h : wpC M A (f o) Q s) : wpC M A (.load a p f) Q s := fun Γ q hΓ hC => ⟨o, ho, h Γ q hΓ hC⟩
theorem C_make {C fI : Addr} {args : List Value} {Q : Value → Shared → Prop} (S : St w base fs g L ns vs led h) (ok : COk w C fI)
    (hq : ∀ x dx h', St w base fs g L ns vs ((x, instObj C dx) :: (dx, dictOf [] 0) :: led) h' → dx = h.objs.size → h.objs.size ≤ x →
      codeC (model prog w) (A.under (.builtin "type.__call__" ⟨.ref C :: args, []⟩)) (.call (.ref fI) ⟨.ref x :: args, []⟩) (fun fl s' => match fl with | .ret v => v = .none ∧ Q (.ref x) s' | _ => False) (sh s₀ h' k)) :
    wpC (model prog w) A (call (.ref C) args) Q (sh s₀ h k) := by
  have S1 := S.alloc emptyDict rfl
  have S2 := S1.alloc (instObj C h.objs.size) rfl
  rw [Heap.size_push] at S2
  have Y := makes_of (M := model prog w) S.Xh ok.mak
  have hi := looks_findIn (M := model prog w) S.Xh ok.fi
  have hb := fun self => bind_fn (M := model prog w) S.Xh self (beq_iff_eq.mp ok.fn)
  have hnew : ∀ {A : Around} {Q : Value → Shared → Prop} {E : Value → Shared → Prop}, Q (.ref (h.objs.size + 1)) (sh s₀ ((h.push emptyDict).push (instObj C h.objs.size)) k) →
      wpAny (model prog w) A (call (.builtin "object.__new__") (.ref C :: args)) Q E (sh s₀ h k) := fun hq => wpAny_call (new_K Y hi (.inl rfl) hq)
  obtain ⟨⟨oc, od, cd, sl, hC, e1, e2, e4⟩, made, base', self, top, call', typ⟩ := Y
  have hm : Looks (model prog w) h (mroOf (.ref C)) cd.mro := ((Looks.ld (part := none) hC).andThen .now).andThen .now
  refine wpC_call (codeC_of_tree rfl ?_)
  show wpC _ _ (callAny (.ref C) _) _ _
  refine nc_load hC ?_
  show wpC _ _ (callAny.viaDunder (.ref C) _) _ _
  unfold callAny.viaDunder
  refine wpC_bind (wpC_of (call'.here ?_))
  dsimp only
  rw [tc_bind]
  refine wpC_bind (wpC_pure (wpC_bind (wpC_pure ?_)))
  refine wpC_pure (And.intro rfl ?_)
  refine codeC_of_tree rfl ?_
  show wpC _ _ (do checkBuiltinCall "type.__call__" ⟨.ref C :: args, []⟩; again (.builtin "type.__call__" ⟨.ref C :: args, []⟩)) _ _
  refine wpC_bind (wpC_of (check_slot tc_kind tc_split typ (tc_args _ _ _) (wpC_pure ⟨Code.quiet_builtin _ (by decide +kernel), codeC_builtin (notDec _ _ (by decide +kernel)) entry_typeCall ?_⟩)))
  unfold Builtin.«type.__call__»
  dsimp only
  refine wpC_ite ?_
  rw [if_neg (by intro q; have := eq_of_beq q; cases this)]
  refine wpC_bind (wpC_of (hm.here ?_))
  refine wpC_ite ?_
  rw [if_neg (by rw [e4]; decide)]
  refine wpC_bind (wpC_of (made.here ?_))
  dsimp only
  refine wpC_bind (wpC_pure ?_)
  refine wpC_bind (wpC_holding (wpC_of (hnew ?_)))
  have k2 : ∀ b o, h.get? b = some o → ((h.push emptyDict).push (instObj C h.objs.size)).get? b = some o := fun b o e => Heap.get?_push_of_some _ (Heap.get?_push_of_some _ e)
  have hx : ((h.push emptyDict).push (instObj C h.objs.size)).get? (h.objs.size + 1) = some (instObj C h.objs.size) := by heap_get
  have t1 : Looks (model prog w) ((h.push emptyDict).push (instObj C h.objs.size)) (typeOf (.ref (h.objs.size + 1))) (.ref C) := (Looks.ld hx).andThen .now
  have s1 := self.keeps k2
  have i1 := hi.keeps k2
  have b1 := (hb (.ref (h.objs.size + 1))).keeps k2
  unfold isInstance callSpecial? specialOf
  refine wpC_bind (wpC_bind (wpC_of (t1.here (wpC_of (s1.here ?_)))))
  refine wpC_ite ?_
  rw [if_neg (by decide)]
  refine wpC_bind (wpC_holding (wpC_bind (wpC_bind (wpC_of (t1.here (wpC_of (i1.here ?_)))))))
  dsimp only
  refine wpC_holding (wpC_bind (wpC_of (b1.here ?_)))
  dsimp only
  refine wpC_bind (wpC_call (codeC_mono (hq _ _ _ S2 rfl (Nat.le_succ _)) fun fl s' z => ?_))
  cases fl with
  | ret v =>
    obtain ⟨rfl, z⟩ := z
    refine wpC_pure ?_
    dsimp only
    refine wpC_ite ?_
    rw [if_neg (by decide)]
    exact wpC_pure z
  | _ => exact z
theorem AxC.make {d : Nat} {C : Addr} {args : List Value} (x : AxC prog A fs (d + 1)) : AxC prog (A.under (.builtin "type.__call__" ⟨.ref C :: args, []⟩)) fs d :=
  ⟨x.ax.make, by
    have : (Code.builtin "type.__call__" ⟨.ref C :: args, []⟩).guards = [] := by
      unfold Code.guards
      rw [if_neg (by show ¬ (guardIds.contains "type.__call__" = true); decide +kernel)]
    simp only [Around.under, this, pushGuards]
    exact x.gd⟩
end
end
section
section
variable {M : Model} {A : Around} {s : Shared} {env : Env}
theorem C_aset {x : Str} {o : Expr} {p' p : Pos} {e : Expr} {rest : List Stmt} {Q : Flow → Shared → Prop}
    (h : wpC M A (eval e env) (fun v s₁ => wpC M A (eval o env) (fun ov s₂ => wpC M A (setAttr ov x v) (fun _ s₃ => wpC M A (execs rest env) Q s₃) s₂) s₁) s)
    (hs : swapsWith e (some (Expr.Attribute o x p')) p.line env = pure false := by with_unfolding_all rfl) : wpC M A (execs (.Assign [.Attribute o x p'] e p :: rest) env) Q s := by
  refine C_execs fun Γ q hΓ hC => ?_
  simp only [plainObj_exec_Assign_Attribute o x p' e p hs, assign_Attribute, Sem.wp_bind', Sem.wp_holding, Sem.wp_cmd_standAt, Sem.wp_release, Sem.wp_pure']
  exact Sem.wp_mono M Γ _ (fun v p₁ s₁ h₁ => Sem.wp_mono M Γ _ (fun ov _ s₂ h₂ => h₂ Γ _ hΓ hC) (fun _ _ _ h' => h') _ _ (h₁ Γ p₁ hΓ hC)) (fun _ _ _ h' => h') _ _ (h Γ _ hΓ hC)
end
section
variable {prog : Program} {w : World} {A : Around} {E : Value → Shared → Prop} {s₀ : Shared} {h hc : Heap} {k : Nat} {base g g' gc : Heap} {fs fs' : List Env} {L L' : Addr} {ns ns' : List Str} {vs vs' : List (Option Value)} {led led' ledc : List (Addr × Obj)}
  {env : Env} {cl : List (Str × Addr)} {Q : Value → Shared → Prop}
theorem l_range3 {a b c : Int} {ta tb tc : Tok} (S : St w base fs g L ns vs led h) (hc : c ≠ 0) (hp : Builtin.divisionGoesByPylong (b - a) c = false)
    (hq : ∀ r h' k', h'.get? r = some { cls := .type "range", data := .fields #[.int a ta, .int b tb, .int c tc] } → St w base fs g L ns vs led h' → Q (.ref r) (sh s₀ h' k')) :
    wpAny (model prog w) A (call (.type "range") [.int a ta, .int b tb, .int c tc]) Q E (sh s₀ h k) := by
  refine call_range_3 hc ?_ (.inl hp)
  exact hq _ _ _ (Heap.get?_push_size _ rfl) (S.grown fun b o e => Heap.get?_push_of_some _ e)
theorem it_down {r : Addr} {n : Nat} {t u v : Tok} (hh : A.handled = none) (S : St w base fs g L ns vs led h) (hr : h.get? r = some { cls := .type "range", data := .fields #[.int ((n : Int) - 1) t, .int (-1) u, .int (-1) v] }) (hn : n < 2 ^ 20)
    (hq : ∀ I oI h' k', Wk prog w A g I n (fun i v => ∃ u, v = .int ((n : Int) - 1 - i) u) h' → St w base fs g L ns vs ((I, oI) :: led) h' → Q (.ref I) (sh s₀ h' k')) : wpAny (model prog w) A (pyIter (.ref r)) Q E (sh s₀ h k) := by
  have hsz : Builtin.Range.rangeSize ((n : Int) - 1) (-1) (-1) = (n : Int) := by
    unfold Builtin.Range.rangeSize
    rw [if_neg (by decide)]
    split
    · have e : ((n : Int) - 1 - -1 - 1) / (- -1) = (n : Int) - 1 := by rw [show (- (-1 : Int)) = 1 by decide, Int.ediv_one]; omega
      rw [e]; omega
    · omega
  have hsm : Builtin.Range.small ((n : Int) - 1) (-1) (-1) = true := by
    unfold Builtin.Range.small
    rw [hsz]
    simp [Builtin.Range.rangeFitsLong]
    omega
  refine wpAny_pyIter_range hr hsm ?_
  have S1 := S.alloc { cls := .type "range_iterator", data := .fields #[rawInt ((n : Int) - 1), rawInt (Builtin.Range.rangeSize ((n : Int) - 1) (-1) (-1)), rawInt (-1)] } rfl
  have W := Walks.range (prog := prog) (w := w) hh h.objs.size ((n : Int) - 1) (-1) n
  have W' : Walks prog w A h.objs.size [h.objs.size] [h.objs.size] n (fun i v => ∃ u, v = .int ((n : Int) - 1 - i) u) _ := ⟨W.sub, W.frame, fun i s Q E hi st hQ => W.item i s Q E hi st fun v h' tk hp => hQ v h' tk (by
    obtain ⟨u, rfl⟩ := hp
    exact ⟨u, by congr 1; omega⟩), W.done, W.self⟩
  refine hq _ _ _ _ ⟨_, _, W', ?_, ?_, fun b hb => .inl (List.mem_singleton.mp hb)⟩ S1
  · rintro j h ho; exact ⟨_, ho⟩
  · show IsRangeIter _ _ _ _ _
    rw [hsz]
    have e := Heap.get?_push_size h (o := { cls := .type "range_iterator", data := .fields #[rawInt ((n : Int) - 1), rawInt (n : Int), rawInt (-1)] }) rfl
    simp only [IsRangeIter, Int.sub_zero, Int.natCast_zero, Int.zero_mul, Int.add_zero]
    exact e
theorem ints_byteArr {ls : List Int} (hr : ∀ n ∈ ls, 0 ≤ n ∧ n < 256) : KBw.bInts (byteArr ls) = ls := by
  unfold byteArr KBw.bInts
  simp only [List.map_map]
  conv => rhs; rw [← List.map_id ls]
  apply List.map_congr_left
  intro n hn
  have := hr n hn
  simp only [Function.comp, _root_.id]
  have h1 : n.toNat < 256 := by omega
  rw [show (n.toNat.toUInt8).toNat = n.toNat from by simp [Nat.toUInt8, UInt8.toNat_ofNat']; omega]
  omega
theorem l_bytes_list {l : Addr} {o : Obj} {xs : List Value} {ls : List Int} (hh : A.handled = none) (S : St w base fs g L ns vs led h) (ho : h.get? l = some o) (hl : LO o xs) (hi : IntsAre xs ls) (hr : ∀ n ∈ ls, 0 ≤ n ∧ n < 256) (hz : ls.length ≤ 16777216)
    (hq : ∀ b t h' k', KBw.bInts b = ls → St w base fs g L ns vs led h' → Q (.bytes b t) (sh s₀ h' k')) : wpAny (model prog w) A (call (.type "bytes") [.ref l]) Q E (sh s₀ h k) := by
  refine call_bytes_ints (hl.isList ho) hi hr (by rw [hi.length, sizeLine_eq]; exact hz) hh fun h' t k hk => ?_
  exact hq _ _ _ _ (ints_byteArr hr) (S.grown hk)
end
end
section
section
variable {M : Model} {A : Around} {s : Shared} {env : Env}
theorem C_iset {o i : Expr} {p' p : Pos} {e : Expr} {rest : List Stmt} {Q : Flow → Shared → Prop}
    (h : wpC M A (eval e env) (fun v s₁ => wpC M A (eval o env) (fun ov s₂ => wpC M A (eval i env) (fun iv s₃ => wpC M A (setItem ov iv v) (fun _ s₄ => wpC M A (execs rest env) Q s₄) s₃) s₂) s₁) s)
    (hs : swapsWith e (some (Expr.Subscript o i p')) p.line env = pure false := by with_unfolding_all rfl) : wpC M A (execs (.Assign [.Subscript o i p'] e p :: rest) env) Q s := by
  refine C_execs fun Γ q hΓ hC => ?_
  simp only [exec_Assign_Subscript o i p' e p hs, assign_Subscript, Sem.wp_bind', Sem.wp_holding, Sem.wp_cmd_standAt, Sem.wp_release, Sem.wp_pure']
  exact Sem.wp_mono M Γ _ (fun v p₁ s₁ h₁ => Sem.wp_mono M Γ _ (fun ov p₂ s₂ h₂ => Sem.wp_mono M Γ _ (fun iv _ s₃ h₃ => h₃ Γ _ hΓ hC) (fun _ _ _ h' => h') _ _ (h₂ Γ p₂ hΓ hC)) (fun _ _ _ h' => h') _ _ (h₁ Γ p₁ hΓ hC)) (fun _ _ _ h' => h') _ _ (h Γ _ hΓ hC)
end
end
local macro_rules | `(tactic| walk_at "goC1") => `(tactic| first
  | (with_reducible first | refine ret_v ?_ | refine ret_n ?_ | refine cseq_next ?_ | refine cseq_ret ?_ | refine C_nil ?_ | refine C_ret ?_ | refine C_asg ?_ | refine C_aset ?_ | refine C_iset ?_ | refine C_if ?_ | refine C_expr (EnvOk.kind (by assumption)) ?_ | refine C_name ?_ | refine C_attr (pl := _) ?_ | refine C_bi ?_ | refine C_ty ?_ | refine C_ty0 ?_ | refine C_sp ?_ | refine C_sp_nil ?_ | refine C_app0 ?_ | refine C_app1 ?_ | refine wpC_of (t := PySem.isTrue _ _ _) ?_ | refine wpC_of (t := setAttr _ _ _) ?_ | refine wpC_of (t := setItem _ _ _) ?_ | refine wpC_of (t := getMethod _ _ _) ?_ | refine wpC_of (t := PySem.eval (.BinOp _ _ _ _) _) ?_ | refine wpC_of (t := PySem.eval (.Attribute _ _ _) _) ?_ | refine wpC_of (t := PySem.eval (.Subscript _ _ _) _) ?_ | refine wpC_of (t := PySem.eval (.Compare _ _ _ _) _) ?_ | refine wpC_of (t := PySem.eval (.IfExp _ _ _ _) _) ?_ | refine wpC_of (t := PySem.eval (.Tuple _ _ _) _) ?_ | refine wpC_of (t := PySem.eval (.List _ _) _) ?_ | refine wpC_of (t := PySem.eval (.Dict _ _ _) _) ?_)
  | (with_reducible refine C_fun ?hk ?_; (case hk => walk_at "keep"))
  | (with_reducible refine' C_fun0 ?hX ?hk ?_; (case hX => ((with_reducible rename St _ _ _ _ _ _ _ _ _ => SX); exact St.Xh SX)); (case hk => walk_at "keep"))
  | (with_reducible refine wpC_of (t := storeName _ _ _) ?_; (with_reducible refine' g_set ?k1 ?k2 ?hl ?_; (case k1 => walk_at "st"); (case k2 => walk_at "st"); (case hl => walk_at "loc"); intro _ _ _))
  | (with_reducible refine wpC_of ?_; (with_reducible refine' g_loc ?k1 ?k2 ?hl ?_; (case k1 => walk_at "st"); (case k2 => walk_at "st"); (case hl => walk_at "loc")))
  | (with_reducible refine wpC_of ?_; (with_reducible refine' g_glob ?k1 ?k2 ?k3 ?hl ?_; (case k1 => walk_at "st"); (case k2 => walk_at "st"); (case k3 => walk_at "st"); (case hl => walk_at "loc")))
  | (with_reducible refine wpC_of ?_; (with_reducible refine' g_cell ?k1 ?k2 ?k3 ?_; (case k1 => walk_at "st"); (case k2 => walk_at "st"); (case k3 => walk_at "st")))
  | (with_reducible refine wpC_of ?_; with_reducible refine c_int ?_; intro _ _)
  | (with_reducible refine wpC_of ?_; with_reducible refine c_none ?_))
local macro_rules | `(tactic| walk_at "goC") => `(tactic| repeat' first | walk_at "goC1" | walk_at "go1" | walk_at "attr")
local macro_rules | `(tactic| walk_at "lift") => `(tactic| (with_reducible refine wpC_of ?_; repeat' first | walk_at "goC1" | walk_at "go1" | walk_at "attr"))
section
theorem and_255 {x : Int} (hx : 0 ≤ x) : Builtin.bitAnd x 255 = x % 256 := by
  obtain ⟨n, rfl⟩ := Int.eq_ofNat_of_zero_le hx
  rw [bitAnd_pp (by omega) (by decide)]
  have e : ((n : Int)).toNat &&& (255 : Int).toNat = n % 256 := by
    rw [Int.toNat_natCast, show (255 : Int).toNat = 2 ^ 8 - 1 from rfl, Nat.and_two_pow_sub_one_eq_mod]
  rw [e]; omega
noncomputable def o2 (n : Int) : List Int := [n / 256, n % 256]
section
variable {prog : Program} {w : World} {A : Around} {E : Value → Shared → Prop} {s₀ : Shared} {h hc : Heap} {k : Nat} {base g g' gc : Heap} {fs fs' : List Env} {L L' : Addr} {ns ns' : List Str} {vs vs' : List (Option Value)} {led led' ledc : List (Addr × Obj)}
  {env : Env} {cl : List (Str × Addr)} {Q : Value → Shared → Prop}
theorem c_number_octets {n : Int} {tn tc : Tok} (S : St w base fs g L ns vs led h) (hA : Ax prog A fs 4) (h0 : 0 ≤ n) (h1 : n < 65536)
    (hok : ∀ b t h' k', KBw.bInts b = o2 n → St w base fs g L ns vs led h' → Q (.bytes b t) (sh s₀ h' k')) : wpAny (model prog w) A (call (.ref 172) [.int n tn, .int 2 tc]) Q E (sh s₀ h k) := by
  refine enterCC (ns' := ["count"]) (args' := [.int 2 tc]) (n := 1) (vs' := [some (.int 2 tc)]) (binds := [("number", .int n tn), ("count", .int 2 tc)]) S hA (by k_is) (by k_is) (BindsTo.of_eq rfl) rfl (fun n => ⟨.inr ⟨rfl, rfl⟩, .inl rfl, trivial⟩) [] (fun _ h => nomatch h) (by simp) (by decide +kernel) (by decide +kernel) rfl (by decide) (by decide +kernel) rfl rfl rfl rfl ?_
  intro env' L' h₁ k₁ A' E' cells he hs hA' hE hL' hcells S'
  obtain ⟨oc, HH1⟩ := CellsAre.one hcells
  obtain rfl := HH1.1
  have hoc := HH1.2
  clear HH1
  obtain ⟨g2, hg2, hc2, S2⟩ := S'.freeze
  replace S2 : St w base (env' :: fs) g2 L' ["count"] [some (.int 2 tc)] [] h₁ := S2
  replace he : EnvOk env' L' ["count"] [("number", L' + 1)] := he
  have hC : CN env' [("number", L' + 1)] g2 "number" (.int n tn) := ⟨kindOf_of hs (by decide +kernel), _, _, rfl, hc2, hoc⟩
  have hG : EnvG w env' [("bytes", .type "bytes"), ("range", .type "range"), ("TableFault", .ref 61)] := .cons (kindOf_of hs (by decide +kernel)) (G_bytes w) (.cons (kindOf_of hs (by decide +kernel)) (G_range w) (.cons (kindOf_of hs (by decide +kernel)) (G_TableFault w) .nil))
  clear hoc hcells S'
  walk_at "go"
  refine ite_f (by simp; omega) ?_
  walk_at "go"
  refine b_shr (by decide) fun t₂ k₂ => ?_
  walk_at "go"
  have e1 : n.fdiv (2 ^ (8 * (2 : Int)).toNat) = 0 := by
    rw [show (8 * (2 : Int)).toNat = 16 from rfl, Int.fdiv_eq_ediv_of_nonneg _ (by decide)]; omega
  refine ite_f (by rw [e1]; decide) ?_
  walk_at "go"
  refine ite_f rfl ?_
  walk_at "go"
  refine e_comp (closure_one rfl (by rw [he.cells]; rfl)) rfl (by decide +kernel) ?_
  walk_at "go"
  refine l_range3 S2 (by decide) (PyProof.noPylong_small (by omega)) fun r h₃ k₃ hr S₃ => ?_
  refine it_down (n := 2) hA'.hd S₃ hr (by decide) fun I oI h₄ k₄ W S₄ => ?_
  refine g_elts (fun j g' led' items => led' = [] ∧ j ≤ 2 ∧ IntsAre items ((o2 n).take j)) he W S₄ (by decide +kernel) rfl (by decide +kernel) (by omega) (fun _ _ _ _ _ _ hj => hj) ⟨rfl, by decide, .nil⟩ ?_ ?_ ?_
  · rintro j g' led' items ⟨_, hj, hi⟩
    have := hi.length
    rw [this, List.length_take]; unfold o2; simp; omega
  · rintro C cenv j v g' led' items h₅ k₅ oI' oD E'' _ hj ⟨u, rfl⟩ ⟨rfl, _, hits⟩ hg' hcs hce S₅
    have hC' := (hC.up hg').into he.kind hcs (by decide +kernel) (cl' := [("number", L' + 1)]) rfl
    walk_at "go"
    refine b_shr (by omega) fun t₆ k₆ => ?_
    walk_at "go"
    refine elt_done S₅ (stays_refl _) ⟨rfl, by omega, ?_⟩
    obtain rfl | rfl : j = 0 ∨ j = 1 := by omega
    · rw [show (8 * (((2 : Nat) : Int) - 1 - ((0 : Nat) : Int))).toNat = 8 from rfl, Int.fdiv_eq_ediv_of_nonneg _ (by decide), and_255 (by omega)]
      cases hits
      have e : n / 2 ^ 8 % 256 = n / 256 := by omega
      rw [e]
      exact .cons _ _ .nil
    · rw [show (8 * (((2 : Nat) : Int) - 1 - ((1 : Nat) : Int))).toNat = 0 from rfl, Int.fdiv_eq_ediv_of_nonneg _ (by decide), and_255 (by omega)]
      have e : n / 2 ^ 0 % 256 = n % 256 := by omega
      rw [e]
      exact ints_snoc (ns := [n / 256]) hits _ _
  · rintro g' led' items oD h₅ k₅ ⟨rfl, _, hits⟩ hlen hLO hg' S₅
    rw [List.take_of_length_le (by unfold o2; simp)] at hits
    walk_at "go"
    refine l_bytes_list hA'.hd S₅ (S₅.at_ (i := 0) rfl) hLO hits (by unfold o2; simp; omega) (by unfold o2; simp) fun b t h₆ k₆ hb S₆ => ?_
    walk_at "go"
    exact hok b t _ _ hb (S.ret0 S₆ (stays_trans (hideNil h) (stays_trans hg2 hg')))
end
structure BO (o : Obj) (ks : List Int) : Prop where
  ex : ∃ b, o = baObj b ∧ KBw.bInts b = ks
theorem BO.new : BO (baObj #[]) [] := ⟨#[], rfl, rfl⟩
structure OutIs (g : Heap) (x ba : Addr) : Prop where
  ex : Ex2 fun dx od => An3 (g.get? x = some (instObj 259 dx)) (g.get? dx = some od) (IsD od [("made", .ref ba)])
theorem OutIs.up {g g' : Heap} {x ba : Addr} (o : OutIs g x ba) (hg : g.StaysIn g') : OutIs g' x ba := let ⟨dx, od, a, b, c⟩ := o.ex; ⟨dx, od, hg _ _ a, hg _ _ b, c⟩
section
variable {prog : Program} {w : World} {A : Around} {E : Value → Shared → Prop} {s₀ : Shared} {h hc : Heap} {k : Nat} {base g g' gc : Heap} {fs fs' : List Env} {L L' : Addr} {ns ns' : List Str} {vs vs' : List (Option Value)} {led led' ledc : List (Addr × Obj)}
  {env : Env} {cl : List (Str × Addr)} {Q : Value → Shared → Prop}
theorem c_OctetsOut (S : St w base fs g L ns vs led h) (hA : AxC prog A fs 4)
    (hok : ∀ g' h' k' x ba oa, g.StaysIn g' → OutIs g' x ba → BO oa [] → St w base fs g' L ns vs ((ba, oa) :: led) h' → Q (.ref x) (sh s₀ h' k')) :
    wpC (model prog w) A (call (.ref 259) []) Q (sh s₀ h k) := by
  refine C_make S (C_OctetsOut w) fun x dx h₀ S0 hdx hxx => ?_
  obtain ⟨g1, hg1, hx, S1⟩ := S0.freeze
  refine enterD' (ns' := ["self"]) (args' := [.ref x]) (n := 1) (vs' := [some (.ref x)]) S1 (hA.make (d := 3)) (by k_is) (by k_is) (BindsTo.of_eq rfl) [(dx, dictOf [] 0)] (fun p hp => by rw [List.mem_singleton.mp hp]; exact .head _) (by simp) (by decide +kernel) (by decide +kernel) rfl (by decide) (by decide +kernel) rfl rfl rfl rfl ?_
  intro env' L' h₁ k₁ A' he hs hA' hL' S'
  have hG : EnvG w env' [("bytearray", .type "bytearray")] := .cons (kindOf_of hs (by decide +kernel)) (G_bytearray w) .nil
  have hxd : x ≠ dx := fun q => by
    have := (S1.ldg _ (.head _)).2.2
    rw [← q, hx] at this; cases this
  have hx' : (hideAll h₀ [dx]).get? x = some (instObj 259 dx) := hideAll_get _ (S1.get hx) (by simpa using hxd)
  walk_at "goC"
  refine C_bytearray hA'.gd fun h₂ hb hk => ?_
  have S₂ := S'.more hk hb (Heap.get?_none_of_le (Nat.le_refl _))
  walk_at "goC"
  refine setattr_i S₂ (S₂.get hx') (i := 1) rfl isD_new (S_OctetsOut_made w) (by decide) fun h₃ k₃ od₃ hD₃ S₃ => ?_
  dsimp only [List.set] at S₃
  walk_at "goC"
  have S4 := S1.ret1n (new := [(h₁.objs.size, baObj #[])]) (i := 0) (o' := od₃) rfl S₃ (stays_refl _) (fun p hp => hp) S₃.ndl
  obtain ⟨g2, hg2, hd2, S5⟩ := S4.freezeAt (i := 1) rfl
  exact hok g2 h₃ k₃ x _ _ (stays_trans hg1 hg2) ⟨dx, od₃, hg2 _ _ hx, hd2, hD₃⟩ .new S5
theorem c_out_u16 {n : Int} {tn : Tok} {x ba : Addr} {oa : Obj} {ks : List Int} {i : Nat} (S : St w base fs g L ns vs led h) (hA : AxC prog A fs 5) (ho : OutIs g x ba) (hi : led[i]? = some (ba, oa)) (hb : BO oa ks) (h0 : 0 ≤ n) (h1 : n < 65536) (hz : ks.length ≤ 16777210)
    (hok : ∀ h' k' oa', BO oa' (ks ++ o2 n) → St w base fs g L ns vs (led.set i (ba, oa')) h' → Q .none (sh s₀ h' k')) : wpC (model prog w) A (call (.ref 200) [.ref x, .int n tn]) Q (sh s₀ h k) := by
  obtain ⟨dx, od, hx, hdx, hD⟩ := ho.ex
  obtain ⟨b, HH1⟩ := hb.ex
  obtain rfl := HH1.1
  have hbk := HH1.2
  clear HH1
  refine enterD (ns' := ["self", "number"]) (args' := [.ref x, .int n tn]) (n := 2) (vs' := [some (.ref x), some (.int n tn)]) S hA (by k_is) (by k_is) (BindsTo.of_eq rfl) [(ba, baObj b)] (foot1 hi) (by simp) (by decide +kernel) (by decide +kernel) rfl (by decide) (by decide +kernel) rfl rfl rfl rfl ?_
  intro env' L' h₁ k₁ A' he hs hA' hL' S'
  have hG : EnvG w env' [("number_octets", .ref 172)] := .cons (kindOf_of hs (by decide +kernel)) (G_number_octets w) .nil
  have hx' : (hideAll h (List.map (fun x => x.1) [(ba, baObj b)])).get? x = some (instObj 259 dx) := S.below1 hi hx
  have hdx' : (hideAll h (List.map (fun x => x.1) [(ba, baObj b)])).get? dx = some od := S.below1 hi hdx
  walk_at "goC"
  refine gm_extend_ba (S'.at_ (i := 0) rfl) ?_
  walk_at "goC"
  refine wpC_of (c_number_octets S' (hA'.ax.less (by decide)) h0 h1 fun c tc h₂ k₂ hc S₂ => ?_)
  walk_at "goC"
  have hbl : b.size = ks.length := by rw [← KBw.ints_length, hbk]
  have hcl : c.size = 2 := by rw [← KBw.ints_length, hc]; rfl
  refine C_extend hA'.gd (S₂.at_ (i := 0) rfl) (by omega) fun h₃ hb₃ hk₃ => ⟨rfl, ?_⟩
  have S₃ := S₂.turnedX (i := 0) (h' := h₃) rfl (fun b ob hb e => hk₃ b ob hb e) hb₃
  walk_at "goC"
  exact hok _ _ _ ⟨_, rfl, KBw.ints_app hbk hc⟩ (S.ret1 hi S₃ (stays_refl _) (.head _))
end
noncomputable def o2s (ms : List Int) : List Int := ms.flatMap o2
theorem o2s_snoc (ms : List Int) (n : Int) : o2s (ms ++ [n]) = o2s ms ++ o2 n := by unfold o2s; simp
theorem o2s_len (ms : List Int) : (o2s ms).length = 2 * ms.length := by
  induction ms with
  | nil => rfl
  | cons a ms ih => show (o2 a ++ o2s ms).length = _; rw [List.length_append, ih]; simp [o2]; omega
section
variable {prog : Program} {w : World} {A : Around} {E : Value → Shared → Prop} {s₀ : Shared} {h hc : Heap} {k : Nat} {base g g' gc : Heap} {fs fs' : List Env} {L L' : Addr} {ns ns' : List Str} {vs vs' : List (Option Value)} {led led' ledc : List (Addr × Obj)}
  {env : Env} {cl : List (Str × Addr)} {Q : Value → Shared → Prop}
noncomputable abbrev JJ39_14 (x : Addr) (ba : Addr) (l : Addr) (ks : List Int) (ms : List Int) : Nat → Heap → List (Option Value) → List (Addr × Obj) → Prop :=
  fun j g' vs' led' => Ex2 fun v oa' => An3 (vs' = [some (.ref x), some (.ref l), v]) (led' = [(ba, oa')]) (BO oa' (ks ++ o2s (ms.take j)))
theorem c_out_rows {x ba l : Addr} {oa ol : Obj} {ks ms : List Int} {xs : List Value} {i : Nat} (S : St w base fs g L ns vs led h) (hA : AxC prog A fs 6) (ho : OutIs g x ba) (hi : led[i]? = some (ba, oa)) (hb : BO oa ks) (hl : g.get? l = some ol) (hlo : LO ol xs) (hxs : IntsAre xs ms)
    (hr : ∀ n ∈ ms, 0 ≤ n ∧ n < 65536) (hz : ks.length + 2 * ms.length ≤ 16777000)
    (hok : ∀ h' k' oa', BO oa' (ks ++ o2s ms) → St w base fs g L ns vs (led.set i (ba, oa')) h' → Q .none (sh s₀ h' k')) : wpC (model prog w) A (call (.ref 235) [.ref x, .ref l]) Q (sh s₀ h k) := by
  obtain ⟨dx, od, hx, hdx, hD⟩ := ho.ex
  refine enterD (ns' := ["self", "numbers", "number"]) (args' := [.ref x, .ref l]) (n := 2) (vs' := [some (.ref x), some (.ref l), none]) S hA (by k_is) (by k_is) (BindsTo.of_eq rfl) [(ba, oa)] (foot1 hi) (by simp) (by decide +kernel) (by decide +kernel) rfl (by decide) (by decide +kernel) rfl rfl rfl rfl ?_
  intro env' L' h₁ k₁ A' he hs hA' hL' S'
  have hx' : (hideAll h (List.map (fun x => x.1) [(ba, oa)])).get? x = some (instObj 259 dx) := S.below1 hi hx
  have hdx' : (hideAll h (List.map (fun x => x.1) [(ba, oa)])).get? dx = some od := S.below1 hi hdx
  have hl' : (hideAll h (List.map (fun x => x.1) [(ba, oa)])).get? l = some ol := S.below1 hi hl
  have hxl := hxs.length
  refine C_for ?_
  walk_at "goC"
  refine wpC_of (it_list hA'.ax.hd S' hl' hlo fun I oI h₂ k₂ W S₂ => ?_)
  refine C_loop 2 (JJ39_14 x ba l ks ms) he rfl W S₂ ⟨none, oa, rfl, rfl, by simpa [o2s] using hb⟩ ?_ ?_
  · rintro j v g' vs' led' h₃ k₃ oI' hj hv ⟨v0, oa', rfl, rfl, hb'⟩ hg S₃
    dsimp only [List.set] at S₃
    obtain ⟨n, hn⟩ : ∃ n, ms[j]? = some n := ⟨_, List.getElem?_eq_getElem (by omega)⟩
    obtain ⟨tn, htn⟩ := ints_get hxs hn
    rw [hv] at htn; cases htn
    have hrn := hr n (List.mem_of_getElem? hn)
    have hx3 := hg _ _ hx'
    have hdx3 := hg _ _ hdx'
    have hln : (ks ++ o2s (ms.take j)).length ≤ 16777210 := by rw [List.length_append, o2s_len, List.length_take]; omega
    walk_at "goC"
    refine c_out_u16 (i := 1) S₃ (hA'.less (by decide)) ⟨dx, od, hx3, hdx3, hD⟩ rfl hb' hrn.1 hrn.2 hln fun h₄ k₄ oa₄ hb₄ S₄ => ⟨rfl, ?_⟩
    dsimp only [List.set] at S₄
    walk_at "goC"
    refine turn_next S₄ (stays_refl _) ⟨_, oa₄, rfl, rfl, ?_⟩
    rw [take_snoc hn, o2s_snoc, ← List.append_assoc]; exact hb₄
  · rintro g' vs' led' h₃ k₃ ⟨v0, oa', rfl, rfl, hb'⟩ hg S₃
    rw [hxl, List.take_length] at hb'
    walk_at "goC"
    exact hok _ _ _ hb' (S.ret1 hi S₃ hg (.head _))
theorem c_out_add {x ba : Addr} {oa : Obj} {ks ls : List Int} {c : Array UInt8} {tc : Tok} {i : Nat} (S : St w base fs g L ns vs led h) (hA : AxC prog A fs 1) (ho : OutIs g x ba) (hi : led[i]? = some (ba, oa)) (hb : BO oa ks) (hc : KBw.bInts c = ls) (hz : ks.length + ls.length ≤ 16777000)
    (hok : ∀ h' k' oa', BO oa' (ks ++ ls) → St w base fs g L ns vs (led.set i (ba, oa')) h' → Q .none (sh s₀ h' k')) : wpC (model prog w) A (call (.ref 242) [.ref x, .bytes c tc]) Q (sh s₀ h k) := by
  obtain ⟨dx, od, hx, hdx, hD⟩ := ho.ex
  obtain ⟨b, HH1⟩ := hb.ex
  obtain rfl := HH1.1
  have hbk := HH1.2
  clear HH1
  refine enterD (ns' := ["self", "octets"]) (args' := [.ref x, .bytes c tc]) (n := 2) (vs' := [some (.ref x), some (.bytes c tc)]) S hA (by k_is) (by k_is) (BindsTo.of_eq rfl) [(ba, baObj b)] (foot1 hi) (by simp) (by decide +kernel) (by decide +kernel) rfl (by decide) (by decide +kernel) rfl rfl rfl rfl ?_
  intro env' L' h₁ k₁ A' he hs hA' hL' S'
  have hx' : (hideAll h (List.map (fun x => x.1) [(ba, baObj b)])).get? x = some (instObj 259 dx) := S.below1 hi hx
  have hdx' : (hideAll h (List.map (fun x => x.1) [(ba, baObj b)])).get? dx = some od := S.below1 hi hdx
  have hbl : b.size = ks.length := by rw [← KBw.ints_length, hbk]
  have hcl : c.size = ls.length := by rw [← KBw.ints_length, hc]
  walk_at "goC"
  refine gm_extend_ba (S'.at_ (i := 0) rfl) ?_
  walk_at "goC"
  refine C_extend hA'.gd (S'.at_ (i := 0) rfl) (by omega) fun h₃ hb₃ hk₃ => ⟨rfl, ?_⟩
  have S₃ := S'.turnedX (i := 0) (h' := h₃) rfl (fun b ob hb e => hk₃ b ob hb e) hb₃
  walk_at "goC"
  exact hok _ _ _ ⟨_, rfl, KBw.ints_app hbk hc⟩ (S.ret1 hi S₃ (stays_refl _) (.head _))
theorem c_out_octets {x ba : Addr} {oa : Obj} {ks : List Int} {i : Nat} (S : St w base fs g L ns vs led h) (hA : Ax prog A fs 1) (ho : OutIs g x ba) (hi : led[i]? = some (ba, oa)) (hb : BO oa ks) (hz : ks.length ≤ 16777000)
    (hok : ∀ c t h' k', KBw.bInts c = ks → St w base fs g L ns vs led h' → Q (.bytes c t) (sh s₀ h' k')) : wpAny (model prog w) A (call (.ref 256) [.ref x]) Q E (sh s₀ h k) := by
  obtain ⟨dx, od, hx, hdx, hD⟩ := ho.ex
  obtain ⟨b, HH1⟩ := hb.ex
  obtain rfl := HH1.1
  have hbk := HH1.2
  clear HH1
  refine enter (ns' := ["self"]) (args' := [.ref x]) (n := 1) (vs' := [some (.ref x)]) S hA (by k_is) (by k_is) (BindsTo.of_eq rfl) [] (fun _ h => nomatch h) (by simp) (by decide +kernel) (by decide +kernel) rfl (by decide) (by decide +kernel) rfl rfl rfl rfl ?_
  intro env' L' h₁ k₁ A' E' he hs hA' hE hL' S'
  have hG : EnvG w env' [("bytes", .type "bytes")] := .cons (kindOf_of hs (by decide +kernel)) (G_bytes w) .nil
  have hx' : (hideAll h (List.map (fun x : Addr × Obj => x.1) [])).get? x = some (instObj 259 dx) := hideNil h _ _ (S.get hx)
  have hdx' : (hideAll h (List.map (fun x : Addr × Obj => x.1) [])).get? dx = some od := hideNil h _ _ (S.get hdx)
  have hb' : (hideAll h (List.map (fun x : Addr × Obj => x.1) [])).get? ba = some (baObj b) := hideNil h _ _ (S.at_ hi)
  have hbl : b.size = ks.length := by rw [← KBw.ints_length, hbk]
  walk_at "go"
  refine l_bytes_ba (S'.get hb') (by omega) fun t₂ k₂ => ?_
  walk_at "go"
  exact hok _ _ _ _ hbk (S.ret0 S' (hideNil h))
theorem c_put_counted {x ba l : Addr} {oa ol : Obj} {ks ms : List Int} {xs : List Value} {i : Nat} (S : St w base fs g L ns vs led h) (hA : AxC prog A fs 7) (ho : OutIs g x ba) (hi : led[i]? = some (ba, oa)) (hb : BO oa ks) (hl : g.get? l = some ol) (hlo : LO ol xs) (hxs : IntsAre xs ms)
    (hr : ∀ n ∈ ms, 0 ≤ n ∧ n < 65536) (hm : ms.length < 65536) (hz : ks.length + 2 * ms.length ≤ 16776000)
    (hok : ∀ h' k' oa', BO oa' (ks ++ o2 ms.length ++ o2s ms) → St w base fs g L ns vs (led.set i (ba, oa')) h' → Q .none (sh s₀ h' k')) : wpC (model prog w) A (call (.ref 392) [.ref x, .ref l]) Q (sh s₀ h k) := by
  obtain ⟨dx, od, hx, hdx, hD⟩ := ho.ex
  refine enterD (ns' := ["out", "row"]) (args' := [.ref x, .ref l]) (n := 2) (vs' := [some (.ref x), some (.ref l)]) S hA (by k_is) (by k_is) (BindsTo.of_eq rfl) [(ba, oa)] (foot1 hi) (by simp) (by decide +kernel) (by decide +kernel) rfl (by decide) (by decide +kernel) rfl rfl rfl rfl ?_
  intro env' L' h₁ k₁ A' he hs hA' hL' S'
  have hG : EnvG w env' [("len", .builtin "len")] := .cons (kindOf_of hs (by decide +kernel)) (G_len w) .nil
  have hx' : (hideAll h (List.map (fun x => x.1) [(ba, oa)])).get? x = some (instObj 259 dx) := S.below1 hi hx
  have hdx' : (hideAll h (List.map (fun x => x.1) [(ba, oa)])).get? dx = some od := S.below1 hi hdx
  have hl' : (hideAll h (List.map (fun x => x.1) [(ba, oa)])).get? l = some ol := S.below1 hi hl
  have hxl := hxs.length
  walk_at "goC"
  refine wpC_of (l_len_list (S'.get hl') hlo (by omega) fun t₂ k₂ => ?_)
  rw [hxl]
  walk_at "goC"
  refine c_out_u16 (i := 0) S' (hA'.less (by decide)) ⟨dx, od, hx', hdx', hD⟩ rfl hb (by omega) (by omega) (by omega) fun h₃ k₃ oa₃ hb₃ S₃ => ⟨rfl, ?_⟩
  dsimp only [List.set] at S₃
  walk_at "goC"
  refine c_out_rows (i := 0) S₃ (hA'.less (by decide)) ⟨dx, od, hx', hdx', hD⟩ rfl hb₃ hl' hlo hxs hr (by rw [List.length_append]; simp [o2]; omega) fun h₄ k₄ oa₄ hb₄ S₄ => ⟨rfl, ?_⟩
  dsimp only [List.set] at S₄
  walk_at "goC"
  exact hok _ _ _ hb₄ (S.ret1 hi S₄ (stays_refl _) (.head _))
end
section
variable {prog : Program} {w : World} {A : Around} {E : Value → Shared → Prop} {s₀ : Shared} {h hc : Heap} {k : Nat} {base g g' gc : Heap} {fs fs' : List Env} {L L' : Addr} {ns ns' : List Str} {vs vs' : List (Option Value)} {led led' ledc : List (Addr × Obj)}
  {env : Env} {cl : List (Str × Addr)} {Q : Value → Shared → Prop}
theorem set_list {l : Addr} {o : Obj} {xs : List Value} {j i : Nat} {t : Tok} {v : Value} {Q : Unit → Shared → Prop} (S : St w base fs g L ns vs led h) (hi : led[i]? = some (l, o)) (hl : LO o xs) (hz : xs.length ≤ 16777216) (hj : j < xs.length)
    (hq : ∀ h' o', LO o' (xs.set j v) → St w base fs g L ns vs (led.set i (l, o')) h' → Q () (sh s₀ h' k)) : wpAny (model prog w) A (setItem (.ref l) (.int j t) v) Q E (sh s₀ h k) := by
  have ho := S.at_ hi
  obtain ⟨n, rfl⟩ := hl.ex
  have hL : (sh s₀ h k).heap.IsList l xs.toArray := LO.isList ⟨n, rfl⟩ ho
  obtain ⟨kk, hkk⟩ : ∃ kk : Int, kk = (j : Int) := ⟨_, rfl⟩
  rw [← hkk]
  unfold setItem
  try with_reducible refine wpAny_holding ?_
  first | refine wpAny_bind (wpAny_pure ?_) | skip
  refine wpAny_bind (wpAny_sequenceKey hL.typeIs (by decide) ?_)
  refine wpAny_bind (wpAny_callSpecial?_slot (name := Str.ofString "__setitem__") hL.typeIs slot_list_setitem
    (wpAny_call_entry slot_list_setitem hL.typeIs entry_list_setitem ?_ (args_list_setitem _ _ _)))
  show wpAny _ _ (Builtin.List.listSubscript? (.int kk t) >>= _) _ _ _
  refine wpAny_bind (wpAny_listSubscript_int (fitsIndex_of (by omega) (by omega)) ?_)
  subst hkk
  have hx' : xs.toArray[j]? = some xs[j] := by rw [List.getElem?_toArray]; exact List.getElem?_eq_getElem hj
  show wpAny _ _ ((seqItemAt l j >>= fun r => pure (r.map (j, ·))) >>= _) _ _ _
  refine wpAny_bind (wpAny_bind (wpAny_seqItemAt ho rfl (wpAny_pure ?_)))
  rw [hx']
  show wpAny _ _ (setSeqItemAt l j v >>= _) _ _ _
  refine wpAny_bind (wpAny_setSeqItemAt ho rfl ?_)
  have ho' : ∃ n', (h.update l (Obj.mapSeq (·.setIfInBounds j v))).get? l = some { cls := .type "list", dict := none, data := .seq (xs.set j v).toArray n', slots := #[] } := by
    have := Heap.get?_update_self (Obj.mapSeq (·.setIfInBounds j v)) ho rfl
    rw [this]
    simp [Obj.mapSeq]
  obtain ⟨n', ho'⟩ := ho'
  have hf := hq _ _ ⟨n', rfl⟩ (S.turned hi (Heap.SameBut.update ..) ho')
  first
    | exact wpAny_bind (wpAny_pure (wpAny_pure ⟨.none, rfl, wpAny_pure hf⟩))
    | exact wpAny_pure ⟨.none, rfl, wpAny_pure hf⟩
theorem set_last {l : Addr} {o : Obj} {xs : List Value} {u : Value} {i : Nat} {t : Tok} {v : Value} {Q : Unit → Shared → Prop} (S : St w base fs g L ns vs led h) (hi : led[i]? = some (l, o)) (hl : LO o (xs ++ [u])) (hz : xs.length ≤ 16777215)
    (hq : ∀ h' o', LO o' (xs ++ [v]) → St w base fs g L ns vs (led.set i (l, o')) h' → Q () (sh s₀ h' k)) : wpAny (model prog w) A (setItem (.ref l) (.int (-1) t) v) Q E (sh s₀ h k) := by
  have ho := S.at_ hi
  obtain ⟨n, rfl⟩ := hl.ex
  have hL : (sh s₀ h k).heap.IsList l (xs ++ [u]).toArray := LO.isList ⟨n, rfl⟩ ho
  unfold setItem
  try with_reducible refine wpAny_holding ?_
  first | refine wpAny_bind (wpAny_pure ?_) | skip
  refine wpAny_bind (wpAny_sequenceKey hL.typeIs (by decide) ?_)
  refine wpAny_bind (wpAny_callSpecial?_slot (name := Str.ofString "__setitem__") hL.typeIs slot_list_setitem
    (wpAny_call_entry slot_list_setitem hL.typeIs entry_list_setitem ?_ (args_list_setitem _ _ _)))
  show wpAny _ _ (Builtin.List.listSubscript? (.int (-1) t) >>= _) _ _ _
  refine wpAny_bind (wpAny_listSubscript_int (fitsIndex_neg (by decide) (by decide)) ?_)
  show wpAny _ _ ((Builtin.List.listItems (.ref l) >>= fun ys => pure ((seqIndex? (-1) ys.size).bind fun i => ys[i]?.map (i, ·))) >>= _) _ _ _
  refine wpAny_bind (wpAny_bind ?_)
  show wpAny _ _ (seqItems? (.ref l) >>= _) _ _ _
  refine wpAny_bind (wpAny_seqItems ho rfl (wpAny_pure (wpAny_pure ?_)))
  rw [seqIndex_neg (by decide) (by simp; omega)]
  have e1 : ((-1 : Int) + ((xs ++ [u]).toArray.size : Nat)).toNat = xs.length := by simp; omega
  rw [e1]
  have hx' : (xs ++ [u]).toArray[xs.length]? = some u := by simp
  simp only [Option.bind_some, hx', Option.map_some]
  show wpAny _ _ (setSeqItemAt l xs.length v >>= _) _ _ _
  refine wpAny_bind (wpAny_setSeqItemAt ho rfl ?_)
  have ho' : ∃ n', (h.update l (Obj.mapSeq (·.setIfInBounds xs.length v))).get? l = some { cls := .type "list", dict := none, data := .seq (xs ++ [v]).toArray n', slots := #[] } := by
    have := Heap.get?_update_self (Obj.mapSeq (·.setIfInBounds xs.length v)) ho rfl
    rw [this]
    simp [Obj.mapSeq]
  obtain ⟨n', ho'⟩ := ho'
  have hf := hq _ _ ⟨n', rfl⟩ (S.turned hi (Heap.SameBut.update ..) ho')
  first
    | exact wpAny_bind (wpAny_pure (wpAny_pure ⟨.none, rfl, wpAny_pure hf⟩))
    | exact wpAny_pure ⟨.none, rfl, wpAny_pure hf⟩
end
theorem stored_keys {kvs : List (Int × Value)} {x : Int} {v : Value} : (∀ y, y ∈ (stored kvs x v).map (·.1) ↔ y ∈ kvs.map (·.1) ∨ y = x) ∧ (stored kvs x v).length ≤ kvs.length + 1 := by
  unfold stored
  split
  · rename_i hc
    obtain ⟨p, HH1⟩ := List.any_eq_true.mp hc
    have hp := HH1.1
    have hpx := HH1.2
    clear HH1
    have hpx : p.1 = x := by simpa using hpx
    have e : (kvs.map fun kv => if kv.1 = x then (kv.1, v) else kv).map (·.1) = kvs.map (·.1) := by
      rw [List.map_map]; apply List.map_congr_left; intro q _; simp only [Function.comp]; split <;> rfl
    refine ⟨fun y => ?_, by simp⟩
    rw [e]
    refine ⟨Or.inl, fun hy => hy.elim id fun hy => ?_⟩
    rw [hy, ← hpx]; exact List.mem_map_of_mem hp
  · refine ⟨fun y => ?_, by simp⟩
    rw [List.map_append, List.mem_append]
    simp
structure SetOf (gl ms : List Int) : Prop where
  asc : gl.Pairwise (· < ·)
  mem : ∀ x, x ∈ gl ↔ x ∈ ms
  len : gl.length ≤ ms.length
section
variable {prog : Program} {w : World} {A : Around} {E : Value → Shared → Prop} {s₀ : Shared} {h hc : Heap} {k : Nat} {base g g' gc : Heap} {fs fs' : List Env} {L L' : Addr} {ns ns' : List Str} {vs vs' : List (Option Value)} {led led' ledc : List (Addr × Obj)}
  {env : Env} {cl : List (Str × Addr)} {Q : Value → Shared → Prop}
noncomputable abbrev JJ39_15 (prog : Program) (w : World) (l : Addr) (ms : List Int) (d : Addr) : Nat → Heap → List (Option Value) → List (Addr × Obj) → Prop :=
  fun j g' vs' led' => Ex3 fun (kvs : List (Int × Value)) (o' : Obj) (v1 : Option Value) => An5 (vs' = [some (.ref l), some (.ref d), v1]) (led' = [(d, o')]) (o'.IsDictOf (intKind prog w) kvs) ((∀ y, y ∈ kvs.map (·.1) ↔ y ∈ ms.take j)) (kvs.length ≤ j)
theorem c_coverage_of {l : Addr} {lo : Obj} {xs : List Value} {ms : List Int} (S : St w base fs g L ns vs led h) (hA : Ax prog A fs 4) (hl : g.get? l = some lo) (hlo : LO lo xs) (hxs : IntsAre xs ms) (hz : ms.length < 64)
    (hok : ∀ g' h' k' v gl, g.StaysIn g' → SetOf gl ms → CovIs h.objs.size g' v gl → St w base fs g' L ns vs led h' → Q v (sh s₀ h' k')) :
    wpAny (model prog w) A (call (.ref 320) [.ref l]) Q E (sh s₀ h k) := by
  refine enter (ns' := ["glyphs", "found", "glyph"]) (args' := [.ref l]) (n := 1) (vs' := [some (.ref l), none, none]) S hA (by k_is) (by k_is) (BindsTo.of_eq rfl) [] (fun _ h => nomatch h) (by simp) (by decide +kernel) (by decide +kernel) rfl (by decide) (by decide +kernel) rfl rfl rfl rfl ?_
  intro env' L' h₁ k₁ A' E' he hs hA' hE hL' S'
  have hG : EnvG w env' [("tuple", .type "tuple"), ("sorted", .builtin "sorted"), ("Coverage", .ref 309)] := .cons (kindOf_of hs (by decide +kernel)) (G_tuple w) (.cons (kindOf_of hs (by decide +kernel)) (G_sorted w) (.cons (kindOf_of hs (by decide +kernel)) (G_Coverage w) .nil))
  have hl' : (hideAll h (List.map (fun x : Addr × Obj => x.1) [])).get? l = some lo := hideNil h _ _ (S.get hl)
  have hxl := hxs.length
  walk_at "go"
  refine g_dict (knd := intKind prog w) S' fun d o h₂ hd _ hLd _ S₂ => ?_
  walk_at "go"
  rename St _ _ _ _ _ _ _ _ _ => S₃
  refine x_for ?_
  walk_at "go"
  refine it_list hA'.hd S₃ hl' hlo fun I oI h₄ k₄ W S₄ => ?_
  refine f_loop 2 (JJ39_15 prog w l ms d)
    he hE.pass rfl W S₄ ⟨[], _, none, rfl, rfl, hd, fun y => by simp, by decide⟩ ?_ ?_
  · rintro j v g' vs' led' h₇ k₇ oI' hj hv ⟨kvs, o', v1, rfl, rfl, hdo, hks, hkl⟩ hg S₇
    dsimp only [List.set] at S₇
    obtain ⟨a, ha⟩ : ∃ a, ms[j]? = some a := ⟨_, List.getElem?_eq_getElem (by omega)⟩
    obtain ⟨ta, hta⟩ := ints_get hxs ha
    rw [hv] at hta; cases hta
    walk_at "go"
    refine d_set (i := 1) S₇ rfl hdo (intKind_is _ _ _ _) (by omega) fun h₈ k₈ o₈ hdo₈ S₈ => ?_
    dsimp only [List.set] at S₈
    walk_at "go"
    refine turn_next S₈ (stays_refl _) ⟨_, o₈, _, rfl, rfl, hdo₈, fun y => ?_, ?_⟩
    · rw [stored_keys.1, hks, take_snoc ha, List.mem_append]; simp
    · have := (stored_keys (kvs := kvs) (x := a) (v := .bool true)).2; omega
  · rintro g' vs' led' h₇ k₇ ⟨kvs, o', v1, rfl, rfl, hdo, hks, hkl⟩ hg S₇
    rw [hxl] at hkl
    rw [hxl, List.take_length] at hks
    walk_at "go"
    refine d_sorted hA'.hd S₇ (S₇.at_ (i := 0) rfl) hdo (Nat.lt_trans S'.mods hLd) (by omega) fun l₈ lo₈ h₈ k₈ ys ks hlo₈ hys hperm hsort S₈ => ?_
    have hyl := hys.length
    have hpl := hperm.length_eq
    rw [List.length_map] at hpl
    walk_at "go"
    refine m_tuple S₈ (S₈.at_ (i := 0) rfl) hlo₈ (by omega) fun t ot h₉ hT htn htL hst₉ S₉ => ?_
    obtain ⟨g₉, hg₉, ht₉, S₁₀⟩ := S₉.freeze
    walk_at "go"
    refine c_Coverage S₁₀ (hA'.less (by decide)) fun g₁₁ h₁₁ k₁₁ x dx od hg₁₁ hx hdx hgx hgdx hD S₁₁ => ?_
    have hnd : ks.Nodup := hperm.nodup_iff.mpr (IsDictOf.nodup hdo)
    have hasc : ks.Pairwise (· < ·) := by
      have := List.Pairwise.and hsort hnd
      exact this.imp fun ⟨h1, h2⟩ => by omega
    have hsz : h.objs.size ≤ h₉.objs.size := by rw [← hL']; exact Nat.le_of_lt S₁₀.Llt
    have hC : CovIs h.objs.size g₁₁ (.ref x) ks := ⟨x, dx, od, .ref t, rfl, Nat.le_trans hsz hx, Nat.le_trans hsz hdx, hgx, hgdx, hD, t, ot, ys, rfl, by rw [← hL']; exact Nat.le_of_lt htL, hg₁₁ _ _ ht₉, hT, hys⟩
    obtain ⟨g₁₂, hg₁₂, hN₁₂, S₁₂⟩ := S.retg0 S₁₁ (stays_trans (hideNil h) (stays_trans hg (stays_trans hg₉ hg₁₁)))
    exact hok g₁₂ h₁₁ _ _ ks hg₁₂ ⟨hasc, fun x => by rw [hperm.mem_iff, hks], by omega⟩ (hC.into hN₁₂ (Nat.le_refl _)) S₁₂
end
noncomputable def pushR (rs : List (Int × Int)) (x : Int) : List (Int × Int) := match rs.getLast? with
  | some p => if p.2 + 1 = x then rs.dropLast ++ [(p.1, x)] else rs ++ [(x, x)]
  | none => [(x, x)]
noncomputable def rangesF (gl : List Int) : List (Int × Int) := gl.foldl pushR []
theorem pushR_nil (x : Int) : pushR [] x = [(x, x)] := rfl
theorem pushR_snoc (l : List (Int × Int)) (p : Int × Int) (x : Int) : pushR (l ++ [p]) x = if p.2 + 1 = x then l ++ [(p.1, x)] else l ++ [p] ++ [(x, x)] := by
  unfold pushR
  simp
theorem pushR_len (l : List (Int × Int)) (x : Int) : (pushR l x).length ≤ l.length + 1 := by
  unfold pushR
  split
  · split <;> simp
  · simp
theorem fold_snoc {α β : Type} (f : β → α → β) (b : β) {l : List α} {j : Nat} {c : α} (h : l[j]? = some c) : (l.take (j + 1)).foldl f b = f ((l.take j).foldl f b) c := by
  rw [take_snoc h, List.foldl_append]; rfl
theorem Each.snoc_inv0 {α : Type} {R : Value → α → Prop} {p : α} {xs : List Value} {cs' : List α} (h : Each R xs cs') : ∀ {cs : List α}, cs' = cs ++ [p] → Ex2 fun ys v => An3 (xs = ys ++ [v]) (Each R ys cs) (R v p) := by
  induction h with
  | nil => intro cs e; simp at e
  | cons a b ih =>
    intro cs e
    cases cs with
    | nil =>
      rw [List.nil_append] at e
      injection e with e1 e2
      subst e1; subst e2
      cases b
      exact ⟨[], _, rfl, .nil, a⟩
    | cons c cs =>
      injection e with e1 e2
      subst e1
      obtain ⟨ys, v, rfl, h1, h2⟩ := ih e2
      exact ⟨_ :: ys, v, rfl, .cons a h1, h2⟩
theorem Each.snoc_inv {α : Type} {R : Value → α → Prop} {p : α} {xs : List Value} {cs : List α} (h : Each R xs (cs ++ [p])) : Ex2 fun ys v => An3 (xs = ys ++ [v]) (Each R ys cs) (R v p) := Each.snoc_inv0 h rfl
theorem PairIs.weak {n : Nat} {g : Heap} {v : Value} {p : Int × Int} (x : PairIs n g v p) : PairIs 0 g v p := by
  obtain ⟨t, o, t1, t2, h1, h2, h3, h4⟩ := x.ex
  exact ⟨t, o, t1, t2, h1, Nat.zero_le _, h3, h4⟩
section
variable {prog : Program} {w : World} {A : Around} {E : Value → Shared → Prop} {s₀ : Shared} {h hc : Heap} {k : Nat} {base g g' gc : Heap} {fs fs' : List Env} {L L' : Addr} {ns ns' : List Str} {vs vs' : List (Option Value)} {led led' ledc : List (Addr × Obj)}
  {env : Env} {cl : List (Str × Addr)} {Q : Value → Shared → Prop}
noncomputable abbrev JJ39_16 (h : Heap) (t : Addr) (gl : List Int) (l : Addr) : Nat → Heap → List (Option Value) → List (Addr × Obj) → Prop :=
  fun j g' vs' led' => Ex3 fun (ys : List Value) (o' : Obj) (v1 : Option Value) => An5 (vs' = [some (.ref t), some (.ref l), v1]) (led' = [(l, o')]) (LO o' ys) (Each (PairIs h.objs.size g') ys ((gl.take j).foldl pushR [])) (((gl.take j).foldl pushR []).length ≤ j)
theorem c_ranges_of {t : Addr} {ot : Obj} {xs : List Value} {gl : List Int} (S : St w base fs g L ns vs led h) (hA : Ax prog A fs 1) (ht : g.get? t = some ot) (hT : TO ot xs) (hxs : IntsAre xs gl) (hz : gl.length ≤ 65536)
    (hok : ∀ g' h' k' l o ys, g.StaysIn g' → LO o ys → Each (PairIs 0 g') ys (rangesF gl) → St w base fs g' L ns vs ([(l, o)] ++ led) h' → Q (.ref l) (sh s₀ h' k')) :
    wpAny (model prog w) A (call (.ref 327) [.ref t]) Q E (sh s₀ h k) := by
  refine enter (ns' := ["glyphs", "ranges", "glyph"]) (args' := [.ref t]) (n := 1) (vs' := [some (.ref t), none, none]) S hA (by k_is) (by k_is) (BindsTo.of_eq rfl) [] (fun _ h => nomatch h) (by simp) (by decide +kernel) (by decide +kernel) rfl (by decide) (by decide +kernel) rfl rfl rfl rfl ?_
  intro env' L' h₁ k₁ A' E' he hs hA' hE hL' S'
  have hG : EnvG w env' [] := .nil
  have ht' : (hideAll h (List.map (fun x : Addr × Obj => x.1) [])).get? t = some ot := hideNil h _ _ (S.get ht)
  have hxl := hxs.length
  walk_at "go"
  refine g_newList S' (by decide) fun l ol h₂ hol hln _ hst₂ S₂ => ?_
  walk_at "go"
  rename St _ _ _ _ _ _ _ _ _ => S₃
  refine x_for ?_
  walk_at "go"
  refine it_tuple hA'.hd S₃ ht' hT fun I oI h₄ k₄ W S₄ => ?_
  refine f_loop 2 (JJ39_16 h t gl l)
    he hE.pass rfl W S₄ ⟨[], _, none, rfl, rfl, hol, .nil, Nat.le_refl _⟩ ?_ ?_
  · rintro j v g' vs' led' h₇ k₇ oI' hj hv ⟨ys, o', v1, rfl, rfl, hLO, hys, hrl⟩ hg S₇
    dsimp only [List.set] at S₇
    obtain ⟨a, ha⟩ : ∃ a, gl[j]? = some a := ⟨_, List.getElem?_eq_getElem (by omega)⟩
    obtain ⟨ta, hta⟩ := ints_get hxs ha
    rw [hv] at hta; cases hta
    have hyl := hys.length
    have hstep := fold_snoc pushR [] ha
    have hlen : ((gl.take (j + 1)).foldl pushR []).length ≤ j + 1 := by rw [hstep]; exact Nat.le_trans (pushR_len _ _) (by omega)
    have hsz : h.objs.size ≤ h₇.objs.size := by rw [← hL']; exact Nat.le_of_lt S₇.Llt
    walk_at "go"
    refine t_list (S₇.at_ (i := 1) rfl) hLO (by omega) fun k₈ => ?_
    rcases List.eq_nil_or_concat ((gl.take j).foldl pushR []) with hnil | ⟨rs, p, hsn⟩
    · have hy0 : ys = [] := by
        rw [hnil] at hyl; exact List.length_eq_zero_iff.mp hyl
      refine ite_f (by rw [hy0]; rfl) ?_
      refine ite_f rfl ?_
      walk_at "go"
      refine gm_append (S₇.at_ (i := 1) rfl) hLO ?_
      walk_at "go"
      refine g_newTuple S₇ (by simp) fun t₉ ot₉ h₉ hT₉ htn₉ htL₉ hst₉ S₉ => ?_
      obtain ⟨g₉, hg₉, ht₉, S₁₀⟩ := S₉.freeze
      walk_at "go"
      refine m_append (i := 1) S₁₀ rfl hLO (by omega) fun h₁₁ o₁₁ hLO₁₁ S₁₁ => ⟨rfl, ?_⟩
      dsimp only [List.set] at S₁₁
      walk_at "go"
      refine turn_next S₁₁ hg₉ ⟨_, o₁₁, _, rfl, rfl, hLO₁₁, ?_, hlen⟩
      rw [hstep]
      have hpp : pushR ((gl.take j).foldl pushR []) a = (gl.take j).foldl pushR [] ++ [(a, a)] := by rw [hnil]; rfl
      rw [hpp]
      exact (hys.map fun _ _ q => keeps_pair.up q hg₉ (Nat.le_refl _)).snoc ⟨t₉, ot₉, _, _, rfl, Nat.le_trans (Nat.le_of_eq hL'.symm) (Nat.le_of_lt htL₉), ht₉, hT₉⟩
    · rw [List.concat_eq_append] at hsn
      rw [hsn] at hys
      obtain ⟨zs, v0, rfl, hzs, t0, o0, q1, q2, rfl, hn0, ht0, hT0⟩ := hys.snoc_inv
      refine ite_t (by simp) ?_
      walk_at "go"
      refine sub_last (S₇.at_ (i := 1) rfl) hLO (by simp at hyl; omega) ?_
      walk_at "go"
      refine sub_tup (S₇.get ht0) hT0 (by simp) (by decide) (i := 1) rfl ?_
      walk_at "go"
      refine ite_c (fun hc => ?_) fun hc => ?_
      · have hc' : p.2 + 1 = a := by simpa using hc
        walk_at "go"
        refine ite_t rfl ?_
        walk_at "go"
        refine sub_last (S₇.at_ (i := 1) rfl) hLO (by simp at hyl; omega) ?_
        walk_at "go"
        refine sub_tup (S₇.get ht0) hT0 (by simp) (by decide) (i := 0) rfl ?_
        walk_at "go"
        refine g_newTuple S₇ (by simp) fun t₉ ot₉ h₉ hT₉ htn₉ htL₉ hst₉ S₉ => ?_
        obtain ⟨g₉, hg₉, ht₉, S₁₀⟩ := S₉.freeze
        walk_at "go"
        refine set_last (i := 1) S₁₀ rfl hLO (by simp at hyl; omega) fun h₁₁ o₁₁ hLO₁₁ S₁₁ => ?_
        dsimp only [List.set] at S₁₁
        walk_at "go"
        refine turn_next S₁₁ hg₉ ⟨_, o₁₁, _, rfl, rfl, hLO₁₁, ?_, hlen⟩
        rw [hstep, hsn, pushR_snoc, if_pos hc']
        exact (hzs.map fun _ _ q => keeps_pair.up q hg₉ (Nat.le_refl _)).snoc ⟨t₉, ot₉, _, _, rfl, Nat.le_trans (Nat.le_of_eq hL'.symm) (Nat.le_of_lt htL₉), ht₉, hT₉⟩
      · have hc' : ¬ p.2 + 1 = a := by simpa using hc
        walk_at "go"
        refine ite_f rfl ?_
        walk_at "go"
        refine gm_append (S₇.at_ (i := 1) rfl) hLO ?_
        walk_at "go"
        refine g_newTuple S₇ (by simp) fun t₉ ot₉ h₉ hT₉ htn₉ htL₉ hst₉ S₉ => ?_
        obtain ⟨g₉, hg₉, ht₉, S₁₀⟩ := S₉.freeze
        walk_at "go"
        refine m_append (i := 1) S₁₀ rfl hLO (by omega) fun h₁₁ o₁₁ hLO₁₁ S₁₁ => ⟨rfl, ?_⟩
        dsimp only [List.set] at S₁₁
        walk_at "go"
        refine turn_next S₁₁ hg₉ ⟨_, o₁₁, _, rfl, rfl, hLO₁₁, ?_, hlen⟩
        rw [hstep]
        rw [hsn, pushR_snoc, if_neg hc']
        exact ((hzs.snoc ⟨t0, o0, q1, q2, rfl, hn0, ht0, hT0⟩).map fun _ _ q => keeps_pair.up q hg₉ (Nat.le_refl _)).snoc ⟨t₉, ot₉, _, _, rfl, Nat.le_trans (Nat.le_of_eq hL'.symm) (Nat.le_of_lt htL₉), ht₉, hT₉⟩
  · rintro g' vs' led' h₇ k₇ ⟨ys, o', v1, rfl, rfl, hLO, hys, hrl⟩ hg S₇
    rw [hxl, List.take_length] at hys
    walk_at "go"
    obtain ⟨g₈, hg₈, hN₈, _, S₈⟩ := S.back0 (sub := [(l, o')]) S₇ (stays_trans (hideNil h) hg) (fun p hp => hp) S₇.ndl
    exact hok g₈ _ _ _ _ _ hg₈ hLO (hys.map fun _ _ q => keeps_pair.into q hN₈ (Nat.le_refl _) |>.weak) S₈
end
noncomputable def cntR : List (Int × Int) → Int
  | [] => 0
  | p :: r => (p.2 - p.1 + 1) + cntR r
theorem cntR_app (a b : List (Int × Int)) : cntR (a ++ b) = cntR a + cntR b := by
  induction a with
  | nil => simp [cntR]
  | cons p a ih => rw [List.cons_append]; simp only [cntR]; rw [ih]; omega
noncomputable def OkR (rs : List (Int × Int)) : Prop := ∀ p ∈ rs, p.1 ≤ p.2 ∧ 0 ≤ p.1 ∧ p.2 < 65536
theorem pushR_ok {rs : List (Int × Int)} {x : Int} (hr : OkR rs) (h0 : 0 ≤ x) (h1 : x < 65536) : OkR (pushR rs x) ∧ cntR (pushR rs x) = cntR rs + 1 := by
  rcases List.eq_nil_or_concat rs with rfl | ⟨l, p, rfl⟩
  · refine ⟨fun p hp => ?_, by simp [pushR_nil, cntR]⟩
    rw [pushR_nil, List.mem_singleton] at hp; subst hp; exact ⟨Int.le_refl _, h0, h1⟩
  · rw [List.concat_eq_append] at hr ⊢
    have hp := hr p (by simp)
    rw [pushR_snoc]
    split
    · rename_i e
      refine ⟨fun q hq => ?_, ?_⟩
      · rw [List.mem_append, List.mem_singleton] at hq
        rcases hq with hq | rfl
        · exact hr q (by simp [hq])
        · exact ⟨by show p.1 ≤ x; omega, hp.2.1, h1⟩
      · rw [cntR_app, cntR_app]; simp only [cntR]; omega
    · refine ⟨fun q hq => ?_, ?_⟩
      · rw [List.mem_append, List.mem_singleton] at hq
        rcases hq with hq | rfl
        · exact hr q hq
        · exact ⟨Int.le_refl _, h0, h1⟩
      · rw [cntR_app (l ++ [p])]; simp only [cntR]; omega
theorem foldR_ok : ∀ {gl : List Int} {rs : List (Int × Int)}, OkR rs → (∀ x ∈ gl, 0 ≤ x ∧ x < 65536) → OkR (gl.foldl pushR rs) ∧ cntR (gl.foldl pushR rs) = cntR rs + gl.length
  | [], rs, hr, _ => ⟨hr, by simp⟩
  | x :: gl, rs, hr, hg => by
    have h1 := pushR_ok hr (hg x (.head _)).1 (hg x (.head _)).2
    have h2 := foldR_ok (gl := gl) h1.1 (fun y hy => hg y (.tail _ hy))
    refine ⟨h2.1, ?_⟩
    rw [List.foldl_cons, h2.2, h1.2, List.length_cons]; omega
theorem rangesF_ok {gl : List Int} (hg : ∀ x ∈ gl, 0 ≤ x ∧ x < 65536) : OkR (rangesF gl) ∧ cntR (rangesF gl) = gl.length := by
  have := foldR_ok (gl := gl) (rs := []) (fun _ h => nomatch h) hg
  exact ⟨this.1, by rw [rangesF, this.2]; simp [cntR]⟩
theorem cntR_take {rs : List (Int × Int)} (hr : OkR rs) (j : Nat) : 0 ≤ cntR (rs.take j) ∧ cntR (rs.take j) ≤ cntR rs := by
  have pos : ∀ l : List (Int × Int), (∀ p ∈ l, p.1 ≤ p.2) → 0 ≤ cntR l := by
    intro l
    induction l with
    | nil => intro _; exact Int.le_refl _
    | cons p l ih => intro h; have := h p (.head _); have := ih fun q hq => h q (.tail _ hq); unfold cntR; omega
  have e := cntR_app (rs.take j) (rs.drop j)
  rw [List.take_append_drop] at e
  have h1 := pos (rs.take j) fun p hp => (hr p (List.mem_of_mem_take hp)).1
  have h2 := pos (rs.drop j) fun p hp => (hr p (List.mem_of_mem_drop hp)).1
  omega
noncomputable def stepR (s : Int × List Int) (p : Int × Int) : Int × List Int := (s.1 + p.2 - p.1 + 1, s.2 ++ o2 p.1 ++ o2 p.2 ++ o2 s.1)
theorem stepR_fst : ∀ {rs : List (Int × Int)} {s : Int × List Int}, (rs.foldl stepR s).1 = s.1 + cntR rs
  | [], s => by simp [cntR]
  | p :: rs, s => by rw [List.foldl_cons, stepR_fst]; simp only [stepR, cntR]; omega
theorem stepR_len : ∀ {rs : List (Int × Int)} {s : Int × List Int}, (rs.foldl stepR s).2.length = s.2.length + 6 * rs.length
  | [], s => by simp
  | p :: rs, s => by rw [List.foldl_cons, stepR_len]; simp [stepR, o2]; omega
noncomputable def formF (gl : List Int) : Int := if 2 * (gl.length : Int) ≤ 6 * ((rangesF gl).length : Int) then 1 else 2
noncomputable def WC (gl : List Int) : List Int := if formF gl = 1 then o2 1 ++ o2 gl.length ++ o2s gl else ((rangesF gl).foldl stepR (0, o2 2 ++ o2 (rangesF gl).length)).2
theorem pushR_foldlen : ∀ {gl : List Int} {rs : List (Int × Int)}, (gl.foldl pushR rs).length ≤ rs.length + gl.length
  | [], rs => by simp
  | x :: gl, rs => by rw [List.foldl_cons]; have := pushR_foldlen (gl := gl) (rs := pushR rs x); have := pushR_len rs x; rw [List.length_cons]; omega
theorem rangesF_len (gl : List Int) : (rangesF gl).length ≤ gl.length := by have := pushR_foldlen (gl := gl) (rs := []); simpa [rangesF] using this
theorem TO.inj {o : Obj} {xs ys : List Value} (a : TO o xs) (b : TO o ys) : xs = ys := by
  obtain ⟨n, e⟩ := a.data
  obtain ⟨m, e'⟩ := b.data
  rw [e] at e'
  injection e' with e1 e2
  simpa using e1
section
variable {prog : Program} {w : World} {A : Around} {E : Value → Shared → Prop} {s₀ : Shared} {h hc : Heap} {k : Nat} {base g g' gc : Heap} {fs fs' : List Env} {L L' : Addr} {ns ns' : List Str} {vs vs' : List (Option Value)} {led led' ledc : List (Addr × Obj)}
  {env : Env} {cl : List (Str × Addr)} {Q : Value → Shared → Prop}
theorem e_ifint {test : Expr} {a b : Int} {ja jb : Nat} {pa pb pos : Pos} {s : Shared} (hq : wpAny (model prog w) A (PySem.isTrue test env (eval test env)) (fun c s₂ => Ex2 fun h₂ k₂ => s₂ = sh s₀ h₂ k₂ ∧ ∀ t k', Q (.int (if c = true then a else b) t) (sh s₀ h₂ k')) E s) :
    wpAny (model prog w) A (eval (.IfExp test (.Constant (.int a) ja pa) (.Constant (.int b) jb pb) pos) env) Q E s := by
  refine IfExp_ (wpAny_mono hq (fun c s₂ h₂ => ?_) fun _ _ z => z)
  obtain ⟨h₃, k₃, rfl, hq⟩ := h₂
  cases c
  · refine ite_f rfl (c_int fun t k' => ?_)
    exact hq t k'
  · refine ite_t rfl (c_int fun t k' => ?_)
    exact hq t k'
noncomputable abbrev JJ39_17 (gl : List Int) (x : Addr) (l : Addr) (tF : Tok) (x₈ : Addr) (ba : Addr) : Nat → Heap → List (Option Value) → List (Addr × Obj) → Prop :=
  fun j g' vs' led' => Ex2 fun (oa' : Obj) (u : Option Value) => An3 (vs' = [some (.ref x), some (.int (formF gl) tF), some (.ref l), some (.ref x₈), u, none, none, none]) (led' = [(ba, oa')]) (BO oa' (o2 1 ++ o2 gl.length ++ o2s (gl.take j)))
noncomputable abbrev JJ39_18 (gl : List Int) (x : Addr) (l : Addr) (tF : Tok) (x₈ : Addr) (ba : Addr) : Nat → Heap → List (Option Value) → List (Addr × Obj) → Prop :=
  fun j g' vs' led' => Ex5 fun (oa' : Obj) (u : Option Value) (t : Tok) (u1 u2 : Option Value) => An3 (vs' = [some (.ref x), some (.int (formF gl) tF), some (.ref l), some (.ref x₈), none, some (.int (((rangesF gl).take j).foldl stepR (0, o2 2 ++ o2 (rangesF gl).length)).1 t), u1, u2]) (led' = [(ba, oa')]) (BO oa' (((rangesF gl).take j).foldl stepR (0, o2 2 ++ o2 (rangesF gl).length)).2)
theorem c_write_coverage {n : Nat} {v : Value} {gl : List Int} (S : St w base fs g L ns vs led h) (hA : AxC prog A fs 7) (hc : CovIs n g v gl) (hr : ∀ x ∈ gl, 0 ≤ x ∧ x < 65536) (hz : gl.length ≤ 1000)
    (hok : ∀ h' k' c t, KBw.bInts c = WC gl → St w base fs g L ns vs led h' → Q (.bytes c t) (sh s₀ h' k')) :
    wpC (model prog w) A (call (.ref 363) [v]) Q (sh s₀ h k) := by
  obtain ⟨x, dx, od, tv, rfl, _, _, hx, hdx, hD, t, ot, gs, rfl, _, ht, hTO, hgs⟩ := hc.ex
  refine enterD (ns' := ["coverage", "form", "ranges", "out", "glyph", "index", "first", "last"]) (args' := [.ref x, _]) (n := 2) (vs' := [some (.ref x), some _, none, none, none, none, none, none]) S hA (by k_is) (by k_is) (binds_K S.Xh rfl (by k_is) rfl rfl rfl) [] (fun _ h => nomatch h) (by simp) (by decide +kernel) (by decide +kernel) rfl (by decide) (by decide +kernel) rfl rfl rfl rfl ?_
  intro env' L' h₁ k₁ A' he hs hA' hL' S'
  have hG : EnvG w env' [("len", .builtin "len"), ("ranges_of", .ref 327), ("OctetsOut", .ref 259)] := .cons (kindOf_of hs (by decide +kernel)) (G_len w) (.cons (kindOf_of hs (by decide +kernel)) (G_ranges_of w) (.cons (kindOf_of hs (by decide +kernel)) (G_OctetsOut w) .nil))
  have hx' : (hideAll h (List.map (fun x : Addr × Obj => x.1) [])).get? x = some (instObj 309 dx) := hideNil h _ _ (S.get hx)
  have hdx' : (hideAll h (List.map (fun x : Addr × Obj => x.1) [])).get? dx = some od := hideNil h _ _ (S.get hdx)
  have ht' : (hideAll h (List.map (fun x : Addr × Obj => x.1) [])).get? t = some ot := hideNil h _ _ (S.get ht)
  have hg1 := hgs.length
  have hrl := rangesF_len gl
  have hro := rangesF_ok hr
  walk_at "goC"
  refine wpC_of (c_ranges_of S' (hA'.ax.less (by decide)) ht' hTO hgs (by omega) fun g₂ h₂ k₂ l o ys hg₂ hLO hys S₂ => ?_)
  obtain ⟨g₃, hg₃, hl₃, S₃⟩ := S₂.freeze
  replace hys := hys.map fun v c (q : PairIs 0 g₂ v c) => keeps_pair.up q hg₃ (Nat.le_refl _)
  have hyl := hys.length
  have hx₃ := hg₃ _ _ (hg₂ _ _ hx')
  have hdx₃ := hg₃ _ _ (hg₂ _ _ hdx')
  have ht₃ := hg₃ _ _ (hg₂ _ _ ht')
  walk_at "goC"
  refine ite_t rfl ?_
  walk_at "goC"
  rename St _ _ _ _ _ _ _ _ _ => S₄
  refine e_ifint (s₀ := s₀) ?_
  walk_at "go"
  refine l_len_tup (S₄.get ht₃) hTO (by omega) fun t₄ k₄ => ?_
  walk_at "go"
  refine l_len_list (S₄.get hl₃) hLO (by omega) fun t₅ k₅ => ?_
  walk_at "go"
  refine ⟨_, _, rfl, fun tF k₆ => ?_⟩
  have hF : (if decide (2 * ((gs.length : Nat) : Int) ≤ 6 * ((ys.length : Nat) : Int)) = true then (1 : Int) else 2) = formF gl := by
    unfold formF; rw [hg1, hyl]; simp
  rw [hF]
  have hFc : formF gl = 1 ∨ formF gl = 2 := by unfold formF; split <;> simp
  walk_at "goC"
  rename St _ _ _ _ _ _ _ _ _ => S₇
  refine c_OctetsOut S₇ (hA'.less (by decide)) fun g₈ h₈ k₈ x₈ ba oa hg₈ hout hb₈ S₈ => ?_
  have hx₈ := hg₈ _ _ hx₃
  have hdx₈ := hg₈ _ _ hdx₃
  have ht₈ := hg₈ _ _ ht₃
  have hl₈ := hg₈ _ _ hl₃
  replace hys := hys.map fun v c (q : PairIs 0 g₃ v c) => keeps_pair.up q hg₈ (Nat.le_refl _)
  obtain ⟨dx₈, od₈, hxo, hdxo, hDo⟩ := hout.ex
  have hg0 : (hideAll h (List.map (fun x : Addr × Obj => x.1) [])).StaysIn g₈ := stays_trans hg₂ (stays_trans hg₃ hg₈)
  clear S₂ S₃ S₇
  walk_at "goC"
  rename St _ _ _ _ _ _ _ _ _ => S₉
  have hout₉ : OutIs g₈ x₈ ba := ⟨dx₈, od₈, hxo, hdxo, hDo⟩
  refine c_out_u16 (i := 0) S₉ (hA'.less (by decide)) hout₉ rfl hb₈ (by omega) (by omega) (by decide) fun h₁₀ k₁₀ oa₁₀ hb₁₀ S₁₀ => ⟨rfl, ?_⟩
  dsimp only [List.set] at S₁₀
  clear S₈ S₉
  walk_at "goC"
  refine ite_c (fun hc => ?_) fun hc => ?_
  · have hc' : formF gl = 1 := by simpa using hc
    rw [hc', List.nil_append] at hb₁₀
    walk_at "goC"
    refine wpC_of (l_len_tup (S₁₀.get ht₈) hTO (by omega) fun t₁₁ k₁₁ => ?_)
    walk_at "goC"
    refine c_out_u16 (i := 0) S₁₀ (hA'.less (by decide)) hout₉ rfl hb₁₀ (by omega) (by omega) (by decide) fun h₁₂ k₁₂ oa₁₂ hb₁₂ S₁₂ => ⟨rfl, ?_⟩
    dsimp only [List.set] at S₁₂
    rw [hg1] at hb₁₂
    walk_at "goC"
    refine C_for ?_
    walk_at "goC"
    refine wpC_of (it_tuple hA'.ax.hd S₁₂ ht₈ hTO fun I oI h₁₃ k₁₃ W S₁₃ => ?_)
    refine C_loop 4 (JJ39_17 gl x l tF x₈ ba) he rfl W S₁₃ ⟨oa₁₂, none, rfl, rfl, by simpa [o2s] using hb₁₂⟩ ?_ ?_
    · rintro j v g' vs' led' h₁₄ k₁₄ oI' hj hv ⟨oa', u, rfl, rfl, hb'⟩ hg S₁₄
      dsimp only [List.set] at S₁₄
      obtain ⟨a, ha⟩ : ∃ a, gl[j]? = some a := ⟨_, List.getElem?_eq_getElem (by omega)⟩
      obtain ⟨ta, hta⟩ := ints_get hgs ha
      rw [hv] at hta; cases hta
      have hra := hr a (List.mem_of_getElem? ha)
      have hxo' := hg _ _ hxo
      have hdxo' := hg _ _ hdxo
      have hln : (o2 1 ++ o2 gl.length ++ o2s (gl.take j)).length ≤ 16777210 := by rw [List.length_append, o2s_len, List.length_take]; simp [o2]; omega
      walk_at "goC"
      refine c_out_u16 (i := 1) S₁₄ (hA'.less (by decide)) (hout₉.up hg) rfl hb' hra.1 hra.2 hln fun h₁₅ k₁₅ oa₁₅ hb₁₅ S₁₅ => ⟨rfl, ?_⟩
      dsimp only [List.set] at S₁₅
      walk_at "goC"
      refine turn_next S₁₅ (stays_refl _) ⟨oa₁₅, _, rfl, rfl, ?_⟩
      rw [take_snoc ha, o2s_snoc, ← List.append_assoc]; exact hb₁₅
    · rintro g' vs' led' h₁₄ k₁₄ ⟨oa', u, rfl, rfl, hb'⟩ hg S₁₄
      rw [hg1, List.take_length] at hb'
      have hxo' := hg _ _ hxo
      have hdxo' := hg _ _ hdxo
      have hln : (o2 1 ++ o2 gl.length ++ o2s gl).length ≤ 16777000 := by rw [List.length_append, o2s_len]; simp [o2]; omega
      walk_at "goC"
      refine wpC_of (c_out_octets (i := 0) S₁₄ (hA'.ax.less (by decide)) (hout₉.up hg) rfl hb' hln fun c tc h₁₅ k₁₅ hc S₁₅ => ?_)
      walk_at "goC"
      refine hok _ _ _ _ (by rw [hc, WC, if_pos hc']) (S.ret0 S₁₅ (stays_trans (hideNil h) (stays_trans hg0 hg)))
  · have hc' : formF gl = 2 := by
      rcases hFc with q | q
      · rw [q] at hc; cases hc
      · exact q
    have hne : ¬ formF gl = 1 := by rw [hc']; decide
    rw [List.nil_append] at hb₁₀
    walk_at "goC"
    refine ite_t (by rw [hc']; rfl) ?_
    rw [hc'] at hb₁₀
    walk_at "goC"
    refine wpC_of (l_len_list (S₁₀.get hl₈) hLO (by omega) fun t₁₁ k₁₁ => ?_)
    walk_at "goC"
    refine c_out_u16 (i := 0) S₁₀ (hA'.less (by decide)) hout₉ rfl hb₁₀ (by omega) (by omega) (by decide) fun h₁₂ k₁₂ oa₁₂ hb₁₂ S₁₂ => ⟨rfl, ?_⟩
    dsimp only [List.set] at S₁₂
    rw [hyl] at hb₁₂
    walk_at "goC"
    rename St _ _ _ _ _ _ _ _ _ => S₁₃
    refine C_for ?_
    walk_at "goC"
    refine C_pairs 6 7 (JJ39_18 gl x l tF x₈ ba)
      he hA'.ax.hd rfl rfl S₁₃ hl₈ hLO (fun v hv => ?_) ⟨oa₁₂, none, _, none, none, rfl, rfl, hb₁₂⟩ ?_ ?_
    · obtain ⟨j, hj⟩ := List.getElem?_of_mem hv
      obtain ⟨p, _, t, o, t1, t2, rfl, _, h3, h4⟩ := hys.get hj
      exact ⟨t, o, _, _, rfl, h3, h4⟩
    · rintro j t₁₄ ot₁₄ a b g' vs' led' h₁₄ k₁₄ I oI' hj hgt hT ⟨oa', u, tt, u1, u2, rfl, rfl, hb'⟩ hg S₁₄
      dsimp only [List.set] at S₁₄
      obtain ⟨p, hp, t, o, t1, t2, et, _, h3, h4⟩ := hys.get hj
      cases et
      rw [hgt] at h3; cases h3
      have e2 := hT.inj h4
      cases e2
      have hpr := hro.1 p (List.mem_of_getElem? hp)
      have hidx := cntR_take hro.1 j
      have hcn := hro.2
      have hfst : (((rangesF gl).take j).foldl stepR (0, o2 2 ++ o2 (rangesF gl).length)).1 = cntR ((rangesF gl).take j) := by rw [stepR_fst]; simp
      have hlen : (((rangesF gl).take j).foldl stepR (0, o2 2 ++ o2 (rangesF gl).length)).2.length ≤ 20000 := by rw [stepR_len, List.length_take]; simp [o2]; omega
      have hstep := fold_snoc stepR (0, o2 2 ++ o2 (rangesF gl).length) hp
      generalize ((rangesF gl).take j).foldl stepR (0, o2 2 ++ o2 (rangesF gl).length) = st at *
      obtain ⟨ix, kt⟩ := st
      dsimp only at hfst hlen hb' S₁₄
      have hxo' := hg _ _ hxo
      have hdxo' := hg _ _ hdxo
      walk_at "goC"
      refine c_out_u16 (i := 1) S₁₄ (hA'.less (by decide)) (hout₉.up hg) rfl hb' (by omega) (by omega) (by omega) fun h₁₅ k₁₅ oa₁₅ hb₁₅ S₁₅ => ⟨rfl, ?_⟩
      dsimp only [List.set] at S₁₅
      walk_at "goC"
      refine c_out_u16 (i := 1) S₁₅ (hA'.less (by decide)) (hout₉.up hg) rfl hb₁₅ (by omega) (by omega) (by simp [o2]; omega) fun h₁₆ k₁₆ oa₁₆ hb₁₆ S₁₆ => ⟨rfl, ?_⟩
      dsimp only [List.set] at S₁₆
      walk_at "goC"
      refine c_out_u16 (i := 1) S₁₆ (hA'.less (by decide)) (hout₉.up hg) rfl hb₁₆ (by omega) (by omega) (by simp [o2]; omega) fun h₁₇ k₁₇ oa₁₇ hb₁₇ S₁₇ => ⟨rfl, ?_⟩
      dsimp only [List.set] at S₁₇
      walk_at "goC"
      rename St _ _ _ _ _ _ _ _ _ => S₁₈
      refine turn_next S₁₈ (stays_refl _) ?_
      unfold JJ39_18
      rw [hstep]
      exact ⟨oa₁₇, none, _, _, _, rfl, rfl, hb₁₇⟩
    · rintro g' vs' led' h₁₄ k₁₄ ⟨oa', u, tt, u1, u2, rfl, rfl, hb'⟩ hg S₁₄
      rw [hyl, List.take_length] at hb'
      have hxo' := hg _ _ hxo
      have hdxo' := hg _ _ hdxo
      have hln : ((rangesF gl).foldl stepR (0, o2 2 ++ o2 (rangesF gl).length)).2.length ≤ 16777000 := by rw [stepR_len]; simp [o2]; omega
      walk_at "goC"
      refine wpC_of (c_out_octets (i := 0) S₁₄ (hA'.ax.less (by decide)) (hout₉.up hg) rfl hb' hln fun c tc h₁₅ k₁₅ hc S₁₅ => ?_)
      walk_at "goC"
      refine hok _ _ _ _ (by rw [hc, WC, if_neg hne]) (S.ret0 S₁₅ (stays_trans (hideNil h) (stays_trans hg0 hg)))
end
end
section
section
variable {prog : Program} {w : World} {A : Around} {E : Value → Shared → Prop} {s₀ : Shared} {h hc : Heap} {k : Nat} {base g g' gc : Heap} {fs fs' : List Env} {L L' : Addr} {ns ns' : List Str} {vs vs' : List (Option Value)} {led led' ledc : List (Addr × Obj)}
  {env : Env} {cl : List (Str × Addr)} {Q : Value → Shared → Prop}
theorem C_unpack2 {x y : Str} {px py tp pos : Pos} {j : Nat} {value : Expr} {rest : List Stmt} {Q : Flow → Shared → Prop} {s : Shared} (hh : A.handled = none)
    (q : wpC (model prog w) A (eval value env) (fun v s₁ => Ex6 fun (h₁ : Heap) (k₁ : Nat) (t : Addr) (o : Obj) (a b : Value) => An5 (s₁ = sh s₀ h₁ k₁) (v = .ref t) (h₁.get? t = some o) (TO o [a, b]) (∀ h₂, h₁.StaysIn h₂ → wpAny (model prog w) A (storeName env x a) (fun _ s₂ => wpAny (model prog w) A (storeName env y b) (fun _ s₃ => wpC (model prog w) A (execs rest env) Q s₃) (fun _ _ => False) s₂) (fun _ _ => False) (sh s₀ h₂ k₁))) s)
    (hs : swapsWithSole [.Tuple [.Name x px, .Name y py] j tp] value pos.line env = pure false := by with_unfolding_all rfl)
    (hw : swappedStores [.Tuple [.Name x px, .Name y py] j tp] value env = pure none := by with_unfolding_all rfl) :
    wpC (model prog w) A (execs (.Assign [.Tuple [.Name x px, .Name y py] j tp] value pos :: rest) env) Q s := by
  refine C_execs ?_
  rw [exec_Assign]
  refine wpC_bind (wpC_standAt ?_)
  rw [hs]
  refine wpC_bind (wpC_pure ?_)
  rw [if_neg (by decide)]
  refine wpC_bind (wpC_mono q fun v s₁ h₁ => ?_)
  rw [hw]
  refine wpC_bind (wpC_pure ?_)
  obtain ⟨H, k₁, t, o, a, b, rfl, rfl, ho, hT, hq⟩ := h₁
  show wpC _ _ (do assignAll (.ref t) [assign (.Tuple [.Name x px, .Name y py] j tp) env]; pure Flow.next) _ _
  refine wpC_bind (wpC_of (wpAny_assign_Tuple hh (hT.isTup ho) rfl rfl fun h' he => ?_))
  have := hq h' fun b o hb => he b o (Nat.ne_of_lt (Heap.lt_size hb)) hb
  show wpAny _ _ (holding [b] (assign (.Name x px) env a) >>= fun _ => (holding [] (assign (.Name y py) env b) >>= fun _ => pure ())) _ _ _
  refine wpAny_bind (wpAny_holding (wpAny_assign_Name (wpAny_mono this (fun _ s₂ h₂ => ?_) fun _ _ z => z)))
  refine wpAny_bind (wpAny_holding (wpAny_assign_Name (wpAny_mono h₂ (fun _ s₃ h₃ => ?_) fun _ _ z => z)))
  exact wpAny_pure (wpC_pure h₃)
end
noncomputable def bI (k : List UInt8) : List Int := KBw.bInts k.toArray
theorem bI_inj {a b : List UInt8} (h : bI a = bI b) : a = b := by
  unfold bI KBw.bInts at h
  simp only at h
  exact List.map_inj_right (fun x y e => UInt8.toNat_inj.mp (Int.ofNat.inj e)) |>.mp h
inductive PL : List (List UInt8 × Value) → List (List Int × Int) → Prop
  | nil : PL [] []
  | cons {kk : List UInt8} {n : Int} {t : Tok} {kvs : List (List UInt8 × Value)} {ps : List (List Int × Int)} : PL kvs ps → PL ((kk, .int n t) :: kvs) ((bI kk, n) :: ps)
theorem PL.length {kvs : List (List UInt8 × Value)} {ps : List (List Int × Int)} (h : PL kvs ps) : kvs.length = ps.length := by
  induction h with
  | nil => rfl
  | cons _ ih => exact congrArg Nat.succ ih
theorem PL.snoc {kk : List UInt8} {n : Int} {t : Tok} : ∀ {kvs : List (List UInt8 × Value)} {ps : List (List Int × Int)}, PL kvs ps → PL (kvs ++ [(kk, .int n t)]) (ps ++ [(bI kk, n)])
  | _, _, .nil => .cons .nil
  | _, _, .cons h => .cons h.snoc
noncomputable def getL (ps : List (List Int × Int)) (k : List Int) : Option Int := (ps.find? fun q => q.1 = k).map (·.2)
theorem PL.get {kk : List UInt8} : ∀ {kvs : List (List UInt8 × Value)} {ps : List (List Int × Int)}, PL kvs ps → (getL ps (bI kk) = none → kk ∉ kvs.map (·.1) ∧ valueAt kvs kk = none) ∧ (∀ n, getL ps (bI kk) = some n → ∃ t, valueAt kvs kk = some (.int n t))
  | _, _, .nil => ⟨fun _ => ⟨by simp, rfl⟩, fun n h => by cases h⟩
  | _, _, .cons (kk := k0) (n := n0) (t := t0) (kvs := kvs) (ps := ps) h => by
    have ih := h.get (kk := kk)
    unfold getL valueAt at *
    by_cases e : k0 = kk
    · subst e
      refine ⟨fun q => by simp at q, fun n q => ?_⟩
      simp at q; subst q
      exact ⟨t0, by simp⟩
    · have e' : ¬ bI k0 = bI kk := fun q => e (bI_inj q)
      refine ⟨fun q => ?_, fun n q => ?_⟩
      · have q' := ih.1 (by simpa [e'] using q)
        refine ⟨?_, by simpa [e] using q'.2⟩
        rw [List.map_cons, List.mem_cons]
        exact fun z => z.elim (fun z => e z.symm) q'.1
      · obtain ⟨t, ht⟩ := ih.2 n (by simpa [e'] using q)
        exact ⟨t, by simpa [e] using ht⟩
structure LS' where
  offs : List Int
  ps : List (List Int × Int)
  out : List Int
noncomputable def stepL (b : Int) (s : LS') (ks : List Int) : LS' := match getL s.ps ks with
  | some o => ⟨s.offs ++ [o], s.ps, s.out⟩
  | none => ⟨s.offs ++ [b + s.out.length], s.ps ++ [(ks, b + s.out.length)], s.out ++ ks⟩
noncomputable def laidF (b : Int) (kss : List (List Int)) : LS' := kss.foldl (stepL b) ⟨[], [], []⟩
theorem stepL_len (b : Int) (s : LS') (ks : List Int) : (stepL b s ks).offs.length = s.offs.length + 1 ∧ (stepL b s ks).ps.length ≤ s.ps.length + 1 ∧ s.out.length ≤ (stepL b s ks).out.length ∧ (stepL b s ks).out.length ≤ s.out.length + ks.length := by
  unfold stepL
  split <;> simp
end
section
noncomputable def BytesIs (v : Value) (ks : List Int) : Prop := Ex2 fun b t => v = .bytes b t ∧ KBw.bInts b = ks
theorem bI_of {b : Array UInt8} {ks : List Int} (h : KBw.bInts b = ks) : bI b.toList = ks := h
noncomputable def sumL (kss : List (List Int)) : Nat := (kss.map List.length).sum
theorem sumL_cons (k : List Int) (l : List (List Int)) : sumL (k :: l) = k.length + sumL l := by simp [sumL]
section
variable {prog : Program} {w : World} {A : Around} {E : Value → Shared → Prop} {s₀ : Shared} {h hc : Heap} {k : Nat} {base g g' gc : Heap} {fs fs' : List Env} {L L' : Addr} {ns ns' : List Str} {vs vs' : List (Option Value)} {led led' ledc : List (Addr × Obj)}
  {env : Env} {cl : List (Str × Addr)} {Q : Value → Shared → Prop}
noncomputable abbrev JJ41_19 (prog : Program) (w : World) (b0 : Nat) (tb : Tok) (l : Addr) (kss : List (List Int)) (lf : Addr) (d : Addr) (H5 : Heap) : Nat → Heap → List (Option Value) → List (Addr × Obj) → Prop :=
  fun j g' vs' led' => Ex7 fun (oa' od' of' : Obj) (kvs : List (List UInt8 × Value)) (ys : List Value) (u6 u7 : Option Value) => An10 (vs' = [some (.int b0 tb), some (.ref l), some (.bool true), some (.ref lf), some (.ref d), some (.ref H5.objs.size), u6, u7]) (led' = [(H5.objs.size, oa'), (d, od'), (lf, of')]) (BO oa' ((kss.take j).foldl (stepL b0) ⟨[], [], []⟩).out) (od'.IsDictOf (bytesKind prog w) kvs) (PL kvs ((kss.take j).foldl (stepL b0) ⟨[], [], []⟩).ps) (LO of' ys) (IntsAre ys ((kss.take j).foldl (stepL b0) ⟨[], [], []⟩).offs) (((kss.take j).foldl (stepL b0) ⟨[], [], []⟩).out.length + sumL (kss.drop j) ≤ sumL kss) (((kss.take j).foldl (stepL b0) ⟨[], [], []⟩).ps.length ≤ j) (((kss.take j).foldl (stepL b0) ⟨[], [], []⟩).offs.length = j)
theorem c_laid {b0 : Nat} {tb : Tok} {l : Addr} {lo : Obj} {xs : List Value} {kss : List (List Int)} (S : St w base fs g L ns vs led h) (hA : AxC prog A fs 4) (hl : g.get? l = some lo) (hlo : LO lo xs) (hxs : Each BytesIs xs kss) (hz : b0 + sumL kss ≤ 65535) (hn : kss.length ≤ 1000)
    (hok : ∀ h' k' t ot lf of c tc ys, TO ot [.ref lf, .bytes c tc] → LO of ys → IntsAre ys (laidF b0 kss).offs → KBw.bInts c = (laidF b0 kss).out → St w base fs g L ns vs ([(t, ot), (lf, of)] ++ led) h' → Q (.ref t) (sh s₀ h' k')) :
    wpC (model prog w) A (call (.ref 271) [.int b0 tb, .ref l]) Q (sh s₀ h k) := by
  refine enterD (ns' := ["begin", "parts", "is_shared", "offsets", "places", "out", "part", "place"]) (args' := [.int b0 tb, .ref l, _]) (n := 3) (vs' := [some (.int b0 tb), some (.ref l), some _, none, none, none, none, none]) S hA (by k_is) (by k_is) (binds_K S.Xh rfl (by k_is) rfl rfl rfl) [] (fun _ h => nomatch h) (by simp) (by decide +kernel) (by decide +kernel) rfl (by decide) (by decide +kernel) rfl rfl rfl rfl ?_
  intro env' L' h₁ k₁ A' he hs hA' hL' S'
  have hG : EnvG w env' [("bytearray", .type "bytearray"), ("len", .builtin "len"), ("MOST_OFFSET", .int 65535 256), ("bytes", .type "bytes")] := .cons (kindOf_of hs (by decide +kernel)) (G_bytearray w) (.cons (kindOf_of hs (by decide +kernel)) (G_len w) (.cons (kindOf_of hs (by decide +kernel)) (G_MOST_OFFSET w) (.cons (kindOf_of hs (by decide +kernel)) (G_bytes w) .nil)))
  have hl' : (hideAll h (List.map (fun x : Addr × Obj => x.1) [])).get? l = some lo := hideNil h _ _ (S.get hl)
  have hxl := hxs.length
  walk_at "goC"
  refine g_newList S' (by decide) fun lf of h₂ hof hln _ hst₂ S₂ => ?_
  walk_at "goC"
  rename St _ _ _ _ _ _ _ _ _ => S₃
  refine g_dict (knd := bytesKind prog w) S₃ fun d o h₄ hd _ hLd _ S₄ => ?_
  walk_at "goC"
  rename St _ _ _ _ _ _ _ _ _ => S₅
  rename Heap => H5
  refine C_bytearray hA'.gd fun h₆ hb hk => ?_
  have S₆ := S₅.more hk hb (Heap.get?_none_of_le (Nat.le_refl _))
  walk_at "goC"
  rename St _ _ _ _ _ _ _ _ _ => S₇
  refine C_for ?_
  walk_at "goC"
  refine wpC_of (it_list hA'.ax.hd S₇ hl' hlo fun I oI h₈ k₈ W S₈ => ?_)
  refine C_loop 6 (JJ41_19 prog w b0 tb l kss lf d H5)
    he rfl W S₈ ⟨_, _, _, [], [], none, none, rfl, rfl, BO.new, hd, .nil, hof, .nil, by simp, by simp, rfl⟩ ?_ ?_
  · rintro j v g' vs' led' h₉ k₉ oI' hj hv ⟨oa', od', of', kvs, ys, u6, u7, rfl, rfl, hbo, hdo, hpl, hLO, hys, hlen, hpn, hon⟩ hg S₉
    dsimp only [List.set] at S₉
    obtain ⟨ks, hks⟩ : ∃ ks, kss[j]? = some ks := ⟨_, List.getElem?_eq_getElem (by omega)⟩
    obtain ⟨ks', hks', b, t, rfl, hb⟩ := hxs.get hv
    rw [hks] at hks'; cases hks'
    have hstep := fold_snoc (stepL b0) ⟨[], [], []⟩ hks
    have hdrop : sumL (kss.drop j) = ks.length + sumL (kss.drop (j + 1)) := by
      rw [List.drop_eq_getElem_cons (by omega), sumL_cons]
      have : kss[j] = ks := by rw [List.getElem?_eq_getElem (by omega)] at hks; exact Option.some.inj hks
      rw [this]
    generalize hst : (kss.take j).foldl (stepL b0) ⟨[], [], []⟩ = st at *
    have hkvl := hpl.length
    have hyl := hys.length
    have hget := hpl.get (kk := b.toList)
    rw [bI_of hb] at hget
    have hkey : (bytesKind prog w).is b.toList (.bytes b t) = true := by simp [bytesKind, isBytes]
    have hdm : sysModules < d := Nat.lt_trans S'.mods hLd
    walk_at "goC"
    refine is_none_ne (fun q => nomatch q) ?_
    walk_at "goC"
    refine ite_f rfl ?_
    walk_at "goC"
    refine ite_t rfl ?_
    walk_at "go"
    refine d_in (knd := bytesKind prog w) (S₉.at_ (i := 2) rfl) hdo hdm hkey fun k₁₀ => ?_
    walk_at "go"
    refine ite_c (fun hc => ?_) fun hc => ?_
    · obtain ⟨n, hn'⟩ : ∃ n, getL st.ps ks = some n := by
        cases q : getL st.ps ks with
        | some n => exact ⟨n, rfl⟩
        | none => rw [(hget.1 q).2] at hc; cases hc
      obtain ⟨tn, hval⟩ := hget.2 n hn'
      have hs' : stepL b0 st ks = ⟨st.offs ++ [n], st.ps, st.out⟩ := by unfold stepL; rw [hn']
      walk_at "goC"
      refine ite_t rfl ?_
      walk_at "goC"
      refine gm_append (S₉.at_ (i := 3) rfl) hLO ?_
      walk_at "goC"
      refine d_item' (S₉.at_ (i := 2) rfl) hdo hkey hval fun k₁₁ => ?_
      walk_at "goC"
      refine wpC_of (m_append (i := 3) S₉ rfl hLO (by omega) fun h₁₂ o₁₂ hLO₁₂ S₁₂ => ⟨rfl, ?_⟩)
      dsimp only [List.set] at S₁₂
      walk_at "goC"
      refine turn_next S₁₂ (stays_refl _) ?_
      unfold JJ41_19
      rw [hstep, hs']
      exact ⟨oa', od', o₁₂, kvs, _, _, _, rfl, rfl, hbo, hdo, hpl, hLO₁₂, ints_snoc hys n tn, by dsimp only; omega, by dsimp only; omega, by simp; omega⟩
    · have hn' : getL st.ps ks = none := by
        cases q : getL st.ps ks with
        | none => rfl
        | some n => obtain ⟨tn, hval⟩ := hget.2 n q; rw [hval] at hc; cases hc
      have hnk := (hget.1 hn').1
      have hs' : stepL b0 st ks = ⟨st.offs ++ [(b0 : Int) + st.out.length], st.ps ++ [(ks, (b0 : Int) + st.out.length)], st.out ++ ks⟩ := by unfold stepL; rw [hn']
      obtain ⟨ob, HH1⟩ := hbo.ex
      obtain rfl := HH1.1
      have hbk := HH1.2
      clear HH1
      have hobl : ob.size = st.out.length := by rw [← KBw.ints_length, hbk]
      have hbl : b.size = ks.length := by rw [← KBw.ints_length, hb]
      walk_at "goC"
      refine ite_f rfl ?_
      walk_at "goC"
      refine l_len_ba (S₉.at_ (i := 1) rfl) (by omega) fun t₁₁ k₁₁ => ?_
      rw [hobl]
      walk_at "goC"
      rename St _ _ _ _ _ _ _ _ _ => S₁₂
      refine ite_f (by rw [decide_eq_false_iff_not]; omega) ?_
      walk_at "goC"
      refine d_set (i := 2) S₁₂ rfl hdo hkey (by omega) fun h₁₃ k₁₃ od₁₃ hdo₁₃ S₁₃ => ?_
      rw [stored_new hnk] at hdo₁₃
      dsimp only [List.set] at S₁₃
      walk_at "goC"
      refine gm_append (S₁₃.at_ (i := 3) rfl) hLO ?_
      walk_at "goC"
      refine wpC_of (m_append (i := 3) S₁₃ rfl hLO (by omega) fun h₁₄ o₁₄ hLO₁₄ S₁₄ => ⟨rfl, ?_⟩)
      dsimp only [List.set] at S₁₄
      walk_at "goC"
      refine gm_extend_ba (S₁₄.at_ (i := 1) rfl) ?_
      walk_at "goC"
      refine C_extend hA'.gd (S₁₄.at_ (i := 1) rfl) (by omega) fun h₁₅ hb₁₅ hk₁₅ => ⟨rfl, ?_⟩
      have S₁₅ := S₁₄.turnedX (i := 1) (h' := h₁₅) rfl (fun b ob hb e => hk₁₅ b ob hb e) hb₁₅
      dsimp only [List.set] at S₁₅
      walk_at "goC"
      refine turn_next S₁₅ (stays_refl _) ?_
      unfold JJ41_19
      rw [hstep, hs']
      refine ⟨_, od₁₃, o₁₄, _, _, _, _, rfl, rfl, ⟨_, rfl, KBw.ints_app hbk hb⟩, hdo₁₃, ?_, hLO₁₄, ints_snoc hys _ _, ?_, ?_, ?_⟩
      · rw [← bI_of hb]; exact hpl.snoc
      · simp; omega
      · simp; omega
      · simp; omega
  · rintro g' vs' led' h₉ k₉ ⟨oa', od', of', kvs, ys, u6, u7, rfl, rfl, hbo, hdo, hpl, hLO, hys, hlen, hpn, hon⟩ hg S₉
    rw [hxl, List.take_length] at hbo hys hlen
    obtain ⟨ob, HH1⟩ := hbo.ex
    obtain rfl := HH1.1
    have hbk := HH1.2
    clear HH1
    have hobl : ob.size = (kss.foldl (stepL b0) ⟨[], [], []⟩).out.length := by rw [← KBw.ints_length, hbk]
    walk_at "goC"
    refine l_bytes_ba (S₉.at_ (i := 0) rfl) (by omega) fun t₁₀ k₁₀ => ?_
    walk_at "goC"
    refine g_newTuple S₉ (by simp) fun t₁₁ ot₁₁ h₁₁ hT₁₁ htn₁₁ htL₁₁ hst₁₁ S₁₁ => ?_
    walk_at "goC"
    refine hok _ _ _ _ _ _ _ _ _ hT₁₁ hLO hys hbk (S.ret0n (new := [(t₁₁, ot₁₁), (lf, of')]) S₁₁ (stays_trans (hideNil h) hg) (fun p hp => ?_) ?_)
    · rcases List.mem_cons.mp hp with rfl | hp
      · exact .head _
      · rw [List.mem_singleton.mp hp]; exact .tail _ (.tail _ (.tail _ (.head _)))
    · have := S₁₁.ndl
      simp only [List.map_cons, List.nodup_cons, List.mem_cons, not_or] at this ⊢
      exact ⟨⟨this.1.2.2.1, by simp⟩, by simp, by simp⟩
end
section
variable {prog : Program} {w : World} {A : Around} {E : Value → Shared → Prop} {s₀ : Shared} {h hc : Heap} {k : Nat} {base g g' gc : Heap} {fs fs' : List Env} {L L' : Addr} {ns ns' : List Str} {vs vs' : List (Option Value)} {led led' ledc : List (Addr × Obj)}
  {env : Env} {cl : List (Str × Addr)} {Q : Value → Shared → Prop}
theorem slice_core {value slice : Expr} {l : Addr} {ol : Obj} {xs : List Value} {vl vu : Value} {lo hi : Option Int} (S : St w base fs g L ns vs led h) (ho : h.get? l = some ol) (hl : LO ol xs) (pl : IsPart vl lo) (pu : IsPart vu hi) (hz : xs.length ≤ 16777216)
    (hq : ∀ D o h', LO o (slicePick xs.toArray lo hi none).toList → L < D → St w base fs g L ns vs ((D, o) :: led) h' → Q (.ref D) (sh s₀ h' k))
    (hs : subscripted slice false (.ref l) (.ref h.objs.size) = operate [.ref h.objs.size, .ref l] (getItem (.ref l) (.ref h.objs.size)))
    (ht : ∀ r, letTemporaryGo value (.ref l) r = pure ()) :
    wpAny (model prog w) A (subscriptTail value slice (.ref l) (.ref h.objs.size)) Q E (sh s₀ (h.push { cls := .type "slice", data := .fields #[vl, vu, .none] }) k) := by
  refine slice_list (s := sh s₀ h k) S.toFr S.toNews (hl.isList ho) pl pu (fun h' F' N' => ?_) hs ht (by rw [List.size_toArray, sizeLine_eq]; exact hz)
  exact hq _ _ h' ⟨0, by rw [Array.toArray_toList]⟩ (Nat.lt_succ_of_lt S.loc.lt) (S.ofNew F' N' fun p hp => Nat.lt_succ_of_lt (Heap.lt_size (S.toNews p hp).1))
theorem cut_run {value lo hi : Expr} {p pos : Pos} {s : Shared}
    (q : wpAny (model prog w) A (eval value env) (fun o s₁ => wpAny (model prog w) A (eval lo env) (fun lv s₂ => wpAny (model prog w) A (eval hi env) (fun hv s₃ =>
      Ex17 fun (h₃ : Heap) (k₃ : Nat) (l : Addr) (ol : Obj) (xs : List Value) (ms : List Int) (x y : Int) (u v : Tok) (base g : Heap) (fs : List Env) (L : Addr) (ns : List Str) (vs : List (Option Value)) (led : List (Addr × Obj)) => An12 (s₃ = sh s₀ h₃ k₃) (o = .ref l) (lv = .int x u) (hv = .int y v) (St w base fs g L ns vs led h₃) (h₃.get? l = some ol) (LO ol xs) (IntsAre xs ms) (0 ≤ x) (0 ≤ y) (xs.length ≤ 16777216) (∀ D o h' ys, LO o ys → IntsAre ys ((ms.drop x.toNat).take (min y.toNat ms.length - x.toNat)) → L < D → St w base fs g L ns vs ((D, o) :: led) h' → Q (.ref D) (sh s₀ h' k₃))) E s₂) E s₁) E s)
    (hs : ∀ a b, subscripted (.Slice (some lo) (some hi) none p) false (.ref a) (.ref b) = operate [.ref b, .ref a] (getItem (.ref a) (.ref b)) := by intro _ _; with_unfolding_all rfl)
    (ht : ∀ a r, letTemporaryGo value (.ref a) r = pure () := by intro _ _; with_unfolding_all rfl) :
    wpAny (model prog w) A (eval (.Subscript value (.Slice (some lo) (some hi) none p) pos) env) Q E s := by
  refine Subscript_ (wpAny_mono q (fun o s₁ h₁ => ?_) fun _ _ x => x)
  refine wpAny_Slice ?_
  rw [evalPart_some]
  refine wpAny_mono h₁ (fun l s₂ h₂ => ?_) fun _ _ x => x
  rw [evalPart_some]
  refine wpAny_mono h₂ (fun r s₃ h₃ => ?_) fun _ _ x => x
  rw [evalPart_none]
  refine wpAny_pure ?_
  obtain ⟨H, k₃, l, ol, xs, ms, x, y, u, v, base, g, fs, L, ns, vs, led, rfl, rfl, rfl, rfl, S, ho, hl, hi', hx, hy, hz, hq⟩ := h₃
  exact slice_core S ho hl (.int _ _) (.int _ _) hz (fun D o h' hlo hD S' => hq D o h' _ hlo (kmk_run hi' hx hy) hD S') (hs _ _) (ht _)
theorem cut_from {value lo : Expr} {p pos : Pos} {s : Shared}
    (q : wpAny (model prog w) A (eval value env) (fun o s₁ => wpAny (model prog w) A (eval lo env) (fun lv s₃ =>
      Ex15 fun (h₃ : Heap) (k₃ : Nat) (l : Addr) (ol : Obj) (xs : List Value) (ms : List Int) (x : Int) (u : Tok) (base g : Heap) (fs : List Env) (L : Addr) (ns : List Str) (vs : List (Option Value)) (led : List (Addr × Obj)) => An10 (s₃ = sh s₀ h₃ k₃) (o = .ref l) (lv = .int x u) (St w base fs g L ns vs led h₃) (h₃.get? l = some ol) (LO ol xs) (IntsAre xs ms) (0 ≤ x) (xs.length ≤ 16777216) (∀ D o h' ys, LO o ys → IntsAre ys (ms.drop x.toNat) → L < D → St w base fs g L ns vs ((D, o) :: led) h' → Q (.ref D) (sh s₀ h' k₃))) E s₁) E s)
    (hs : ∀ a b, subscripted (.Slice (some lo) none none p) false (.ref a) (.ref b) = operate [.ref b, .ref a] (getItem (.ref a) (.ref b)) := by intro _ _; with_unfolding_all rfl)
    (ht : ∀ a r, letTemporaryGo value (.ref a) r = pure () := by intro _ _; with_unfolding_all rfl) :
    wpAny (model prog w) A (eval (.Subscript value (.Slice (some lo) none none p) pos) env) Q E s := by
  refine Subscript_ (wpAny_mono q (fun o s₁ h₁ => ?_) fun _ _ x => x)
  refine wpAny_Slice ?_
  rw [evalPart_some]
  refine wpAny_mono h₁ (fun l s₃ h₃ => ?_) fun _ _ x => x
  rw [evalPart_none]
  refine wpAny_pure ?_
  refine wpAny_pure ?_
  obtain ⟨H, k₃, l, ol, xs, ms, x, u, base, g, fs, L, ns, vs, led, rfl, rfl, rfl, S, ho, hl, hi', hx, hz, hq⟩ := h₃
  exact slice_core S ho hl (.int _ _) .none hz (fun D o h' hlo hD S' => hq D o h' _ hlo (kmk_from hi' hx) hD S') (hs _ _) (ht _)
theorem cut_upto {value hi : Expr} {p pos : Pos} {s : Shared}
    (q : wpAny (model prog w) A (eval value env) (fun o s₁ => wpAny (model prog w) A (eval hi env) (fun lv s₃ =>
      Ex15 fun (h₃ : Heap) (k₃ : Nat) (l : Addr) (ol : Obj) (xs : List Value) (ms : List Int) (x : Int) (u : Tok) (base g : Heap) (fs : List Env) (L : Addr) (ns : List Str) (vs : List (Option Value)) (led : List (Addr × Obj)) => An10 (s₃ = sh s₀ h₃ k₃) (o = .ref l) (lv = .int x u) (St w base fs g L ns vs led h₃) (h₃.get? l = some ol) (LO ol xs) (IntsAre xs ms) (0 ≤ x) (xs.length ≤ 16777216) (∀ D o h' ys, LO o ys → IntsAre ys (ms.take x.toNat) → L < D → St w base fs g L ns vs ((D, o) :: led) h' → Q (.ref D) (sh s₀ h' k₃))) E s₁) E s)
    (hs : ∀ a b, subscripted (.Slice none (some hi) none p) false (.ref a) (.ref b) = operate [.ref b, .ref a] (getItem (.ref a) (.ref b)) := by intro _ _; with_unfolding_all rfl)
    (ht : ∀ a r, letTemporaryGo value (.ref a) r = pure () := by intro _ _; with_unfolding_all rfl) :
    wpAny (model prog w) A (eval (.Subscript value (.Slice none (some hi) none p) pos) env) Q E s := by
  refine Subscript_ (wpAny_mono q (fun o s₁ h₁ => ?_) fun _ _ x => x)
  refine wpAny_Slice ?_
  rw [evalPart_none]
  refine wpAny_pure ?_
  rw [evalPart_some]
  refine wpAny_mono h₁ (fun l s₃ h₃ => ?_) fun _ _ x => x
  refine wpAny_pure ?_
  obtain ⟨H, k₃, l, ol, xs, ms, x, u, base, g, fs, L, ns, vs, led, rfl, rfl, rfl, S, ho, hl, hi', hx, hz, hq⟩ := h₃
  exact slice_core S ho hl .none (.int _ _) hz (fun D o h' hlo hD S' => hq D o h' _ hlo (kmk_upto hi' hx) hD S') (hs _ _) (ht _)
end
theorem CovIs.weak {n : Nat} {g : Heap} {v : Value} {c : List Int} (x : CovIs n g v c) : CovIs 0 g v c := by
  obtain ⟨x, dx, od, tv, h1, h2, h3, h4, h5, h6, t, o, xs, g1, g2, g3, g4, g5⟩ := x.ex
  exact ⟨x, dx, od, tv, h1, Nat.zero_le _, Nat.zero_le _, h4, h5, h6, t, o, xs, g1, Nat.zero_le _, g3, g4, g5⟩
theorem CovsAre.each {n : Nat} {g : Heap} {xs : List Value} {cs : List (List Int)} (h : CovsAre n g xs cs) : Each (CovIs 0 g) xs cs := by
  induction h with
  | nil => exact .nil
  | cons a _ ih => exact .cons a.weak ih
theorem Each.append {α : Type} {R : Value → α → Prop} {ys : List Value} {ds : List α} (y : Each R ys ds) {xs : List Value} {cs : List α} (h : Each R xs cs) : Each R (xs ++ ys) (cs ++ ds) := by
  induction h with
  | nil => exact y
  | cons a _ ih => exact .cons a ih
theorem setOf_self {gl ks : List Int} (h : SetOf gl ks) (ha : ks.Pairwise (· < ·)) : gl = ks := by
  have hp : gl.Perm ks := (List.perm_ext_iff_of_nodup (nodup_of_asc h.asc) (nodup_of_asc ha)).mpr h.mem
  exact perm_asc hp (h.asc.imp fun q => Int.le_of_lt q) ha
theorem WC_len (gl : List Int) : (WC gl).length ≤ 4 + 6 * gl.length := by
  unfold WC
  have := rangesF_len gl
  split
  · rw [List.length_append, o2s_len]; simp [o2]; omega
  · rw [stepR_len]; simp [o2]; omega
structure LInv (b : Int) (n : Nat) (s : LS') : Prop where
  offs : s.offs.length = n
  o : ∀ x ∈ s.offs, b ≤ x ∧ x ≤ b + s.out.length
  p : ∀ x ∈ s.ps, b ≤ x.2 ∧ x.2 ≤ b + s.out.length
theorem getL_mem {ps : List (List Int × Int)} {k : List Int} {n : Int} (h : getL ps k = some n) : ∃ x ∈ ps, x.2 = n ∧ x.1 = k := by
  unfold getL at h
  obtain ⟨x, HH1⟩ := Option.map_eq_some_iff.mp h
  have hx := HH1.1
  obtain rfl := HH1.2
  clear HH1
  exact ⟨x, List.mem_of_find?_eq_some hx, rfl, by simpa using List.find?_some hx⟩
theorem LInv.step {b : Int} {n : Nat} {s : LS'} (h : LInv b n s) (ks : List Int) : LInv b (n + 1) (stepL b s ks) := by
  unfold stepL
  split
  · rename_i o ho
    obtain ⟨x, HH1⟩ := getL_mem ho
    have hx := HH1.1
    obtain rfl := HH1.2.1
    clear HH1
    refine ⟨by simp [h.offs], fun y hy => ?_, h.p⟩
    rw [List.mem_append, List.mem_singleton] at hy
    exact hy.elim (h.o y) fun e => by rw [e]; exact h.p x hx
  · refine ⟨by simp [h.offs], fun y hy => ?_, fun y hy => ?_⟩
    · rw [List.mem_append, List.mem_singleton] at hy
      rw [List.length_append]
      rcases hy with hy | rfl
      · have := h.o y hy; omega
      · omega
    · rw [List.mem_append, List.mem_singleton] at hy
      rw [List.length_append]
      rcases hy with hy | rfl
      · have := h.p y hy; omega
      · dsimp only; omega
theorem LInv.fold {b : Int} : ∀ {kss : List (List Int)} {n : Nat} {s : LS'}, LInv b n s → LInv b (n + kss.length) (kss.foldl (stepL b) s)
  | [], n, s, h => h
  | k :: kss, n, s, h => by
    have := LInv.fold (kss := kss) (h.step k)
    rw [List.foldl_cons, List.length_cons, show n + (kss.length + 1) = n + 1 + kss.length by omega]; exact this
theorem laidF_inv (b : Int) (kss : List (List Int)) : LInv b kss.length (laidF b kss) := by
  have := LInv.fold (b := b) (kss := kss) (n := 0) (s := ⟨[], [], []⟩) ⟨rfl, (fun _ h => nomatch h), (fun _ h => nomatch h)⟩
  rw [Nat.zero_add] at this; exact this
theorem laid_out_len (b : Int) : ∀ {kss : List (List Int)} {s : LS'}, (kss.foldl (stepL b) s).out.length ≤ s.out.length + sumL kss
  | [], s => by simp [sumL]
  | k :: kss, s => by
    rw [List.foldl_cons, sumL_cons]
    have h1 := laid_out_len b (kss := kss) (s := stepL b s k)
    have h2 := (stepL_len b s k).2.2.2
    omega
theorem laidF_len (b : Int) (kss : List (List Int)) : (laidF b kss).out.length ≤ sumL kss := by
  have := laid_out_len b (kss := kss) (s := ⟨[], [], []⟩); simpa [laidF] using this
theorem sumL_WC : ∀ {cs : List (List Int)}, (∀ c ∈ cs, c.length ≤ 20) → sumL (cs.map WC) ≤ 124 * cs.length
  | [], _ => by simp [sumL]
  | c :: cs, h => by
    rw [List.map_cons, sumL_cons, List.length_cons]
    have h1 := WC_len c
    have h2 := h c (.head _)
    have h3 := sumL_WC (cs := cs) fun d hd => h d (.tail _ hd)
    omega
noncomputable def pc (row : List Int) : List Int := o2 row.length ++ o2s row
noncomputable def WRl (ks : List Int) (back ahead : List (List Int)) : LS' := laidF ((10 + 2 * (back.length + ahead.length + ks.length) : Nat) : Int) ((ks :: (back ++ ahead)).map WC)
noncomputable def WR (ks : List Int) (ps : List (Int × Int)) (back ahead : List (List Int)) : List Int :=
  o2s [1, (WRl ks back ahead).offs.headD 0] ++ pc (((WRl ks back ahead).offs.drop 1).take back.length) ++ pc ((WRl ks back ahead).offs.drop (1 + back.length)) ++ pc (ks.map fun k => (getI ps k).getD 0) ++ (WRl ks back ahead).out
theorem wb1 {b o : Nat} (h : o ≤ 41) : 4 + 2 * min b (o - 1) ≤ 16776000 := by omega
theorem wb2 {b o : Nat} (h : o ≤ 41) : 6 + 2 * min b (o - 1) + 2 * (o - (1 + b)) ≤ 16776000 := by omega
theorem wb3 {b o g : Nat} (h : o ≤ 41) (hg : g ≤ 20) : 6 + 2 * min b (o - 1) + 2 + 2 * (o - (1 + b)) + 2 * g ≤ 16776000 := by omega
theorem wb4 {b o g u : Nat} (h : o ≤ 41) (hg : g ≤ 20) (hu : u ≤ 6000) : 6 + 2 * min b (o - 1) + 2 + 2 * (o - (1 + b)) + 2 + 2 * g + u ≤ 16777000 := by omega
section
variable {prog : Program} {w : World} {A : Around} {E : Value → Shared → Prop} {s₀ : Shared} {h hc : Heap} {k : Nat} {base g g' gc : Heap} {fs fs' : List Env} {L L' : Addr} {ns ns' : List Str} {vs vs' : List (Option Value)} {led led' ledc : List (Addr × Obj)}
  {env : Env} {cl : List (Str × Addr)} {Q : Value → Shared → Prop}
noncomputable abbrev JJ41_20 (back : List (List Int)) (ahead : List (List Int)) (gl : List Int) : Nat → Heap → List (Addr × Obj) → List Value → Prop :=
  fun j g' led' items => led' = [] ∧ j ≤ (gl :: (back ++ ahead)).length ∧ Each BytesIs items (((gl :: (back ++ ahead)).map WC).take j)
noncomputable abbrev JJ41_21 (ps : List (Int × Int)) (gl : List Int) (ba : Addr) (oa₃₇ : Obj) : Nat → Heap → List (Addr × Obj) → List Value → Prop :=
  fun j g' led' items => led' = [(ba, oa₃₇)] ∧ j ≤ gl.length ∧ IntsAre items ((gl.map fun k => (getI ps k).getD 0).take j)
theorem c_write_reverse {n : Nat} {v : Value} {ks : List Int} {ps : List (Int × Int)} {back ahead : List (List Int)} (S : St w base fs g L ns vs led h) (hA : AxC prog A fs 9) (hr : RevIs prog w n g v ps back ahead)
    (hperm : ks.Perm (ps.map (·.1))) (hasc : ks.Pairwise (· < ·)) (hps : ps.length ≤ 20) (hbl : back.length ≤ 20) (hal : ahead.length ≤ 20) (hpr : ∀ p ∈ ps, (0 ≤ p.1 ∧ p.1 < 65536) ∧ 0 ≤ p.2 ∧ p.2 < 65536)
    (hcr : ∀ c ∈ back ++ ahead, c.length ≤ 20 ∧ ∀ x ∈ c, 0 ≤ x ∧ x < 65536)
    (hok : ∀ h' k' c t, KBw.bInts c = WR ks ps back ahead → St w base fs g L ns vs led h' → Q (.bytes c t) (sh s₀ h' k')) :
    wpC (model prog w) A (call (.ref 430) [v]) Q (sh s₀ h k) := by
  obtain ⟨x, dx, od, d, o, kvs, bv, av, rfl, hnx, hndx, hnd, hx, hdx, hD, hdm, hd, hdo, hmi, hbv, hav⟩ := hr.ex
  obtain ⟨bt, bo, bxs, rfl, hnb, hb, hbT, hbs⟩ := hbv.ex
  obtain ⟨at_, ao, axs, rfl, hna, ha, haT, has⟩ := hav.ex
  refine enterDC (ns' := ["glyphs", "covers", "begin", "offsets", "octets", "behind", "out"]) (args' := []) (n := 0) (vs' := [none, none, none, none, none, none, none]) (binds := [("table", .ref x)]) S hA (by k_is) (by k_is) (BindsTo.of_eq rfl) rfl (fun n => ⟨.inr ⟨rfl, rfl⟩, trivial⟩) [] (fun _ h => nomatch h) (by simp) (by decide +kernel) (by decide +kernel) rfl (by decide) (by decide +kernel) rfl rfl rfl rfl ?_
  intro env' L' h₁ k₁ A' cells he hs hA' hL' hcells S'
  obtain ⟨oc, HH1⟩ := CellsAre.one hcells
  obtain rfl := HH1.1
  have hoc := HH1.2
  clear HH1
  obtain ⟨g2, hg2, hc2, S2⟩ := S'.freeze
  replace S2 : St w base (env' :: fs) g2 L' ["glyphs", "covers", "begin", "offsets", "octets", "behind", "out"] [none, none, none, none, none, none, none] [] h₁ := S2
  replace he : EnvOk env' L' ["glyphs", "covers", "begin", "offsets", "octets", "behind", "out"] [("table", L' + 1)] := he
  have hC : CN env' [("table", L' + 1)] g2 "table" (.ref x) := ⟨kindOf_of hs (by decide +kernel), _, _, rfl, hc2, hoc⟩
  have hG : EnvG w env' [("sorted", .builtin "sorted"), ("coverage_of", .ref 320), ("list", .type "list"), ("len", .builtin "len"), ("laid", .ref 271), ("OctetsOut", .ref 259), ("put_counted", .ref 392)] := .cons (kindOf_of hs (by decide +kernel)) (G_sorted w) (.cons (kindOf_of hs (by decide +kernel)) (G_coverage_of w) (.cons (kindOf_of hs (by decide +kernel)) (G_list w) (.cons (kindOf_of hs (by decide +kernel)) (G_len w) (.cons (kindOf_of hs (by decide +kernel)) (G_laid w) (.cons (kindOf_of hs (by decide +kernel)) (G_OctetsOut w) (.cons (kindOf_of hs (by decide +kernel)) (G_put_counted w) .nil))))))
  have hgh : g.StaysIn (hideAll h (List.map (fun x : Addr × Obj => x.1) [])) := fun b o e => hideNil h _ _ (S.get e)
  have hgA := hg2
  have hx2 := hgA _ _ (hgh _ _ hx)
  have hdx2 := hgA _ _ (hgh _ _ hdx)
  have hd2 := hgA _ _ (hgh _ _ hd)
  have hb2 := hgA _ _ (hgh _ _ hb)
  have ha2 := hgA _ _ (hgh _ _ ha)
  have hkl := hmi.length
  have hbl' := hbs.length
  have hal' := has.length
  have hkl2 := hperm.length_eq
  rw [List.length_map] at hkl2
  clear hcells S'
  walk_at "goC"
  refine wpC_of (d_sorted hA'.ax.hd S2 (S2.get hd2) hdo hdm (by omega) fun l lo h₃ k₃ xs ks' hLO hits hperm' hsort S₃ => ?_)
  rw [hmi.keys] at hperm'
  obtain rfl : ks' = ks := perm_asc (hperm'.trans hperm.symm) hsort hasc
  have hxl := hits.length
  obtain ⟨g3, hg3, hl3, S₄⟩ := S₃.freeze
  replace hC := hC.up hg3
  have hx3 := hg3 _ _ hx2
  have hdx3 := hg3 _ _ hdx2
  have hd3 := hg3 _ _ hd2
  have hb3 := hg3 _ _ hb2
  have ha3 := hg3 _ _ ha2
  replace hgA := stays_trans hgA hg3
  clear S2 S₃ hx2 hdx2 hd2 hb2 ha2
  walk_at "goC"
  rename St _ _ _ _ _ _ _ _ _ => S₅
  refine c_coverage_of S₅ (hA'.ax.less (by decide)) hl3 hLO hits (by omega) fun g4 h₆ k₆ v0 gl hg4 hset hcov S₆ => ?_
  obtain rfl := setOf_self hset hasc
  have hx4 := hg4 _ _ hx3
  have hdx4 := hg4 _ _ hdx3
  have hb4 := hg4 _ _ hb3
  have ha4 := hg4 _ _ ha3
  clear S₄ S₅
  replace hC := hC.up hg4
  walk_at "goC"
  refine g_newList S₆ (by simp) fun l1 o1 h₇ hl1 hn1 hL1 _ S₇ => ?_
  walk_at "goC"
  refine g_list_tup S₇ (S₇.get hb4) hbT (by omega) fun l2 o2' h₈ hl2 hL2 S₈ => ?_
  walk_at "goC"
  refine g_add S₈ (S₈.at_ (i := 1) rfl) (S₈.at_ (i := 0) rfl) hl1 hl2 (by simp; omega) fun l3 o3 h₉ hl3' hL3 S₉ => ?_
  walk_at "goC"
  refine g_list_tup S₉ (S₉.get ha4) haT (by omega) fun l4 o4 h₁₀ hl4 hL4 S₁₀ => ?_
  walk_at "goC"
  refine g_add S₁₀ (S₁₀.at_ (i := 1) rfl) (S₁₀.at_ (i := 0) rfl) hl3' hl4 (by simp; omega) fun l5 o5 h₁₁ hl5 hL5 S₁₁ => ?_
  replace S₁₁ := S₁₁.part (sub := [(l5, o5)]) (fun p hp => by rw [List.mem_singleton.mp hp]; exact .head _) (by simp)
  obtain ⟨g5, hg5, hl5g, S₁₂⟩ := S₁₁.freeze
  clear S₆ S₇ S₈ S₉ S₁₀ S₁₁
  have hcovs : Each (CovIs 0 g5) ([v0] ++ bxs ++ axs) (gl :: (back ++ ahead)) := by
    have h1 : Each (CovIs 0 g4) [v0] [gl] := .cons hcov.weak .nil
    have hgg : g.StaysIn g4 := stays_trans hgh (stays_trans hgA hg4)
    have h2 : Each (CovIs 0 g4) bxs back := hbs.each.map fun _ _ q => q.up hgg (Nat.le_refl _)
    have h3 : Each (CovIs 0 g4) axs ahead := has.each.map fun _ _ q => q.up hgg (Nat.le_refl _)
    have := (Each.append h3 (Each.append h2 h1)).map fun v c (q : CovIs 0 g4 v c) => q.up hg5 (Nat.le_refl _)
    simpa using this
  have hx5 := hg5 _ _ hx4
  have hdx5 := hg5 _ _ hdx4
  have hb5 := hg5 _ _ hb4
  have ha5 := hg5 _ _ ha4
  have hl5' := hg5 _ _ (hg4 _ _ hl3)
  have hd5 := hg5 _ _ (hg4 _ _ hd3)
  replace hC := hC.up hg5
  replace hgA := stays_trans hgA (stays_trans hg4 hg5)
  clear hx4 hdx4 hb4 ha4 hx3 hdx3 hb3 ha3 hd3 hl3
  have hcl := hcovs.length
  walk_at "goC"
  rename St _ _ _ _ _ _ _ _ _ => S₁₃
  refine l_len_tup (S₁₃.get hb5) hbT (by omega) fun t₁₄ k₁₄ => ?_
  walk_at "goC"
  refine l_len_tup (S₁₃.get ha5) haT (by omega) fun t₁₅ k₁₅ => ?_
  walk_at "goC"
  refine l_len_list (S₁₃.get hl5') hLO (by omega) fun t₁₆ k₁₆ => ?_
  walk_at "goC"
  rename St _ _ _ _ _ _ _ _ _ => S₁₇
  clear S₁₂ S₁₃
  have hbeg : (10 : Int) + 2 * ((bxs.length : Int) + (axs.length : Int) + (xs.length : Int)) = ((10 + 2 * (back.length + ahead.length + gl.length) : Nat) : Int) := by rw [hbl', hal', hxl]; omega
  rw [hbeg] at S₁₇
  refine C_unpack2 (s₀ := s₀) hA'.ax.hd ?_
  walk_at "goC"
  refine C_comp (closure_zero rfl) rfl (by decide +kernel) ?_
  walk_at "goC"
  refine wpC_of (it_list hA'.ax.hd S₁₇ hl5g hl5 fun I oI h₁₈ k₁₈ W S₁₈ => ?_)
  refine C_elts (JJ41_20 back ahead gl) he W S₁₈ (by decide +kernel) rfl (by decide +kernel) (by rw [hcl]; simp; omega) (fun _ _ _ _ _ hN hj => hj) ⟨rfl, Nat.zero_le _, .nil⟩ ?_ ?_ ?_
  · rintro j g' led' items ⟨_, hj, hi⟩
    have := hi.length
    rw [this, List.length_take, List.length_map]; omega
  · rintro C cenv j v g' led' items h₁₉ k₁₉ oI' oD hC0 hj hv ⟨rfl, _, hits'⟩ hg' hcs hce S₁₉
    have hG2 : EnvG w cenv [("write_coverage", .ref 363)] := .cons (kindOf_rel hcs (by decide +kernel)) (G_write_coverage w) .nil
    obtain ⟨c, HH1⟩ := hcovs.get hv
    have hcj := HH1.1
    have hcov' := HH1.2
    clear HH1
    have hcm : c.length ≤ 20 ∧ ∀ x ∈ c, 0 ≤ x ∧ x < 65536 := by
      rcases List.mem_cons.mp (List.mem_of_getElem? hcj) with rfl | hm
      · refine ⟨by omega, fun y hy => ?_⟩
        obtain ⟨p, HH1⟩ := List.mem_map.mp (hperm.mem_iff.mp hy)
        have hp := HH1.1
        obtain rfl := HH1.2
        clear HH1
        exact (hpr p hp).1
      · exact hcr c hm
    walk_at "goC"
    refine c_write_coverage S₁₉ (hA'.less (by decide)) (hcov'.up hg' (Nat.le_refl _)) hcm.2 (by omega) fun h₂₀ k₂₀ cb tb hcb S₂₀ => ?_
    refine elt_done S₂₀ (stays_refl _) ⟨rfl, by omega, ?_⟩
    rw [take_snoc (c := WC c) (by rw [List.getElem?_map, hcj]; rfl)]
    exact hits'.snoc ⟨cb, tb, rfl, hcb⟩
  · rintro g' led' items oD h₁₉ k₁₉ ⟨rfl, _, hits'⟩ hlen' hLO' hg' S₁₉
    rw [List.take_of_length_le (by rw [List.length_map, hcl]; exact Nat.le_refl _)] at hits'
    obtain ⟨g6, hg6, hl6, S₂₀⟩ := S₁₉.freeze
    have hCL : (gl :: (back ++ ahead)).length = 1 + (back.length + ahead.length) := by simp; omega
    have hcl20 : ∀ c ∈ gl :: (back ++ ahead), c.length ≤ 20 := fun c hc => by
      rcases List.mem_cons.mp hc with rfl | hm
      · omega
      · exact (hcr c hm).1
    have hsum := sumL_WC hcl20
    have hinv := laidF_inv ((10 + 2 * (back.length + ahead.length + gl.length) : Nat) : Int) ((gl :: (back ++ ahead)).map WC)
    have hout := laidF_len ((10 + 2 * (back.length + ahead.length + gl.length) : Nat) : Int) ((gl :: (back ++ ahead)).map WC)
    walk_at "goC"
    refine c_laid S₂₀ (hA'.less (by decide)) hl6 hLO' hits' (by rw [hCL] at hsum; omega) (by rw [List.length_map, hCL]; omega) fun h₂₁ k₂₁ t ot lf olf c tc ys hT hlf hys hc S₂₁ => ?_
    refine ⟨h₂₁, k₂₁, t, ot, .ref lf, .bytes c tc, rfl, rfl, S₂₁.at_ (i := 0) rfl, hT, fun h₂₂ hk₂₂ => ?_⟩
    have S₂₂ := (S₂₁.grown hk₂₂).part (sub := [(lf, olf)]) (fun p hp => .tail _ hp) (by simp)
    obtain ⟨g7, hg7, hlf7, S₂₃⟩ := S₂₂.freeze
    clear S₁₇ S₁₈ S₁₉ S₂₀ S₂₁ S₂₂ W
    have hgs := stays_trans hg' (stays_trans hg6 hg7)
    have hx7 := hgs _ _ hx5
    have hdx7 := hgs _ _ hdx5
    have hb7 := hgs _ _ hb5
    have ha7 := hgs _ _ ha5
    have hl7 := hgs _ _ hl5'
    have hd7 := hgs _ _ hd5
    replace hC := hC.up hgs
    replace hgA := stays_trans hgA hgs
    clear hx5 hdx5 hb5 ha5 hl5' hd5
    change IntsAre ys (WRl gl back ahead).offs at hys
    change KBw.bInts c = (WRl gl back ahead).out at hc
    change LInv _ _ (WRl gl back ahead) at hinv
    change (WRl gl back ahead).out.length ≤ _ at hout
    generalize hst : WRl gl back ahead = st at hys hc hinv hout
    have hol := hinv.offs
    rw [List.length_map, hCL] at hol
    rw [hCL] at hsum
    have ho41 : st.offs.length ≤ 41 := by omega
    have hg20 : gl.length ≤ 20 := by omega
    have hu60 : st.out.length ≤ 6000 := by omega
    have hyl := hys.length
    have horange : ∀ q ∈ st.offs, 0 ≤ q ∧ q < 65536 := fun q hq => by have := hinv.o q hq; omega
    walk_at "goC"
    rename St _ _ _ _ _ _ _ _ _ => S₂₄
    refine l_len_tup (S₂₄.get hb7) hbT (by omega) fun t₂₅ k₂₅ => ?_
    walk_at "goC"
    rename St _ _ _ _ _ _ _ _ _ => S₂₆
    refine c_OctetsOut S₂₆ (hA'.less (by decide)) fun g8 h₂₇ k₂₇ x₈ ba oa hg8 hout8 hb8 S₂₇ => ?_
    clear S₂₃ S₂₄ S₂₆
    obtain ⟨dx₈, od₈, hxo, hdxo, hDo⟩ := hout8.ex
    have hx8 := hg8 _ _ hx7
    have hdx8 := hg8 _ _ hdx7
    have hb8' := hg8 _ _ hb7
    have hl8 := hg8 _ _ hl7
    have hd8 := hg8 _ _ hd7
    have hlf8 := hg8 _ _ hlf7
    replace hC := hC.up hg8
    replace hgA := stays_trans hgA hg8
    clear hx7 hdx7 hb7 ha7 hl7 hd7 hlf7
    obtain ⟨o0, rest, hoffs⟩ : ∃ o0 rest, st.offs = o0 :: rest := by
      cases q : st.offs with
      | nil => rw [q] at hol; simp at hol; omega
      | cons a b => exact ⟨a, b, rfl⟩
    obtain ⟨to0, hto0⟩ := ints_get (j := 0) (n := o0) hys (by rw [hoffs]; rfl)
    walk_at "goC"
    rename St _ _ _ _ _ _ _ _ _ => S₂₈
    clear S₂₇
    refine sub_list (S₂₈.get hlf8) hlf (by omega) (by decide) (i := 0) hto0 ?_
    walk_at "goC"
    refine g_newList S₂₈ (by simp) fun lr lro h₂₉ hlr hnr hLr _ S₂₉ => ?_
    obtain ⟨g9, hg9, hlr9, S₃₀⟩ := S₂₉.freeze
    clear S₂₈ S₂₉
    have hx9 := hg9 _ _ hx8
    have hdx9 := hg9 _ _ hdx8
    have hb9 := hg9 _ _ hb8'
    have hl9 := hg9 _ _ hl8
    have hd9 := hg9 _ _ hd8
    have hlf9 := hg9 _ _ hlf8
    have hxo9 := hg9 _ _ hxo
    have hdxo9 := hg9 _ _ hdxo
    replace hC := hC.up hg9
    replace hgA := stays_trans hgA hg9
    clear hx8 hdx8 hb8' hl8 hd8 hlf8 hxo hdxo
    have hO9 : OutIs g9 x₈ ba := ⟨dx₈, od₈, hxo9, hdxo9, hDo⟩
    have ho0 := horange o0 (by rw [hoffs]; exact .head _)
    walk_at "goC"
    refine c_out_rows (i := 0) S₃₀ (hA'.less (by decide)) hO9 rfl hb8 hlr9 hlr (.cons _ _ (.cons _ _ .nil)) (ms := [1, o0]) (fun q hq => ?_) (by simp) fun h₃₁ k₃₁ oa₃₁ hb₃₁ S₃₁ => ⟨rfl, ?_⟩
    · rcases List.mem_cons.mp hq with rfl | hq
      · decide
      · rw [List.mem_singleton.mp hq]; exact ho0
    dsimp only [List.set] at S₃₁
    rw [List.nil_append] at hb₃₁
    clear S₃₀
    walk_at "goC"
    refine cut_run (s₀ := s₀) ?_
    walk_at "goC"
    refine ⟨_, _, _, _, _, _, _, _, _, _, _, _, _, _, _, _, _, rfl, rfl, rfl, rfl, S₃₁, S₃₁.get hlf9, hlf, hys, by decide, by omega, by omega, fun D1 oD1 h₃₂ zs1 hlo1 hzs1 hD1 S₃₂ => ?_⟩
    rw [show (1 : Int).toNat = 1 from rfl, show min ((1 : Int) + (bxs.length : Int)).toNat st.offs.length - 1 = back.length by omega] at hzs1
    obtain ⟨gA, hgA10, hlD1, S₃₃⟩ := S₃₂.freeze
    clear S₃₁ S₃₂
    have hxA := hgA10 _ _ hx9
    have hdxA := hgA10 _ _ hdx9
    have hbA := hgA10 _ _ hb9
    have hlA := hgA10 _ _ hl9
    have hdA := hgA10 _ _ hd9
    have hlfA := hgA10 _ _ hlf9
    have hxoA := hgA10 _ _ hxo9
    have hdxoA := hgA10 _ _ hdxo9
    have hOA := hO9.up hgA10
    replace hC := hC.up hgA10
    replace hgA := stays_trans hgA hgA10
    clear hx9 hdx9 hb9 hl9 hd9 hlf9 hxo9 hdxo9 hO9
    walk_at "goC"
    have hr1 : ∀ q ∈ (st.offs.drop 1).take back.length, 0 ≤ q ∧ q < 65536 := fun q hq => horange q (List.mem_of_mem_drop (List.mem_of_mem_take hq))
    have hl1 : ((st.offs.drop 1).take back.length).length ≤ 20 := by rw [List.length_take]; omega
    refine c_put_counted (i := 0) S₃₃ (hA'.less (by decide)) hOA rfl hb₃₁ hlD1 hlo1 hzs1 hr1 (by omega) (by rw [o2s_len]; simp; first | exact wb1 ho41 | omega) fun h₃₄ k₃₄ oa₃₄ hb₃₄ S₃₄ => ⟨rfl, ?_⟩
    dsimp only [List.set] at S₃₄
    clear S₃₃
    walk_at "goC"
    refine cut_from (s₀ := s₀) ?_
    walk_at "goC"
    refine ⟨_, _, _, _, _, _, _, _, _, _, _, _, _, _, _, rfl, rfl, rfl, S₃₄, S₃₄.get hlfA, hlf, hys, by omega, by omega, fun D2 oD2 h₃₅ zs2 hlo2 hzs2 hD2 S₃₅ => ?_⟩
    rw [show ((1 : Int) + (bxs.length : Int)).toNat = 1 + back.length by omega] at hzs2
    obtain ⟨gB, hgB, hlD2, S₃₆⟩ := S₃₅.freeze
    clear S₃₄ S₃₅
    have hxB := hgB _ _ hxA
    have hdxB := hgB _ _ hdxA
    have hlB := hgB _ _ hlA
    have hdB := hgB _ _ hdA
    have hxoB := hgB _ _ hxoA
    have hdxoB := hgB _ _ hdxoA
    have hOB := hOA.up hgB
    replace hC := hC.up hgB
    replace hgA := stays_trans hgA hgB
    clear hxA hdxA hbA hlA hdA hlfA hxoA hdxoA hOA
    walk_at "goC"
    have hr2 : ∀ q ∈ st.offs.drop (1 + back.length), 0 ≤ q ∧ q < 65536 := fun q hq => horange q (List.mem_of_mem_drop hq)
    have hl2 : (st.offs.drop (1 + back.length)).length ≤ 20 := by rw [List.length_drop]; omega
    refine c_put_counted (i := 0) S₃₆ (hA'.less (by decide)) hOB rfl hb₃₄ hlD2 hlo2 hzs2 hr2 (by omega) (by simp only [List.length_append, o2s_len]; simp [o2]; first | exact wb2 ho41 | exact wb3 ho41 hg20 | exact wb4 ho41 hg20 hu60 | omega) fun h₃₇ k₃₇ oa₃₇ hb₃₇ S₃₇ => ⟨rfl, ?_⟩
    dsimp only [List.set] at S₃₇
    clear S₃₆
    walk_at "goC"
    refine wpC_of (e_comp (closure_one rfl (by rw [he.cells]; rfl)) rfl (by decide +kernel) ?_)
    walk_at "go"
    refine it_list hA'.ax.hd S₃₇ hlB hLO fun I2 oI2 h₃₈ k₃₈ W2 S₃₈ => ?_
    refine g_elts (JJ41_21 ps gl ba oa₃₇) he W2 S₃₈ (by decide +kernel) rfl (by decide +kernel) (by omega) (fun _ _ _ _ _ hN hj => hj) ⟨rfl, Nat.zero_le _, .nil⟩ ?_ ?_ ?_
    · rintro j g' led' items ⟨_, hj, hi⟩
      have := hi.length
      rw [this, List.length_take, List.length_map]; omega
    · rintro C cenv j v g' led' items h₃₉ k₃₉ oI' oD E'' hC0 hj hv ⟨rfl, _, hits'⟩ hg' hcs hce S₃₉
      have hC' := (hC.up hg').into he.kind hcs (by decide +kernel) (cl' := [("table", L' + 1)]) rfl
      obtain ⟨kk, hkk⟩ : ∃ kk, gl[j]? = some kk := ⟨_, List.getElem?_eq_getElem (by omega)⟩
      obtain ⟨tk, htk⟩ := ints_get hits hkk
      rw [hv] at htk
      cases htk
      have hmem : kk ∈ ps.map (·.1) := hperm.mem_iff.mp (List.mem_of_getElem? hkk)
      obtain ⟨m, hm⟩ := getI_mem hmem
      obtain ⟨tm, htm⟩ := hmi.get hm
      have hx6 := hg' _ _ hxB
      have hdx6 := hg' _ _ hdxB
      have hd6 := hg' _ _ hdB
      walk_at "go"
      refine d_item' (S₃₉.get hd6) hdo (intKind_is _ _ _ _) htm fun k₇ => ?_
      refine elt_done S₃₉ (stays_refl _) ⟨rfl, by omega, ?_⟩
      rw [take_snoc (c := m) (by rw [List.getElem?_map, hkk]; simp [hm])]
      exact ints_snoc hits' m tm
    · rintro g' led' items oD h₃₉ k₃₉ ⟨rfl, _, hits'⟩ hlen' hLO' hg' S₃₉
      rw [List.take_of_length_le (by rw [List.length_map]; omega)] at hits'
      obtain ⟨gD, hgD, hlD, S₄₀⟩ := S₃₉.freeze
      have hgs2 := stays_trans hg' hgD
      have hxoD := hgs2 _ _ hxoB
      have hdxoD := hgs2 _ _ hdxoB
      have hOD := hOB.up hgs2
      replace hgA := stays_trans hgA hgs2
      clear S₃₇ S₃₈ S₃₉ W2 hxB hdxB hlB hdB hxoB hdxoB hOB
      walk_at "goC"
      have hr3 : ∀ q ∈ gl.map (fun k => (getI ps k).getD 0), 0 ≤ q ∧ q < 65536 := fun q hq => by
        obtain ⟨y, HH1⟩ := List.mem_map.mp hq
        have hy := HH1.1
        obtain rfl := HH1.2
        clear HH1
        obtain ⟨m, hm⟩ := getI_mem (hperm.mem_iff.mp hy)
        rw [hm]
        unfold getI at hm
        obtain ⟨p, HH1⟩ := Option.map_eq_some_iff.mp hm
        have hp := HH1.1
        obtain rfl := HH1.2
        clear HH1
        exact (hpr p (List.mem_of_find?_eq_some hp)).2
      refine c_put_counted (i := 0) S₄₀ (hA'.less (by decide)) hOD rfl hb₃₇ hlD hLO' hits' hr3 (by rw [List.length_map]; omega) (by simp only [List.length_append, o2s_len]; simp [o2]; first | exact wb2 ho41 | exact wb3 ho41 hg20 | exact wb4 ho41 hg20 hu60 | omega) fun h₄₁ k₄₁ oa₄₁ hb₄₁ S₄₁ => ⟨rfl, ?_⟩
      dsimp only [List.set] at S₄₁
      walk_at "goC"
      refine c_out_add (i := 0) S₄₁ (hA'.less (by decide)) hOD rfl hb₄₁ hc (by simp only [List.length_append, o2s_len]; simp [o2]; first | exact wb2 ho41 | exact wb3 ho41 hg20 | exact wb4 ho41 hg20 hu60 | omega) fun h₄₂ k₄₂ oa₄₂ hb₄₂ S₄₂ => ⟨rfl, ?_⟩
      dsimp only [List.set] at S₄₂
      walk_at "goC"
      refine wpC_of (c_out_octets (i := 0) S₄₂ (hA'.ax.less (by decide)) hOD rfl hb₄₂ (by simp only [List.length_append, o2s_len]; simp [o2]; first | exact wb2 ho41 | exact wb3 ho41 hg20 | exact wb4 ho41 hg20 hu60 | omega) fun cr tr h₄₃ k₄₃ hcr' S₄₃ => ?_)
      walk_at "goC"
      refine hok _ _ _ _ ?_ (S.ret0 S₄₃ (stays_trans (hideNil h) hgA))
      rw [hcr', WR, hst, hoffs]
      simp only [pc, List.append_assoc, List.headD_cons]
end
end
section
noncomputable def At (ks : List Int) (p : Nat) (l : List Int) : Prop := Ex2 fun pre suf => ks = pre ++ (l ++ suf) ∧ pre.length = p
theorem At.left {ks l1 l2 : List Int} {p : Nat} (h : At ks p (l1 ++ l2)) : At ks p l1 := by
  obtain ⟨pre, suf, e, hp⟩ := h
  exact ⟨pre, l2 ++ suf, by rw [e]; simp, hp⟩
theorem At.right {ks l1 l2 : List Int} {p q : Nat} (h : At ks p (l1 ++ l2)) (hq : q = p + l1.length) : At ks q l2 := by
  obtain ⟨pre, suf, e, hp⟩ := h
  exact ⟨pre ++ l1, suf, by rw [e]; simp, by rw [List.length_append, hp, hq]⟩
theorem At.len {ks l : List Int} {p : Nat} (h : At ks p l) : p + l.length ≤ ks.length := by
  obtain ⟨pre, suf, e, hp⟩ := h
  rw [e, ← hp]; simp
theorem At.more {ks l : List Int} {p : Nat} (h : At ks p l) (m : List Int) : At (ks ++ m) p l := by
  obtain ⟨pre, suf, e, hp⟩ := h
  exact ⟨pre, suf ++ m, by rw [e]; simp, hp⟩
theorem At.end_ (ks l : List Int) : At (ks ++ l) ks.length l := ⟨ks, [], by simp, rfl⟩
theorem rd_at {ks : List Int} {p : Nat} {n : Int} (h : At ks p (o2 n)) : rd ks p = n := by
  obtain ⟨pre, suf, e, hp⟩ := h
  subst hp
  subst e
  unfold rd o2
  have e0 : (pre ++ ([n / 256, n % 256] ++ suf)).getD pre.length 0 = n / 256 := by simp [List.getD_eq_getElem?_getD]
  have e1 : (pre ++ ([n / 256, n % 256] ++ suf)).getD (pre.length + 1) 0 = n % 256 := by
    rw [List.getD_eq_getElem?_getD, List.getElem?_append_right (by omega)]
    simp
  rw [e0, e1]; omega
theorem U_at {ks : List Int} {p : Nat} {n : Int} (h : At ks p (o2 n)) : U ks p = .ok n := by
  unfold U
  have := h.len
  rw [if_pos (by simpa [o2] using this), rd_at h]
theorem o2s_cons (n : Int) (ms : List Int) : o2s (n :: ms) = o2 n ++ o2s ms := rfl
theorem o2_len (n : Int) : (o2 n).length = 2 := rfl
theorem rd_row {ks ms : List Int} {p j : Nat} {n : Int} (h : At ks p (o2s ms)) (e : ms[j]? = some n) : rd ks (p + 2 * j) = n := by
  induction ms generalizing p j with
  | nil => simp at e
  | cons m ms ih =>
    rw [o2s_cons] at h
    cases j with
    | zero => simp at e; subst e; exact rd_at h.left
    | succ j =>
      have := ih (j := j) (h.right (q := p + 2) rfl) (by simpa using e)
      rw [show p + 2 * (j + 1) = p + 2 + 2 * j by omega]; exact this
theorem cov1_at {ks : List Int} : ∀ {gl : List Int} {p : Nat} {least : Int} {f : List Int}, At ks p (o2s gl) → gl.Pairwise (· < ·) → (∀ x ∈ gl, least ≤ x) → cov ks 1 gl.length p least f = .ok (f ++ gl)
  | [], _, _, f, _, _, _ => by rw [List.append_nil]; rfl
  | x :: gl, p, least, f, h, ha, hl => by
    rw [o2s_cons] at h
    rw [List.length_cons, cov1_succ, U_at h.left]
    dsimp only
    rw [if_neg (by have := hl x (.head _); omega)]
    rw [cov1_at (h.right (q := p + 2) rfl) (List.pairwise_cons.mp ha).2 fun y hy => by have := (List.pairwise_cons.mp ha).1 y hy; omega]
    simp
noncomputable def spI : Int → List (Int × Int) → List Int
  | _, [] => []
  | i, q :: r => o2 q.1 ++ (o2 q.2 ++ (o2 i ++ spI (i + q.2 - q.1 + 1) r))
theorem stepR_spI : ∀ {rs : List (Int × Int)} {i : Int} {acc : List Int}, (rs.foldl stepR (i, acc)).2 = acc ++ spI i rs
  | [], i, acc => by simp [spI]
  | q :: r, i, acc => by rw [List.foldl_cons, show stepR (i, acc) q = (i + q.2 - q.1 + 1, acc ++ o2 q.1 ++ o2 q.2 ++ o2 i) from rfl, stepR_spI]; simp [spI]
noncomputable def flatR (rs : List (Int × Int)) : List Int := rs.flatMap fun q => irange q.1 (q.2 + 1)
theorem flatR_app (a b : List (Int × Int)) : flatR (a ++ b) = flatR a ++ flatR b := by simp [flatR]
theorem mem_irange {a b x : Int} (h1 : a ≤ x) (h2 : x < b) : x ∈ irange a b := by
  unfold irange
  rw [List.mem_map]
  exact ⟨(x - a).toNat, by rw [List.mem_range]; omega, by omega⟩
theorem irange_snoc {a b : Int} (h : a ≤ b) : irange a (b + 1) = irange a b ++ [b] := by
  unfold irange
  rw [show (b + 1 - a).toNat = (b - a).toNat + 1 by omega, List.range_succ, List.map_append]
  congr 1
  simp; omega
structure OkP (rs : List (Int × Int)) : Prop where
  asc : rs.Pairwise fun p q => p.2 < q.1
  ok : ∀ p ∈ rs, 0 ≤ p.1 ∧ p.1 ≤ p.2
theorem cov2_at {ks : List Int} : ∀ {rs : List (Int × Int)} {p : Nat} {least : Int} {f : List Int}, At ks p (spI f.length rs) → OkP rs → (∀ q ∈ rs, least ≤ q.1) → cov ks 2 rs.length p least f = .ok (f ++ flatR rs)
  | [], _, _, f, _, _, _ => by simp [flatR]; rfl
  | q :: r, p, least, f, h, ho, hl => by
    have hq := ho.ok q (.head _)
    unfold spI at h
    have h1 := h.left
    have h2 := (h.right (q := p + 2) rfl)
    have h3 := (h2.right (q := p + 4) rfl)
    have h4 := (h3.right (q := p + 6) rfl)
    rw [List.length_cons, cov_succ, U_at h1]
    dsimp only
    rw [if_neg (by have := hl q (.head _); omega), if_neg (by decide), U_at h2.left]
    dsimp only
    rw [if_neg (by omega), U_at h3.left]
    dsimp only
    rw [if_pos rfl]
    have hlen : (((f ++ irange q.1 (q.2 + 1)).length : Nat) : Int) = (f.length : Int) + q.2 - q.1 + 1 := by
      have := irange_len (a := q.1) (b := q.2 + 1) (by omega)
      rw [List.length_append]; omega
    rw [← hlen] at h4
    rw [cov2_at h4 ⟨(List.pairwise_cons.mp ho.asc).2, fun y hy => ho.ok y (.tail _ hy)⟩ fun y hy => by have := (List.pairwise_cons.mp ho.asc).1 y hy; omega]
    simp [flatR]
theorem flat_end {rs : List (Int × Int)} (h : OkP rs) {p : Int × Int} (hp : p ∈ rs) : p.2 ∈ flatR rs := by
  unfold flatR
  rw [List.mem_flatMap]
  exact ⟨p, hp, mem_irange (h.ok p hp).2 (by omega)⟩
theorem push_ok {rs : List (Int × Int)} {x : Int} (h : OkP rs) (hx : ∀ y ∈ flatR rs, y < x) (h0 : 0 ≤ x) : OkP (pushR rs x) ∧ flatR (pushR rs x) = flatR rs ++ [x] := by
  have one : irange x (x + 1) = [x] := irange_one x
  rcases List.eq_nil_or_concat rs with rfl | ⟨l, p, rfl⟩
  · rw [pushR_nil]
    refine ⟨⟨by simp, fun q hq => ?_⟩, by simp [flatR, one]⟩
    rw [List.mem_singleton] at hq; subst hq; exact ⟨h0, Int.le_refl _⟩
  · rw [List.concat_eq_append] at h hx ⊢
    have hp := h.ok p (by simp)
    have hpx := hx _ (flat_end h (p := p) (by simp))
    have hpw := List.pairwise_append.mp h.asc
    rw [pushR_snoc]
    split
    · rename_i e
      refine ⟨⟨List.pairwise_append.mpr ⟨hpw.1, by simp, fun a ha b hb => ?_⟩, fun q hq => ?_⟩, ?_⟩
      · rw [List.mem_singleton] at hb; subst hb
        exact hpw.2.2 a ha p (by simp)
      · rw [List.mem_append, List.mem_singleton] at hq
        rcases hq with hq | rfl
        · exact h.ok q (by simp [hq])
        · exact ⟨hp.1, by show p.1 ≤ x; omega⟩
      · rw [flatR_app, flatR_app, List.append_assoc]
        congr 1
        show irange p.1 (x + 1) ++ [] = (irange p.1 (p.2 + 1) ++ []) ++ [x]
        rw [List.append_nil, List.append_nil, irange_snoc (by omega), e]
    · refine ⟨⟨List.pairwise_append.mpr ⟨h.asc, by simp, fun a ha b hb => ?_⟩, fun q hq => ?_⟩, ?_⟩
      · rw [List.mem_singleton] at hb; subst hb
        exact hx _ (flat_end h ha)
      · rw [List.mem_append, List.mem_singleton] at hq
        rcases hq with hq | rfl
        · exact h.ok q hq
        · exact ⟨h0, Int.le_refl _⟩
      · rw [flatR_app (l ++ [p])]
        congr 1
        show irange x (x + 1) ++ [] = [x]
        rw [one]; rfl
theorem fold_ok : ∀ {gl : List Int} {rs : List (Int × Int)}, OkP rs → gl.Pairwise (· < ·) → (∀ x ∈ gl, 0 ≤ x ∧ ∀ y ∈ flatR rs, y < x) → OkP (gl.foldl pushR rs) ∧ flatR (gl.foldl pushR rs) = flatR rs ++ gl
  | [], rs, h, _, _ => ⟨h, by simp⟩
  | x :: gl, rs, h, ha, hx => by
    have h1 := push_ok h (hx x (.head _)).2 (hx x (.head _)).1
    have h2 := fold_ok (gl := gl) h1.1 (List.pairwise_cons.mp ha).2 fun y hy => ⟨(hx y (.tail _ hy)).1, fun z hz => by
      rw [h1.2, List.mem_append, List.mem_singleton] at hz
      rcases hz with hz | rfl
      · exact (hx y (.tail _ hy)).2 z hz
      · exact (List.pairwise_cons.mp ha).1 y hy⟩
    exact ⟨h2.1, by rw [List.foldl_cons, h2.2, h1.2]; simp⟩
structure CovOk (c : List Int) : Prop where
  asc : c.Pairwise (· < ·)
  rng : ∀ x ∈ c, 0 ≤ x ∧ x < 65536
theorem cvr_at {ks gl : List Int} {p : Nat} (h : At ks p (WC gl)) (hc : CovOk gl) : cvr ks p = .ok gl := by
  unfold WC at h
  by_cases hf : formF gl = 1
  · rw [if_pos hf, List.append_assoc] at h
    have h2 := h.right (q := p + 2) rfl
    have h3 := h2.right (q := p + 2 + 2) rfl
    unfold cvr counted
    rw [U_at h.left]
    dsimp only
    rw [if_pos (.inl rfl), U_at h2.left]
    dsimp only
    rw [show ((gl.length : Int)).toNat = gl.length by omega, cov1_at h3 hc.asc fun x hx => (hc.rng x hx).1]
    rfl
  · have hr := fold_ok (gl := gl) (rs := []) ⟨by simp, fun _ h => nomatch h⟩ hc.asc fun x hx => ⟨(hc.rng x hx).1, fun y hy => by simp [flatR] at hy⟩
    rw [if_neg hf, stepR_spI, List.append_assoc] at h
    have h2 := h.right (q := p + 2) rfl
    have h3 := h2.right (q := p + 2 + 2) rfl
    unfold cvr counted
    rw [U_at h.left]
    dsimp only
    rw [if_pos (.inr rfl), U_at h2.left]
    dsimp only
    have h3' : At ks (p + 2 + 2) (spI (([] : List Int).length : Nat) (rangesF gl)) := h3
    rw [show (((rangesF gl).length : Int)).toNat = (rangesF gl).length by omega, cov2_at h3' hr.1 fun q hq => (hr.1.ok q hq).1]
    have := hr.2
    unfold rangesF
    rw [this]
    simp [flatR]
end
section
structure LP (b : Int) (done : List (List Int)) (s : LS') : Prop where
  len : s.offs.length = done.length
  at_ : ∀ (i : Nat) (k : List Int), done[i]? = some k → ∃ o : Nat, s.offs[i]? = some (b + o) ∧ At s.out o k
  ps : ∀ p ∈ s.ps, ∃ o : Nat, p.2 = b + o ∧ At s.out o p.1
theorem LP.step {b : Int} {done : List (List Int)} {s : LS'} (h : LP b done s) (ks : List Int) : LP b (done ++ [ks]) (stepL b s ks) := by
  have idx : ∀ {i : Nat} {k : List Int}, (done ++ [ks])[i]? = some k → done[i]? = some k ∨ (i = done.length ∧ k = ks) := by
    intro i k e
    by_cases hi : i < done.length
    · rw [List.getElem?_append_left hi] at e; exact .inl e
    · rw [List.getElem?_append_right (by omega)] at e
      have : i - done.length = 0 := by
        by_cases q : i - done.length = 0
        · exact q
        · rw [List.getElem?_eq_none (by simp; omega)] at e; cases e
      rw [this] at e
      simp at e
      exact .inr ⟨by omega, e.symm⟩
  unfold stepL
  split
  · rename_i n hn
    obtain ⟨x, HH1⟩ := getL_mem hn
    have hx := HH1.1
    obtain rfl := HH1.2.1
    have hxk := HH1.2.2
    clear HH1
    obtain ⟨o, HH1⟩ := h.ps x hx
    have ho := HH1.1
    have hat := HH1.2
    clear HH1
    refine ⟨by simp [h.len], fun i k e => ?_, h.ps⟩
    rcases idx e with e | ⟨rfl, rfl⟩
    · obtain ⟨o', HH1⟩ := h.at_ i k e
      have ho' := HH1.1
      have hat' := HH1.2
      clear HH1
      exact ⟨o', by rw [List.getElem?_append_left (List.getElem?_eq_some_iff.mp ho').1]; exact ho', hat'⟩
    · exact ⟨o, by rw [← h.len, List.getElem?_append_right (Nat.le_refl _)]; simp [ho], by rw [← hxk]; exact hat⟩
  · refine ⟨by simp [h.len], fun i k e => ?_, fun p hp => ?_⟩
    · rcases idx e with e | ⟨rfl, rfl⟩
      · obtain ⟨o', HH1⟩ := h.at_ i k e
        have ho' := HH1.1
        have hat' := HH1.2
        clear HH1
        exact ⟨o', by rw [List.getElem?_append_left (List.getElem?_eq_some_iff.mp ho').1]; exact ho', hat'.more _⟩
      · exact ⟨s.out.length, by rw [← h.len, List.getElem?_append_right (Nat.le_refl _)]; simp, At.end_ _ _⟩
    · rw [List.mem_append, List.mem_singleton] at hp
      rcases hp with hp | rfl
      · obtain ⟨o, HH1⟩ := h.ps p hp
        have ho := HH1.1
        have hat := HH1.2
        clear HH1
        exact ⟨o, ho, hat.more _⟩
      · exact ⟨s.out.length, rfl, At.end_ _ _⟩
theorem LP.fold {b : Int} : ∀ {kss done : List (List Int)} {s : LS'}, LP b done s → LP b (done ++ kss) (kss.foldl (stepL b) s)
  | [], done, s, h => by rw [List.append_nil]; exact h
  | k :: kss, done, s, h => by
    have := LP.fold (kss := kss) (h.step k)
    rw [List.foldl_cons]
    simpa using this
theorem laid_lp (b : Int) (kss : List (List Int)) : LP b kss (laidF b kss) := by
  have := LP.fold (b := b) (kss := kss) (done := []) (s := ⟨[], [], []⟩) ⟨rfl, (fun i k e => by simp at e), fun _ h => nomatch h⟩
  rw [List.nil_append] at this
  exact this
inductive CR (ks : List Int) (a : Nat) : List Int → List (List Int) → Prop
  | nil : CR ks a [] []
  | cons {o : Int} {c : List Int} {os : List Int} {cs : List (List Int)} : o ≠ 0 → cvr ks (a + o.toNat) = .ok c → CR ks a os cs → CR ks a (o :: os) (c :: cs)
theorem covsA_at {ks : List Int} {a : Nat} : ∀ {os : List Int} {cs : List (List Int)} {q : Nat} {acc : List (List Int)}, CR ks a os cs → At ks q (o2s os) → covsA ks a os.length q acc = .ok (acc ++ cs)
  | _, _, q, acc, .nil, _ => by rw [List.append_nil]; rfl
  | _, _, q, acc, .cons (o := o) (c := c) (os := os) (cs := cs) h1 h2 r, h => by
    rw [o2s_cons] at h
    rw [List.length_cons, covsA_succ, rd_at h.left, if_neg h1, h2]
    dsimp only
    rw [covsA_at r (h.right (q := q + 2) rfl)]
    simp
theorem cr_of {ks : List Int} {a : Nat} {os : List Int} {cs : List (List Int)} (h : os.length = cs.length) (hx : ∀ (i : Nat) o c, os[i]? = some o → cs[i]? = some c → o ≠ 0 ∧ cvr ks (a + o.toNat) = .ok c) : CR ks a os cs := by
  induction os generalizing cs with
  | nil => cases cs with
    | nil => exact .nil
    | cons => simp at h
  | cons o os ih => cases cs with
    | nil => simp at h
    | cons c cs => exact .cons (hx 0 o c rfl rfl).1 (hx 0 o c rfl rfl).2 (ih (by simpa using h) fun i o' c' h1 h2 => hx (i + 1) o' c' (by simpa using h1) (by simpa using h2))
theorem cvs_at {ks : List Int} {a q : Nat} {os : List Int} {cs : List (List Int)} (h : At ks q (pc os)) (hr : CR ks a os cs) : cvs ks a q = .ok cs := by
  unfold pc at h
  have h2 := h.right (q := q + 2) rfl
  unfold cvs rcs
  rw [U_at h.left]
  dsimp only
  have hl := h2.len
  rw [o2s_len] at hl
  rw [show ((os.length : Int)).toNat = os.length by omega, if_pos hl, covsA_at hr h2]
  rfl
theorem RR_WR {a : Nat} {pre : List Int} {ks : List Int} {ps : List (Int × Int)} {back ahead : List (List Int)} (hpre : pre.length = a) (hk : CovOk ks) (hc : ∀ c ∈ back ++ ahead, CovOk c) :
    RR (pre ++ WR ks ps back ahead) a = .ok (sortedBy ks ps, back, ahead) := by
  have hL := laid_lp ((10 + 2 * (back.length + ahead.length + ks.length) : Nat) : Int) ((ks :: (back ++ ahead)).map WC)
  change LP _ _ (WRl ks back ahead) at hL
  unfold WR
  generalize WRl ks back ahead = st at hL
  have hol : st.offs.length = 1 + (back.length + ahead.length) := by rw [hL.len]; simp; omega
  obtain ⟨o0, rest, hoffs⟩ : ∃ o0 rest, st.offs = o0 :: rest := by
    cases q : st.offs with
    | nil => rw [q] at hol; simp at hol; omega
    | cons x y => exact ⟨x, y, rfl⟩
  have hrl : rest.length = back.length + ahead.length := by rw [hoffs] at hol; simp at hol; omega
  rw [hoffs]
  rw [show (o0 :: rest).headD 0 = o0 from rfl, show (o0 :: rest).drop 1 = rest from rfl, show (o0 :: rest).drop (1 + back.length) = rest.drop back.length from by rw [Nat.add_comm]; rfl]
  generalize hV : (ks.map fun k => (getI ps k).getD 0) = V
  have hVl : V.length = ks.length := by rw [← hV]; simp
  have hbl : (rest.take back.length).length = back.length := by rw [List.length_take]; omega
  have hal : (rest.drop back.length).length = ahead.length := by rw [List.length_drop]; omega
  have hH : (o2s [1, o0] ++ pc (rest.take back.length) ++ pc (rest.drop back.length) ++ pc V).length = 10 + 2 * (back.length + ahead.length + ks.length) := by
    simp only [pc, List.length_append, o2s_len, o2_len, hbl, hal, hVl, List.length_cons, List.length_nil]; omega
  generalize hall : pre ++ (o2s [1, o0] ++ pc (rest.take back.length) ++ pc (rest.drop back.length) ++ pc V ++ st.out) = all
  have A0 : At all a (o2s [1, o0] ++ pc (rest.take back.length) ++ pc (rest.drop back.length) ++ pc V ++ st.out) := ⟨pre, [], by rw [← hall, List.append_nil], hpre⟩
  have Aout : At all (a + (10 + 2 * (back.length + ahead.length + ks.length))) st.out := A0.right (by rw [hH])
  have A1 := A0.left
  have AV : At all (a + (8 + 2 * back.length + 2 * ahead.length)) (pc V) := A1.right (by simp only [pc, List.length_append, o2s_len, o2_len, hbl, hal, List.length_cons, List.length_nil]; omega)
  have A2 := A1.left
  have AA : At all (a + (6 + 2 * back.length)) (pc (rest.drop back.length)) := A2.right (by simp only [pc, List.length_append, o2s_len, o2_len, hbl, List.length_cons, List.length_nil]; omega)
  have A3 := A2.left
  have AB : At all (a + 4) (pc (rest.take back.length)) := A3.right rfl
  have A4 : At all a (o2 1 ++ (o2 o0 ++ [])) := A3.left
  have A5 : At all (a + 2) (o2 o0) := (A4.right (q := a + 2) rfl).left
  have cov_i : ∀ (i : Nat) o c, st.offs[i]? = some o → (ks :: (back ++ ahead))[i]? = some c → o ≠ 0 ∧ cvr all (a + o.toNat) = .ok c := by
    intro i o c ho hcc
    obtain ⟨d, hd, hat⟩ := hL.at_ i (WC c) (by rw [List.getElem?_map, hcc]; rfl)
    rw [ho] at hd
    have hd := Option.some.inj hd
    have hcok : CovOk c := by
      have := List.mem_of_getElem? hcc
      rcases List.mem_cons.mp this with rfl | hm
      · exact hk
      · exact hc c hm
    refine ⟨by omega, ?_⟩
    obtain ⟨p1, s1, e1, hp1⟩ := hat
    obtain ⟨p2, s2, e2, hp2⟩ := Aout
    refine cvr_at ⟨p2 ++ p1, s1 ++ s2, ?_, ?_⟩ hcok
    · rw [e2, e1]; simp
    · rw [List.length_append, hp1, hp2, hd]; omega
  have c0 := cov_i 0 o0 ks (by rw [hoffs]; rfl) rfl
  have crB : CR all a (rest.take back.length) back := cr_of hbl fun i o c h1 h2 => cov_i (i + 1) o c (by rw [hoffs, List.getElem?_cons_succ]; rw [List.getElem?_take] at h1; split at h1 <;> first | exact h1 | cases h1) (by rw [List.getElem?_cons_succ, List.getElem?_append_left (List.getElem?_eq_some_iff.mp h2).1]; exact h2)
  have crA : CR all a (rest.drop back.length) ahead := cr_of hal fun i o c h1 h2 => cov_i (back.length + i + 1) o c (by rw [hoffs, List.getElem?_cons_succ]; rw [List.getElem?_drop] at h1; exact h1) (by rw [List.getElem?_cons_succ, List.getElem?_append_right (by omega), Nat.add_sub_cancel_left]; exact h2)
  have eB := cvs_at AB crB
  have eA := cvs_at AA crA
  unfold pc at AV
  have AV2 := AV.right (q := a + (10 + 2 * back.length + 2 * ahead.length)) (by rw [o2_len]; omega)
  have hVlen := AV2.len
  rw [o2s_len, hVl] at hVlen
  unfold RR RR2 RR3 RR4 RR6
  rw [U_at A4.left]
  dsimp only
  rw [if_neg (by decide), U_at A5]
  dsimp only
  rw [if_neg c0.1, c0.2]
  dsimp only
  rw [eB]
  dsimp only
  rw [show a + 6 + 2 * back.length = a + (6 + 2 * back.length) by omega, eA]
  dsimp only
  rw [show a + 8 + 2 * back.length + 2 * ahead.length = a + (8 + 2 * back.length + 2 * ahead.length) by omega, U_at AV.left]
  dsimp only
  rw [if_neg (by rw [hVl]; simp), if_pos (by omega)]
  congr 2
  unfold sortedBy
  refine List.ext_getElem? fun i => ?_
  by_cases hi : i < ks.length
  · have hki : ks[i]? = some ks[i] := List.getElem?_eq_getElem hi
    have hVi : V[i]? = some ((getI ps ks[i]).getD 0) := by rw [← hV, List.getElem?_map, hki]; rfl
    have hrd := rd_row AV2 hVi
    rw [List.getElem?_map, hki]
    rw [List.getElem?_zip_eq_some (z := (ks[i], (getI ps ks[i]).getD 0)) |>.mpr ⟨hki, ?_⟩]
    · rfl
    · rw [List.getElem?_map, List.getElem?_range hi]
      rw [← hrd]
      show some (rd all (a + 10 + 2 * back.length + 2 * ahead.length + 2 * i)) = _
      rw [show a + 10 + 2 * back.length + 2 * ahead.length + 2 * i = a + (10 + 2 * back.length + 2 * ahead.length) + 2 * i by omega]
  · rw [List.getElem?_eq_none (by simp; omega), List.getElem?_eq_none (by simp; omega)]
end
section
section
variable {prog : Program} {w : World} {A : Around} {E : Value → Shared → Prop} {s₀ : Shared} {h hc : Heap} {k : Nat} {base g g' gc : Heap} {fs fs' : List Env} {L L' : Addr} {ns ns' : List Str} {vs vs' : List (Option Value)} {led led' ledc : List (Addr × Obj)}
  {env : Env} {cl : List (Str × Addr)} {Q : Value → Shared → Prop}
theorem enterCX {name qual : Str} {params : Arguments} {body : List Stmt} {scope : Scope} {dV kV doc pm cdv ct oc : Value} {an od : Option Addr} {osl : Array (Option Value)} {f : Addr} {args args' : List Value} {d n : Nat} {ns' : List Str} {vs' : List (Option Value)} {binds : List (Str × Value)}
    (S : St w base fs g L ns vs led h) (hA : Ax prog A fs (d + 1))
    (ho : (hd.heap_39 w.params).lookup f = some ⟨oc, od, .func (fnOf name qual params body scope dV kV doc pm an cdv ct), osl⟩) (hcd : codeIn (hd.heap_39 w.params) cdv qual = true)
    (hbind : BindsTo (sh s₀ h k) (fnOf name qual params body scope dV kV doc pm an cdv ct) ⟨args, []⟩ binds)
    (hloc : binds.filter (fun p => scope.names.lookup p.1 == some .local) = (ns'.take n).zip args')
    (hkinds : ∀ n, KindsOk scope n binds)
    (foot : List (Addr × Obj)) (hf : ∀ p ∈ foot, p ∈ led) (hfn : (foot.map (·.1)).Nodup)
    (hns : (ns'.all fun x => scope.names.lookup x == some .local) = true) (hnd : ns'.Nodup) (hn : args'.length = n) (hnl : n ≤ ns'.length)
    (hcn : ((cellsFrom 0 scope.names []).map (·.1)).Nodup)
    (hvs : args'.map some ++ List.replicate (ns'.length - n) none = vs') (hco : scope.isCoroutine = false) (hgen : scope.isGenerator = false) (hk : scope.kind = .function)
    (walk : ∀ env' L' h₁ k₁ A' E' cells, env' = envX qual scope L' f cdv (cellsFrom (L' + 1) scope.names []) → EnvOk env' L' ns' (cellsFrom (L' + 1) scope.names []) → env'.scope = scope → Ax prog A' (env' :: fs) d → ExOk prog w A' env' E E' → L' = h.objs.size →
      CellsAre (bindC (fun x => scope.names.lookup x) binds fun _ => none) (cellsFrom (L' + 1) scope.names []) cells →
      St w base (env' :: fs) (hideAll h (foot.map (·.1))) L' ns' vs' (cells ++ foot) h₁ →
      wpAny (model prog w) A' (execs body env') (RetQ Q) E' (sh s₀ h₁ k₁)) :
    wpAny (model prog w) A (call (.ref f) args) Q E (sh s₀ h k) :=
  wpAny_call (enterCXR S hA ho hcd hbind hloc hkinds foot hf hfn hns hnd hn hnl hcn hvs hco hgen hk fun env' L' h₁ k₁ A' E' cells q a b c d e f g => walk env' L' h₁ k₁ A' E' cells q a b c d e f g)
end
section
variable {prog : Program} {w : World} {A : Around} {Q : Value → Shared → Prop} {E : Value → Shared → Prop} {s₀ : Shared} {h : Heap} {k : Nat} {base g : Heap} {fs : List Env} {L : Addr} {ns : List Str} {vs : List (Option Value)} {led : List (Addr × Obj)}
theorem enterFR {R : Result → Shared → Prop} {name qual : Str} {clo : List (Str × Addr)} {params : Arguments} {body : List Stmt} {scope : Scope} {dV kV doc pm cdv ct oc : Value} {an od : Option Addr} {osl : Array (Option Value)} {f : Addr} {args args' : List Value} {d n : Nat} {ns' : List Str} {vs' : List (Option Value)}
    (S : St w base fs g L ns vs led h) (hA : Ax prog A fs (d + 1))
    (ho : h.get? f = some ⟨oc, od, .func (fnX name qual params body scope clo dV kV doc pm an cdv ct), osl⟩) (hcd : h.CodeRec cdv qual)
    (hbind : BindsTo (sh s₀ h k) (fnX name qual params body scope clo dV kV doc pm an cdv ct) ⟨args, []⟩ ((ns'.take n).zip args'))
    (foot : List (Addr × Obj)) (hf : ∀ p ∈ foot, p ∈ led) (hfn : (foot.map (·.1)).Nodup)
    (hns : (ns'.all fun x => scope.names.lookup x == some .local) = true) (hnd : ns'.Nodup) (hn : args'.length = n) (hnl : n ≤ ns'.length) (hcell : (scope.names.all fun x => x.2 != .cell) = true)
    (hvs : args'.map some ++ List.replicate (ns'.length - n) none = vs') (hco : scope.isCoroutine = false) (hgen : scope.isGenerator = false) (hk : scope.kind = .function)
    (walk : ∀ env' L' h₁ k₁ A' E', EnvOk env' L' ns' clo → env'.scope = scope → Ax prog A' (env' :: fs) d → ExOk prog w A' env' (fun e s' => R (.error e) s') E' → L' = h.objs.size →
      St w base (env' :: fs) (hideAll h (foot.map (·.1))) L' ns' vs' foot h₁ →
      wpAny (model prog w) A' (execs body env') (RetQ fun v s' => R (.ok (.ret v)) s') E' (sh s₀ h₁ k₁)) :
    codeAny (model prog w) A (.call (.ref f) ⟨args, []⟩) R (sh s₀ h k) := by
  subst hvs
  have hroom : A.depth < recursionLimit := by have := hA.dep; show A.depth < 1000; omega
  have hl := List.all_eq_true.mp hns
  have hloc : ∀ y ∈ (ns'.take n).zip args', scope.names.lookup y.1 = some .local := fun y hy =>
    beq_iff_eq.mp (hl y.1 (List.mem_of_mem_take (List.of_mem_zip hy).1))
  obtain ⟨me, mg, mb, T⟩ := S.Th
  refine codeAny_call_def (fd := fnX name qual params body scope clo dV kV doc pm an cdv ct) (body := body) hroom ho rfl T.nolimit hcd rfl hbind
    (fun x hx => by have := List.all_eq_true.mp hcell x hx; simpa using this) hloc (fun h₁ hns₁ hk₁ => ?_) hco hgen hk
  have e0 : (sh s₀ h k).heap = h := rfl
  rw [show ∀ L, callEnv (fnX name qual params body scope clo dV kV doc pm an cdv ct) L f = envX qual scope L f cdv clo from fun _ => rfl, e0]
  rw [e0] at hns₁ hk₁
  rw [mOf_binds hnd hn hnl] at hns₁
  have S' : St w base (envX qual scope h.objs.size f cdv clo :: fs) (hideAll h (foot.map (·.1))) h.objs.size ns' (args'.map some ++ List.replicate (ns'.length - n) none) foot h₁ :=
    S.entered (cells := []) hf hfn hnd (by simp [hn]; omega) hns₁ hk₁ (by show scope.kind ≠ .module; rw [hk]; decide) rfl (fun _ h => nomatch h) (fun _ h => nomatch h) List.nodup_nil
  have he : EnvOk (envX qual scope h.objs.size f cdv clo) h.objs.size ns' clo := ⟨rfl, hk, rfl, rfl, fun x hx => beq_iff_eq.mp (hl x hx), rfl⟩
  exact walk (envX qual scope h.objs.size f cdv clo) h.objs.size h₁ _ (A.deeper (envX qual scope h.objs.size f cdv clo)) _ he rfl (hA.deeper _) ⟨PassesOwn.leaving, fun _ _ x => x⟩ rfl S'
theorem enterF {name qual : Str} {clo : List (Str × Addr)} {params : Arguments} {body : List Stmt} {scope : Scope} {dV kV doc pm cdv ct oc : Value} {an od : Option Addr} {osl : Array (Option Value)} {f : Addr} {args args' : List Value} {d n : Nat} {ns' : List Str} {vs' : List (Option Value)}
    (S : St w base fs g L ns vs led h) (hA : Ax prog A fs (d + 1))
    (ho : h.get? f = some ⟨oc, od, .func (fnX name qual params body scope clo dV kV doc pm an cdv ct), osl⟩) (hcd : h.CodeRec cdv qual)
    (hbind : BindsTo (sh s₀ h k) (fnX name qual params body scope clo dV kV doc pm an cdv ct) ⟨args, []⟩ ((ns'.take n).zip args'))
    (foot : List (Addr × Obj)) (hf : ∀ p ∈ foot, p ∈ led) (hfn : (foot.map (·.1)).Nodup)
    (hns : (ns'.all fun x => scope.names.lookup x == some .local) = true) (hnd : ns'.Nodup) (hn : args'.length = n) (hnl : n ≤ ns'.length) (hcell : (scope.names.all fun x => x.2 != .cell) = true)
    (hvs : args'.map some ++ List.replicate (ns'.length - n) none = vs') (hco : scope.isCoroutine = false) (hgen : scope.isGenerator = false) (hk : scope.kind = .function)
    (walk : ∀ env' L' h₁ k₁ A' E', EnvOk env' L' ns' clo → env'.scope = scope → Ax prog A' (env' :: fs) d → ExOk prog w A' env' E E' → L' = h.objs.size →
      St w base (env' :: fs) (hideAll h (foot.map (·.1))) L' ns' vs' foot h₁ →
      wpAny (model prog w) A' (execs body env') (RetQ Q) E' (sh s₀ h₁ k₁)) :
    wpAny (model prog w) A (call (.ref f) args) Q E (sh s₀ h k) :=
  wpAny_call (enterFR S hA ho hcd hbind foot hf hfn hns hnd hn hnl hcell hvs hco hgen hk fun env' L' h₁ k₁ A' E' a b c d e f => walk env' L' h₁ k₁ A' E' a b c d e f)
end
structure CF (env : Env) (cl : List (Str × Addr)) (g : Heap) (x : Str) (v : Value) : Prop where
  kind : env.kindOf x = some .free
  cell : Ex2 fun c o => An3 (cl.lookup x = some c) (g.get? c = some o) (o.data = .cell (some v))
theorem CF.up {env : Env} {cl : List (Str × Addr)} {g g' : Heap} {x : Str} {v : Value} (c : CF env cl g x v) (h : g.StaysIn g') : CF env cl g' x v :=
  ⟨c.kind, let ⟨a, o, p, q, r⟩ := c.cell; ⟨a, o, p, h _ _ q, r⟩⟩
section
variable {prog : Program} {w : World} {A : Around} {E : Value → Shared → Prop} {s₀ : Shared} {h hc : Heap} {k : Nat} {base g g' gc : Heap} {fs fs' : List Env} {L L' : Addr} {ns ns' : List Str} {vs vs' : List (Option Value)} {led led' ledc : List (Addr × Obj)}
  {env : Env} {cl : List (Str × Addr)} {Q : Value → Shared → Prop}
theorem g_free {x : Str} {pos : Pos} {v : Value} (S : St w base fs g L ns vs led h) (he : EnvOk env L ns cl) (hC : CF env cl g x v) (hq : Q v (sh s₀ h k)) (hd : (x == ("__debug__" : Str)) = false := by decide +kernel) (hdd : (x == ("__classdict__" : Str)) = false := by decide +kernel) :
    wpAny (model prog w) A (eval (.Name x pos) env) Q E (sh s₀ h k) :=
  let ⟨_, _, p, q, r⟩ := hC.cell
  n_free he hC.kind p (S.get q) r hq hd hdd
theorem b_fdiv {i j : Int} {a b : Tok} (hb : j ≠ 0) (hp : j.natAbs.log2 < 9000) (hq : ∀ t k', Q (.int (i.fdiv j) t) (sh s₀ h k')) : wpAny (model prog w) A (binaryOp .FloorDiv (.int i a) (.int j b)) Q E (sh s₀ h k) := floordiv_int hb (hq _ _) (.inl (PyProof.noPylong_of_log2 hp))
theorem b_fmod {i j : Int} {a b : Tok} (hb : j ≠ 0) (hq : ∀ t k', Q (.int (i.fmod j) t) (sh s₀ h k')) : wpAny (model prog w) A (binaryOp .Mod (.int i a) (.int j b)) Q E (sh s₀ h k) := mod_int hb (hq _ _)
theorem b_pow {i j : Int} {a b : Tok} (hn : 0 ≤ j) (hn2 : j ≤ 1000000) (hi : i.natAbs < 2 ^ 64) (hq : ∀ t k', Q (.int (i ^ j.toNat) t) (sh s₀ h k')) : wpAny (model prog w) A (binaryOp .Pow (.int i a) (.int j b)) Q E (sh s₀ h k) := pow_int_small hn hn2 hi (hq _ _)
end
theorem pow_log {m : Nat} (h : m ≤ 400) : ((720720 : Int) ^ m).natAbs.log2 < 9000 := by
  rw [Int.natAbs_pow]
  show (720720 ^ m : Nat).log2 < 9000
  rw [Nat.log2_lt (Nat.ne_of_gt (Nat.pow_pos (by decide)))]
  have h1 : (720720 : Nat) ^ m ≤ (2 ^ 20) ^ m := Nat.pow_le_pow_left (by decide) m
  rw [← Nat.pow_mul] at h1
  exact Nat.lt_of_le_of_lt h1 (Nat.pow_lt_pow_right (by decide) (by omega))
theorem pow_ne (m : Nat) : (720720 : Int) ^ m ≠ 0 := Int.pow_ne_zero (by decide)
end
section
section
variable {prog : Program} {w : World} {A : Around} {E : Value → Shared → Prop} {s₀ : Shared} {h hc : Heap} {k : Nat} {base g g' gc : Heap} {fs fs' : List Env} {L L' : Addr} {ns ns' : List Str} {vs vs' : List (Option Value)} {led led' ledc : List (Addr × Obj)}
  {env : Env} {cl : List (Str × Addr)} {Q : Value → Shared → Prop}
theorem St.updF (S : St w base fs g L ns vs led h) {i : Nat} {d : Addr} {o : Obj} (hi : led[i]? = some (d, o)) : UpdF d o (led ++ St.newOf base g) (fun o' => led.set i (d, o') ++ St.newOf base g) := by
  have hnew : ∀ p ∈ St.newOf base g, p.1 ≠ d := fun p hp q => by
    have h1 := (St.mem_newOf.mp hp).1
    rw [q, (S.ldg _ (List.mem_of_getElem? hi)).2.2] at h1; cases h1
  have hn := S.ndl
  clear S
  induction led generalizing i with
  | nil => simp at hi
  | cons p led ih =>
    rw [List.map_cons, List.nodup_cons] at hn
    cases i with
    | zero =>
      simp only [List.getElem?_cons_zero, Option.some.injEq] at hi
      subst hi
      exact .head fun q hq => (List.mem_append.mp hq).elim (fun hm e => hn.1 (by rw [← e]; exact List.mem_map_of_mem (f := (·.1)) hm)) (hnew q)
    | succ i =>
      simp only [List.getElem?_cons_succ] at hi
      exact .tail (fun e => hn.1 (by rw [e]; exact List.mem_map_of_mem (List.mem_of_getElem? hi) (f := (·.1)))) (ih hi hn.2)
theorem x_if_join {t : Expr} {b o : List Stmt} {p : Pos} {rest : List Stmt} {s : Shared} {Qf : Flow → Shared → Prop} (J : Shared → Prop)
    (h1 : wpAny (model prog w) A (PySem.isTrue t env (eval t env)) (fun c s' => if c = true then wpAny (model prog w) A (execs b env) (fun f s'' => f = .next ∧ J s'') E s' else wpAny (model prog w) A (execs o env) (fun f s'' => f = .next ∧ J s'') E s') E s)
    (h2 : ∀ s', J s' → wpAny (model prog w) A (execs rest env) Qf E s') : wpAny (model prog w) A (execs (.If t b o p :: rest) env) Qf E s := by
  refine x_if (wpAny_mono h1 (fun c s' h' => ?_) fun _ _ z => z)
  have fin : ∀ f s'', (f = Flow.next ∧ J s'') → SeqQ (model prog w) A rest env Qf E f s'' := by
    rintro f s'' ⟨rfl, hj⟩
    exact h2 s'' hj
  cases c
  · exact wpAny_mono (show wpAny _ _ _ _ _ _ from h') fin fun _ _ z => z
  · exact wpAny_mono (show wpAny _ _ _ _ _ _ from h') fin fun _ _ z => z
theorem x_def {name cn : Str} {cs : Scope} {a c P : Addr} {params : Arguments} {body : List Stmt} {scope : Scope} {pos : Pos} {rest : List Stmt} {Qf : Flow → Shared → Prop} {ps : Array Value} {clos : List (Str × Addr)} (i : Nat)
    (S : St w base fs g L ns vs led h) (henv : env = envX cn cs L a (.ref c) cl) (hi : led[i]? = some (P, tabObj ps)) (C : CodeHd base c P) (ht : TriplesOk ps.toList) (hnf : codeAmong pos ps.toList = none) (hcl : closureFor scope env = pure clos)
    (hq : ∀ f c' oc fls t ctv doc pm ps' h' k', (∀ q ∈ led, q.1 < c') → c' < f → oc.data = .fields fls → fls[1]? = some (.str (qualnameIn env name name) t) →
      St w base fs g L ns vs ((f, fnMade name (qualnameIn env name name) params body scope clos doc pm c' ctv) :: (c', oc) :: led.set i (P, tabObj ps')) h' →
      wpAny (model prog w) A (storeName env name (.ref f)) (fun _ s'' => wpAny (model prog w) A (execs rest env) Qf E s'') E (sh s₀ h' k'))
    (hd0 : params.defaults = [] := by rfl) (hk0 : params.kw_defaults = [] := by rfl) (ha : annTrees params none env = [] := by rfl) :
    wpAny (model prog w) A (execs (.FunctionDef name params body [] none [] scope none name pos :: rest) env) Qf E (sh s₀ h k) := by
  obtain ⟨mean, mg, mb, T⟩ := S.T
  refine x_any (nestDef_K hd0 hk0 ha ?_)
  subst henv
  refine nest_K S.toFr S.toNews T C rfl (S.updF hi) ht hnf hcl fun f c' oc fls t ctv doc h' tk F' N' hdat hv hlt hcf => ?_
  have hfresh : ∀ b o, c' ≤ b → (b, o) ∈ ((f, fnMade name (qualnameIn (envX cn cs L a (.ref c) cl) name name) params body scope clos doc ((mg "__name__").getD .none) c' ctv) :: (c', oc) :: (led.set i (P, tabObj (ps ++ #[rawInt pos.line, rawInt pos.col, .ref c'])) ++ St.newOf base g)) → g.get? b = none := fun b o hb hm => by
    cases q : g.get? b with
    | none => rfl
    | some x =>
      cases q2 : base.get? b with
      | some y => have := (N' _ hm).2.2; rw [q2] at this; cases this
      | none => exact absurd (hlt (b, x) (List.mem_append_right _ (St.mem_newOf.mpr ⟨q, q2⟩))) (Nat.not_lt.mpr hb)
  have hset := S.set_nd (tabObj (ps ++ #[rawInt pos.line, rawInt pos.col, .ref c'])) hi
  have hlts : ∀ p ∈ led.set i (P, tabObj (ps ++ #[rawInt pos.line, rawInt pos.col, .ref c'])), p.1 < c' := fun p hp => by
    rcases List.mem_or_eq_of_mem_set hp with hp | rfl
    · exact hlt p (List.mem_append_left _ hp)
    · exact hlt (P, tabObj ps) (List.mem_append_left _ (List.mem_of_getElem? hi))
  have S' : St w base fs g L ns vs ((f, fnMade name (qualnameIn (envX cn cs L a (.ref c) cl) name name) params body scope clos doc ((mg "__name__").getD .none) c' ctv) :: (c', oc) :: led.set i (P, tabObj (ps ++ #[rawInt pos.line, rawInt pos.col, .ref c']))) h' := by
    refine S.ofNews F' S.len N' ?_ fun p hp => ?_
    · rw [List.map_cons, List.map_cons, List.nodup_cons, List.nodup_cons]
      refine ⟨fun hm => ?_, fun hm => ?_, hset.1⟩
      · rcases List.mem_cons.mp hm with e | hm
        · have : f = c' := e
          rw [this] at hcf
          exact absurd hcf (Nat.lt_irrefl _)
        · obtain ⟨p, HH1⟩ := List.mem_map.mp hm
          have hp := HH1.1
          have e := HH1.2
          clear HH1
          have h1 := hlts p hp
          have : p.1 = f := e
          rw [this] at h1
          exact absurd (Nat.lt_trans h1 hcf) (Nat.lt_irrefl _)
      · obtain ⟨p, HH1⟩ := List.mem_map.mp hm
        have hp := HH1.1
        have e := HH1.2
        clear HH1
        have h1 := hlts p hp
        have : p.1 = c' := e
        rw [this] at h1
        exact absurd h1 (Nat.lt_irrefl _)
    · rcases List.mem_cons.mp hp with rfl | hp
      · exact hfresh _ _ (Nat.le_of_lt hcf) (.head _)
      · rcases List.mem_cons.mp hp with rfl | hp
        · exact hfresh _ _ (Nat.le_refl _) (.tail _ (.head _))
        · exact hset.2 p hp
  exact hq f c' oc fls t ctv doc _ _ h' tk (fun q hq' => hlt q (List.mem_append_left _ hq')) hcf hdat hv S'
end
end
section
section
variable {prog : Program} {w : World} {A : Around} {E : Value → Shared → Prop} {s₀ : Shared} {h hc : Heap} {k : Nat} {base g g' gc : Heap} {fs fs' : List Env} {L L' : Addr} {ns ns' : List Str} {vs vs' : List (Option Value)} {led led' ledc : List (Addr × Obj)}
  {env : Env} {cl : List (Str × Addr)} {Q : Value → Shared → Prop}
theorem slice_coreL {value slice : Expr} {l : Addr} {xs : List Value} {vl vu : Value} {lo hi : Option Int} (S : St w base fs g L ns vs led h) (hl : h.IsList l xs.toArray) (pl : IsPart vl lo) (pu : IsPart vu hi) (hz : xs.length ≤ 16777216)
    (hq : ∀ D o h', LO o (slicePick xs.toArray lo hi none).toList → L < D → St w base fs g L ns vs ((D, o) :: led) h' → Q (.ref D) (sh s₀ h' k))
    (hs : subscripted slice false (.ref l) (.ref h.objs.size) = operate [.ref h.objs.size, .ref l] (getItem (.ref l) (.ref h.objs.size)))
    (ht : ∀ r, letTemporaryGo value (.ref l) r = pure ()) :
    wpAny (model prog w) A (subscriptTail value slice (.ref l) (.ref h.objs.size)) Q E (sh s₀ (h.push { cls := .type "slice", data := .fields #[vl, vu, .none] }) k) := by
  refine slice_list (s := sh s₀ h k) S.toFr S.toNews hl pl pu (fun h' F' N' => ?_) hs ht (by rw [List.size_toArray, sizeLine_eq]; exact hz)
  exact hq _ _ h' ⟨0, by rw [Array.toArray_toList]⟩ (Nat.lt_succ_of_lt S.loc.lt) (S.ofNew F' N' fun p hp => Nat.lt_succ_of_lt (Heap.lt_size (S.toNews p hp).1))
theorem cut_uptoL {value hi : Expr} {p pos : Pos} {s : Shared}
    (q : wpAny (model prog w) A (eval value env) (fun o s₁ => wpAny (model prog w) A (eval hi env) (fun lv s₃ =>
      Ex14 fun (h₃ : Heap) (k₃ : Nat) (l : Addr) (xs : List Value) (ms : List Int) (x : Int) (u : Tok) (base g : Heap) (fs : List Env) (L : Addr) (ns : List Str) (vs : List (Option Value)) (led : List (Addr × Obj)) => An9 (s₃ = sh s₀ h₃ k₃) (o = .ref l) (lv = .int x u) (St w base fs g L ns vs led h₃) (h₃.IsList l xs.toArray) (IntsAre xs ms) (0 ≤ x) (xs.length ≤ 16777216) (∀ D o h' ys, LO o ys → IntsAre ys (ms.take x.toNat) → L < D → St w base fs g L ns vs ((D, o) :: led) h' → Q (.ref D) (sh s₀ h' k₃))) E s₁) E s)
    (hs : ∀ a b, subscripted (.Slice none (some hi) none p) false (.ref a) (.ref b) = operate [.ref b, .ref a] (getItem (.ref a) (.ref b)) := by intro _ _; with_unfolding_all rfl)
    (ht : ∀ a r, letTemporaryGo value (.ref a) r = pure () := by intro _ _; with_unfolding_all rfl) :
    wpAny (model prog w) A (eval (.Subscript value (.Slice none (some hi) none p) pos) env) Q E s := by
  refine Subscript_ (wpAny_mono q (fun o s₁ h₁ => ?_) fun _ _ x => x)
  refine wpAny_Slice ?_
  rw [evalPart_none]
  refine wpAny_pure ?_
  rw [evalPart_some]
  refine wpAny_mono h₁ (fun l s₃ h₃ => ?_) fun _ _ x => x
  refine wpAny_pure ?_
  obtain ⟨H, k₃, l, xs, ms, x, u, base, g, fs, L, ns, vs, led, rfl, rfl, rfl, S, hl, hi', hx, hz, hq⟩ := h₃
  exact slice_coreL S hl .none (.int _ _) hz (fun D o h' hlo hD S' => hq D o h' _ hlo (kmk_upto hi' hx) hD S') (hs _ _) (ht _)
end
structure TakeOk (prog : Program) (w : World) (g : Heap) (f pl : Addr) : Prop where
  fn : FnAt f g
  call : ∀ {A : Around} {E : Value → Shared → Prop} {Q : Value → Shared → Prop} {s₀ : Shared} {h : Heap} {k : Nat} {base g' : Heap} {fs : List Env} {L : Addr} {ns : List Str} {vs : List (Option Value)} {led : List (Addr × Obj)} {opl : Obj} {n lim : Int} {tn tl : Tok} (i : Nat),
    St w base fs g' L ns vs led h → g.StaysIn g' → Ax prog A fs 2 → led[i]? = some (pl, opl) → LO opl [.int n tn] → 0 ≤ n → n ≤ 300 → 0 < lim →
    (∀ h' k' o' t' v tv, 0 ≤ v → v < lim → LO o' [.int (n + 1) t'] → St w base fs g' L ns vs (led.set i (pl, o')) h' → Q (.int v tv) (sh s₀ h' k')) →
    wpAny (model prog w) A (call (.ref f) [.int lim tl]) Q E (sh s₀ h k)
theorem fdiv_rng {n m : Int} (h0 : 0 ≤ n) (hm : 0 < m) : 0 ≤ n.fdiv m ∧ n.fdiv m ≤ n := by
  rw [Int.fdiv_eq_ediv_of_nonneg _ (Int.le_of_lt hm)]
  exact ⟨Int.ediv_nonneg h0 (Int.le_of_lt hm), Int.ediv_le_self _ h0⟩
theorem fmod_rng {n m : Int} (hm : 0 < m) : 0 ≤ n.fmod m ∧ n.fmod m < m := by
  rw [Int.fmod_eq_emod_of_nonneg _ (Int.le_of_lt hm)]
  exact ⟨Int.emod_nonneg _ (Int.ne_of_gt hm), Int.emod_lt_of_pos _ hm⟩
theorem len_log {n : Nat} (h : n ≤ 63) : ((n : Int)).natAbs.log2 < 9000 := by
  rw [Int.natAbs_natCast]
  exact Nat.lt_of_le_of_lt (Nat.log2_le_self _) (by omega)
end
local macro_rules | `(tactic| walk_at "attr") => `(tactic| first
  | (with_reducible refine' g_free ?k1 ?k2 ?k3 ?_; (case k1 => walk_at "st"); (case k2 => walk_at "st"); (case k3 => walk_at "st"))
  | fail)
section
section
variable {prog : Program} {w : World} {A : Around} {E : Value → Shared → Prop} {s₀ : Shared} {h hc : Heap} {k : Nat} {base g g' gc : Heap} {fs fs' : List Env} {L L' : Addr} {ns ns' : List Str} {vs vs' : List (Option Value)} {led led' ledc : List (Addr × Obj)}
  {env : Env} {cl : List (Str × Addr)} {Q : Value → Shared → Prop}
theorem c_law_taker {l : Addr} {lo : Obj} {xs : List Value} {ms : List Int} {i : Nat} (S : St w base fs g L ns vs led h) (hA : Ax prog A fs 8) (hl : g.get? l = some lo) (hlo : lo.cls = .type "list" ∧ ∃ n, lo.data = .seq xs.toArray n) (hxs : IntsAre xs ms) (hz : ms.length ≤ 1000) (hi : led[i]? = some (432, tabObj #[]))
    (hok : ∀ g' h' k' f pl o t ps, g.StaysIn g' → TakeOk prog w g' f pl → LO o [.int 0 t] → St w base fs g' L ns vs ([(pl, o)] ++ led.set i (432, tabObj ps)) h' → Q (.ref f) (sh s₀ h' k')) :
    wpAny (model prog w) A (call (.ref 437) [.ref l]) Q E (sh s₀ h k) := by
  refine enterCX (ns' := ["script", "take"]) (args' := [.ref l]) (n := 1) (vs' := [some (.ref l), none]) (binds := [("script", .ref l)]) S hA (by k_is) (by k_is) (BindsTo.of_eq rfl) rfl (fun n => ⟨.inl rfl, trivial⟩) [(432, tabObj #[])] (foot1 hi) (by simp) (by decide +kernel) (by decide +kernel) rfl (by decide) (by decide +kernel) rfl rfl rfl rfl ?_
  intro env' L' h₁ k₁ A' E' cells henv he hs hA' hE hL' hcells S'
  obtain ⟨o2, o1, HH1⟩ := ex2 (CellsAre.two hcells)
  obtain rfl := HH1.1
  have ho2 := HH1.2.1
  have ho1 := HH1.2.2
  clear HH1
  replace S' : St w base (env' :: fs) (hideAll h (List.map (fun x => x.1) [(432, tabObj #[])])) L' ["script", "take"] [some (.ref l), none] [(L' + 2, o2), (L' + 1, o1), (432, tabObj #[])] h₁ := S'
  replace he : EnvOk env' L' ["script", "take"] [("place", L' + 2), ("cells", L' + 1)] := he
  have hl' : (hideAll h (List.map (fun x => x.1) [(432, tabObj #[])])).get? l = some lo := S.below1 hi hl
  have hkc : env'.kindOf "cells" = some .cell := kindOf_of hs (by decide +kernel)
  have hkp : env'.kindOf "place" = some .cell := kindOf_of hs (by decide +kernel)
  clear hcells
  walk_at "go"
  refine cut_uptoL (s₀ := s₀) ?_
  walk_at "go"
  refine ⟨_, _, _, _, _, _, _, _, _, _, _, _, _, _, rfl, rfl, rfl, S', ⟨lo, S'.get hl', hlo.1, hlo.2⟩, hxs, by decide, by have := hxs.length; omega, fun D oD h₂ ys hoD hys hLD S₂ => ?_⟩
  obtain ⟨g3, hg3, hD3, S₃⟩ := S₂.freeze
  refine s_cell S₃ he hkc rfl 1 rfl ho1 fun h₄ o1' ho1' S₄ => ?_
  dsimp only [List.set] at S₄
  clear S₂ S₃
  refine x_if_join (fun s' => Ex8 fun (g2 h2 : Heap) (k2 : Nat) (lc : Addr) (olc : Obj) (zs : List Value) (ns2 : List Int) (oc1 : Obj) => An10 (L' < lc) (s' = sh s₀ h2 k2) ((hideAll h (List.map (fun x => x.1) [(432, tabObj #[])])).StaysIn g2) (g2.get? lc = some olc) (LO olc zs) (IntsAre zs ns2) (ns2 ≠ []) (ns2.length ≤ 63) (oc1.data = .cell (some (.ref lc))) (St w base (env' :: fs) g2 L' ["script", "take"] [some (.ref l), none] [(L' + 2, o2), (L' + 1, oc1), (432, tabObj #[])] h2)) ?_ ?_
  · walk_at "go"
    refine n_cell he hkc rfl (S₄.at_ (i := 1) rfl) ho1' ?_
    walk_at "go"
    refine g_newList S₄ (by simp) fun lq oq h₅ hoq hnq hLq hst₅ S₅ => ?_
    have hyl := hys.length
    have hun := hA'.un
    refine eq_intsK (hoD.isList (S₅.get hD3)) hys (hoq.isList (S₅.at_ (i := 0) rfl)) .nil (by show A'.units + 64 < 9900; omega) ?_
    have S₆ := S₅.part (sub := [(L' + 2, o2), (L' + 1, o1'), (432, tabObj #[])]) (fun p hp => .tail _ hp) (by have := S₅.ndl; rw [List.map_cons, List.nodup_cons] at this; exact this.2)
    walk_at "go"
    refine ite_c (fun hc => ?_) fun hc => ?_
    · walk_at "go"
      refine g_newList S₆ (by simp) fun l7 o7 h₇ ho7 hn7 hL7 hst₇ S₇ => ?_
      obtain ⟨g8, hg8, hl8, S₈⟩ := S₇.freeze
      refine s_cell S₈ he hkc rfl 1 rfl ho1' fun h₉ o1'' ho1'' S₉ => ?_
      dsimp only [List.set] at S₉
      walk_at "go"
      exact ⟨rfl, g8, h₉, _, l7, o7, _, [1], o1'', hL7, rfl, stays_trans hg3 hg8, hl8, ho7, .cons _ _ .nil, by decide, by decide, ho1'', S₉⟩
    · walk_at "go"
      refine ⟨rfl, g3, h₅, _, D, oD, ys, _, o1', hLD, rfl, hg3, hD3, hoD, hys, fun q => ?_, ?_, ho1', S₆⟩
      · rw [q] at hc; cases hc
      · rw [List.length_take]; exact Nat.min_le_left _ _
  · rintro s' ⟨g2, h2, k2, lc, olc, zs, ns2, oc1, hLc, rfl, hg2, hlc, hLO', hzs, hne, hn63, hoc1, S₅⟩
    clear S₄
    walk_at "go"
    refine g_newList S₅ (by simp) fun pl opl h₆ hopl hnpl hLpl _ S₆ => ?_
    refine s_cell S₆ he hkp rfl 1 rfl ho2 fun h₇ o2' ho2' S₇ => ?_
    dsimp only [List.set] at S₇
    obtain ⟨g8, hg8, hc8, S₈⟩ := S₇.freezeAt (i := 1) rfl
    obtain ⟨g9, hg9, hc9, S₉⟩ := S₈.freezeAt (i := 1) rfl
    replace S₉ : St w base (env' :: fs) g9 L' ["script", "take"] [some (.ref l), none] [(pl, opl), (432, tabObj #[])] h₇ := S₉
    clear S₅ S₆ S₇ S₈
    have hcl : closureFor { kind := ScopeKind.function, names := [("limit", NameKind.local), ("k", NameKind.local), ("level", NameKind.local), ("cells", NameKind.free), ("place", NameKind.free), ("len", NameKind.globalImplicit)], isGenerator := false, isCoroutine := false, more := [] } env' = (pure [("place", L' + 2), ("cells", L' + 1)] : Sem (List (Str × Addr))) :=
      closure_two (x := "cells") (y := "place") (c := L' + 1) (d := L' + 2) rfl (by decide +kernel) (by rw [he.cells]; rfl) (by rw [he.cells]; rfl)
    refine x_def 1 S₉ henv rfl (codeHd_of_K S₉.X (by kernel_rfl)) trivial rfl hcl fun f c' oc fls t ctv doc pm ps' h₁₀ k₁₀ hltc hcf hdat hv S₁₀ => ?_
    dsimp only [List.set] at S₁₀
    obtain ⟨g11, hg11, hf11, S₁₁⟩ := S₁₀.freeze
    obtain ⟨g12, hg12, hc12, S₁₂⟩ := S₁₁.freeze
    walk_at "go"
    rename St _ _ _ _ _ _ _ _ _ => S₁₃
    have hLc' : L' < c' := Nat.lt_trans hLpl (hltc (pl, opl) (.head _))
    have hstA : (hideAll h [432]).StaysIn g12 := stays_trans hg2 (stays_trans hg8 (stays_trans hg9 (stays_trans hg11 hg12)))
    obtain ⟨g', hg', hN, hgc, S₁₄⟩ := S.back1n (new := [(pl, opl)]) (o' := tabObj ps') hi S₁₃ hstA (fun p hp => hp) S₁₃.ndl
    have up : ∀ a o, h.objs.size ≤ a → g9.get? a = some o → g'.get? a = some o := fun a o ha e => hN a o ha (hg12 _ _ (hg11 _ _ e))
    have hcell1 := up (L' + 1) _ (by rw [hL']; exact Nat.le_succ _) hc9
    have hcell2 := up (L' + 2) _ (by rw [hL']; exact Nat.le_add_right _ 2) (hg9 _ _ hc8)
    have hlist := up lc _ (by rw [← hL']; exact Nat.le_of_lt hLc) (hg9 _ _ (hg8 _ _ hlc))
    have hfun := hN f _ (by rw [← hL']; exact Nat.le_of_lt (Nat.lt_trans hLc' hcf)) (hg12 _ _ hf11)
    have hcod := hN c' _ (by rw [← hL']; exact Nat.le_of_lt hLc') hc12
    refine hok g' _ _ f pl opl _ ps' hg' ⟨⟨_, _, _, _, hfun⟩, ?_⟩ hopl S₁₄
    clear S₁₄ S₁₃ S₁₂ S₁₁ S₁₀ S₉ S' S hok hA hA' hE he hs hkc hkp hi hl hl' hlo hg' hN hgc up
    intro A₂ E₂ Q₂ s₂ h₂ k₂ base₂ g₂ fs₂ L₂ ns₃ vs₂ led₂ opl₂ n lim tn tl i₂ S hg hA hi hLO hn0 hn1 hlim hq
    refine enterF (ns' := ["limit", "k", "level"]) (args' := [.int lim tl]) (n := 1) (vs' := [some (.int lim tl), none, none]) S hA (S.get (hg _ _ hfun)) ⟨c', oc, fls, t, rfl, S.get (hg _ _ hcod), hdat, hv⟩ (BindsTo.of_eq rfl) [(pl, opl₂)] (foot1 hi) (by simp) (by decide +kernel) (by decide +kernel) rfl (by decide) (by decide +kernel) rfl rfl rfl rfl ?_
    intro env₄ L₄ h₁ k₁ A₄ E₄ he hs hA' hE hL₄ S'
    have hG : EnvG w env₄ [("len", .builtin "len")] := .cons (kindOf_of hs (by decide +kernel)) (G_len w) .nil
    have hcC : CF env₄ [("place", L' + 2), ("cells", L' + 1)] (hideAll h₂ (List.map (fun x : Addr × Obj => x.1) [(pl, opl₂)])) "cells" (.ref lc) := ⟨kindOf_of hs (by decide +kernel), _, _, rfl, S.below1 hi (hg _ _ hcell1), hoc1⟩
    have hcP : CF env₄ [("place", L' + 2), ("cells", L' + 1)] (hideAll h₂ (List.map (fun x : Addr × Obj => x.1) [(pl, opl₂)])) "place" (.ref pl) := ⟨kindOf_of hs (by decide +kernel), _, _, rfl, S.below1 hi (hg _ _ hcell2), ho2'⟩
    have hl2 := S.below1 hi (hg _ _ hlist)
    have hzl := hzs.length
    have hpos : 0 < ns2.length := List.length_pos_iff.mpr hne
    have hz0 : (zs.length : Int) ≠ 0 := by omega
    have hzp : (0 : Int) < (zs.length : Int) := by omega
    have hlv := fdiv_rng (n := n) (m := (zs.length : Int)) hn0 hzp
    have hmd := fmod_rng (n := n) hzp
    walk_at "go"
    refine sub_list (S'.at_ (i := 0) rfl) hLO (by simp) (by decide) (i := 0) rfl ?_
    walk_at "go"
    rename St _ _ _ _ _ _ _ _ _ => S₅
    refine set_list (j := 0) (i := 0) S₅ rfl hLO (by simp) (by simp) fun h₆ o₆ hLO₆ S₆ => ?_
    dsimp only [List.set] at S₆ hLO₆
    walk_at "go"
    refine l_len_list (S₆.get hl2) hLO' (by omega) fun t₇ k₇ => ?_
    refine b_fdiv hz0 (len_log (by omega)) fun t₈ k₈ => ?_
    walk_at "go"
    rename St _ _ _ _ _ _ _ _ _ => S₉
    refine l_len_list (S₉.get hl2) hLO' (by omega) fun t₁₀ k₁₀ => ?_
    refine b_fmod hz0 fun t₁₁ k₁₁ => ?_
    obtain ⟨mv, hmv⟩ : ∃ mv, ns2[(n.fmod (zs.length : Int)).toNat]? = some mv := ⟨_, List.getElem?_eq_getElem (by omega)⟩
    obtain ⟨tm, htm⟩ := ints_get hzs hmv
    refine sub_list (S₉.get hl2) hLO' (by omega) hmd.1 htm ?_
    walk_at "go"
    refine b_pow hlv.1 (by omega) (by decide) fun t₁₂ k₁₂ => ?_
    refine b_fdiv (pow_ne _) (pow_log (by omega)) fun t₁₃ k₁₃ => ?_
    walk_at "go"
    refine b_mul (.of_left (intBits_le_64 (by omega) (by omega))) fun t₁₄ k₁₄ => ?_
    walk_at "go"
    refine b_fmod (by omega) fun t₁₅ k₁₅ => ?_
    have hres := fmod_rng (n := mv.fdiv ((720720 : Int) ^ (n.fdiv (zs.length : Int)).toNat) + n.fdiv (zs.length : Int) * (7 * n + 3)) hlim
    walk_at "go"
    exact hq _ _ _ _ _ _ hres.1 hres.2 hLO₆ (S.ret1 hi S₉ (stays_refl _) (.head _))
end
end
section
noncomputable def AttH (e : Addr) (n : Int) (h : Heap) : Prop := Ex4 fun oe de od t => An4 (h.get? e = some oe) (oe.dict = some de) (h.get? de = some od) (lookIn "at" od = some (some (.int n t)))
theorem AttH.step {e : Addr} {n : Int} {h h' : Heap} (x : AttH e n h) (m : MetaK h h') (y : h.UpToSlots h') : AttH e n h' := by
  obtain ⟨oe, de, od, t, h1, h2, h3, h4⟩ := x
  obtain ⟨oe', HH1⟩ := m e oe h1
  have h1' := HH1.1
  have c1 := HH1.2.1
  have c2 := HH1.2.2
  clear HH1
  obtain ⟨sl, h3'⟩ := y de od h3 (by
    intro vs q
    unfold lookIn at h4
    rw [q] at h4; cases h4)
  exact ⟨oe', de, _, t, h1', by rw [c2, h2], h3', by rw [lookIn_slots]; exact h4⟩
theorem funFrames_mono {base base' : Heap} (hb : base.StaysIn base') {h : Heap} : ∀ {l : List Env}, h.FunFrames base' l → h.FunFrames base l
  | [], _ => trivial
  | env :: l, ⟨hk, ⟨L, o, hf, hn, ho, hd⟩, hr⟩ => ⟨hk, ⟨L, o, hf, (by
      cases q : base.get? L with
      | none => rfl
      | some x => rw [hb _ _ q] at hn; cases hn), ho, hd⟩, funFrames_mono hb hr⟩
theorem funFrames_of {base h h' : Heap} {L : Addr} (hk : ∀ b o, b ≠ L → h.get? b = some o → h'.get? b = some o) (hL : ∃ o, h'.get? L = some o ∧ ∀ vs, o.data ≠ .fields vs) : ∀ {l : List Env}, h.FunFrames base l → h'.FunFrames base l
  | [], _ => trivial
  | env :: l, ⟨hkd, ⟨b, o, hf, hn, ho, hd⟩, hr⟩ => ⟨hkd, by
      by_cases e : b = L
      · subst e
        obtain ⟨o', HH1⟩ := hL
        have ho' := HH1.1
        have hd' := HH1.2
        clear HH1
        exact ⟨b, o', hf, hn, ho', hd'⟩
      · exact ⟨b, o, hf, hn, hk b o e ho, hd⟩, funFrames_of hk hL hr⟩
theorem ns_obj {h : Heap} {L : Addr} {m : Str → Option Value} (x : h.Ns L m) : ∃ o, h.get? L = some o ∧ ∀ vs, o.data ≠ .fields vs := by
  obtain ⟨o, es, ep, HH1⟩ := ex3 x
  have ho := HH1.1
  have hd := HH1.2.1
  clear HH1
  exact ⟨o, ho, fun vs q => by rw [hd] at q; cases q⟩
theorem ns_to {h h' : Heap} {L : Addr} {m : Str → Option Value} (x : h.Ns L m) (e : h'.get? L = h.get? L) : h'.Ns L m := by
  obtain ⟨o, es, ep, HH1⟩ := ex3 x
  have ho := HH1.1
  have r := HH1.2
  clear HH1
  exact ⟨o, es, ep, e.trans ho, r⟩
section
variable {prog : Program} {w : World} {A : Around} {E : Value → Shared → Prop} {s₀ : Shared} {h hc : Heap} {k : Nat} {base g g' gc : Heap} {fs fs' : List Env} {L L' : Addr} {ns ns' : List Str} {vs vs' : List (Option Value)} {led led' ledc : List (Addr × Obj)}
  {env : Env} {cl : List (Str × Addr)} {Q : Value → Shared → Prop}
theorem St.unbase {base' : Heap} (S : St w base' fs g L ns vs led h) (X : (hd.heap_39 w.params).In base) (T : Ex3 fun mean mg mb => Top VP LS mean mg mb base) (hb : base.StaysIn base') (hlow : base.objs.size ≤ L) : St w base fs g L ns vs led h :=
  ⟨X, T, stays_trans hb S.stays, fun h' m' k n => funFrames_mono hb (S.frames h' m' k n), S.gL, hlow, S.len, S.nd, S.loc, S.keep, S.ldg, S.ndl⟩
theorem St.fresh (X : (hd.heap_39 w.params).In base) (T : Ex3 fun mean mg mb => Top VP LS mean mg mb base) (hb : base.StaysIn h) (hL : base.get? L = none) (hlow : base.objs.size ≤ L) (hf : h.FunFrames base fs) (hlen : vs.length = ns.length) (hnd : ns.Nodup) (hn : h.Ns L (mOf ns vs)) :
    St w base fs (hideAll h [L]) L ns vs [] h := by
  have hbg : base.StaysIn (hideAll h [L]) := fun b o e => hideAll_get _ (hb b o e) (by
    simp only [List.mem_singleton]
    intro q; rw [q] at e; rw [hL] at e; cases e)
  refine ⟨X, T, hbg, fun h' m' k n => funFrames_of (fun b o hbL e => k b o (hideAll_get _ e (by simpa using hbL))) (ns_obj n) hf, hideAll_none _ (by simp), hlow, hlen, hnd, hn, hide_stays _ _, (fun p hp => nomatch hp), List.nodup_nil⟩
end
theorem exc_ga (w : World) : findIn (hd.heap_39 w.params) (.ref 61) "__getattribute__" = some (some (.builtin "BaseException.__getattribute__")) := by k_is
theorem exc_nohook (w : World) : findIn (hd.heap_39 w.params) (.ref 61) "__getattr__" = some none := by k_is
section
variable {prog : Program} {w : World} {A : Around} {E : Value → Shared → Prop} {s₀ : Shared} {h hc : Heap} {k : Nat} {base g g' gc : Heap} {fs fs' : List Env} {L L' : Addr} {ns ns' : List Str} {vs vs' : List (Option Value)} {led led' ledc : List (Addr × Obj)}
  {env : Env} {cl : List (Str × Addr)} {Q : Value → Shared → Prop}
theorem exc_get_at {e : Addr} {n : Int} {oe : Obj} {fls : Array Value} {ex : Bool} (X : (hd.heap_39 w.params).In h) (ha : AttH e n h) (he : h.get? e = some oe) (hc : oe.cls = .ref 61) (hdt : oe.data = .fields fls) (hq : ∀ t k', Q (.int n t) (sh s₀ h k')) :
    wpAny (model prog w) A (getAttr (.ref e) "at" ex) Q E (sh s₀ h k) := by
  obtain ⟨oe', de, od, t, h1, h2, h3, h4⟩ := ha
  rw [he] at h1; cases h1
  have I : W.InstAt h e oe 61 (some od) := ⟨he, hc, by unfold notCls; rw [hdt], by rw [h2]; exact h3⟩
  have hf : findObj (hd.heap_39 w.params) 61 (some od) "at" = some (.value (.int n t)) := findObj_own (exc_hasDict w) (exc_at w) rfl h4
  have L0 := I.type (M := model prog w)
  have L1 := looks_findIn (M := model prog w) X (exc_ga w)
  have L2 := looks_findIn (M := model prog w) X (exc_nohook w)
  have L3 := looks_find (M := model prog w) X I hf
  obtain ⟨nm, q, N, bs, hdct, sn, sub, ab, col, dd, k0, k1, k2, k3, k5, hK, hab⟩ := fault_cls w
  have hC := X _ _ hK
  unfold getAttr getAttrBy
  refine wpAny_bind (wpAny_mkText (wpAny_holding (wpAny_bind (L0.at (wpAny_bind (L1.at ?_))))))
  dsimp only
  rw [if_neg (by decide)]
  unfold getAttrByItsOwn
  refine wpAny_bind (L2.at ?_)
  refine wpAny_bind (wpAny_attempt (wpAny_holding ?_))
  unfold callGetattribute
  rw [if_neg (by cases ex <;> decide)]
  unfold boundAndCalled
  rw [F.attr_Exception.ga.bind (.ref e)]
  refine wpAny_bind (wpAny_pure ?_)
  refine wpAny_call (codeAny_call_builtin F.attr_Exception.ga.plain F.entry_bexc_ga ?_)
  have hk : builtinKind "BaseException.__getattribute__" = some .slot := by decide +kernel
  have hsplit : splitId "BaseException.__getattribute__" = some ("BaseException", "__getattribute__") := by decide +kernel
  have hcB : (Value.ref 61 :: tfM).contains (.type "BaseException") = true := by decide
  have hargs := F.args_bexc_ga (.ref e) (.str (Str.ofString "at") (sh s₀ h k).toks)
  have fin : wpAny (model prog w) A.in1 (Builtin.«object.__getattribute__» ⟨[.ref e, .str (Str.ofString "at") (sh s₀ h k).toks], []⟩) (fun fin s' => fin = .done (.ret (.int n t)) ∧ s' = sh s₀ h (k + 1)) (fun _ _ => False) (sh s₀ h (k + 1)) := by
    unfold «object.__getattribute__»
    refine wpAny_bind (wpAny_pure ?_)
    dsimp only
    refine wpAny_bind ?_
    · refine wpAny_pure ?_
      refine wpAny_bind (L0.at (wpAny_bind (L3.at ?_)))
      exact wpAny_pure ⟨rfl, rfl⟩
  have chk : ∀ (Q' : Unit → Shared → Prop) (E' : Value → Shared → Prop), Q' () ⟨h, s₀.gens, s₀.drawn, k + 1, s₀.os⟩ → wpAny (model prog w) A.in1 (checkBuiltinCall "BaseException.__getattribute__" ⟨[.ref e, .str (Str.ofString "at") (sh s₀ h k).toks], []⟩) Q' E' ⟨h, s₀.gens, s₀.drawn, k + 1, s₀.os⟩ := by
    intro Q' E' hQ'
    clear fin
    simp only [checkBuiltinCall, hk, hsplit]
    refine wpAny_bind ?_
    · unfold isInstance
      refine wpAny_bind (L0.at ?_)
      refine wpAny_isSubtype_exc hC ?_
      rw [hcB]
      repeat (first | wp_step)
      exact hQ'
  refine chk _ _ ?_
  refine wpAny_mono fin (fun fn s' hfn => ?_) fun _ _ z => z.elim
  obtain ⟨rfl, rfl⟩ := hfn
  exact wpAny_pure (hq _ _)
end
theorem ns_look {h : Heap} {L : Addr} {m : Str → Option Value} {o : Obj} {a : Str} {v : Value} (x : h.Ns L m) (ho : h.get? L = some o) (hv : m a = some v) : lookIn a o = some (some v) := by
  obtain ⟨o', es, ep, HH1⟩ := ex3 x
  have ho' := HH1.1
  have hd := HH1.2.1
  have hs := HH1.2.2.1
  have hf := HH1.2.2.2
  clear HH1
  rw [ho] at ho'; cases ho'
  have := hf a
  rw [hv] at this
  unfold lookIn
  rw [hd]
  unfold nsFind findBy at this
  obtain ⟨en, HH1⟩ := Option.map_eq_some_iff.mp this
  have hen := HH1.1
  obtain rfl := HH1.2
  clear HH1
  have e2 : es.toList.find? (fun e => e.key.isStr a) = some en := by rw [← hen, Array.find?_toList]
  dsimp only
  rw [e2]
theorem AttH.loc {e L : Addr} {n : Int} {h h' : Heap} {m m' : Str → Option Value} {v : Value} (x : AttH e n h) (he : e ≠ L) (k : ∀ b o, b ≠ L → h.get? b = some o → h'.get? b = some o) (n1 : h.Ns L m) (n2 : h'.Ns L m') (hm : m "at" = some v) (hm' : m' "at" = some v) : AttH e n h' := by
  obtain ⟨oe, de, od, t, h1, h2, h3, h4⟩ := x
  by_cases q : de = L
  · subst q
    have e1 := ns_look n1 h3 hm
    rw [h4] at e1
    obtain ⟨o', HH1⟩ := ns_obj n2
    have ho' := HH1.1
    clear HH1
    have e2 := ns_look n2 ho' hm'
    exact ⟨oe, de, o', t, k _ _ he h1, h2, ho', by rw [e2, ← Option.some.inj e1]⟩
  · exact ⟨oe, de, od, t, k _ _ he h1, h2, k _ _ q h3, h4⟩
section
variable {prog : Program} {w : World} {A : Around} {E : Value → Shared → Prop} {s₀ : Shared} {h hc : Heap} {k : Nat} {base g g' gc : Heap} {fs fs' : List Env} {L L' : Addr} {ns ns' : List Str} {vs vs' : List (Option Value)} {led led' ledc : List (Addr × Obj)}
  {env : Env} {cl : List (Str × Addr)} {Q : Value → Shared → Prop}
theorem c_law_answer_read {ev : Env} {b : Array UInt8} {t ta : Tok} {a : Nat} {ks : List Int} (S : St w base [ev] g L ns vs led h) (hev : ev.frame = some L) (hA : Ax prog A [ev] 15) (hk : KBw.bInts b = ks) (hz : ks.length ≤ 130)
    (hok : ∀ T : Tab, RR ks a = .ok T → ∀ g' h' k' v, g.StaysIn g' → TabIs h.objs.size g' v T → St w base [ev] g' L ns vs led h' → Q v (sh s₀ h' k'))
    (her : ∀ e, RR ks a = .error e → ∀ h' k' t, St w base [ev] g L ns vs led h' → Q (.int e t) (sh s₀ h' k')) :
    wpAny (model prog w) A (call (.ref 482) [.ref 489, .bytes b t, .int a ta]) Q E (sh s₀ h k) := by
  refine wpAny_call (enterRF (ns' := ["reader", "data", "at", "fault"]) (args' := [.ref 489, .bytes b t, .int a ta]) (n := 3) (vs' := [some (.ref 489), some (.bytes b t), some (.int a ta), none]) S hA (by k_is) (by k_is) (BindsTo.of_eq rfl) [] (fun _ h => nomatch h) (by simp) (by decide +kernel) (by decide +kernel) rfl (by decide) (by decide +kernel) rfl rfl rfl rfl ?_)
  intro env' L' h₁ k₁ A' E' he hfr hs hA' hE hL' S'
  have hG : EnvG w env' [("TableFault", .ref 61)] := .cons (kindOf_of hs (by decide +kernel)) (G_TableFault w) .nil
  have hLL : L ≠ L' := by rw [hL']; exact Nat.ne_of_lt S.loc.lt
  have hLh : ∃ o, h.get? L = some o := let ⟨o, ho, _⟩ := ns_obj S.loc; ⟨o, ho⟩
  have hgb : g.StaysIn (hideAll h [L]) := fun b o e => hideAll_get _ (S.keep b o e) (by
    simp only [List.mem_singleton]; intro q; rw [q, S.gL] at e; cases e)
  have hbb : base.StaysIn (hideAll h [L]) := stays_trans S.stays hgb
  have Xb := S.X.keeps hbb
  have Tb : Ex3 fun mean mg mb => Top VP LS mean mg mb (hideAll h [L]) := let ⟨me, mg, mb, t⟩ := S.T; ⟨me, mg, mb, t.keeps hbb⟩
  have hbL' : (hideAll h [L]).get? L' = none := by
    cases q : (hideAll h [L]).get? L' with
    | none => rfl
    | some o => exact absurd (Heap.lt_size (of_hideAll _ q)) (by rw [hL']; exact Nat.lt_irrefl _)
  have hbsz : (hideAll h [L]).objs.size ≤ L' := by rw [hideAll_size, hL']; exact Nat.le_refl _
  obtain ⟨oL, HH1⟩ := ns_obj S.loc
  have hoL := HH1.1
  have hdL := HH1.2
  clear HH1
  have HH1 := S'.fr
  have hkd := HH1.1
  have hkd2 := HH1.2.2.1
  clear HH1
  have frm : ∀ h' m', (hideAll h (List.map (fun x : Addr × Obj => x.1) [])).StaysIn h' → h'.Ns L' m' → h'.FunFrames (hideAll h [L]) (env' :: [ev]) := fun h' m' k n => by
    obtain ⟨o1, HH1⟩ := ns_obj n
    have ho1 := HH1.1
    have hd1 := HH1.2
    clear HH1
    exact ⟨hkd, ⟨L', o1, hfr, hbL', ho1, hd1⟩, hkd2, ⟨L, oL, hev, hideAll_none _ (by simp), k _ _ (hideNil h _ _ hoL), hdL⟩, trivial⟩
  have Sb : St w (hideAll h [L]) (env' :: [ev]) (hideAll h (List.map (fun x : Addr × Obj => x.1) [])) L' ["reader", "data", "at", "fault"] [some (.ref 489), some (.bytes b t), some (.int a ta), none] [] h₁ :=
    ⟨Xb, Tb, fun b o e => hideNil h _ _ (of_hideAll _ e), frm, S'.gL, hbsz, S'.len, S'.nd, S'.loc, S'.keep, (fun p hp => nomatch hp), List.nodup_nil⟩
  refine x_any (wpAny_Try_except ?_)
  refine wpAny_mono (Q := fun f s₁ => Ex5 fun T g' h' k' v => An6 (RR ks a = .ok T) (f = .ret v) (s₁ = sh s₀ h' k') ((hideAll h (List.map (fun x : Addr × Obj => x.1) [])).StaysIn g') (TabIs h₁.objs.size g' v T) (St w (hideAll h [L]) (env' :: [ev]) g' L' ["reader", "data", "at", "fault"] [some (.ref 489), some (.bytes b t), some (.int a ta), none] [] h'))
    (E := fun x s₁ => Ex4 fun e n h' k' => An4 (RR ks a = .error n) (x = .ref e) (s₁ = sh s₀ h' k') (Fault (hideAll h [L]) (env' :: [ev]) (hideAll h₁ []) n e h')) ?_ ?_ ?_
  · walk_at "go"
    refine c_law_read Sb (hA'.less (by decide)) hk (by omega) (fun T hT g' h' k' v hg' htab S₂ => ?_) fun n hn e h' k' hF => ⟨e, n, h', k', hn, rfl, rfl, hF⟩
    exact ⟨T, g', h', k', v, hT, rfl, rfl, hg', htab, S₂⟩
  · rintro f s₁ ⟨T, g', h', k', v, hT, rfl, rfl, hg', htab, S₂⟩
    have S₃ : St w base (env' :: [ev]) g' L' ["reader", "data", "at", "fault"] [some (.ref 489), some (.bytes b t), some (.int a ta), none] [] h' := S₂.unbase S.X S.T hbb (by rw [hL']; exact Nat.le_trans S.low (Nat.le_of_lt S.loc.lt))
    obtain ⟨g5, hg5, hnew, S₅⟩ := S.retg0 S₃ (stays_trans (hideNil h) hg')
    have hsz : h.objs.size < h₁.objs.size := by rw [← hL']; exact S'.Llt
    exact hok T hT g5 _ _ _ hg5 (keeps_tab.into (keeps_tab.up htab (stays_refl _) (Nat.le_of_lt hsz)) hnew (Nat.le_refl _)) S₅
  · rintro x s₁ ⟨e, n, h2, k2, hn, rfl, rfl, hF⟩
    obtain ⟨⟨a0, fly⟩, up, att⟩ := hF
    refine wpAny_mono ((tame_noteFrame _ _).any (wpAny_looks_onW (s := sh s₀ h2 k2) (Q := fun _ s'' => ∃ h', An3 (s'' = sh s₀ h' k2) (Heap.HeldW (hideAll h [L]) (env' :: [ev]) e (.ref 61) a0 L' h') (h2.UpToSlots h')) hA'.fr hfr fly fun h' x y => ⟨h', rfl, x, y⟩)) (fun _ s'' x => ?_) fun _ _ z => z
    obtain ⟨⟨h3, rfl, held, up3⟩, mk3⟩ := x
    refine wpAny_mono ((tame_setFlight _ _).any (wpAny_landsW (s := sh s₀ h3 k2) (Q := fun _ s'' => ∃ h', An3 (s'' = sh s₀ h' k2) (Heap.FlyingW (hideAll h [L]) (env' :: [ev]) e (.ref 61) a0 h') (h3.UpToSlots h')) held fun h' x y => ⟨h', rfl, x, y⟩)) (fun _ s'' x => ?_) fun _ _ z => z
    obtain ⟨⟨h4, rfl, fly4, up4⟩, mk4⟩ := x
    have att4 : AttH e n h4 := (AttH.step (h := h2) att mk3 up3).step mk4 up4
    have upA : h₁.UpToSlots h4 := (((Heap.UpToSlots.of_keeps (hideNil h₁)).trans up).trans up3).trans up4
    have f1 := fly4.1
    have f2 := fly4.2.1
    have f3 := fly4.2.2.1
    have f4 := fly4.2.2.2
    have S4 := St.fresh Xb Tb f1 hbL' hbsz f3 S'.len S'.nd (upA.ns S'.loc)
    obtain ⟨oe4, fl4, _, _, _, HH1⟩ := ex5 (id f4)
    have he4 := HH1.1
    obtain ⟨hc4, _⟩ := HH1.2.1
    have hd4 := HH1.2.2.1
    clear HH1
    obtain ⟨nm, q, N, bs, hdct, sn, sub, ab, col, dd, k0, k1, k2', k3, k5, hK, hab⟩ := fault_cls w
    refine wpAny_handleBy_cons (codeAny_handlers_test ?_) (by intro q; cases q)
    walk_at "go"
    refine wpAny_excMatches_sub_self (S4.Xh _ _ hK) he4 hc4 (by decide) ?_
    refine codeAny_handlers_suite_as ?_
    refine wpAny_mono ((tame_setFlight _ _).any (wpAny_setFlight_noneW (s := sh s₀ h4 k2) (Q := fun _ s'' => ∃ h', An5 (s'' = sh s₀ h' k2) ((hideAll h [L]).StaysIn h') (h'.FunFrames (hideAll h [L]) (env' :: [ev])) (h'.TracedW (hideAll h [L]) e (.ref 61) a0) (∀ b o, h4.get? b = some o → (∀ vs, o.data ≠ .fields vs) → h'.get? b = some o)) f1 f3 f4 fun h' x1 x2 x3 x4 => ⟨h', rfl, x1, x2, x3, x4⟩)) (fun _ s'' x => ?_) fun _ _ z => z
    obtain ⟨⟨h5, rfl, e1, e2, e3, e4⟩, mk5⟩ := x
    have up5 : h4.UpToSlots h5 := fun b o hb hn => ⟨o.slots, e4 b o hb hn⟩
    have att5 := att4.step mk5 up5
    have upB := upA.trans up5
    have ns5 := upB.ns S'.loc
    have S5 := St.fresh Xb Tb e1 hbL' hbsz e2 S'.len S'.nd ns5
    obtain ⟨oe5, fl5, _, _, _, HH1⟩ := ex5 (id e3)
    have he5 := HH1.1
    obtain ⟨hc5, _⟩ := HH1.2.1
    have hd5 := HH1.2.2.1
    clear HH1
    have heL : e ≠ L' := fun q => by
      obtain ⟨o', HH1⟩ := ns_obj ns5
      have ho' := HH1.1
      have hd' := HH1.2
      clear HH1
      rw [← q, he5] at ho'; cases ho'
      exact hd' _ hd5
    refine s_loc S5 he 3 rfl fun h6 k6 S6 => ?_
    dsimp only [List.set] at S6
    have k56 : ∀ b o, b ≠ L' → h5.get? b = some o → h6.get? b = some o := fun b o hb e => S6.keep _ _ (hideAll_get _ e (by simpa using hb))
    have att6 := att5.loc heL k56 ns5 S6.loc (v := .int a ta) rfl rfl
    walk_at "go"
    refine exc_get_at S6.Xh att6 (k56 _ _ heL he5) hc5 hd5 fun t7 k7 => ?_
    refine wpAny_nameGoes (he.names _ (.tail _ (.tail _ (.tail _ (.head _))))) (by rw [he.loc]; exact S6.loc) (by rw [he.kind]; rfl) fun h8 m8 hn8 hs8 => ?_
    rw [he.loc] at hn8 hs8
    have hLL' : L ≠ L' := hLL
    have kb : ∀ b o, (hideAll h [L]).get? b = some o → h8.get? b = some o := fun b o eb => by
      have hb' : b ≠ L' := fun q => by rw [q, hbL'] at eb; cases eb
      exact (hs8.2 b hb').trans (k56 b o hb' (e1 b o eb))
    have hnsL : h8.Ns L (mOf ns vs) := by
      have n1 : h₁.Ns L (mOf ns vs) := ns_to S.loc ((S'.keep _ _ (hideNil h _ _ hoL)).trans hoL.symm)
      have n5 := upB.ns n1
      obtain ⟨o5, HH1⟩ := ns_obj n5
      have ho5 := HH1.1
      clear HH1
      exact ns_to n5 (((hs8.2 L hLL').trans (k56 L o5 hLL' ho5)).trans ho5.symm)
    have S8 : St w base [ev] g L ns vs led h8 := by
      refine ⟨S.X, S.T, S.stays, S.frames, S.gL, S.low, S.len, S.nd, hnsL, fun b o eb => kb b o (hgb b o eb), fun p hp => ⟨kb _ _ (hideAll_get _ (S.ldg p hp).1 (by simpa using (S.ldg p hp).2.1)), (S.ldg p hp).2⟩, S.ndl⟩
    exact her n hn h8 _ t7 S8
theorem c_law_answer_table {ev : Env} {b : Array UInt8} {t ta : Tok} {a : Nat} {ks : List Int} (S : St w base [ev] g L ns vs led h) (hev : ev.frame = some L) (hA : Ax prog A [ev] 15) (hk : KBw.bInts b = ks) (hz : ks.length ≤ 130)
    (hok : ∀ T : Tab, RR ks a = .ok T → ∀ g' h' k' v, g.StaysIn g' → TabIs h.objs.size g' v T → St w base [ev] g' L ns vs led h' → Q v (sh s₀ h' k'))
    (her : ∀ e, RR ks a = .error e → ∀ h' k' t, St w base [ev] g L ns vs led h' → Q (.int e t) (sh s₀ h' k')) :
    wpAny (model prog w) A (call (.ref 482) [.ref 475, .bytes b t, .int a ta]) Q E (sh s₀ h k) := by
  refine wpAny_call (enterRF (ns' := ["reader", "data", "at", "fault"]) (args' := [.ref 475, .bytes b t, .int a ta]) (n := 3) (vs' := [some (.ref 475), some (.bytes b t), some (.int a ta), none]) S hA (by k_is) (by k_is) (BindsTo.of_eq rfl) [] (fun _ h => nomatch h) (by simp) (by decide +kernel) (by decide +kernel) rfl (by decide) (by decide +kernel) rfl rfl rfl rfl ?_)
  intro env' L' h₁ k₁ A' E' he hfr hs hA' hE hL' S'
  have hG : EnvG w env' [("TableFault", .ref 61)] := .cons (kindOf_of hs (by decide +kernel)) (G_TableFault w) .nil
  have hLL : L ≠ L' := by rw [hL']; exact Nat.ne_of_lt S.loc.lt
  have hLh : ∃ o, h.get? L = some o := let ⟨o, ho, _⟩ := ns_obj S.loc; ⟨o, ho⟩
  have hgb : g.StaysIn (hideAll h [L]) := fun b o e => hideAll_get _ (S.keep b o e) (by
    simp only [List.mem_singleton]; intro q; rw [q, S.gL] at e; cases e)
  have hbb : base.StaysIn (hideAll h [L]) := stays_trans S.stays hgb
  have Xb := S.X.keeps hbb
  have Tb : Ex3 fun mean mg mb => Top VP LS mean mg mb (hideAll h [L]) := let ⟨me, mg, mb, t⟩ := S.T; ⟨me, mg, mb, t.keeps hbb⟩
  have hbL' : (hideAll h [L]).get? L' = none := by
    cases q : (hideAll h [L]).get? L' with
    | none => rfl
    | some o => exact absurd (Heap.lt_size (of_hideAll _ q)) (by rw [hL']; exact Nat.lt_irrefl _)
  have hbsz : (hideAll h [L]).objs.size ≤ L' := by rw [hideAll_size, hL']; exact Nat.le_refl _
  obtain ⟨oL, HH1⟩ := ns_obj S.loc
  have hoL := HH1.1
  have hdL := HH1.2
  clear HH1
  have HH1 := S'.fr
  have hkd := HH1.1
  have hkd2 := HH1.2.2.1
  clear HH1
  have frm : ∀ h' m', (hideAll h (List.map (fun x : Addr × Obj => x.1) [])).StaysIn h' → h'.Ns L' m' → h'.FunFrames (hideAll h [L]) (env' :: [ev]) := fun h' m' k n => by
    obtain ⟨o1, HH1⟩ := ns_obj n
    have ho1 := HH1.1
    have hd1 := HH1.2
    clear HH1
    exact ⟨hkd, ⟨L', o1, hfr, hbL', ho1, hd1⟩, hkd2, ⟨L, oL, hev, hideAll_none _ (by simp), k _ _ (hideNil h _ _ hoL), hdL⟩, trivial⟩
  have Sb : St w (hideAll h [L]) (env' :: [ev]) (hideAll h (List.map (fun x : Addr × Obj => x.1) [])) L' ["reader", "data", "at", "fault"] [some (.ref 475), some (.bytes b t), some (.int a ta), none] [] h₁ :=
    ⟨Xb, Tb, fun b o e => hideNil h _ _ (of_hideAll _ e), frm, S'.gL, hbsz, S'.len, S'.nd, S'.loc, S'.keep, (fun p hp => nomatch hp), List.nodup_nil⟩
  refine x_any (wpAny_Try_except ?_)
  refine wpAny_mono (Q := fun f s₁ => Ex5 fun T g' h' k' v => An6 (RR ks a = .ok T) (f = .ret v) (s₁ = sh s₀ h' k') ((hideAll h (List.map (fun x : Addr × Obj => x.1) [])).StaysIn g') (TabIs h₁.objs.size g' v T) (St w (hideAll h [L]) (env' :: [ev]) g' L' ["reader", "data", "at", "fault"] [some (.ref 475), some (.bytes b t), some (.int a ta), none] [] h'))
    (E := fun x s₁ => Ex4 fun e n h' k' => An4 (RR ks a = .error n) (x = .ref e) (s₁ = sh s₀ h' k') (Fault (hideAll h [L]) (env' :: [ev]) (hideAll h₁ []) n e h')) ?_ ?_ ?_
  · walk_at "go"
    refine c_law_table Sb (hA'.less (by decide)) hk (by omega) (fun T hT g' h' k' v hg' htab S₂ => ?_) fun n hn e h' k' hF => ⟨e, n, h', k', hn, rfl, rfl, hF⟩
    exact ⟨T, g', h', k', v, hT, rfl, rfl, hg', htab, S₂⟩
  · rintro f s₁ ⟨T, g', h', k', v, hT, rfl, rfl, hg', htab, S₂⟩
    have S₃ : St w base (env' :: [ev]) g' L' ["reader", "data", "at", "fault"] [some (.ref 475), some (.bytes b t), some (.int a ta), none] [] h' := S₂.unbase S.X S.T hbb (by rw [hL']; exact Nat.le_trans S.low (Nat.le_of_lt S.loc.lt))
    obtain ⟨g5, hg5, hnew, S₅⟩ := S.retg0 S₃ (stays_trans (hideNil h) hg')
    have hsz : h.objs.size < h₁.objs.size := by rw [← hL']; exact S'.Llt
    exact hok T hT g5 _ _ _ hg5 (keeps_tab.into (keeps_tab.up htab (stays_refl _) (Nat.le_of_lt hsz)) hnew (Nat.le_refl _)) S₅
  · rintro x s₁ ⟨e, n, h2, k2, hn, rfl, rfl, hF⟩
    obtain ⟨⟨a0, fly⟩, up, att⟩ := hF
    refine wpAny_mono ((tame_noteFrame _ _).any (wpAny_looks_onW (s := sh s₀ h2 k2) (Q := fun _ s'' => ∃ h', An3 (s'' = sh s₀ h' k2) (Heap.HeldW (hideAll h [L]) (env' :: [ev]) e (.ref 61) a0 L' h') (h2.UpToSlots h')) hA'.fr hfr fly fun h' x y => ⟨h', rfl, x, y⟩)) (fun _ s'' x => ?_) fun _ _ z => z
    obtain ⟨⟨h3, rfl, held, up3⟩, mk3⟩ := x
    refine wpAny_mono ((tame_setFlight _ _).any (wpAny_landsW (s := sh s₀ h3 k2) (Q := fun _ s'' => ∃ h', An3 (s'' = sh s₀ h' k2) (Heap.FlyingW (hideAll h [L]) (env' :: [ev]) e (.ref 61) a0 h') (h3.UpToSlots h')) held fun h' x y => ⟨h', rfl, x, y⟩)) (fun _ s'' x => ?_) fun _ _ z => z
    obtain ⟨⟨h4, rfl, fly4, up4⟩, mk4⟩ := x
    have att4 : AttH e n h4 := (AttH.step (h := h2) att mk3 up3).step mk4 up4
    have upA : h₁.UpToSlots h4 := (((Heap.UpToSlots.of_keeps (hideNil h₁)).trans up).trans up3).trans up4
    have f1 := fly4.1
    have f2 := fly4.2.1
    have f3 := fly4.2.2.1
    have f4 := fly4.2.2.2
    have S4 := St.fresh Xb Tb f1 hbL' hbsz f3 S'.len S'.nd (upA.ns S'.loc)
    obtain ⟨oe4, fl4, _, _, _, HH1⟩ := ex5 (id f4)
    have he4 := HH1.1
    obtain ⟨hc4, _⟩ := HH1.2.1
    have hd4 := HH1.2.2.1
    clear HH1
    obtain ⟨nm, q, N, bs, hdct, sn, sub, ab, col, dd, k0, k1, k2', k3, k5, hK, hab⟩ := fault_cls w
    refine wpAny_handleBy_cons (codeAny_handlers_test ?_) (by intro q; cases q)
    walk_at "go"
    refine wpAny_excMatches_sub_self (S4.Xh _ _ hK) he4 hc4 (by decide) ?_
    refine codeAny_handlers_suite_as ?_
    refine wpAny_mono ((tame_setFlight _ _).any (wpAny_setFlight_noneW (s := sh s₀ h4 k2) (Q := fun _ s'' => ∃ h', An5 (s'' = sh s₀ h' k2) ((hideAll h [L]).StaysIn h') (h'.FunFrames (hideAll h [L]) (env' :: [ev])) (h'.TracedW (hideAll h [L]) e (.ref 61) a0) (∀ b o, h4.get? b = some o → (∀ vs, o.data ≠ .fields vs) → h'.get? b = some o)) f1 f3 f4 fun h' x1 x2 x3 x4 => ⟨h', rfl, x1, x2, x3, x4⟩)) (fun _ s'' x => ?_) fun _ _ z => z
    obtain ⟨⟨h5, rfl, e1, e2, e3, e4⟩, mk5⟩ := x
    have up5 : h4.UpToSlots h5 := fun b o hb hn => ⟨o.slots, e4 b o hb hn⟩
    have att5 := att4.step mk5 up5
    have upB := upA.trans up5
    have ns5 := upB.ns S'.loc
    have S5 := St.fresh Xb Tb e1 hbL' hbsz e2 S'.len S'.nd ns5
    obtain ⟨oe5, fl5, _, _, _, HH1⟩ := ex5 (id e3)
    have he5 := HH1.1
    obtain ⟨hc5, _⟩ := HH1.2.1
    have hd5 := HH1.2.2.1
    clear HH1
    have heL : e ≠ L' := fun q => by
      obtain ⟨o', HH1⟩ := ns_obj ns5
      have ho' := HH1.1
      have hd' := HH1.2
      clear HH1
      rw [← q, he5] at ho'; cases ho'
      exact hd' _ hd5
    refine s_loc S5 he 3 rfl fun h6 k6 S6 => ?_
    dsimp only [List.set] at S6
    have k56 : ∀ b o, b ≠ L' → h5.get? b = some o → h6.get? b = some o := fun b o hb e => S6.keep _ _ (hideAll_get _ e (by simpa using hb))
    have att6 := att5.loc heL k56 ns5 S6.loc (v := .int a ta) rfl rfl
    walk_at "go"
    refine exc_get_at S6.Xh att6 (k56 _ _ heL he5) hc5 hd5 fun t7 k7 => ?_
    refine wpAny_nameGoes (he.names _ (.tail _ (.tail _ (.tail _ (.head _))))) (by rw [he.loc]; exact S6.loc) (by rw [he.kind]; rfl) fun h8 m8 hn8 hs8 => ?_
    rw [he.loc] at hn8 hs8
    have hLL' : L ≠ L' := hLL
    have kb : ∀ b o, (hideAll h [L]).get? b = some o → h8.get? b = some o := fun b o eb => by
      have hb' : b ≠ L' := fun q => by rw [q, hbL'] at eb; cases eb
      exact (hs8.2 b hb').trans (k56 b o hb' (e1 b o eb))
    have hnsL : h8.Ns L (mOf ns vs) := by
      have n1 : h₁.Ns L (mOf ns vs) := ns_to S.loc ((S'.keep _ _ (hideNil h _ _ hoL)).trans hoL.symm)
      have n5 := upB.ns n1
      obtain ⟨o5, HH1⟩ := ns_obj n5
      have ho5 := HH1.1
      clear HH1
      exact ns_to n5 (((hs8.2 L hLL').trans (k56 L o5 hLL' ho5)).trans ho5.symm)
    have S8 : St w base [ev] g L ns vs led h8 := by
      refine ⟨S.X, S.T, S.stays, S.frames, S.gL, S.low, S.len, S.nd, hnsL, fun b o eb => kb b o (hgb b o eb), fun p hp => ⟨kb _ _ (hideAll_get _ (S.ldg p hp).1 (by simpa using (S.ldg p hp).2.1)), (S.ldg p hp).2⟩, S.ndl⟩
    exact her n hn h8 _ t7 S8
end
end
section
section
variable {M : Model} {A : Around} {s : Shared} {env : Env}
theorem C_or {x : Expr} {rest : List Expr} {pos : Pos} {whole : Sem Value} {Q : Bool → Shared → Prop}
    (h : wpC M A (PySem.isTrue x env (eval x env)) (fun c s' => if c = true then Q true s' else wpC M A (PySem.isTrue (.BoolOp .Or rest pos) env whole) Q s') s) :
    wpC M A (PySem.isTrue (.BoolOp .Or (x :: rest) pos) env whole) Q s := by
  show wpC M A (do
    match BoolOp.Or, ← PySem.isTrue x env (eval x env) with
    | .And, false => pure false
    | .Or, true => pure true
    | _, _ => allTrue .Or rest env) Q s
  refine wpC_bind (wpC_mono h fun c s' h' => ?_)
  cases c
  · exact h'
  · exact wpC_pure h'
theorem C_or0 {pos : Pos} {whole : Sem Value} {Q : Bool → Shared → Prop} (h : Q false s) : wpC M A (PySem.isTrue (.BoolOp .Or [] pos) env whole) Q s := wpC_of (isTrue_or_nil h)
end
section
variable {prog : Program} {w : World} {A : Around} {E : Value → Shared → Prop} {s₀ : Shared} {h hc : Heap} {k : Nat} {base g g' gc : Heap} {fs fs' : List Env} {L L' : Addr} {ns ns' : List Str} {vs vs' : List (Option Value)} {led led' ledc : List (Addr × Obj)}
  {env : Env} {cl : List (Str × Addr)} {Q : Value → Shared → Prop}
theorem wpC_operate {vs : List Value} {m : Sem Value} {Q : Value → Shared → Prop} {s : Shared} (h : wpC (model prog w) A m Q s) : wpC (model prog w) A (operate vs m) Q s := fun Γ p hΓ hC => by
  rw [Sem.wp_operate]; exact h Γ p hΓ hC
theorem C_cmpT {l r : Expr} {pos : Pos} {whole : Sem Value} {Q : Bool → Shared → Prop} {s : Shared}
    (h : wpC (model prog w) A (eval l env) (fun a s₁ => wpC (model prog w) A (eval r env) (fun b s₂ => wpC (model prog w) A (compareOp .NotEq a b) (fun c s₃ => wpC (model prog w) A (truthy c) Q s₃) s₂) s₁) s) :
    wpC (model prog w) A (PySem.isTrue (.Compare l [.NotEq] [r] pos) env whole) Q s := by
  rw [isTrue_Compare1, show markedBehindIn .NotEq r (eval r env) = eval r env from by
    have hm : behindInMarks .NotEq r = false := by
      cases r with
      | Set elts k pos => show (k == 0 && false && _) = false; simp
      | _ => rfl
    unfold markedBehindIn; rw [hm]]
  refine wpC_bind (wpC_mono h fun a s₁ h₁ => ?_)
  refine wpC_bind (wpC_holding (wpC_mono h₁ fun b s₂ h₂ => ?_))
  exact wpC_bind (wpC_standAt (wpC_bind (wpC_operate (wpC_mono h₂ fun c s₃ h₃ => wpC_holding h₃))))
theorem ext_bytes {A : Around} {s : Shared} {R : Result → Shared → Prop} (hh : A.handled = none) (b : Array UInt8) (t : Tok) (S : Addr) (res : Value) (c₀ : Nat) (hS : s.heap.get? S = some { cls := .type "list", data := .seq #[] c₀ })
    (hn : b.size ≤ sizeLine)
    (hR : ∀ h' tk acc' c', (∀ b o, b ≠ S → s.heap.get? b = some o → h'.get? b = some o) → h'.get? S = some { cls := .type "list", dict := none, data := .seq acc' c', slots := #[] } →
      ItemsOf (fun i v => ∃ c u, b[i]? = some c ∧ v = .int (c.toNat : Int) u) acc' b.size → R (.ok (.ret res)) { s with heap := h', toks := tk }) :
    wpAny (model prog w) A.in1 (Builtin.List.listExtendWith (.ref S) (.bytes b t) res)
      (fun fin s' => match fin with | .done f => R (.ok f) s' | .again c' => c'.quiet = true ∧ codeAny (model prog w) A c' R s') (fun e s' => R (.error e) s') s := by
  have hSI : S ≠ s.heap.objs.size := Nat.ne_of_lt (Heap.lt_size hS)
  have hSf : S ∉ [s.heap.objs.size] := fun hm => hSI (List.mem_singleton.mp hm)
  unfold Builtin.List.listExtendWith
  refine wpAny_bind (wpAny_typeOf (T := "bytes") (v := .bytes b t) rfl ?_)
  have h1 : Builtin.List.listSameRef (.ref S) (.bytes b t) = false := rfl
  have h2 : (Value.type "bytes" == Value.type "list") = false := by decide
  have h3 : (Value.type "bytes" == Value.type "tuple") = false := by decide
  simp only [h1, h2, h3, Bool.or_false, Bool.false_eq_true, if_false]
  refine wpAny_bind (KBw.pyIter_bytes ?_)
  refine wpAny_bind (wpAny_holding ?_)
  unfold Builtin.List.listLengthHint
  refine wpAny_bind (wpAny_specialOf (T := "bytes") (v := .bytes b t) rfl FB.slot_bytes_len.lookup ?_)
  wp_delta
  refine wpAny_bind (wpAny_isInstance (T := "bytes") (v := .bytes b t) (b := true) rfl (by rw [isSubtype_type]; kernel_rfl) ?_)
  show wpAny _ _ (typeOf (Value.bytes b t) >>= _) _ _ _
  refine wpAny_bind (wpAny_typeOf (T := "bytes") (v := .bytes b t) rfl ?_)
  refine wpAny_pure ?_
  rw [if_neg (by decide)]
  have W := (KBw.walks (prog := prog) (w := w) (A := A.in1) hh s.heap.objs.size b t).toS
  have hS₁ := Heap.get?_push_of_some { cls := .type "bytes_iterator", data := .fields #[.bytes b t, .int 0 0] } hS
  refine wpAny_pure ⟨plainId_quiet F.plain_extend_loop _, codeAny_extend_loopS W hn S hSf res b.size 0 _ #[] c₀ (Nat.sub_zero _) (Nat.zero_le _) ⟨_, Heap.get?_push_size _ rfl, rfl, rfl⟩ hS₁ (ItemsOf.nil _) fun s' acc' c' hm hS' hacc => ?_⟩
  rw [Moved.eq_with hm]
  refine hR s'.heap s'.toks acc' c' (fun b ob hb e => hm.heap b ob (fun hmem => ?_) (Heap.get?_push_of_some _ e)) hS' hacc
  rcases List.mem_cons.mp hmem with e' | hmem
  · exact hb e'
  · exact absurd (Heap.lt_size e) (by rw [List.mem_singleton.mp hmem]; exact Nat.lt_irrefl _)
theorem init_bytes {A : Around} {s : Shared} {R : Result → Shared → Prop} (hh : A.handled = none) (b : Array UInt8) (t : Tok) (S : Addr) (hS : s.heap.get? S = some { cls := .type "list", data := .seq #[] })
    (hn : b.size ≤ sizeLine)
    (hR : ∀ h' tk acc' c', (∀ b o, b ≠ S → s.heap.get? b = some o → h'.get? b = some o) → h'.get? S = some { cls := .type "list", dict := none, data := .seq acc' c', slots := #[] } →
      ItemsOf (fun i v => ∃ c u, b[i]? = some c ∧ v = .int (c.toNat : Int) u) acc' b.size → R (.ok (.ret .none)) { s with heap := h', toks := tk }) :
    wpAny (model prog w) A.in1 (Builtin.«list.__init__» ⟨[.ref S, .bytes b t], []⟩)
      (fun fin s' => match fin with | .done f => R (.ok f) s' | .again c' => c'.quiet = true ∧ codeAny (model prog w) A c' R s') (fun e s' => R (.error e) s') s := by
  show wpAny _ _ (do let old ← Builtin.List.listItems (.ref S); Builtin.List.listUpdate (.ref S) (fun _ => #[]); letGo old.toList.reverse; Builtin.List.listExtendWith (.ref S) (.bytes b t) .none) _ _ s
  refine wpAny_bind ?_
  unfold Builtin.List.listItems
  refine wpAny_bind (wpAny_seqItems hS rfl (wpAny_pure ?_))
  show wpAny _ _ (updateSeq S (fun _ => #[]) >>= fun _ => letGo (#[] : Array Value).toList.reverse >>= fun _ => Builtin.List.listExtendWith (.ref S) (.bytes b t) .none) _ _ s
  refine wpAny_bind (wpAny_updateSeq hS rfl ?_)
  have hS₂ := Heap.get?_update_self (Obj.mapSeq (fun _ => (#[] : Array Value))) hS rfl
  have oth : ∀ b o, b ≠ S → s.heap.get? b = some o → (s.heap.update S (Obj.mapSeq (fun _ => (#[] : Array Value)))).get? b = some o :=
    fun b o hb e => (Heap.get?_update_other _ _ (Ne.symm hb)).trans e
  refine wpAny_bind (wpAny_letGo ?_)
  refine ext_bytes hh b t S .none _ hS₂ hn fun h' tk acc' c' hk hS' hacc => ?_
  exact hR h' tk acc' c' (fun b o hb e => hk b o hb (oth b o hb e)) hS' hacc
theorem g_list_bytes {b : Array UInt8} {t : Tok} {ks : List Int} (hh : A.handled = none) (S : St w base fs g L ns vs led h) (hk : KBw.bInts b = ks) (hz : ks.length ≤ 16777216)
    (hq : ∀ l o h' k' xs, LO o xs → IntsAre xs ks → L < l → St w base fs g L ns vs ((l, o) :: led) h' → Q (.ref l) (sh s₀ h' k')) : wpAny (model prog w) A (call (.type "list") [.bytes b t]) Q E (sh s₀ h k) := by
  have hb : b.size = ks.length := by rw [← KBw.ints_length, hk]
  refine callType_codes (Q₁ := fun obj s₁ => obj = .ref h.objs.size ∧ s₁ = { sh s₀ h k with heap := h.push { cls := .type "list", data := .seq #[] } }) F.called_list (F.typeCall_list_1 _) F.entry_list_init
    (code_list_new _ ⟨rfl, rfl⟩) fun obj s₁ h₁ => ?_
  obtain ⟨rfl, rfl⟩ := h₁
  have hS : (h.push { cls := .type "list", data := .seq #[] }).get? h.objs.size = some { cls := .type "list", data := .seq #[] } := Heap.get?_push_size _ rfl
  refine ⟨⟨_, hS, rfl⟩, F.args_list_init_2 _ _, init_bytes (A := A.in1) hh b t _ hS (by rw [sizeLine_eq]; omega) fun h' tk acc' c' hk' hS' hacc => ?_⟩
  refine ⟨rfl, ?_⟩
  refine hq _ _ h' tk acc'.toList ⟨c', rfl⟩ ?_ S.loc.lt (S.more (fun b o e => hk' b o (Nat.ne_of_lt (Heap.lt_size e)) (Heap.get?_push_of_some _ e)) hS' (Heap.get?_none_of_le (Nat.le_refl _)))
  subst hk
  refine ints_of_at (by simp [hacc.1, KBw.ints_length]) fun j v hj => ?_
  obtain ⟨c, u, HH1⟩ := ex2 (hacc.2 j v (by simpa using hj))
  have hc := HH1.1
  obtain rfl := HH1.2
  clear HH1
  exact ⟨_, u, KBw.ints_get hc, rfl⟩
theorem g_mul_list {l : Addr} {ol : Obj} {v₀ : Value} {n : Nat} {u : Tok} (S : St w base fs g L ns vs led h) (ho : h.get? l = some ol) (hl : LO ol [v₀]) (hz : n ≤ 1000)
    (hq : ∀ D o h', LO o (List.replicate n v₀) → L < D → St w base fs g L ns vs ((D, o) :: led) h' → Q (.ref D) (sh s₀ h' k)) : wpAny (model prog w) A (binaryOp .Mult (.ref l) (.int n u)) Q E (sh s₀ h k) := by
  obtain ⟨c, rfl⟩ := hl.ex
  refine mul_list (s := sh s₀ h k) S.toFr S.toNews ho (by omega) (by omega) (by simp; omega) fun h' F' N' => ?_
  refine hq _ _ h' ⟨0, ?_⟩ S.loc.lt (S.ofNew F' N' fun p hp => Heap.lt_size (S.toNews p hp).1)
  congr 2
  have key : ∀ (m : Nat) (acc : Array Value), List.foldl (fun x1 x2 => x1 ++ x2) acc (List.replicate m #[v₀]) = acc ++ Array.replicate m v₀ := by
    intro m
    induction m with
    | zero => intro acc; simp
    | succ m ih => intro acc; rw [List.replicate_succ, List.foldl_cons, ih, Array.append_assoc]; congr 1; apply Array.toList_inj.mp; simp [List.replicate_succ]
  have := key n #[]
  simpa using this
end
end
section
noncomputable def encP (p : Int × Int) : PyData := .tuple [.int p.1, .int p.2]
noncomputable def encI (c : List Int) : PyData := .tuple (c.map PyData.int)
noncomputable def encT (T : Tab) : PyData := .tuple [.tuple (T.1.map encP), .tuple (T.2.1.map encI), .tuple (T.2.2.map encI)]
theorem canAll_of {α : Type} (f : α → PyData) (h : ∀ a, (f a).canLay0 = true) : ∀ l : List α, PyData.canLayAll0 (l.map f) = true
  | [] => by simp [PyData.canLayAll0]
  | a :: l => by simp [PyData.canLayAll0, h a, canAll_of f h l]
theorem depAll_of {α : Type} (f : α → PyData) (n : Nat) (h : ∀ a, (f a).depth ≤ n) : ∀ l : List α, PyData.depthAll (l.map f) ≤ n
  | [] => by simp [PyData.depthAll]
  | a :: l => by
    have h1 := h a
    have h2 := depAll_of f n h l
    simp only [List.map_cons, PyData.depthAll]; omega
theorem can_encI (c : List Int) : (encI c).canLay0 = true := by
  unfold encI; simp only [PyData.canLay0]; exact canAll_of _ (fun a => by simp [PyData.canLay0]) c
theorem dep_encI (c : List Int) : (encI c).depth ≤ 2 := by
  unfold encI
  have := depAll_of PyData.int 0 (fun a => by simp [PyData.depth]) c
  simp only [PyData.depth]; omega
theorem can_encP (p : Int × Int) : (encP p).canLay0 = true := by simp [encP, PyData.canLay0, PyData.canLayAll0]
theorem dep_encP (p : Int × Int) : (encP p).depth ≤ 2 := by simp [encP, PyData.depth, PyData.depthAll]
theorem can_encT (T : Tab) : (encT T).canLay0 = true := by
  have h1 := canAll_of encP can_encP T.1
  have h2 := canAll_of encI can_encI T.2.1
  have h3 := canAll_of encI can_encI T.2.2
  simp [encT, PyData.canLay0, PyData.canLayAll0, h1, h2, h3]
theorem shaped_encT (T : Tab) : SeqAt.shaped (encT T) = true := by
  have h1 := depAll_of encP 2 dep_encP T.1
  have h2 := depAll_of encI 2 dep_encI T.2.1
  have h3 := depAll_of encI 2 dep_encI T.2.2
  unfold SeqAt.shaped
  rw [Bool.and_eq_true]
  refine ⟨can_encT T, decide_eq_true ?_⟩
  simp only [encT, PyData.depth, PyData.depthAll]; omega
theorem reads_each {α : Type} {h : Heap} {R : Value → α → Prop} {f : α → PyData} (hr : ∀ v c, R v c → ∃ as, Reads h v (f c) as) : ∀ {xs : List Value} {cs : List α}, Each R xs cs → ∃ as, ReadsAll h xs (cs.map f) as
  | _, _, .nil => ⟨_, .nil⟩
  | _, _, .cons a b => by
    obtain ⟨as, h1⟩ := hr _ _ a
    obtain ⟨bs, h2⟩ := reads_each hr b
    exact ⟨_, .cons h1 h2⟩
theorem reads_ints' {h : Heap} {xs : List Value} {ns : List Int} (x : IntsAre xs ns) : ∃ as, ReadsAll h xs (ns.map PyData.int) as := by
  induction x with
  | nil => exact ⟨_, .nil⟩
  | cons n t _ ih =>
    obtain ⟨bs, h2⟩ := ih
    exact ⟨_, .cons (.int n t) h2⟩
theorem reads_tup {h : Heap} {a : Addr} {o : Obj} {xs : List Value} {ds : List PyData} {as : List Addr} (ho : h.get? a = some o) (hT : TO o xs) (r : ReadsAll h xs ds as) : Reads h (.ref a) (.tuple ds) as := by
  obtain ⟨n, hd⟩ := hT.data
  exact Reads.tuple ho hT.cls hd (by simpa using r)
theorem reads_pair {n : Nat} {g h : Heap} (hg : g.StaysIn h) {v : Value} {p : Int × Int} (x : PairIs n g v p) : ∃ as, Reads h v (encP p) as := by
  obtain ⟨t, o, t1, t2, rfl, _, h3, h4⟩ := x.ex
  exact ⟨_, reads_tup (hg _ _ h3) h4 (.cons (.int _ _) (.cons (.int _ _) .nil))⟩
theorem reads_tupints {n : Nat} {g h : Heap} (hg : g.StaysIn h) {v : Value} {c : List Int} (x : TupInts n g v c) : ∃ as, Reads h v (encI c) as := by
  obtain ⟨t, o, xs, rfl, _, h3, h4, h5⟩ := x.ex
  obtain ⟨as, r⟩ := reads_ints' (h := h) h5
  exact ⟨_, reads_tup (hg _ _ h3) h4 r⟩
theorem reads_tab {n : Nat} {g h : Heap} (hg : g.StaysIn h) {v : Value} {T : Tab} (x : TabIs n g v T) : ∃ as, Reads h v (encT T) as := by
  obtain ⟨t, o, pv, bv, av, rfl, _, h3, h4, h5, h6, h7⟩ := x.ex
  obtain ⟨t1, o1, xs1, rfl, _, a1, b1, c1⟩ := h5.ex
  obtain ⟨t2, o2, xs2, rfl, _, a2, b2, c2⟩ := h6.ex
  obtain ⟨t3, o3, xs3, rfl, _, a3, b3, c3⟩ := h7.ex
  obtain ⟨as1, r1⟩ := reads_each (f := encP) (fun v c q => reads_pair hg q) c1
  obtain ⟨as2, r2⟩ := reads_each (f := encI) (fun v c q => reads_tupints hg q) c2
  obtain ⟨as3, r3⟩ := reads_each (f := encI) (fun v c q => reads_tupints hg q) c3
  exact ⟨_, reads_tup (hg _ _ h3) h4 (.cons (reads_tup (hg _ _ a1) b1 r1) (.cons (reads_tup (hg _ _ a2) b2 r2) (.cons (reads_tup (hg _ _ a3) b3 r3) .nil)))⟩
section
variable {prog : Program} {w : World} {A : Around} {E : Value → Shared → Prop} {s₀ : Shared} {h hc : Heap} {k : Nat} {base g g' gc : Heap} {fs fs' : List Env} {L L' : Addr} {ns ns' : List Str} {vs vs' : List (Option Value)} {led led' ledc : List (Addr × Obj)}
  {env : Env} {cl : List (Str × Addr)} {Q : Value → Shared → Prop}
theorem eq_tab {n m : Nat} {a b : Value} {T : Tab} (S : St w base fs g L ns vs led h) (hA : Ax prog A fs 7) (ha : TabIs n g a T) (hb : TabIs m g b T) (hq : Q (.bool true) (sh s₀ h k)) : wpAny (model prog w) A (compareOp .Eq a b) Q E (sh s₀ h k) := by
  obtain ⟨as, ra⟩ := reads_tab S.keep ha
  obtain ⟨bs, rb⟩ := reads_tab S.keep hb
  refine eq_dataH (s := sh s₀ h k) ra rb (shaped_encT T) (shaped_encT T) (by have := hA.un; show A.units + 64 < 9900; omega) ?_
  rw [SeqAt.eqv_refl _ (can_encT T)]; exact hq
theorem ne_tab {n m : Nat} {a b : Value} {T : Tab} (S : St w base fs g L ns vs led h) (hA : Ax prog A fs 7) (ha : TabIs n g a T) (hb : TabIs m g b T) (hq : Q (.bool false) (sh s₀ h k)) : wpAny (model prog w) A (compareOp .NotEq a b) Q E (sh s₀ h k) := by
  obtain ⟨as, ra⟩ := reads_tab S.keep ha
  obtain ⟨bs, rb⟩ := reads_tab S.keep hb
  refine ne_dataH (s := sh s₀ h k) ra rb (shaped_encT T) (shaped_encT T) (by have := hA.un; show A.units + 64 < 9900; omega) ?_
  rw [SeqAt.eqv_refl _ (can_encT T)]; exact hq
end
end
section
section
variable {prog : Program} {w : World} {A : Around} {s₀ : Shared} {h : Heap} {k : Nat} {base : Heap}
theorem enterTop {R : Flow → Shared → Prop} {name : Str} {params : Arguments} {body : List Stmt} {scope : Scope} {dV kV doc pm cdv : Value} {f : Addr} {o : Obj} {args args' : List Value} {d n : Nat} {ns' : List Str} {vs' : List (Option Value)} {binds : List (Str × Value)}
    (X : (hd.heap_39 w.params).In base) (T : Ex3 fun mean mg mb => Top VP LS mean mg mb base) (hb : base.StaysIn h) (hlow : base.objs.size ≤ h.objs.size) (hA : AxC prog A [] (d + 1))
    (ho : h.get? f = some o) (hdt : o.data = .func { docDef name params body scope pm cdv doc with defaults := dV, kwdefaults := kV }) (hcd : h.CodeRec cdv name)
    (hbind : BindsTo (sh s₀ h k) { docDef name params body scope pm cdv doc with defaults := dV, kwdefaults := kV } ⟨args, []⟩ binds)
    (hloc : binds.filter (fun p => scope.names.lookup p.1 == some .local) = (ns'.take n).zip args')
    (hkinds : ∀ n, KindsOk scope n binds)
    (foot : List (Addr × Obj)) (hf : ∀ p ∈ foot, h.get? p.1 = some p.2 ∧ base.get? p.1 = none) (hfn : (foot.map (·.1)).Nodup)
    (hns : (ns'.all fun x => scope.names.lookup x == some .local) = true) (hnd : ns'.Nodup) (hn : args'.length = n) (hnl : n ≤ ns'.length)
    (hcn : ((cellsFrom 0 scope.names []).map (·.1)).Nodup)
    (hvs : args'.map some ++ List.replicate (ns'.length - n) none = vs') (hco : scope.isCoroutine = false) (hgen : scope.isGenerator = false) (hk : scope.kind = .function)
    (walk : ∀ env' L' h₁ k₁ A' cells, EnvOk env' L' ns' (cellsFrom (L' + 1) scope.names []) → env'.frame = some L' → env'.scope = scope → AxC prog A' [env'] d → L' = h.objs.size →
      CellsAre (bindC (fun x => scope.names.lookup x) binds fun _ => none) (cellsFrom (L' + 1) scope.names []) cells →
      St w base [env'] (hideAll h (foot.map (·.1))) L' ns' vs' (cells ++ foot) h₁ →
      wpC (model prog w) A' (execs body env') (RetQ fun v s' => R (.ret v) s') (sh s₀ h₁ k₁)) :
    codeC (model prog w) A (.call (.ref f) ⟨args, []⟩) R (sh s₀ h k) := by
  subst hvs
  have hroom : A.depth < recursionLimit := by have := hA.ax.dep; show A.depth < 1000; omega
  have hl := List.all_eq_true.mp hns
  obtain ⟨me, mg, mb, T'⟩ := T
  have T := T'.keeps hb
  refine codeC_call_function hroom ho hdt hco hgen rfl hcd (wpC_of (hbind _ _ _ _ (wpC_of ?_)))
  refine wpAny_newFunctionEnv_cells hk (kinds_of (hkinds _)) fun env' he s' x => ?_
  subst he
  refine ⟨T.nolimit.keeps x.toInCall.keep, codeC_func ?_⟩
  obtain ⟨h₁, tk, cells, rfl, hns₁, hk₁, Y, NC, hca, hcd'⟩ := opened hnd hn hnl hloc hcn x
  have S' : St w base (envX name scope h.objs.size f cdv (cellsFrom (h.objs.size + 1) scope.names []) :: []) (hideAll h (foot.map (·.1))) h.objs.size ns' (args'.map some ++ List.replicate (ns'.length - n) none) (cells ++ foot) h₁ :=
    entered0 X ⟨me, mg, mb, T'⟩ hb hlow hf hfn hnd (by simp [hn]; omega) hns₁ hk₁ (by show scope.kind ≠ .module; rw [hk]; decide) rfl NC hca hcd' fun _ _ => trivial
  have he : EnvOk (envX name scope h.objs.size f cdv (cellsFrom (h.objs.size + 1) scope.names [])) h.objs.size ns' (cellsFrom (h.objs.size + 1) scope.names []) := ⟨rfl, hk, rfl, rfl, fun x hx => beq_iff_eq.mp (hl x hx), rfl⟩
  exact walk (envX name scope h.objs.size f cdv (cellsFrom (h.objs.size + 1) scope.names [])) h.objs.size h₁ tk (A.deeper (envX name scope h.objs.size f cdv (cellsFrom (h.objs.size + 1) scope.names []))) cells he rfl rfl (hA.deeper _) rfl Y S'
end
theorem good_ghost {cw : ClaimW} {cl : Str → Option Addr} {mean : ExcName → Option Value} {args : List WData} {s₁ s' : Shared} {c P : Addr} (hT : CodeHd s₁.heap c P ∧ s₁.heap.get? P = some (tabObj #[])) (hr : ∀ x, cw.raises args x = false) (hpost : cw.post args (.bool true) args = true)
    (hk : (hideAll s₁.heap [P]).StaysIn s'.heap) (hg : ∃ ps, s'.heap.get? P = some (tabObj ps)) (hos : s'.os = s₁.os) (hgens : s'.gens = #[]) : GoodWG cw cl mean args s₁ (.ok (.ret (.bool true))) s' := by
  refine ⟨.inl ⟨_, .bool true, [], rfl, hr, .bool true, hpost, fun _ => ⟨List.nodup_nil, fun a ha => nomatch ha⟩⟩, ⟨fun b o e => ?_, fun b o e => ?_⟩, hos, .of_eq hgens⟩
  · by_cases hb : b = P
    · subst hb
      rw [hT.2] at e
      cases e
      obtain ⟨ps, hP⟩ := hg
      exact .inr (.inl ⟨((hT.1).tab hT.2).isCodeTable, rfl, #[], ps, rfl, by rw [Array.empty_append]; exact hP⟩)
    · exact .inl (hk b o (hideAll_get _ e (by simpa using hb)))
  · by_cases hb : b = P
    · subst hb
      obtain ⟨ps, hP⟩ := hg
      exact ⟨_, hP⟩
    · exact ⟨o, hk b o (hideAll_get _ e (by simpa using hb))⟩
end
section
theorem Each.covs {n : Nat} {g : Heap} {xs : List Value} {cs : List (List Int)} (h : Each (CovIs n g) xs cs) : CovsAre n g xs cs := by
  induction h with
  | nil => exact .nil
  | cons a _ ih => exact .cons a ih
section
variable {prog : Program} {w : World} {A : Around} {E : Value → Shared → Prop} {s₀ : Shared} {h hc : Heap} {k : Nat} {base g g' gc : Heap} {fs fs' : List Env} {L L' : Addr} {ns ns' : List Str} {vs vs' : List (Option Value)} {led led' ledc : List (Addr × Obj)}
  {env : Env} {cl : List (Str × Addr)} {Q : Value → Shared → Prop}
theorem TakeOk.at_ {g₀ : Heap} {f pl : Addr} (hT : TakeOk prog w g₀ f pl) (hg : g₀.StaysIn h) : FnAt f h := by
  obtain ⟨oc, od, fd, sl, e⟩ := ex4 hT.fn
  exact ⟨oc, od, fd, sl, hg _ _ e⟩
theorem t_take {e : Expr} {pos : Pos} {g₀ : Heap} {f pl : Addr} {opl : Obj} {n : Int} {tn : Tok} (i : Nat) (S : St w base fs g L ns vs led h) (hT : TakeOk prog w g₀ f pl) (hg : g₀.StaysIn g) (hA : Ax prog A fs 2) (hi : led[i]? = some (pl, opl)) (hLO : LO opl [.int n tn]) (hn0 : 0 ≤ n) (hn1 : n ≤ 300)
    (harg : wpAny (model prog w) A (eval e env) (fun v s₁ => Ex3 fun lim tl k' => An4 (v = .int lim tl) (s₁ = sh s₀ h k') (0 < lim) (∀ h' k' o' t' v tv, 0 ≤ v → v < lim → LO o' [.int (n + 1) t'] → St w base fs g L ns vs (led.set i (pl, o')) h' → Q (.int v tv) (sh s₀ h' k'))) E (sh s₀ h k))
    (he : starEach [e] env = [(false, eval e env)] := by with_unfolding_all rfl) :
    wpAny (model prog w) A (callWith pos (.ref f) [] (backTo pos (starEach [e] env)) []) Q E (sh s₀ h k) := by
  refine callWith_F (hT.at_ (stays_trans hg S.keep)) ?_ he (by rfl)
  refine sp_cons (wpAny_mono harg (fun v s₁ h₁ => ?_) fun _ _ z => z) he
  obtain ⟨lim, tl, k', rfl, rfl, hlim, hq⟩ := h₁
  refine sp_nil ⟨hT.at_ (stays_trans hg S.keep), ?_⟩
  exact hT.call i S hg hA hi hLO hn0 hn1 hlim hq
end
end
section
theorem WC_len2 (gl : List Int) : (WC gl).length ≤ 4 + 2 * gl.length := by
  unfold WC
  by_cases hf : formF gl = 1
  · rw [if_pos hf]; simp only [List.length_append, o2_len, o2s_len]; omega
  · rw [if_neg hf, stepR_len]
    have : ¬ 2 * (gl.length : Int) ≤ 6 * ((rangesF gl).length : Int) := fun q => hf (by unfold formF; rw [if_pos q])
    simp only [List.length_append, o2_len]; omega
theorem sumL_WC2 : ∀ {cs : List (List Int)}, (∀ c ∈ cs, c.length ≤ 4) → sumL (cs.map WC) ≤ 12 * cs.length
  | [], _ => by simp [sumL]
  | c :: cs, h => by
    rw [List.map_cons, sumL_cons, List.length_cons]
    have h1 := WC_len2 c
    have h2 := h c (.head _)
    have h3 := sumL_WC2 (cs := cs) fun d hd => h d (.tail _ hd)
    omega
theorem WR_len {ks : List Int} {ps : List (Int × Int)} {back ahead : List (List Int)} (hk : ks.length ≤ 4) (hb : back.length ≤ 2) (ha : ahead.length ≤ 2) (hc : ∀ c ∈ back ++ ahead, c.length ≤ 4) : 10 ≤ (WR ks ps back ahead).length ∧ (WR ks ps back ahead).length ≤ 86 := by
  have hi := laidF_inv ((10 + 2 * (back.length + ahead.length + ks.length) : Nat) : Int) ((ks :: (back ++ ahead)).map WC)
  have ho := laidF_len ((10 + 2 * (back.length + ahead.length + ks.length) : Nat) : Int) ((ks :: (back ++ ahead)).map WC)
  have hs := sumL_WC2 (cs := ks :: (back ++ ahead)) fun c hm => by
    rcases List.mem_cons.mp hm with rfl | hm
    · exact hk
    · exact hc c hm
  change LInv _ _ (WRl ks back ahead) at hi
  change (WRl ks back ahead).out.length ≤ _ at ho
  unfold WR
  generalize WRl ks back ahead = st at hi ho
  have hol := hi.offs
  rw [List.length_map] at hol
  rw [List.length_cons, List.length_append] at hol hs
  simp only [pc, List.length_append, o2s_len, o2_len, List.length_map, List.length_cons, List.length_nil, List.length_take, List.length_drop]
  omega
theorem getI_sorted {qs : List (Int × Int)} {k : Int} : ∀ {ks : List Int}, k ∈ ks → getI (sortedBy ks qs) k = some ((getI qs k).getD 0)
  | [], h => nomatch h
  | a :: ks, h => by
    have e : sortedBy (a :: ks) qs = (a, (getI qs a).getD 0) :: sortedBy ks qs := rfl
    rw [e]
    by_cases q : a = k
    · subst q; unfold getI; simp
    · have hm : k ∈ ks := (List.mem_cons.mp h).resolve_left fun z => q z.symm
      have ih := getI_sorted (qs := qs) hm
      unfold getI at ih ⊢
      simp only [List.find?_cons]
      simp only [q, decide_false]
      exact ih
theorem sortedBy_fst (ks : List Int) (qs : List (Int × Int)) : (sortedBy ks qs).map (·.1) = ks := by
  unfold sortedBy; rw [List.map_map]; exact (List.map_congr_left fun k _ => rfl).trans (List.map_id ks)
theorem WR_sorted (ks : List Int) (qs : List (Int × Int)) (back ahead : List (List Int)) : WR ks (sortedBy ks qs) back ahead = WR ks qs back ahead := by
  unfold WR
  have : (ks.map fun k => (getI (sortedBy ks qs) k).getD 0) = ks.map fun k => (getI qs k).getD 0 := List.map_congr_left fun k hk => by rw [getI_sorted hk]; rfl
  rw [this]
theorem ints_rep (n : Nat) (x : Int) (t : Tok) : IntsAre (List.replicate n (.int x t)) (List.replicate n x) := by
  induction n with
  | zero => exact .nil
  | succ n ih => rw [List.replicate_succ, List.replicate_succ]; exact .cons _ _ ih
theorem ints_set {x : Int} {t : Tok} {xs : List Value} {ns : List Int} {j : Nat} (h : IntsAre xs ns) : IntsAre (xs.set j (.int x t)) (ns.set j x) := by
  induction h generalizing j with
  | nil => exact .nil
  | cons n t r ih =>
    cases j with
    | zero => exact .cons _ _ r
    | succ j => exact .cons _ _ ih
theorem bytes_eq {a b : Array UInt8} (h : KBw.bInts a = KBw.bInts b) : a.toList = b.toList := bI_inj (a := a.toList) (b := b.toList) h
section
variable {prog : Program} {w : World} {A : Around} {E : Value → Shared → Prop} {s₀ : Shared} {h hc : Heap} {k : Nat} {base g g' gc : Heap} {fs fs' : List Env} {L L' : Addr} {ns ns' : List Str} {vs vs' : List (Option Value)} {led led' ledc : List (Addr × Obj)}
  {env : Env} {cl : List (Str × Addr)} {Q : Value → Shared → Prop}
theorem C_if_join {t : Expr} {b o : List Stmt} {p : Pos} {rest : List Stmt} {s : Shared} {Qf : Flow → Shared → Prop} (J : Shared → Prop)
    (h1 : wpAny (model prog w) A (PySem.isTrue t env (eval t env)) (fun c s' => if c = true then wpAny (model prog w) A (execs b env) (fun f s'' => f = .next ∧ J s'') (fun _ _ => False) s' else wpAny (model prog w) A (execs o env) (fun f s'' => f = .next ∧ J s'') (fun _ _ => False) s') (fun _ _ => False) s)
    (h2 : ∀ s', J s' → wpC (model prog w) A (execs rest env) Qf s') : wpC (model prog w) A (execs (.If t b o p :: rest) env) Qf s := by
  refine C_if (wpC_of (wpAny_mono h1 (fun c s' h' => ?_) fun _ _ z => z))
  have fin : ∀ f s'', (f = Flow.next ∧ J s'') → CSeq (model prog w) A rest env Qf f s'' := by
    rintro f s'' ⟨rfl, hj⟩
    exact h2 s'' hj
  cases c
  · exact wpC_of (wpAny_mono (show wpAny _ _ _ _ _ _ from h') fin fun _ _ z => z)
  · exact wpC_of (wpAny_mono (show wpAny _ _ _ _ _ _ from h') fin fun _ _ z => z)
end
end
section
noncomputable abbrev NS : List Str := ["script", "begin", "turn", "rows", "side", "table", "octets", "told", "pairs", "data", "bend"]
noncomputable def LawBody (w : World) (body : List Stmt) : Prop := Ex14 fun oc od osl name qual params scope dV kV doc pm an cdv ct => (hd.heap_39 w.params).lookup 494 = some ⟨oc, od, .func (fnOf name qual params body scope dV kV doc pm an cdv ct), osl⟩
theorem LawBody.same {w : World} {a b : List Stmt} (x : LawBody w a) (y : LawBody w b) : a = b := by
  obtain ⟨_, _, _, _, _, _, _, _, _, _, _, _, _, _, e1⟩ := x
  obtain ⟨_, _, _, _, _, _, _, _, _, _, _, _, _, _, e2⟩ := y
  rw [e1] at e2; cases e2; rfl
theorem lawBody (w : World) : ∃ body, LawBody w body := ⟨_, _, _, _, _, _, _, _, _, _, _, _, _, _, _, by k_is⟩
section
variable {prog : Program} {w : World} {A : Around} {E : Value → Shared → Prop} {s₀ : Shared} {h hc : Heap} {k : Nat} {base g g' gc : Heap} {fs fs' : List Env} {L L' : Addr} {ns ns' : List Str} {vs vs' : List (Option Value)} {led led' ledc : List (Addr × Obj)}
  {env : Env} {cl : List (Str × Addr)} {Q : Value → Shared → Prop}
set_option maxHeartbeats 0 in
theorem law_end {body : List Stmt} (hb : LawBody w body) {env' : Env} {v0 v2 v3 v4 v5 v7 v8 : Option Value} {bg : Nat} {tb tob : Tok} {ob : Array UInt8} {os ds : List Int} {zs : List Value} {ld pl f : Addr} {old opl : Obj} {ps : Array Value} {n : Int} {t : Tok} {g₀ : Heap} {Qf : Flow → Shared → Prop}
    (he : EnvOk env' L NS [("mapping", L + 2), ("take", L + 1)]) (hfr : env'.frame = some L)
    (hG : EnvG w env' [("bytes", .type "bytes"), ("len", .builtin "len"), ("_law_read", .ref 489), ("_law_answer", .ref 482), ("_law_table", .ref 475)]) (hA : AxC prog A [env'] 40)
    (S : St w base [env'] g L NS [v0, some (.int bg tb), v2, v3, v4, v5, some (.bytes ob tob), v7, v8, some (.ref ld), none] [(ld, old), (pl, opl), (432, tabObj ps)] h)
    (hCt : CN env' [("mapping", L + 2), ("take", L + 1)] g "take" (.ref f)) (hT : TakeOk prog w g₀ f pl) (hTg : g₀.StaysIn g) (hLO : LO opl [.int n t]) (hn0 : 0 ≤ n) (hn1 : n ≤ 60)
    (hld : LO old zs) (hzs : IntsAre zs ds) (hdr : ∀ x ∈ ds, 0 ≤ x ∧ x < 256) (hdl : ds.length ≤ 120) (hdo : ds.length = bg + os.length) (hob : KBw.bInts ob = os) (hpos : 0 < os.length)
    (hq : ∀ h' k', base.StaysIn h' → h'.get? 432 = some (tabObj ps) → Qf (.ret (.bool true)) (sh s₀ h' k')) :
    wpC (model prog w) A (execs (body.drop 13) env') Qf (sh s₀ h k) := by
  have hlit : LawBody w _ := ⟨_, _, _, _, _, _, _, _, _, _, _, _, _, _, by k_is⟩
  obtain rfl := hb.same hlit
  clear hb hlit
  dsimp only [List.drop]
  have hzl := hzs.length
  have hosl : os.length ≤ 16777216 := by omega
  walk_at "goC"
  refine wpC_of (t_take 1 S hT hTg (hA.ax.less (by decide)) rfl hLO hn0 (by omega) ?_)
  walk_at "go"
  refine ⟨_, _, _, rfl, rfl, by decide, fun h₂ k₂ o2 t2 v2' tv2 ha0 ha1 hLO2 S₂ => ?_⟩
  dsimp only [List.set] at S₂
  refine wpC_of (s_loc S₂ he 10 rfl fun h₃ k₃ S₃ => ?_)
  dsimp only [List.set] at S₃
  clear S S₂
  refine C_if_join (fun s' => Ex8 fun (h' : Heap) (k' : Nat) (old' opl' : Obj) (zs' : List Value) (ds' : List Int) (n' : Int) (t' : Tok) => An9 (s' = sh s₀ h' k') (LO old' zs') (IntsAre zs' ds') ((∀ x ∈ ds', 0 ≤ x ∧ x < 256)) (ds'.length = ds.length) (LO opl' [.int n' t']) (0 ≤ n') (n' ≤ 70) (St w base [env'] g L NS [v0, some (.int bg tb), v2, v3, v4, v5, some (.bytes ob tob), v7, v8, some (.ref ld), some (.int v2' tv2)] [(ld, old'), (pl, opl'), (432, tabObj ps)] h')) ?_ ?_
  · walk_at "go"
    refine ite_c (fun hc => ?_) fun hc => ?_
    · walk_at "go"
      refine t_take 1 S₃ hT hTg (hA.ax.less (by decide)) rfl hLO2 (by omega) (by omega) ?_
      walk_at "go"
      refine ⟨_, _, _, rfl, rfl, by decide, fun h₄ k₄ o4 t4 v4' tv4 hb0 hb1 hLO4 S₄ => ?_⟩
      dsimp only [List.set] at S₄
      walk_at "go"
      refine t_take 1 S₄ hT hTg (hA.ax.less (by decide)) rfl hLO4 (by omega) (by omega) ?_
      walk_at "go"
      refine ⟨_, _, _, rfl, rfl, by omega, fun h₅ k₅ o5 t5 v5' tv5 hc0 hc1 hLO5 S₅ => ?_⟩
      obtain ⟨j, rfl⟩ := Int.eq_ofNat_of_zero_le hc0
      dsimp only [List.set] at S₅
      walk_at "go"
      rw [show (bg : Int) + (j : Int) = ((bg + j : Nat) : Int) by omega]
      refine set_list (j := bg + j) (i := 0) S₅ rfl hld (by omega) (by omega) fun h₆ old6 hld6 S₆ => ?_
      dsimp only [List.set] at S₆
      walk_at "go"
      refine ⟨rfl, h₆, _, old6, o5, zs.set (bg + j) (.int v4' tv4), ds.set (bg + j) v4', _, _, rfl, hld6, ints_set hzs, fun x hx => ?_, by simp, hLO5, by omega, by omega, S₆⟩
      rcases List.mem_or_eq_of_mem_set hx with hx | rfl
      · exact hdr x hx
      · exact ⟨hb0, by omega⟩
    · walk_at "go"
      exact ⟨rfl, h₃, _, old, o2, zs, ds, _, _, rfl, hld, hzs, hdr, rfl, hLO2, by omega, by omega, S₃⟩
  · rintro s' ⟨h₄, k₄, old4, opl4, zs4, ds4, n4, t4, rfl, hld4, hzs4, hdr4, hdl4, hLO4, hn40, hn41, S₄⟩
    clear S₃
    have hz4 := hzs4.length
    refine C_if_join (fun s' => Ex8 fun (g' h' : Heap) (k' : Nat) (ld' : Addr) (old' opl' : Obj) (zs' : List Value) (ds' : List Int) => An7 (s' = sh s₀ h' k') (g.StaysIn g') (LO old' zs') (IntsAre zs' ds') ((∀ x ∈ ds', 0 ≤ x ∧ x < 256)) (ds'.length ≤ ds.length) (St w base [env'] g' L NS [v0, some (.int bg tb), v2, v3, v4, v5, some (.bytes ob tob), v7, v8, some (.ref ld'), some (.int v2' tv2)] [(ld', old'), (pl, opl'), (432, tabObj ps)] h')) ?_ ?_
    · walk_at "go"
      refine ite_c (fun hc => ?_) fun hc => ?_
      · walk_at "go"
        refine cut_upto (s₀ := s₀) ?_
        walk_at "go"
        refine t_take 1 S₄ hT hTg (hA.ax.less (by decide)) rfl hLO4 (by omega) (by omega) ?_
        walk_at "go"
        refine ⟨_, _, _, rfl, rfl, by omega, fun h₅ k₅ o5 t5 v5' tv5 hc0 hc1 hLO5 S₅ => ?_⟩
        dsimp only [List.set] at S₅
        walk_at "go"
        refine ⟨_, _, _, _, _, _, _, _, _, _, _, _, _, _, _, rfl, rfl, rfl, S₅, S₅.at_ (i := 0) rfl, hld4, hzs4, by omega, by omega, fun D oD h₆ ys hoD hys hLD S₆ => ?_⟩
        replace S₆ := S₆.part (sub := [(D, oD), (pl, o5), (432, tabObj ps)]) (fun p hp => by
          rcases List.mem_cons.mp hp with rfl | hp
          · exact .head _
          · exact .tail _ (.tail _ hp)) (by
          have hnd2 := S₆.ndl
          simp only [List.map_cons, List.map_nil, List.nodup_cons, List.mem_cons, not_or, List.not_mem_nil, not_false_eq_true, and_true, List.nodup_nil] at hnd2 ⊢
          exact ⟨hnd2.1.2, hnd2.2.2⟩)
        clear S₄ S₅
        walk_at "go"
        rename St _ _ _ _ _ _ _ _ _ => S₇
        exact ⟨rfl, g, _, _, D, oD, o5, ys, _, rfl, stays_refl _, hoD, hys, fun x hx => hdr4 x (List.mem_of_mem_take hx), by rw [List.length_take]; omega, S₇⟩
      · walk_at "go"
        exact ⟨rfl, g, h₄, _, ld, old4, opl4, zs4, ds4, rfl, stays_refl _, hld4, hzs4, hdr4, by omega, S₄⟩
    · rintro s' ⟨g5, h₅, k₅, ld5, old5, opl5, zs5, ds5, rfl, hg5, hld5, hzs5, hdr5, hdl5, S₅⟩
      clear S₄
      have hz5 := hzs5.length
      walk_at "goC"
      refine l_bytes_list hA.ax.hd S₅ (S₅.at_ (i := 0) rfl) hld5 hzs5 hdr5 (by omega) fun b1 t1 h₆ k₆ hb1 S₆ => ?_
      walk_at "go"
      cases hRR : RR ds5 bg with
      | ok T =>
        refine c_law_answer_read S₆ hfr (hA.ax.less (by decide)) hb1 (by omega) (fun T1 hT1 g6 h₇ k₇ va hg6 htab S₇ => ?_) (fun e he' => by rw [hRR] at he'; cases he')
        rw [hRR] at hT1; cases hT1
        walk_at "go"
        refine l_bytes_list hA.ax.hd S₇ (S₇.at_ (i := 0) rfl) hld5 hzs5 hdr5 (by omega) fun b2 t2' h₈ k₈ hb2 S₈ => ?_
        walk_at "go"
        refine c_law_answer_table S₈ hfr (hA.ax.less (by decide)) hb2 (by omega) (fun T2 hT2 g8 h₉ k₉ vb hg8 htab2 S₉ => ?_) (fun e he' => by rw [hRR] at he'; cases he')
        rw [hRR] at hT2; cases hT2
        refine eq_tab S₉ (hA.ax.less (by decide)) (keeps_tab.up htab hg8 (Nat.le_refl _)) htab2 ?_
        exact hq _ _ S₉.bh (S₉.at_ (i := 2) rfl)
      | error e =>
        refine c_law_answer_read S₆ hfr (hA.ax.less (by decide)) hb1 (by omega) (fun T1 hT1 => by rw [hRR] at hT1; cases hT1) (fun e1 he1 h₇ k₇ te S₇ => ?_)
        rw [hRR] at he1; cases he1
        walk_at "go"
        refine l_bytes_list hA.ax.hd S₇ (S₇.at_ (i := 0) rfl) hld5 hzs5 hdr5 (by omega) fun b2 t2' h₈ k₈ hb2 S₈ => ?_
        walk_at "go"
        refine c_law_answer_table S₈ hfr (hA.ax.less (by decide)) hb2 (by omega) (fun T2 hT2 => by rw [hRR] at hT2; cases hT2) (fun e2 he2 h₉ k₉ te2 S₉ => ?_)
        rw [hRR] at he2; cases he2
        refine cmp_eq ?_
        rw [show (e == e) = true from beq_self_eq_true e]
        exact hq _ _ S₉.bh (S₉.at_ (i := 2) rfl)
end
noncomputable def GoodC (c : List Int) : Prop := c.Pairwise (· < ·) ∧ (∀ x ∈ c, 1 ≤ x ∧ x < 10) ∧ c.length ≤ 4
section
variable {prog : Program} {w : World} {A : Around} {E : Value → Shared → Prop} {s₀ : Shared} {h hc : Heap} {k : Nat} {base g g' gc : Heap} {fs fs' : List Env} {L L' : Addr} {ns ns' : List Str} {vs vs' : List (Option Value)} {led led' ledc : List (Addr × Obj)}
  {env : Env} {cl : List (Str × Addr)} {Q : Value → Shared → Prop}
set_option maxHeartbeats 0 in
theorem law_mid {body : List Stmt} (hb : LawBody w body) {env' : Env} {v0 v2 v3 v4 v5 v8 : Option Value} {tv : Value} {bg : Nat} {tb tob : Tok} {ob : Array UInt8} {ks : List Int} {qs : List (Int × Int)} {cs0 cs1 : List (List Int)} {pl f : Addr} {opl : Obj} {ps : Array Value} {n : Int} {t : Tok} {g₀ : Heap} {Qf : Flow → Shared → Prop}
    (he : EnvOk env' L NS [("mapping", L + 2), ("take", L + 1)]) (hfr : env'.frame = some L)
    (hG : EnvG w env' [("list", .type "list"), ("_law_read", .ref 489), ("bytes", .type "bytes"), ("write_reverse", .ref 430), ("read_reverse", .ref 425), ("len", .builtin "len"), ("_law_answer", .ref 482), ("_law_table", .ref 475)]) (hA : AxC prog A [env'] 40)
    (S : St w base [env'] g L NS [v0, some (.int bg tb), v2, v3, v4, v5, some (.bytes ob tob), some tv, v8, none, none] [(pl, opl), (432, tabObj ps)] h)
    (hCt : CN env' [("mapping", L + 2), ("take", L + 1)] g "take" (.ref f)) (hT : TakeOk prog w g₀ f pl) (hTg : g₀.StaysIn g) (hLO : LO opl [.int n t]) (hn0 : 0 ≤ n) (hn1 : n ≤ 60)
    (hbg : bg < 4) (hob : KBw.bInts ob = WR ks qs cs0 cs1) (htab : TabIs 0 g tv (sortedBy ks qs, cs0, cs1)) (hasc : ks.Pairwise (· < ·)) (hperm : ks.Perm (qs.map (·.1))) (hql : qs.length ≤ 4) (hqr : ∀ p ∈ qs, (1 ≤ p.1 ∧ p.1 < 13) ∧ 0 ≤ p.2 ∧ p.2 < 40)
    (hc0 : cs0.length ≤ 2) (hc1 : cs1.length ≤ 2) (hcr : ∀ c ∈ cs0 ++ cs1, GoodC c)
    (hq : ∀ h' k', base.StaysIn h' → h'.get? 432 = some (tabObj ps) → Qf (.ret (.bool true)) (sh s₀ h' k')) :
    wpC (model prog w) A (execs (body.drop 11) env') Qf (sh s₀ h k) := by
  have hb2 := hb
  have hlit : LawBody w _ := ⟨_, _, _, _, _, _, _, _, _, _, _, _, _, _, by k_is⟩
  obtain rfl := hb.same hlit
  clear hb hlit
  dsimp only [List.drop]
  have hkl : ks.length = qs.length := by have := hperm.length_eq; simpa using this
  have hgC : ∀ c ∈ cs0 ++ cs1, c.length ≤ 4 := fun c hc => (hcr c hc).2.2
  have hWl := WR_len (ks := ks) (ps := qs) (back := cs0) (ahead := cs1) (by omega) hc0 hc1 hgC
  have hos : ∀ x ∈ WR ks qs cs0 cs1, 0 ≤ x ∧ x < 256 := fun x hx => KBw.ints_in (b := ob) (by rw [hob]; exact hx)
  have hkr : ∀ x ∈ ks, 1 ≤ x ∧ x < 13 := fun x hx => by
    obtain ⟨p, HH1⟩ := List.mem_map.mp (hperm.mem_iff.mp hx)
    have hp := HH1.1
    obtain rfl := HH1.2
    clear HH1
    exact (hqr p hp).1
  have hRR := RR_WR (a := bg) (pre := List.replicate bg 200) (ks := ks) (ps := qs) (back := cs0) (ahead := cs1) (by simp) ⟨hasc, fun x hx => by have := hkr x hx; omega⟩ (fun c hc => ⟨(hcr c hc).1, fun x hx => by have := (hcr c hc).2.1 x hx; omega⟩)
  walk_at "goC"
  refine g_newList S (by simp) fun l20 o20 h₁ hl20 _ _ _ S₁ => ?_
  walk_at "goC"
  refine g_mul_list S₁ (S₁.at_ (i := 0) rfl) hl20 (n := bg) (by omega) fun lm om2 h₂ hlm _ S₂ => ?_
  walk_at "goC"
  refine g_list_bytes hA.ax.hd S₂ hob (by omega) fun lo1 oo1 h₃ k₃ xs1 hlo1 hxs1 _ S₃ => ?_
  have hx1l := hxs1.length
  walk_at "goC"
  refine g_add S₃ (S₃.at_ (i := 1) rfl) (S₃.at_ (i := 0) rfl) hlm hlo1 (by rw [List.length_replicate]; omega) fun ld old h₄ hld' _ S₄ => ?_
  obtain ⟨zs, hld, hzs⟩ : ∃ zs, LO old zs ∧ IntsAre zs (List.replicate bg 200 ++ WR ks qs cs0 cs1) := ⟨_, hld', (ints_rep bg 200 _).append hxs1⟩
  clear hld'
  replace S₄ := S₄.part (sub := [(ld, old), (pl, opl), (432, tabObj ps)]) (fun p hp => by
    rcases List.mem_cons.mp hp with rfl | hp
    · exact .head _
    · exact .tail _ (.tail _ (.tail _ (.tail _ hp)))) (by
    have hnd2 := S₄.ndl
    simp only [List.map_cons, List.map_nil, List.nodup_cons, List.mem_cons, not_or, List.not_mem_nil, not_false_eq_true, and_true, List.nodup_nil] at hnd2 ⊢
    exact ⟨⟨hnd2.1.2.2.2.1, hnd2.1.2.2.2.2⟩, hnd2.2.2.2.2⟩)
  clear S₁ S₂ S₃
  refine wpC_of (s_loc S₄ he 9 rfl fun h₅ k₅ S₅ => ?_)
  dsimp only [List.set] at S₅
  clear S₄
  have hdl : (List.replicate bg (200 : Int) ++ WR ks qs cs0 cs1).length = bg + (WR ks qs cs0 cs1).length := by simp
  have hdr : ∀ x ∈ List.replicate bg (200 : Int) ++ WR ks qs cs0 cs1, 0 ≤ x ∧ x < 256 := fun x hx => by
    rcases List.mem_append.mp hx with hx | hx
    · have := (List.mem_replicate.mp hx).2; omega
    · exact hos x hx
  generalize hds : List.replicate bg (200 : Int) ++ WR ks qs cs0 cs1 = ds at hzs hdl hdr hRR
  refine C_if (C_or (C_cmpT ?_))
  walk_at "goC"
  refine wpC_of (l_bytes_list hA.ax.hd S₅ (S₅.at_ (i := 0) rfl) hld hzs hdr (by omega) fun b1 t1 h₆ k₆ hb1 S₆ => ?_)
  walk_at "goC"
  refine wpC_of (c_law_read S₆ (hA.ax.less (by decide)) hb1 (by omega) (fun T1 hT1 g6 h₇ k₇ va hg6 hva S₇ => ?_) (fun e he' => by rw [hRR] at he'; cases he'))
  rw [hRR] at hT1; cases hT1
  walk_at "goC"
  refine wpC_of (ne_tab S₇ (hA.ax.less (by decide)) hva (keeps_tab.up htab hg6 (Nat.le_refl _)) ?_)
  refine wpC_of (t_bool ?_)
  refine ite_f rfl ?_
  refine C_or (C_cmpT ?_)
  walk_at "goC"
  refine wpC_of (l_bytes_list hA.ax.hd S₇ (S₇.at_ (i := 0) rfl) hld hzs hdr (by omega) fun b2 t2 h₈ k₈ hb2' S₈ => ?_)
  walk_at "goC"
  refine wpC_of (c_read_reverse S₈ (hA.ax.less (by decide)) hb2' (by omega) (fun T2 hT2 g8 h₉ k₉ vr hg8 hrev S₉ => ?_) (fun e he' => by rw [hRR] at he'; cases he'))
  rw [hRR] at hT2; cases hT2
  walk_at "goC"
  have hperm2 : ks.Perm ((sortedBy ks qs).map (·.1)) := by rw [sortedBy_fst]
  have hpr2 : ∀ p ∈ sortedBy ks qs, (0 ≤ p.1 ∧ p.1 < 65536) ∧ 0 ≤ p.2 ∧ p.2 < 65536 := fun p hp => by
    unfold sortedBy at hp
    obtain ⟨y, HH1⟩ := List.mem_map.mp hp
    have hy := HH1.1
    obtain rfl := HH1.2
    clear HH1
    have h1 := hkr y hy
    obtain ⟨m, hm⟩ := getI_mem (hperm.mem_iff.mp hy)
    dsimp only
    rw [hm]
    unfold getI at hm
    obtain ⟨p, HH1⟩ := Option.map_eq_some_iff.mp hm
    have hp' := HH1.1
    obtain rfl := HH1.2
    clear HH1
    have h2 := (hqr p (List.mem_of_find?_eq_some hp')).2
    exact ⟨⟨by omega, by omega⟩, h2.1, by show p.2 < 65536; omega⟩
  have hsl : (sortedBy ks qs).length ≤ 20 := by unfold sortedBy; rw [List.length_map]; omega
  refine c_write_reverse S₉ (hA.less (by decide)) hrev hperm2 hasc hsl (by show cs0.length ≤ 20; omega) (by show cs1.length ≤ 20; omega) hpr2 (fun c hc => ⟨by have := (hcr c hc).2.2; omega, fun x hx => by have := (hcr c hc).2.1 x hx; omega⟩) fun h₁₀ k₁₀ ob2 tob2 hob2 S₁₀ => ?_
  rw [WR_sorted] at hob2
  walk_at "goC"
  refine wpC_of (PySem.W.ne_bytes ?_)
  have hbe : (ob2.toList != ob.toList) = false := by rw [bytes_eq (hob2.trans hob.symm)]; simp
  rw [hbe]
  refine wpC_of (t_bool ?_)
  refine ite_f rfl ?_
  refine C_or0 ?_
  refine ite_f rfl ?_
  refine C_nil (cseq_next ?_)
  have hG2 : EnvG w env' [("bytes", .type "bytes"), ("len", .builtin "len"), ("_law_read", .ref 489), ("_law_answer", .ref 482), ("_law_table", .ref 475)] :=
    .cons (hG.get (x := "bytes") (v := .type "bytes") (by walk_at "loc")).1 (hG.get (x := "bytes") (v := .type "bytes") (by walk_at "loc")).2 (.cons (hG.get (x := "len") (v := .builtin "len") (by walk_at "loc")).1 (hG.get (x := "len") (v := .builtin "len") (by walk_at "loc")).2 (.cons (hG.get (x := "_law_read") (v := .ref 489) (by walk_at "loc")).1 (hG.get (x := "_law_read") (v := .ref 489) (by walk_at "loc")).2
      (.cons (hG.get (x := "_law_answer") (v := .ref 482) (by walk_at "loc")).1 (hG.get (x := "_law_answer") (v := .ref 482) (by walk_at "loc")).2 (.cons (hG.get (x := "_law_table") (v := .ref 475) (by walk_at "loc")).1 (hG.get (x := "_law_table") (v := .ref 475) (by walk_at "loc")).2 .nil))))
  have hgs := stays_trans hg6 hg8
  exact law_end hb2 he hfr hG2 hA S₁₀ (hCt.up hgs) hT (stays_trans hTg hgs) hLO hn0 hn1 hld hzs hdr (by omega) hdl hob (by omega) hq
end
theorem putI_rng {ps : List (Int × Int)} {k n : Int} {P : Int × Int → Prop} (h : ∀ p ∈ ps, P p) (hk : P (k, n)) : ∀ p ∈ putI ps k n, P p := by
  unfold putI
  split
  · intro p hp
    obtain ⟨q, HH1⟩ := List.mem_map.mp hp
    have hq := HH1.1
    obtain rfl := HH1.2
    clear HH1
    split
    · rename_i e; rw [e]; exact hk
    · exact h q hq
  · intro p hp
    rw [List.mem_append, List.mem_singleton] at hp
    exact hp.elim (h p) fun e => e ▸ hk
theorem putI_len (ps : List (Int × Int)) (k n : Int) : (putI ps k n).length ≤ ps.length + 1 := by
  unfold putI; split <;> simp
noncomputable def RowOk (g : Heap) (v : Value) (cs : List (List Int)) : Prop := TupCovs 0 g v cs ∧ cs.length ≤ 2 ∧ ∀ c ∈ cs, GoodC c
theorem RowOk.up {g g' : Heap} {v : Value} {cs : List (List Int)} (x : RowOk g v cs) (h : g.StaysIn g') : RowOk g' v cs := ⟨x.1.up h (Nat.le_refl _), x.2⟩
theorem goodC_of {gl ms : List Int} (h : SetOf gl ms) (hr : ∀ x ∈ ms, 1 ≤ x ∧ x < 10) (hl : ms.length ≤ 4) : GoodC gl := ⟨h.asc, fun x hx => hr x ((h.mem x).mp hx), Nat.le_trans h.len hl⟩
theorem law_post (args ds : List WData) : PySem.Challenge.rw_nu0183_01.row.claim.post args (.bool true) ds = true := by
  show (WShape.has [] (.bool true) .bool && WTm.holds [] (.eq .res (.lit (.bool true))) _) = true
  rw [Bool.and_eq_true]
  refine ⟨by wrow_shape, ?_⟩
  unfold WTm.holds
  simp [WTm.value, PySem.W.same]
theorem gen_flow {M : Model} {A : Around} {t : Sem Flow} {s : Shared} {Q : Flow → Shared → Prop} {P : (Flow → Shared → Prop) → Prop} (hq : P Q) (k : ∀ Qf, P Qf → wpC M A t Qf s) : wpC M A t Q s := k Q hq
section
noncomputable abbrev JJ53_22 (w : World) (scr : Addr) (pl : Addr) (ps : Array Value) (tv5 : Tok) (bg : Nat) (d : Addr) : Nat → Heap → List (Option Value) → List (Addr × Obj) → Prop :=
  fun j g' vs' led' => Ex7 fun (kvs : List (Int × Value)) (qs : List (Int × Int)) (od' opl' : Obj) (n : Int) (t : Tok) (u : Option Value) => An9 (vs' = [some (.ref scr), some (.int bg tv5), u, none, none, none, none, none, none, none, none]) (led' = [(d, od'), (pl, opl'), (432, tabObj ps)]) (od'.IsDictOf (intKind Challenge.rw_nu0183_01.row.prog w) kvs) (MI kvs qs) (qs.length ≤ j) ((∀ p ∈ qs, (1 ≤ p.1 ∧ p.1 < 13) ∧ 0 ≤ p.2 ∧ p.2 < 40)) (LO opl' [.int n t]) (0 ≤ n) (n ≤ 2 + 2 * j)
noncomputable abbrev JJ53_23 (scr : Addr) (pl : Addr) (ps : Array Value) (tv5 : Tok) (bg : Nat) (lr : Addr) : Nat → Heap → List (Option Value) → List (Addr × Obj) → Prop :=
  fun j g' vs' led' => Ex8 fun (xs : List Value) (css : List (List (List Int))) (olr' opl' : Obj) (n : Int) (t : Tok) (u1 u2 : Option Value) => An8 (vs' = [some (.ref scr), some (.int bg tv5), u1, some (.ref lr), u2, none, none, none, none, none, none]) (led' = [(lr, olr'), (pl, opl'), (432, tabObj ps)]) (LO olr' xs) (Each (RowOk g') xs css) (css.length = j) (LO opl' [.int n t]) (0 ≤ n) (n ≤ 10 + 11 * j)
noncomputable abbrev JJ53_24 (pl : Addr) (ps : Array Value) (lr : Addr) (I2 : Addr) (oI' : Obj) (olr' : Obj) (n : Int) (h₂₂ : Heap) : Nat → Heap → List (Addr × Obj) → List Value → Prop :=
  fun j3 g' led' items => Ex4 fun (opl3 : Obj) (n3 : Int) (t3 : Tok) (cs : List (List Int)) => An7 (led' = [(I2, oI'), (lr, olr'), (pl, opl3), (432, tabObj ps)]) (LO opl3 [.int n3 t3]) (0 ≤ n3) (n3 ≤ n + 1 + 5 * j3) (Each (CovIs h₂₂.objs.size g') items cs) (cs.length = j3) (∀ c ∈ cs, GoodC c)
noncomputable abbrev JJ53_25 (pl : Addr) (ps : Array Value) (lr : Addr) (I2 : Addr) (oI' : Obj) (olr' : Obj) (I3 : Addr) (h₂₂ : Heap) (oI3' : Obj) (oD3 : Obj) (n3 : Int) : Nat → Heap → List (Addr × Obj) → List Value → Prop :=
  fun j4 g' led' items => Ex4 fun (opl4 : Obj) (n4 : Int) (t4 : Tok) (ms : List Int) => An7 (led' = [(I3, oI3'), (h₂₂.objs.size, oD3), (I2, oI'), (lr, olr'), (pl, opl4), (432, tabObj ps)]) (LO opl4 [.int n4 t4]) (0 ≤ n4) (n4 ≤ n3 + 1 + j4) (IntsAre items ms) (ms.length = j4) (∀ x ∈ ms, 1 ≤ x ∧ x < 10)
noncomputable abbrev JJ53_26 (pl : Addr) (ps : Array Value) (qs : List (Int × Int)) (lr : Addr) (olr' : Obj) (opl' : Obj) (ks : List Int) (h₂₈ : Heap) : Nat → Heap → List (Addr × Obj) → List Value → Prop :=
  fun j g' led' items => led' = [(lr, olr'), (pl, opl'), (432, tabObj ps)] ∧ j ≤ ks.length ∧ Each (PairIs h₂₈.objs.size g') items ((sortedBy ks qs).take j)
noncomputable abbrev JJ53_27 (pl : Addr) (ps : Array Value) (lr : Addr) (olr' : Obj) (opl' : Obj) (cs0 : List (List Int)) (g9 : Heap) : Nat → Heap → List (Addr × Obj) → List Value → Prop :=
  fun j g' led' items => led' = [(lr, olr'), (pl, opl'), (432, tabObj ps)] ∧ j ≤ cs0.length ∧ Each (TupInts 0 g9) items (cs0.take j)
noncomputable abbrev JJ53_28 (pl : Addr) (ps : Array Value) (lr : Addr) (olr' : Obj) (opl' : Obj) (cs1 : List (List Int)) (gga : Heap) : Nat → Heap → List (Addr × Obj) → List Value → Prop :=
  fun j g' led' items => led' = [(lr, olr'), (pl, opl'), (432, tabObj ps)] ∧ j ≤ cs1.length ∧ Each (TupInts 0 gga) items (cs1.take j)
set_option maxHeartbeats 0 in
theorem law_holds : PySem.Challenge.rw_nu0183_01.Holds := by
  refine hd fun w s₀ s₁ mg mb G Y fa o pm cd doc dV kV ho hdt hcd hD hmg hgens args vals as hpre hlay hrd hwl hlo => ?_
  have X1 := km_in_of Y
  have hP : s₁.heap.get? 432 = some (tabObj #[]) := km_tabs_of Y 432 (.head _)
  have hCd := codeHd_of_K (c := 436) (P := 432) X1 (by kernel_rfl)
  have hT : TabsAt [(436, 432)] s₁.heap := fun q hq => by rw [List.mem_singleton.mp hq]; exact ⟨hCd, hP⟩
  have Xb : (hd.heap_39 w.params).In (hideAll s₁.heap [432]) := ghost_K hT X1 (by kernel_rfl)
  have Tb : Ex3 fun mean mg mb => Top VP LS mean mg mb (hideAll s₁.heap [432]) := ⟨_, _, _, ghost_top hT G.T⟩
  obtain rfl := hD.none rfl
  obtain rfl := hD.noKw
  clear hD
  wrow_args hpre hlay hrd hwl hlo
  rename ¬ _ => h63
  rename IntsAre _ _ => hI
  rename Heap.IsList _ _ _ => hL
  clear hT hmg
  rename Addr => scr
  rename List Value => sxs
  obtain ⟨lo, HH1⟩ := hL
  have hlo0 := HH1.1
  have hloc := HH1.2.1
  have hlod := HH1.2.2
  clear HH1
  refine wpC_call ?_
  show codeC _ _ _ _ (sh s₁ s₁.heap s₁.toks)
  have hA0 : AxC Challenge.rw_nu0183_01.row.prog callerA [] 41 := ⟨⟨rfl, rfl, by decide, by decide, rfl, by decide +kernel⟩, rfl⟩
  refine enterTop (d := 40) (ns' := ["script", "begin", "turn", "rows", "side", "table", "octets", "told", "pairs", "data", "bend"]) (args' := [.ref scr]) (n := 1) (vs' := [some (.ref scr), none, none, none, none, none, none, none, none, none, none]) (binds := [("script", .ref scr)]) Xb Tb (fun b o e => of_hideAll _ e) (by rw [hideAll_size]; exact Nat.le_refl _) hA0 ho hdt hcd (BindsTo.of_eq rfl) rfl (fun n => ⟨.inl rfl, trivial⟩) [(432, tabObj #[])] (fun p hp => by rw [List.mem_singleton.mp hp]; exact ⟨hP, hideAll_none _ (by simp)⟩) (by simp) (by decide +kernel) (by decide +kernel) rfl (by decide) (by decide +kernel) rfl rfl rfl rfl ?_
  intro env' L' h₁ k₁ A' cells he hfr hs hA' hL' hcells S'
  obtain ⟨om, ot, HH1⟩ := ex2 (CellsAre.two hcells)
  obtain rfl := HH1.1
  have hom := HH1.2.1
  have hot := HH1.2.2
  clear HH1
  replace S' : St w (hideAll s₁.heap [432]) [env'] (hideAll s₁.heap (List.map (fun x : Addr × Obj => x.1) [(432, tabObj #[])])) L' NS [some (.ref scr), none, none, none, none, none, none, none, none, none, none] [(L' + 2, om), (L' + 1, ot), (432, tabObj #[])] h₁ := S'
  replace he : EnvOk env' L' NS [("mapping", L' + 2), ("take", L' + 1)] := he
  refine gen_flow (P := fun Qf => ∀ h' k' ps, (hideAll s₁.heap [432]).StaysIn h' → h'.get? 432 = some (tabObj ps) → Qf (.ret (.bool true)) (sh s₁ h' k')) (fun h' k' ps hbs h432 => ?_) fun Qf hQf => ?_
  · show GoodWG _ _ _ _ _ _ _
    refine good_ghost ⟨hCd, hP⟩ (fun x => ?_) ?_ hbs ⟨ps, h432⟩ rfl hgens
    · first | rfl | exact law_post _ _
    · first | rfl | exact law_post _ _
  generalize hideAll s₁.heap [432] = bs at S' hQf
  have hG : EnvG w env' [("_law_taker", .ref 437), ("range", .type "range"), ("tuple", .type "tuple"), ("Reverse", .ref 414), ("write_reverse", .ref 430), ("sorted", .builtin "sorted"), ("list", .type "list"), ("_law_read", .ref 489), ("bytes", .type "bytes"), ("read_reverse", .ref 425), ("len", .builtin "len"), ("_law_answer", .ref 482), ("_law_table", .ref 475)] := .cons (kindOf_of hs (by decide +kernel)) (G_law_taker w) (.cons (kindOf_of hs (by decide +kernel)) (G_range w) (.cons (kindOf_of hs (by decide +kernel)) (G_tuple w) (.cons (kindOf_of hs (by decide +kernel)) (G_Reverse w) (.cons (kindOf_of hs (by decide +kernel)) (G_write_reverse w) (.cons (kindOf_of hs (by decide +kernel)) (G_sorted w) (.cons (kindOf_of hs (by decide +kernel)) (G_list w) (.cons (kindOf_of hs (by decide +kernel)) (G_law_read w) (.cons (kindOf_of hs (by decide +kernel)) (G_bytes w) (.cons (kindOf_of hs (by decide +kernel)) (G_read_reverse w) (.cons (kindOf_of hs (by decide +kernel)) (G_len w) (.cons (kindOf_of hs (by decide +kernel)) (G_law_answer w) (.cons (kindOf_of hs (by decide +kernel)) (G_law_table w) .nil))))))))))))
  have hkt : env'.kindOf "take" = some .cell := kindOf_of hs (by decide +kernel)
  have hkm : env'.kindOf "mapping" = some .cell := kindOf_of hs (by decide +kernel)
  have hscr : (hideAll s₁.heap (List.map (fun x : Addr × Obj => x.1) [(432, tabObj #[])])).get? scr = some lo := hideAll_get _ hlo0 (by
    simp only [List.map_cons, List.map_nil, List.mem_singleton]
    intro q; rw [q, hP] at hlo0; cases hlo0; cases hloc)
  clear hcells hs
  generalize hg0 : hideAll s₁.heap (List.map (fun x : Addr × Obj => x.1) [(432, tabObj #[])]) = g0 at S' hscr
  walk_at "goC"
  refine wpC_of (c_law_taker (i := 2) S' (hA'.ax.less (by decide)) hscr ⟨hloc, hlod⟩ hI (by omega) rfl fun g1 h₂ k₂ f pl opl tpl ps hg1 hT hopl S₂ => ?_)
  refine wpC_of (s_cell S₂ he hkt rfl 2 rfl hot fun h₃ ot' hot' S₃ => ?_)
  dsimp only [List.set, List.cons_append, List.nil_append] at S₃
  obtain ⟨g2, hg2, hc2, S₄⟩ := S₃.freezeAt (i := 2) rfl
  replace S₄ : St w bs [env'] g2 L' NS [some (.ref scr), none, none, none, none, none, none, none, none, none, none] [(pl, opl), (L' + 2, om), (432, tabObj ps)] h₃ := S₄
  have hCt : CN env' [("mapping", L' + 2), ("take", L' + 1)] g2 "take" (.ref f) := ⟨hkt, _, _, rfl, hc2, hot'⟩
  have hg02 : g0.StaysIn g2 := stays_trans hg1 hg2
  clear S' S₂ S₃
  walk_at "goC"
  refine wpC_of (t_take 0 S₄ hT hg2 (hA'.ax.less (by decide)) rfl hopl (by decide) (by decide) ?_)
  walk_at "go"
  refine ⟨_, _, _, rfl, rfl, by decide, fun h₅ k₅ opl5 t5 v5 tv5 hv0 hv1 hopl5 S₅ => ?_⟩
  obtain ⟨bg, rfl⟩ := Int.eq_ofNat_of_zero_le hv0
  dsimp only [List.set] at S₅
  walk_at "goC"
  rename St _ _ _ _ _ _ _ _ _ => S₆
  clear S₄ S₅
  refine g_dict (knd := intKind Challenge.rw_nu0183_01.row.prog w) S₆ fun d od h₇ hd0 _ hLd _ S₇ => ?_
  refine wpC_of (s_cell S₇ he hkm rfl 2 rfl hom fun h₈ om' hom' S₈ => ?_)
  dsimp only [List.set] at S₈
  obtain ⟨g3, hg3, hc3, S₉⟩ := S₈.freezeAt (i := 2) rfl
  replace S₉ : St w bs [env'] g3 L' NS [some (.ref scr), some (.int bg tv5), none, none, none, none, none, none, none, none, none] [(d, od), (pl, opl5), (432, tabObj ps)] h₈ := S₉
  have hCm : CN env' [("mapping", L' + 2), ("take", L' + 1)] g3 "mapping" (.ref d) := ⟨hkm, _, _, rfl, hc3, hom'⟩
  replace hCt := hCt.up hg3
  have hTg : g1.StaysIn g3 := stays_trans hg2 hg3
  have hg03 : g0.StaysIn g3 := stays_trans hg02 hg3
  clear S₆ S₇ S₈
  walk_at "goC"
  refine C_for ?_
  walk_at "goC"
  refine wpC_of (t_take 1 S₉ hT hTg (hA'.ax.less (by decide)) rfl hopl5 (by decide) (by decide) ?_)
  walk_at "go"
  refine ⟨_, _, _, rfl, rfl, by decide, fun h₁₀ k₁₀ opl10 t10 v10 tv10 hw0 hw1 hopl10 S₁₀ => ?_⟩
  obtain ⟨cnt, rfl⟩ := Int.eq_ofNat_of_zero_le hw0
  dsimp only [List.set] at S₁₀
  walk_at "goC"
  refine wpC_of (l_range1 S₁₀ fun r h₁₁ k₁₁ t₁₁ v₁₁ hr S₁₁ => ?_)
  walk_at "goC"
  refine wpC_of (it_range cnt hA'.ax.hd S₁₁ hr (by omega) (by decide) (by decide) (by omega) (by omega) fun I oI h₁₂ k₁₂ W S₁₂ => ?_)
  refine C_loop 2 (JJ53_22 w scr pl ps tv5 bg d)
    he rfl W S₁₂ ⟨[], [], od, opl10, _, _, none, rfl, rfl, hd0, .nil, by decide, (fun p hp => nomatch hp), hopl10, by decide, by decide⟩ ?_ ?_
  · rintro j v g' vs' led' h₁₃ k₁₃ oI' hj ⟨u0, rfl⟩ ⟨kvs, qs, od', opl', n, t, u, rfl, rfl, hdo, hmi, hql, hqr, hLO, hn0, hn1⟩ hg S₁₃
    dsimp only [List.set] at S₁₃
    have hCt' := hCt.up hg
    have hCm' := hCm.up hg
    have hTg' := stays_trans hTg hg
    walk_at "goC"
    have hml := hmi.length
    refine wpC_of (t_take 2 S₁₃ hT hTg' (hA'.ax.less (by decide)) rfl hLO hn0 (by omega) ?_)
    walk_at "go"
    refine ⟨_, _, _, rfl, rfl, by decide, fun h₁₄ k₁₄ o14 t14 v14 tv14 ha0 ha1 hLO14 S₁₄ => ?_⟩
    dsimp only [List.set] at S₁₄
    walk_at "goC"
    refine t_take 2 S₁₄ hT hTg' (hA'.ax.less (by decide)) rfl hLO14 (by omega) (by omega) ?_
    walk_at "go"
    refine ⟨_, _, _, rfl, rfl, by decide, fun h₁₅ k₁₅ o15 t15 v15 tv15 hb0 hb1 hLO15 S₁₅ => ?_⟩
    dsimp only [List.set] at S₁₅
    walk_at "goC"
    refine d_set (i := 1) S₁₅ rfl hdo (intKind_is _ _ _ _) (by omega) fun h₁₆ k₁₆ od16 hdo16 S₁₆ => ?_
    dsimp only [List.set] at S₁₆
    walk_at "goC"
    have hpl := putI_len qs (1 + v15) v14
    exact turn_next S₁₆ (stays_refl _) ⟨_, putI qs (1 + v15) v14, od16, o15, _, _, _, rfl, rfl, hdo16, hmi.put, by omega, putI_rng hqr ⟨⟨by show 1 ≤ 1 + v15; omega, by show 1 + v15 < 13; omega⟩, ha0, ha1⟩, hLO15, by omega, by omega⟩
  · rintro g' vs' led' h₁₃ k₁₃ ⟨kvs, qs, od', opl', n, t, u, rfl, rfl, hdo, hmi, hql, hqr, hLO, hn0, hn1⟩ hg S₁₃
    clear S₉ S₁₀ S₁₁ S₁₂ W
    replace hn1 : n ≤ 10 := by omega
    have hql4 : qs.length ≤ 4 := by omega
    have hnd : (kvs.map (·.1)).Nodup := IsDictOf.nodup hdo
    rw [hmi.keys] at hnd
    replace hCt := hCt.up hg
    replace hCm := hCm.up hg
    replace hTg := stays_trans hTg hg
    replace hg03 := stays_trans hg03 hg
    obtain ⟨g4, hg4, hd4, S₁₄⟩ := S₁₃.freeze
    replace hCt := hCt.up hg4
    replace hCm := hCm.up hg4
    replace hTg := stays_trans hTg hg4
    replace hg03 := stays_trans hg03 hg4
    clear S₁₃
    walk_at "goC"
    refine g_newList S₁₄ (by simp) fun lr olr h₁₅ holr hnr hLr _ S₁₅ => ?_
    walk_at "goC"
    rename St _ _ _ _ _ _ _ _ _ => S₁₆
    clear S₁₄ S₁₅
    refine C_for ?_
    walk_at "goC"
    refine wpC_of (l_range1 S₁₆ fun r2 h₁₇ k₁₇ t₁₇ v₁₇ hr2 S₁₇ => ?_)
    walk_at "goC"
    refine wpC_of (it_range 2 hA'.ax.hd S₁₇ hr2 (by decide) (by decide) (by decide) (by decide) (by decide) fun I2 oI2 h₁₈ k₁₈ W2 S₁₈ => ?_)
    refine C_loop 4 (JJ53_23 scr pl ps tv5 bg lr)
      he rfl W2 S₁₈ ⟨[], [], olr, opl', n, t, u, none, rfl, rfl, holr, .nil, rfl, hLO, hn0, by omega⟩ ?_ ?_
    · rintro j v g' vs' led' h₁₉ k₁₉ oI' hj ⟨u0, rfl⟩ ⟨xs, css, olr', opl', n, t, u1, u2, rfl, rfl, hLOr, hrows, hcj, hLO, hn0, hn1⟩ hg S₁₉
      dsimp only [List.set] at S₁₉
      have hxl := hrows.length
      have hCt' := hCt.up hg
      have hTg' := stays_trans hTg hg
      walk_at "goC"
      refine gm_append (S₁₉.at_ (i := 1) rfl) hLOr ?_
      walk_at "goC"
      refine wpC_of (e_comp (closure_one (x := "take") (c := L' + 1) rfl (by rw [he.cells]; rfl)) rfl (by decide +kernel) ?_)
      walk_at "go"
      refine t_take 2 S₁₉ hT hTg' (hA'.ax.less (by decide)) rfl hLO hn0 (by omega) ?_
      walk_at "go"
      refine ⟨_, _, _, rfl, rfl, by decide, fun h₂₀ k₂₀ o20 t20 v20 tv20 ha0 ha1 hLO20 S₂₀ => ?_⟩
      obtain ⟨m1, rfl⟩ := Int.eq_ofNat_of_zero_le ha0
      dsimp only [List.set] at S₂₀
      walk_at "go"
      refine l_range1 S₂₀ fun r3 h₂₁ k₂₁ t₂₁ v₂₁ hr3 S₂₁ => ?_
      walk_at "go"
      refine it_range m1 hA'.ax.hd S₂₁ hr3 (by omega) (by decide) (by decide) (by omega) (by omega) fun I3 oI3 h₂₂ k₂₂ W3 S₂₂ => ?_
      refine g_elts (JJ53_24 pl ps lr I2 oI' olr' n h₂₂) he W3 S₂₂ (by decide +kernel) rfl (by decide +kernel) (by omega)
        (fun j3 g1' g2' led' items hN hj => let ⟨a1, a2, a3, a4, b1, b2, b3, b4, b5, b6, b7⟩ := hj; ⟨a1, a2, a3, a4, b1, b2, b3, b4, b5.map fun _ _ q => q.into hN (Nat.le_refl _), b6, b7⟩) ⟨o20, n + 1, t20, [], rfl, hLO20, by omega, by omega, .nil, rfl, fun c hc => nomatch hc⟩ ?_ ?_ ?_
      · rintro j3 g' led' items ⟨_, _, _, cs, _, _, _, _, hi, hcl, _⟩
        rw [hi.length, hcl]
      · rintro C cenv j3 v3 g' led' items h₂₃ k₂₃ oI3' oD3 E'' hC0 hj3 ⟨u3, rfl⟩ ⟨opl3, n3, t3, cs, rfl, hLO3, hn30, hn31, hits, hcl, hgood⟩ hg' hcs hce S₂₃
        have hCt3 := (hCt'.up hg').into he.kind hcs (by decide +kernel) (cl' := [("take", L' + 1)]) rfl
        have hG3 : EnvG w cenv [("coverage_of", .ref 320), ("range", .type "range")] := .cons (kindOf_rel hcs (by decide +kernel)) (G_coverage_of w) (.cons (kindOf_rel hcs (by decide +kernel)) (G_range w) .nil)
        have hTg3 := stays_trans hTg' hg'
        walk_at "go"
        refine e_comp (closure_one (x := "take") (c := L' + 1) rfl (by rw [hce.cells]; rfl)) rfl (by decide +kernel) ?_
        walk_at "go"
        refine t_take 4 S₂₃ hT hTg3 (hA'.ax.less (by decide)) rfl hLO3 hn30 (by omega) ?_
        walk_at "go"
        refine ⟨_, _, _, rfl, rfl, by decide, fun h₂₄ k₂₄ o24 t24 v24 tv24 hb0 hb1 hLO24 S₂₄ => ?_⟩
        obtain ⟨m2, rfl⟩ := Int.eq_ofNat_of_zero_le hb0
        dsimp only [List.set] at S₂₄
        walk_at "go"
        refine l_range1 S₂₄ fun r4 h₂₅ k₂₅ t₂₅ v₂₅ hr4 S₂₅ => ?_
        walk_at "go"
        refine it_range m2 hA'.ax.hd S₂₅ hr4 (by omega) (by decide) (by decide) (by omega) (by omega) fun I4 oI4 h₂₆ k₂₆ W4 S₂₆ => ?_
        refine g_elts (JJ53_25 pl ps lr I2 oI' olr' I3 h₂₂ oI3' oD3 n3) hce W4 S₂₆ (by decide +kernel) rfl (by decide +kernel) (by omega)
          (fun j4 g1' g2' led' items hN hj => hj) ⟨o24, n3 + 1, t24, [], rfl, hLO24, by omega, by omega, .nil, rfl, fun c hc => nomatch hc⟩ ?_ ?_ ?_
        · rintro j4 g' led' items ⟨_, _, _, ms, _, _, _, _, hi, hml, _⟩
          rw [hi.length, hml]
        · rintro C4 cenv4 j4 v4 g'' led' items h₂₇ k₂₇ oI4' oD4 E4 hC40 hj4 ⟨u4, rfl⟩ ⟨opl4, n4, t4, ms, rfl, hLO4, hn40, hn41, hms, hml4, hmr⟩ hg'' hcs4 hce4 S₂₇
          have hCt4 := (hCt3.up hg'').into hce.kind hcs4 (by decide +kernel) (cl' := [("take", L' + 1)]) rfl
          have hTg4 := stays_trans hTg3 hg''
          walk_at "go"
          refine t_take 6 S₂₇ hT hTg4 (hA'.ax.less (by decide)) rfl hLO4 hn40 (by omega) ?_
          walk_at "go"
          refine ⟨_, _, _, rfl, rfl, by decide, fun h₂₈ k₂₈ o28 t28 v28 tv28 hc0 hc1 hLO28 S₂₈ => ?_⟩
          dsimp only [List.set] at S₂₈
          walk_at "go"
          refine elt_done S₂₈ (stays_refl _) ⟨o28, n4 + 1, t28, ms ++ [1 + v28], rfl, hLO28, by omega, by omega, ints_snoc hms _ _, by simp [hml4], fun x hx => ?_⟩
          rw [List.mem_append, List.mem_singleton] at hx
          rcases hx with hx | rfl
          · exact hmr x hx
          · exact ⟨by omega, by omega⟩
        · rintro g'' led' items oD4 h₂₇ k₂₇ ⟨opl4, n4, t4, ms, rfl, hLO4, hn40, hn41, hms, hml4, hmr⟩ hlen4 hLOD4 hg'' S₂₇
          obtain ⟨g5, hg5, hD5, S₂₈⟩ := S₂₇.freeze
          walk_at "go"
          refine c_coverage_of S₂₈ (hA'.ax.less (by decide)) hD5 hLOD4 hms (by omega) fun g6 h₂₉ k₂₉ vc gl hg6 hset hcov S₂₉ => ?_
          have hgs := stays_trans hg'' (stays_trans hg5 hg6)
          have hsz : h₂₂.objs.size ≤ h₂₇.objs.size := Nat.le_of_lt (Nat.lt_trans hC0 S₂₇.loc.lt)
          refine elt_done S₂₉ hgs ⟨opl4, n4, t4, cs ++ [gl], rfl, hLO4, hn40, by omega, (hits.map fun _ _ q => q.up hgs (Nat.le_refl _)).snoc (hcov.up (stays_refl _) hsz), by simp [hcl], fun c hc => ?_⟩
          rw [List.mem_append, List.mem_singleton] at hc
          rcases hc with hc | rfl
          · exact hgood c hc
          · exact goodC_of hset hmr (by omega)
      · rintro g' led' items oD3 h₂₃ k₂₃ ⟨opl3, n3, t3, cs, rfl, hLO3, hn30, hn31, hits, hcl, hgood⟩ hlen3 hLOD hg' S₂₃
        clear S₁₉ S₂₀ S₂₁ S₂₂ W3
        walk_at "goC"
        refine wpC_of (m_tuple S₂₃ (S₂₃.at_ (i := 0) rfl) hLOD (by omega) fun tt ott h₂₄ hTT _ hLt _ S₂₄ => ?_)
        obtain ⟨g5, hg5, htt, S₂₅⟩ := S₂₄.freeze
        replace S₂₅ := S₂₅.part (sub := [(I2, oI'), (lr, olr'), (pl, opl3), (432, tabObj ps)]) (fun p hp => .tail _ hp) (by have := S₂₅.ndl; rw [List.map_cons, List.nodup_cons] at this; exact this.2)
        clear S₂₃ S₂₄
        have hgs := stays_trans hg' hg5
        have hrow : RowOk g5 (.ref tt) cs := ⟨⟨tt, ott, items, rfl, Nat.zero_le _, htt, hTT, (hits.map fun _ _ q => (q.up hg5 (Nat.le_refl _)).weak).covs⟩, by omega, hgood⟩
        walk_at "goC"
        refine wpC_of (m_append (i := 1) S₂₅ rfl hLOr (by omega) fun h₂₆ olr'' hLOr'' S₂₆ => ⟨rfl, ?_⟩)
        dsimp only [List.set] at S₂₆
        walk_at "goC"
        exact turn_next S₂₆ hgs ⟨_, css ++ [cs], olr'', opl3, n3, t3, _, _, rfl, rfl, hLOr'', (hrows.map fun _ _ q => q.up hgs).snoc hrow, by simp [hcj], hLO3, hn30, by omega⟩
    · rintro g' vs' led' h₁₉ k₁₉ ⟨xs, css, olr', opl', n, t, u1, u2, rfl, rfl, hLOr, hrows, hcj, hLO, hn0, hn1⟩ hg S₁₉
      obtain ⟨cs0, cs1, rfl⟩ : ∃ a b, css = [a, b] := by
        match css, hcj with
        | [a, b], _ => exact ⟨a, b, rfl⟩
      obtain ⟨rv0, rv1, rfl, hr0, hr1⟩ : ∃ v0 v1, xs = [v0, v1] ∧ RowOk g' v0 cs0 ∧ RowOk g' v1 cs1 := by
        cases hrows with
        | cons r0 rest => cases rest with
          | cons r1 rest => cases rest; exact ⟨_, _, rfl, r0, r1⟩
      clear hrows S₁₆ S₁₇ S₁₈ W2
      replace hCt := hCt.up hg
      replace hCm := hCm.up hg
      replace hTg := stays_trans hTg hg
      replace hg03 := stays_trans hg03 hg
      have hd5 := hg _ _ hd4
      have hdm : sysModules < d := Nat.lt_trans S₁₉.mods hLd
      walk_at "goC"
      refine sub_list (S₁₉.at_ (i := 0) rfl) hLOr (by simp) (by decide) (i := 0) rfl ?_
      walk_at "goC"
      refine sub_list (S₁₉.at_ (i := 0) rfl) hLOr (by simp) (by decide) (i := 1) rfl ?_
      walk_at "goC"
      refine wpC_of (c_Reverse S₁₉ (hA'.ax.less (by decide)) fun g6 h₂₀ k₂₀ tb dtb otb hg6 htb0 hdtb0 htb hdtb htbD S₂₀ => ?_)
      replace hCt := hCt.up hg6
      replace hCm := hCm.up hg6
      replace hTg := stays_trans hTg hg6
      replace hg03 := stays_trans hg03 hg6
      have hd6 := hg6 _ _ hd5
      replace hr0 := hr0.up hg6
      replace hr1 := hr1.up hg6
      have hrev : RevIs Challenge.rw_nu0183_01.row.prog w 0 g6 (.ref tb) qs cs0 cs1 :=
        ⟨tb, dtb, otb, d, od', kvs, rv0, rv1, rfl, Nat.zero_le _, Nat.zero_le _, Nat.zero_le _, htb, hdtb, htbD, hdm, hd6, hdo, hmi, hr0.1, hr1.1⟩
      clear S₁₉
      walk_at "goC"
      rename St _ _ _ _ _ _ _ _ _ => S₂₁
      clear S₂₀
      obtain ⟨ks, hperm, hasc⟩ : ∃ ks : List Int, ks.Perm (qs.map (·.1)) ∧ ks.Pairwise (· < ·) := by
        refine ⟨(qs.map (·.1)).mergeSort (fun a b => decide (a ≤ b)), List.mergeSort_perm _ _, ?_⟩
        have h1 := List.pairwise_mergeSort (le := fun a b : Int => decide (a ≤ b)) (fun a b c h1 h2 => by simp at *; omega) (fun a b => by simp; omega) (qs.map (·.1))
        have h2 : ((qs.map (·.1)).mergeSort (fun a b => decide (a ≤ b))).Nodup := (List.mergeSort_perm _ _).nodup_iff.mpr hnd
        exact (List.Pairwise.and h1 h2).imp fun ⟨p, q⟩ => by simp at p; omega
      have hkl : ks.length = qs.length := by have := hperm.length_eq; simpa using this
      have hcr : ∀ c ∈ cs0 ++ cs1, GoodC c := fun c hc => (List.mem_append.mp hc).elim (hr0.2.2 c) (hr1.2.2 c)
      refine c_write_reverse S₂₁ (hA'.less (by decide)) hrev hperm hasc (by omega) (by have := hr0.2.1; omega) (by have := hr1.2.1; omega) (fun p hp => by have := hqr p hp; omega) (fun c hc => ⟨by have := (hcr c hc).2.2; omega, fun x hx => by have := (hcr c hc).2.1 x hx; omega⟩) fun h₂₂ k₂₂ ob tob hob S₂₂ => ?_
      walk_at "goC"
      rename St _ _ _ _ _ _ _ _ _ => S₂₃
      clear S₂₁ S₂₂
      refine wpC_of (c_rev_told S₂₃ (hA'.ax.less (by decide)) hrev (Nat.zero_le _) (by omega) (by have := hr0.2.1; omega) (by have := hr1.2.1; omega) fun ks1 hp1 hs1 g7 h₂₄ k₂₄ tv hg7 htab S₂₄ => ?_)
      rw [perm_asc (hp1.trans hperm.symm) hs1 hasc] at htab
      replace hCt := hCt.up hg7
      replace hCm := hCm.up hg7
      replace hTg := stays_trans hTg hg7
      replace hg03 := stays_trans hg03 hg7
      have hd7 := hg7 _ _ hd6
      replace hr0 := hr0.up hg7
      replace hr1 := hr1.up hg7
      clear hrev htb hdtb htbD
      walk_at "goC"
      rename St _ _ _ _ _ _ _ _ _ => S₂₅
      clear S₂₃ S₂₄
      refine wpC_of (e_comp (closure_one (x := "mapping") (c := L' + 2) rfl (by rw [he.cells]; rfl)) rfl (by decide +kernel) ?_)
      walk_at "go"
      refine d_sorted hA'.ax.hd S₂₅ (S₂₅.get hd7) hdo hdm (by have := hmi.length; omega) fun lk lko h₂₆ k₂₆ kxs ks2 hLOk hitsk hpk hsk S₂₆ => ?_
      rw [hmi.keys] at hpk
      rw [perm_asc (hpk.trans hperm.symm) hsk hasc] at hitsk
      have hkxl := hitsk.length
      obtain ⟨g8, hg8, hlk8, S₂₇⟩ := S₂₆.freeze
      replace hCt := hCt.up hg8
      replace hCm := hCm.up hg8
      replace hTg := stays_trans hTg hg8
      replace hg03 := stays_trans hg03 hg8
      have hd8 := hg8 _ _ hd7
      replace hr0 := hr0.up hg8
      replace hr1 := hr1.up hg8
      replace htab := keeps_tab.up htab hg8 (Nat.le_refl _)
      clear S₂₅ S₂₆
      walk_at "go"
      refine it_list hA'.ax.hd S₂₇ hlk8 hLOk fun I5 oI5 h₂₈ k₂₈ W5 S₂₈ => ?_
      refine g_elts (JJ53_26 pl ps qs lr olr' opl' ks h₂₈) he W5 S₂₈ (by decide +kernel) rfl (by decide +kernel) (by omega) (fun _ _ _ _ _ hN hj => ⟨hj.1, hj.2.1, hj.2.2.map fun _ _ q => keeps_pair.into q hN (Nat.le_refl _)⟩) ⟨rfl, Nat.zero_le _, .nil⟩ ?_ ?_ ?_
      · rintro j g' led' items ⟨_, hj, hi⟩
        have := hi.length
        rw [this, List.length_take]; unfold sortedBy; rw [List.length_map]; omega
      · rintro C cenv j v g' led' items h₂₉ k₂₉ oI' oD E'' hC0 hj hv ⟨rfl, _, hits'⟩ hg' hcs hce S₂₉
        have hC' := (hCm.up hg').into he.kind hcs (by decide +kernel) (cl' := [("mapping", L' + 2)]) rfl
        obtain ⟨kk, hkk⟩ : ∃ kk, ks[j]? = some kk := ⟨_, List.getElem?_eq_getElem (by omega)⟩
        obtain ⟨tk, htk⟩ := ints_get hitsk hkk
        rw [hv] at htk
        cases htk
        have hmem : kk ∈ qs.map (·.1) := hperm.mem_iff.mp (List.mem_of_getElem? hkk)
        obtain ⟨m, hm⟩ := getI_mem hmem
        obtain ⟨tm, htm⟩ := hmi.get hm
        have hd9 := hg' _ _ hd8
        walk_at "go"
        refine d_item' (S₂₉.get hd9) hdo (intKind_is _ _ _ _) htm fun k₇ => ?_
        walk_at "go"
        refine g_newTuple S₂₉ (by simp) fun tq oq h₃₀ hTq _ hCq _ S₃₀ => ?_
        obtain ⟨g9, hg9, hq9, S₃₁⟩ := S₃₀.freeze
        refine elt_done S₃₁ hg9 ⟨rfl, by omega, ?_⟩
        rw [take_snoc (c := (kk, m)) (by unfold sortedBy; rw [List.getElem?_map, hkk]; simp [hm])]
        exact (hits'.map fun _ _ q => keeps_pair.up q hg9 (Nat.le_refl _)).snoc ⟨tq, oq, _, tm, rfl, Nat.le_of_lt (Nat.lt_trans hC0 hCq), hq9, hTq⟩
      · rintro g' led' items oD h₂₉ k₂₉ ⟨rfl, _, hits'⟩ hlen' hLO' hg' S₂₉
        rw [List.take_of_length_le (by unfold sortedBy; simp; omega)] at hits'
        clear S₂₇ S₂₈ W5
        walk_at "goC"
        refine wpC_of (m_tuple S₂₉ (S₂₉.at_ (i := 0) rfl) hLO' (by omega) fun pt po h₃₀ hpT _ hLp _ S₃₀ => ?_)
        obtain ⟨g9, hg9, hp9, S₃₁⟩ := S₃₀.freeze
        replace S₃₁ := S₃₁.part (sub := [(lr, olr'), (pl, opl'), (432, tabObj ps)]) (fun p hp => .tail _ hp) (by have := S₃₁.ndl; rw [List.map_cons, List.nodup_cons] at this; exact this.2)
        have hgs := stays_trans hg' hg9
        replace hCt := hCt.up hgs
        replace hTg := stays_trans hTg hgs
        replace hg03 := stays_trans hg03 hgs
        replace hr0 := hr0.up hgs
        replace hr1 := hr1.up hgs
        replace htab := keeps_tab.up htab hgs (Nat.le_refl _)
        have hpairs : TupR PairIs 0 g9 (.ref pt) (sortedBy ks qs) := ⟨pt, po, items, rfl, Nat.zero_le _, hp9, hpT, hits'.map fun _ _ q => keeps_pair.up q hg9 (Nat.zero_le _)⟩
        clear S₂₉ S₃₀ hCm hd8 hlk8
        walk_at "goC"
        rename St _ _ _ _ _ _ _ _ _ => S₃₂
        clear S₃₁
        obtain ⟨rt0, ro0, rxs0, rfl, _, hrt0, hrT0, hrc0⟩ := hr0.1.ex
        obtain ⟨rt1, ro1, rxs1, rfl, _, hrt1, hrT1, hrc1⟩ := hr1.1.ex
        have hrl0 := hrc0.length
        have hrl1 := hrc1.length
        have hcl0 := hr0.2.1
        have hcl1 := hr1.2.1
        have hrt0' := hrt0
        refine e_comp (closure_zero rfl) rfl (by decide +kernel) ?_
        walk_at "go"
        refine sub_list (S₃₂.at_ (i := 0) rfl) hLOr (by simp) (by decide) (i := 0) rfl ?_
        refine it_tuple hA'.ax.hd S₃₂ hrt0' hrT0 fun Ia oIa hAa kAa Wa SAa => ?_
        refine g_elts (JJ53_27 pl ps lr olr' opl' cs0 g9) he Wa SAa (by decide +kernel) rfl (by decide +kernel) (by omega) (fun _ _ _ _ _ hN hj => hj) ⟨rfl, Nat.zero_le _, .nil⟩ ?_ ?_ ?_
        · rintro j g' led' items ⟨_, hj, hi⟩
          have := hi.length
          rw [this, List.length_take]; omega
        · rintro C cenv j v g' led' items hB kB oI' oD E'' hC0 hj hv ⟨rfl, _, hits2⟩ hg' hcs hce SB
          obtain ⟨y, dy, oy, t, ot, gs, c, rfl, hy, hdy, hDy, ht, hTO, hti, hcj⟩ := hrc0.getEx hv
          have hy1 := hg' _ _ hy
          have hdy1 := hg' _ _ hdy
          obtain ⟨t', _, _, ht', _⟩ := hti.ex
          walk_at "go"
          refine elt_done SB (stays_refl _) ⟨rfl, by omega, ?_⟩
          rw [take_snoc hcj]
          exact hits2.snoc hti
        · rintro g' led' items oD hB kB ⟨rfl, _, hits2⟩ hlen2 hLO2 hg' SB
          rw [List.take_of_length_le (by omega)] at hits2
          clear S₃₂ SAa Wa
          walk_at "go"
          refine m_tuple SB (SB.at_ (i := 0) rfl) hLO2 (by omega) fun gta goa hCa hgTa _ hLga _ SCa => ?_
          obtain ⟨gga, hgga, hgta, SDa⟩ := SCa.freeze
          replace SDa := SDa.part (sub := [(lr, olr'), (pl, opl'), (432, tabObj ps)]) (fun p hp => .tail _ hp) (by have := SDa.ndl; rw [List.map_cons, List.nodup_cons] at this; exact this.2)
          clear SB SCa
          have hgsa := stays_trans hg' hgga
          have htia : TupR TupInts 0 gga (.ref gta) cs0 := ⟨gta, goa, items, rfl, Nat.zero_le _, hgta, hgTa, hits2.map fun _ _ q => keeps_ints.up q hgsa (Nat.le_refl _)⟩
          replace hCt := hCt.up hgsa
          replace hTg := stays_trans hTg hgsa
          replace hg03 := stays_trans hg03 hgsa
          replace htab := keeps_tab.up htab hgsa (Nat.le_refl _)
          replace hpairs := keeps_pair.tup.up hpairs hgsa (Nat.le_refl _)
          have hrt1' := hgsa _ _ hrt1
          replace hrc1 := hrc1.map fun v c (q : CovIs 0 g9 v c) => q.up hgsa (Nat.le_refl _)
          clear hgta hgTa hits2
          walk_at "go"
          refine e_comp (closure_zero rfl) rfl (by decide +kernel) ?_
          walk_at "go"
          refine sub_list (SDa.at_ (i := 0) rfl) hLOr (by simp) (by decide) (i := 1) rfl ?_
          refine it_tuple hA'.ax.hd SDa hrt1' hrT1 fun Ib oIb hAb kAb Wb SAb => ?_
          refine g_elts (JJ53_28 pl ps lr olr' opl' cs1 gga) he Wb SAb (by decide +kernel) rfl (by decide +kernel) (by omega) (fun _ _ _ _ _ hN hj => hj) ⟨rfl, Nat.zero_le _, .nil⟩ ?_ ?_ ?_
          · rintro j g' led' items ⟨_, hj, hi⟩
            have := hi.length
            rw [this, List.length_take]; omega
          · rintro C cenv j v g' led' items hB kB oI' oD E'' hC0 hj hv ⟨rfl, _, hits2⟩ hg' hcs hce SB
            obtain ⟨y, dy, oy, t, ot, gs, c, rfl, hy, hdy, hDy, ht, hTO, hti, hcj⟩ := hrc1.getEx hv
            have hy1 := hg' _ _ hy
            have hdy1 := hg' _ _ hdy
            obtain ⟨t', _, _, ht', _⟩ := hti.ex
            walk_at "go"
            refine elt_done SB (stays_refl _) ⟨rfl, by omega, ?_⟩
            rw [take_snoc hcj]
            exact hits2.snoc hti
          · rintro g' led' items oD hB kB ⟨rfl, _, hits2⟩ hlen2 hLO2 hg' SB
            rw [List.take_of_length_le (by omega)] at hits2
            clear SDa SAb Wb
            walk_at "go"
            refine m_tuple SB (SB.at_ (i := 0) rfl) hLO2 (by omega) fun gtb gob hCb hgTb _ hLgb _ SCb => ?_
            obtain ⟨ggb, hggb, hgtb, SDb⟩ := SCb.freeze
            replace SDb := SDb.part (sub := [(lr, olr'), (pl, opl'), (432, tabObj ps)]) (fun p hp => .tail _ hp) (by have := SDb.ndl; rw [List.map_cons, List.nodup_cons] at this; exact this.2)
            clear SB SCb
            have hgsb := stays_trans hg' hggb
            have htib : TupR TupInts 0 ggb (.ref gtb) cs1 := ⟨gtb, gob, items, rfl, Nat.zero_le _, hgtb, hgTb, hits2.map fun _ _ q => keeps_ints.up q hgsb (Nat.le_refl _)⟩
            replace hCt := hCt.up hgsb
            replace hTg := stays_trans hTg hgsb
            replace hg03 := stays_trans hg03 hgsb
            replace htab := keeps_tab.up htab hgsb (Nat.le_refl _)
            replace hpairs := keeps_pair.tup.up hpairs hgsb (Nat.le_refl _)
            replace htia := keeps_ints.tup.up htia hgsb (Nat.le_refl _)
            walk_at "go"
            refine g_newTuple SDb (by simp) fun xt xo hE hxT _ _ _ SE => ?_
            obtain ⟨gx, hgx, hxt, SF⟩ := SE.freeze
            clear SDb SE
            have hrhs : TabIs 0 gx (.ref xt) (sortedBy ks qs, cs0, cs1) := ⟨xt, xo, _, _, _, rfl, Nat.zero_le _, hxt, hxT, keeps_pair.tup.up hpairs hgx (Nat.le_refl _), keeps_ints.tup.up htia hgx (Nat.le_refl _), keeps_ints.tup.up htib hgx (Nat.le_refl _)⟩
            replace htab := keeps_tab.up htab hgx (Nat.le_refl _)
            replace hCt := hCt.up hgx
            replace hTg := stays_trans hTg hgx
            replace hg03 := stays_trans hg03 hgx
            refine ne_tab SF (hA'.ax.less (by decide)) htab hrhs ?_
            refine t_bool ?_
            refine ite_f rfl ?_
            refine C_nil (cseq_next ?_)
            obtain ⟨lbody, hlb⟩ := lawBody w
            have hlit : LawBody w _ := ⟨_, _, _, _, _, _, _, _, _, _, _, _, _, _, by k_is⟩
            replace SF := SF.part (sub := [(pl, opl'), (432, tabObj ps)]) (fun p hp => .tail _ hp) (by have := SF.ndl; rw [List.map_cons, List.nodup_cons] at this; exact this.2)
            have hG2 : EnvG w env' [("list", .type "list"), ("_law_read", .ref 489), ("bytes", .type "bytes"), ("write_reverse", .ref 430), ("read_reverse", .ref 425), ("len", .builtin "len"), ("_law_answer", .ref 482), ("_law_table", .ref 475)] :=
              .cons (hG.get (x := "list") (v := .type "list") (by walk_at "loc")).1 (hG.get (x := "list") (v := .type "list") (by walk_at "loc")).2 (.cons (hG.get (x := "_law_read") (v := .ref 489) (by walk_at "loc")).1 (hG.get (x := "_law_read") (v := .ref 489) (by walk_at "loc")).2 (.cons (hG.get (x := "bytes") (v := .type "bytes") (by walk_at "loc")).1 (hG.get (x := "bytes") (v := .type "bytes") (by walk_at "loc")).2
                (.cons (hG.get (x := "write_reverse") (v := .ref 430) (by walk_at "loc")).1 (hG.get (x := "write_reverse") (v := .ref 430) (by walk_at "loc")).2 (.cons (hG.get (x := "read_reverse") (v := .ref 425) (by walk_at "loc")).1 (hG.get (x := "read_reverse") (v := .ref 425) (by walk_at "loc")).2 (.cons (hG.get (x := "len") (v := .builtin "len") (by walk_at "loc")).1 (hG.get (x := "len") (v := .builtin "len") (by walk_at "loc")).2
                  (.cons (hG.get (x := "_law_answer") (v := .ref 482) (by walk_at "loc")).1 (hG.get (x := "_law_answer") (v := .ref 482) (by walk_at "loc")).2 (.cons (hG.get (x := "_law_table") (v := .ref 475) (by walk_at "loc")).1 (hG.get (x := "_law_table") (v := .ref 475) (by walk_at "loc")).2 .nil)))))))
            exact law_mid hlit he hfr hG2 hA' SF hCt hT hTg hLO hn0 (by omega) (by omega) hob htab hasc hperm hql4 hqr hcl0 hcl1 hcr fun h' k' hbs h432 => hQf h' k' _ hbs h432
end
end
end Nu
theorem PySem.Challenge.cw_nu0183_01_holds : PySem.Challenge.rw_nu0183_01.Holds := by
  exact Nu.law_holds
