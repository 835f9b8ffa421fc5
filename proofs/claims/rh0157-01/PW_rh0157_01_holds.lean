import PyProof.Rows.All
import Wide.All
import OpenK.AllK
import Wide.FinOn
import PySem.Challenge.RW_rh0157_01
set_option compiler.extract_closed false
open PySem PySem.W PyProof.Rows PySem.Spec PySem.Calls
set_option Elab.async false
set_option maxRecDepth 100000
set_option maxHeartbeats 8000000
namespace Mine
open_top hd for PySem.Challenge.rw_rh0157_01
set_option maxHeartbeats 4000000
section

theorem mm0 {α : Type} {a0 : α} {r : List α} : a0 ∈ a0 :: r := .head _
theorem mm1 {α : Type} {a0 a1 : α} {r : List α} : a1 ∈ a0 :: a1 :: r := .tail _ mm0
theorem mm2 {α : Type} {a0 a1 a2 : α} {r : List α} : a2 ∈ a0 :: a1 :: a2 :: r := .tail _ mm1
theorem mm3 {α : Type} {a0 a1 a2 a3 : α} {r : List α} : a3 ∈ a0 :: a1 :: a2 :: a3 :: r := .tail _ mm2
theorem mm4 {α : Type} {a0 a1 a2 a3 a4 : α} {r : List α} : a4 ∈ a0 :: a1 :: a2 :: a3 :: a4 :: r := .tail _ mm3
theorem mm5 {α : Type} {a0 a1 a2 a3 a4 a5 : α} {r : List α} : a5 ∈ a0 :: a1 :: a2 :: a3 :: a4 :: a5 :: r := .tail _ mm4
theorem mm6 {α : Type} {a0 a1 a2 a3 a4 a5 a6 : α} {r : List α} : a6 ∈ a0 :: a1 :: a2 :: a3 :: a4 :: a5 :: a6 :: r := .tail _ mm5
theorem mm7 {α : Type} {a0 a1 a2 a3 a4 a5 a6 a7 : α} {r : List α} : a7 ∈ a0 :: a1 :: a2 :: a3 :: a4 :: a5 :: a6 :: a7 :: r := .tail _ mm6
theorem mm8 {α : Type} {a0 a1 a2 a3 a4 a5 a6 a7 a8 : α} {r : List α} : a8 ∈ a0 :: a1 :: a2 :: a3 :: a4 :: a5 :: a6 :: a7 :: a8 :: r := .tail _ mm7
theorem mm9 {α : Type} {a0 a1 a2 a3 a4 a5 a6 a7 a8 a9 : α} {r : List α} : a9 ∈ a0 :: a1 :: a2 :: a3 :: a4 :: a5 :: a6 :: a7 :: a8 :: a9 :: r := .tail _ mm8
theorem mm10 {α : Type} {a0 a1 a2 a3 a4 a5 a6 a7 a8 a9 a10 : α} {r : List α} : a10 ∈ a0 :: a1 :: a2 :: a3 :: a4 :: a5 :: a6 :: a7 :: a8 :: a9 :: a10 :: r := .tail _ mm9
theorem mm11 {α : Type} {a0 a1 a2 a3 a4 a5 a6 a7 a8 a9 a10 a11 : α} {r : List α} : a11 ∈ a0 :: a1 :: a2 :: a3 :: a4 :: a5 :: a6 :: a7 :: a8 :: a9 :: a10 :: a11 :: r := .tail _ mm10
theorem mm12 {α : Type} {a0 a1 a2 a3 a4 a5 a6 a7 a8 a9 a10 a11 a12 : α} {r : List α} : a12 ∈ a0 :: a1 :: a2 :: a3 :: a4 :: a5 :: a6 :: a7 :: a8 :: a9 :: a10 :: a11 :: a12 :: r := .tail _ mm11
theorem mm13 {α : Type} {a0 a1 a2 a3 a4 a5 a6 a7 a8 a9 a10 a11 a12 a13 : α} {r : List α} : a13 ∈ a0 :: a1 :: a2 :: a3 :: a4 :: a5 :: a6 :: a7 :: a8 :: a9 :: a10 :: a11 :: a12 :: a13 :: r := .tail _ mm12
theorem mm14 {α : Type} {a0 a1 a2 a3 a4 a5 a6 a7 a8 a9 a10 a11 a12 a13 a14 : α} {r : List α} : a14 ∈ a0 :: a1 :: a2 :: a3 :: a4 :: a5 :: a6 :: a7 :: a8 :: a9 :: a10 :: a11 :: a12 :: a13 :: a14 :: r := .tail _ mm13
theorem mm15 {α : Type} {a0 a1 a2 a3 a4 a5 a6 a7 a8 a9 a10 a11 a12 a13 a14 a15 : α} {r : List α} : a15 ∈ a0 :: a1 :: a2 :: a3 :: a4 :: a5 :: a6 :: a7 :: a8 :: a9 :: a10 :: a11 :: a12 :: a13 :: a14 :: a15 :: r := .tail _ mm14
theorem mm16 {α : Type} {a0 a1 a2 a3 a4 a5 a6 a7 a8 a9 a10 a11 a12 a13 a14 a15 a16 : α} {r : List α} : a16 ∈ a0 :: a1 :: a2 :: a3 :: a4 :: a5 :: a6 :: a7 :: a8 :: a9 :: a10 :: a11 :: a12 :: a13 :: a14 :: a15 :: a16 :: r := .tail _ mm15
theorem mm17 {α : Type} {a0 a1 a2 a3 a4 a5 a6 a7 a8 a9 a10 a11 a12 a13 a14 a15 a16 a17 : α} {r : List α} : a17 ∈ a0 :: a1 :: a2 :: a3 :: a4 :: a5 :: a6 :: a7 :: a8 :: a9 :: a10 :: a11 :: a12 :: a13 :: a14 :: a15 :: a16 :: a17 :: r := .tail _ mm16
theorem mm18 {α : Type} {a0 a1 a2 a3 a4 a5 a6 a7 a8 a9 a10 a11 a12 a13 a14 a15 a16 a17 a18 : α} {r : List α} : a18 ∈ a0 :: a1 :: a2 :: a3 :: a4 :: a5 :: a6 :: a7 :: a8 :: a9 :: a10 :: a11 :: a12 :: a13 :: a14 :: a15 :: a16 :: a17 :: a18 :: r := .tail _ mm17
theorem mm19 {α : Type} {a0 a1 a2 a3 a4 a5 a6 a7 a8 a9 a10 a11 a12 a13 a14 a15 a16 a17 a18 a19 : α} {r : List α} : a19 ∈ a0 :: a1 :: a2 :: a3 :: a4 :: a5 :: a6 :: a7 :: a8 :: a9 :: a10 :: a11 :: a12 :: a13 :: a14 :: a15 :: a16 :: a17 :: a18 :: a19 :: r := .tail _ mm18
theorem mm20 {α : Type} {a0 a1 a2 a3 a4 a5 a6 a7 a8 a9 a10 a11 a12 a13 a14 a15 a16 a17 a18 a19 a20 : α} {r : List α} : a20 ∈ a0 :: a1 :: a2 :: a3 :: a4 :: a5 :: a6 :: a7 :: a8 :: a9 :: a10 :: a11 :: a12 :: a13 :: a14 :: a15 :: a16 :: a17 :: a18 :: a19 :: a20 :: r := .tail _ mm19
theorem mm21 {α : Type} {a0 a1 a2 a3 a4 a5 a6 a7 a8 a9 a10 a11 a12 a13 a14 a15 a16 a17 a18 a19 a20 a21 : α} {r : List α} : a21 ∈ a0 :: a1 :: a2 :: a3 :: a4 :: a5 :: a6 :: a7 :: a8 :: a9 :: a10 :: a11 :: a12 :: a13 :: a14 :: a15 :: a16 :: a17 :: a18 :: a19 :: a20 :: a21 :: r := .tail _ mm20
theorem mt4 {α : Type} {a b c d x : α} {r : List α} (h : x ∈ r) : x ∈ a :: b :: c :: d :: r := .tail _ (.tail _ (.tail _ (.tail _ h)))
theorem forall_cons {α : Type} {P : α → Prop} {a : α} {r : List α} (x : P a) (y : ∀ b ∈ r, P b) : ∀ b ∈ a :: r, P b := fun b hb => by
  rcases List.mem_cons.mp hb with rfl | hb
  · exact x
  · exact y b hb
theorem forall_nil {α : Type} {P : α → Prop} : ∀ b ∈ ([] : List α), P b := fun _ hb => nomatch hb
theorem nGet {g h : Heap} {L a : Addr} {o : Obj} {news : List (Addr × Obj)} (N : News g L h news) (m : (a, o) ∈ news) : h.get? a = some o := (N _ m).1
theorem nNeL {g h : Heap} {L a : Addr} {o : Obj} {news : List (Addr × Obj)} (N : News g L h news) (m : (a, o) ∈ news) : a ≠ L := (N _ m).2.1
theorem nOff {g h : Heap} {L a : Addr} {o : Obj} {news : List (Addr × Obj)} (N : News g L h news) (m : (a, o) ∈ news) : g.get? a = none := (N _ m).2.2
theorem ltLed {a d : Addr} {o : Obj} {news : List (Addr × Obj)} (l : ∀ p ∈ news, p.1 < d) (m : (a, o) ∈ news) : @LT.lt Nat _ a d := l _ m
theorem ne_led {a d : Addr} {o : Obj} {news : List (Addr × Obj)} (l : ∀ p ∈ news, p.1 < d) (m : (a, o) ∈ news) : @Ne Nat a d := Nat.ne_of_lt (l _ m)
theorem gt1 {a L : Nat} (h : a < L) : a < L + 1 := Nat.lt_succ_of_lt h
theorem gt2 {a L : Nat} (h : a < L) : a < L + 1 + 1 := gt1 (gt1 h)
theorem gt3 {a L : Nat} (h : a < L) : a < L + 1 + 1 + 1 := gt1 (gt2 h)
theorem gt4 {a L : Nat} (h : a < L) : a < L + 1 + 1 + 1 + 1 := gt1 (gt3 h)
theorem wd {x : Int} (h : 0 ≤ x ∧ x ≤ 100) : 0 ≤ x ∧ x ≤ 1000 := ⟨h.1, Int.le_trans h.2 (by decide)⟩
theorem tupEl {h : Heap} {a : Addr} {items : Array Value} (x : IsTup h a items) {C : Prop} (c : ∀ o, h.get? a = some o → o.cls = .type "tuple" → ∀ n, o.data = .seq items n → C) : C := by
  obtain ⟨o, a, b, n, d⟩ := x
  exact c o a b n d
theorem exEl2 {α : Type} {p q : α → Prop} (h : ∃ a, p a ∧ q a) {C : Prop} (c : ∀ a, p a → q a → C) : C := by
  obtain ⟨a, x, y⟩ := h
  exact c a x y
theorem nm_nil {a : Addr} : a ∉ ([] : List Addr) := fun h => nomatch h
theorem nm_cons {a b : Nat} {l : List Addr} (h : a ≠ b) (r : a ∉ l) : a ∉ (b : Addr) :: l := fun q => (List.mem_cons.mp q).elim h r

abbrev fsOf (l : List Env) : List Addr := l.filterMap (·.frame)

def isCodeO (o : Obj) : Bool := match o.data with
  | .fields vs => (match (vs[1]? : Option Value) with | some (.str _ _) => true | _ => false)
  | _ => false
def NotCode (h : Heap) (a : Addr) : Prop := ∀ o, h.get? a = some o → isCodeO o = false
theorem NotCode.of {h : Heap} {a : Addr} {o : Obj} (e : h.get? a = some o) (c : isCodeO o = false) : NotCode h a := fun o' e' => by rw [e] at e'; cases e'; exact c
theorem isCodeO_dict {o : Obj} {es : Array DictEntry} {n : Nat} (h : o.data = .dict es n) : isCodeO o = false := by unfold isCodeO; rw [h]
theorem isCodeO_ref {o : Obj} {vs : Array Value} {x : Value} (h : o.data = .fields vs) (h1 : vs[1]? = some x) (hx : ∀ q t, x ≠ .str q t) : isCodeO o = false := by
  unfold isCodeO
  rw [h]
  dsimp only
  rw [h1]
  cases x <;> first | rfl | exact absurd (Eq.refl _) (hx _ _)

structure Kept (M fs : List Addr) (h h' : Heap) : Prop where
  code : ∀ b o, h.get? b = some o → isCodeO o = true → h'.get? b = some o
  same : ∀ b o, h.get? b = some o → b ∉ M → b ∉ fs → h'.get? b = some o
  turn : ∀ b o, h.get? b = some o → b ∈ fs → ∃ sl, h'.get? b = some { o with slots := sl }

theorem Kept.refl {M fs : List Addr} {h : Heap} : Kept M fs h h := ⟨fun _ _ e _ => e, fun _ _ e _ _ => e, fun _ o e _ => ⟨o.slots, e⟩⟩
theorem Kept.trans {M M' fs fs' : List Addr} {h h' h'' : Heap} (x : Kept M fs h h') (y : Kept M' fs' h' h'') (hM : ∀ b ∈ M', b ∈ M ∨ h.get? b = none) (hf : ∀ b ∈ fs', b ∈ fs ∨ h.get? b = none) (hd : ∀ b ∈ fs, b ∉ M') : Kept M fs h h'' := by
  refine ⟨fun b o e c => y.code b o (x.code b o e c) c, fun b o e nm nf => ?_, fun b o e mf => ?_⟩
  · refine y.same b o (x.same b o e nm nf) (fun q => ?_) (fun q => ?_)
    · rcases hM b q with z | z
      · exact nm z
      · rw [z] at e; cases e
    · rcases hf b q with z | z
      · exact nf z
      · rw [z] at e; cases e
  · obtain ⟨sl, hs⟩ := x.turn b o e mf
    by_cases q : b ∈ fs'
    · obtain ⟨sl', hs'⟩ := y.turn b _ hs q
      exact ⟨sl', hs'⟩
    · exact ⟨sl, y.same b _ hs (hd b mf) q⟩
theorem Kept.mono {M M' fs fs' : List Addr} {h h' : Heap} (x : Kept M fs h h') (hM : ∀ b ∈ M, b ∈ M' ∨ h.get? b = none) (hf : ∀ b ∈ fs, b ∈ fs' ∨ h.get? b = none) (hd : ∀ b ∈ fs', b ∉ M) : Kept M' fs' h h' :=
  (Kept.refl (M := M') (fs := fs')).trans x hM hf hd
theorem Kept.of_keeps {M fs : List Addr} {h h' : Heap} (k : ∀ b o, h.get? b = some o → h'.get? b = some o) : Kept M fs h h' := ⟨fun b o e _ => k b o e, fun b o e _ _ => k b o e, fun b o e _ => ⟨o.slots, k b o e⟩⟩

theorem Kept.tight {M M' fs : List Addr} {h h' : Heap} (k : Kept M' fs h h') (hM : ∀ b ∈ M', b ∈ M ∨ ∀ o, h.get? b = some o → h'.get? b = some o) : Kept M fs h h' :=
  ⟨k.code, fun b o e nm nf => by
    by_cases q : b ∈ M'
    · rcases hM b q with z | z
      · exact absurd z nm
      · exact z o e
    · exact k.same b o e q nf, k.turn⟩
theorem tight_old {a : Addr} {o : Obj} {h h' : Heap} (e : h.get? a = some o) (e' : h'.get? a = some o) : ∀ o, h.get? a = some o → h'.get? a = some o := fun o' q => by rw [e] at q; cases q; exact e'
theorem tightC {a : Addr} {r M : List Addr} {h h' : Heap} (x : a ∈ M ∨ ∀ o, h.get? a = some o → h'.get? a = some o) (y : ∀ b ∈ r, b ∈ M ∨ ∀ o, h.get? b = some o → h'.get? b = some o) : ∀ b ∈ a :: r, b ∈ M ∨ ∀ o, h.get? b = some o → h'.get? b = some o := fun b hb => by
  rcases List.mem_cons.mp hb with rfl | hb
  · exact x
  · exact y b hb
theorem tightN {M : List Addr} {h h' : Heap} : ∀ b ∈ ([] : List Addr), b ∈ M ∨ ∀ o, h.get? b = some o → h'.get? b = some o := fun _ hb => nomatch hb

structure Pre (K : Frag) (p : Program) (loose : List Str) (mean : ExcName → Option Value) (mg mb : Str → Option Value) (A : Around) (base : Heap) (l : List Env) (h : Heap) (n : Nat) : Prop where
  B : Below A base l h
  D : KtsDicts (fsOf l) h
  X : K.In base
  T : Top p loose mean mg mb base
  H1 : CodeHd base 138 134
  H2 : CodeHd base 152 148
  rm : A.depth + n ≤ 600
  un : A.units + 4 * n ≤ 3000

def Loose (base : Heap) (l : List Env) (h : Heap) (a : Addr) : Prop := base.get? a = none ∧ a ∉ fsOf l ∧ NotCode h a
theorem loose1 {base : Heap} {l : List Env} {h : Heap} {a : Addr} (x : Loose base l h a) : ∀ b ∈ [a], Loose base l h b := fun b hb => by rw [List.mem_singleton.mp hb]; exact x
theorem looseC {base : Heap} {l : List Env} {h : Heap} {a : Addr} {r : List Addr} (x : Loose base l h a) (y : ∀ b ∈ r, Loose base l h b) : ∀ b ∈ a :: r, Loose base l h b := fun b hb => by
  rcases List.mem_cons.mp hb with rfl | hb
  · exact x
  · exact y b hb

section
variable {n : Nat} {K : Frag} {p : Program} {loose : List Str} {mean : ExcName → Option Value} {mg mb : Str → Option Value} {A : Around} {base h h' g : Heap} {l : List Env} {m m' : Str → Option Value} {L : Addr} {env : Env} {news : List (Addr × Obj)}

theorem Pre.ground (P : Pre K p loose mean mg mb A base l h n) {hide : List Addr} (hh : ∀ a ∈ hide, Loose base l h a) :
    Below A base l (hideAll h hide) ∧ KtsDicts (fsOf l) (hideAll h hide) ∧ K.In (hideAll h hide) ∧ Top p loose mean mg mb (hideAll h hide) ∧ ∀ a ∈ hide, (hideAll h hide).get? a = none := by
  have st : base.StaysIn (hideAll h hide) := fun b o e => hideAll_get _ (P.B.stays b o e) fun q => by rw [(hh b q).1] at e; cases e
  refine ⟨⟨P.B.stack, st, funFrames_hideAll P.B.frames fun env he a ha hf => (hh a ha).2.1 (List.mem_filterMap.mpr ⟨env, he, hf⟩)⟩, fun b hb => ?_, P.X.keeps st, P.T.keeps st, fun a ha => hideAll_none _ ha⟩
  obtain ⟨o, es, n, ho, hd⟩ := P.D b hb
  exact ⟨o, es, n, hideAll_get _ ho fun q => (hh b q).2.1 hb, hd⟩

theorem Pre.fresh (P : Pre K p loose mean mg mb A base l h n) {a : Addr} (e : h.get? a = none) : base.get? a = none ∧ a ∉ fsOf l := by
  refine ⟨?_, fun hm => ?_⟩
  · cases z : base.get? a with
    | none => rfl
    | some o => have := P.B.stays _ _ z; rw [e] at this; cases this
  · obtain ⟨_, o, ho, _⟩ := P.B.frames.mem hm
    rw [ho] at e
    cases e

theorem kept_end {hide fs : List Addr} {g' : Heap} (F : Fr g' L h' m') (T : KtsTurn fs (hideAll h hide) g') (hd : ∀ a ∈ hide, a ∉ fs) (hc : ∀ a ∈ hide, NotCode h a) (hfc : ∀ a ∈ fs, NotCode h a) : Kept hide fs h h' := by
  refine ⟨fun b o e c => F.keep _ _ (T.other b o (hideAll_get _ e fun q => by rw [hc b q o e] at c; cases c) fun q => by rw [hfc b q o e] at c; cases c), fun b o e nm nf => F.keep _ _ (T.other b o (hideAll_get _ e nm) nf), fun b o e mf => ?_⟩
  obtain ⟨sl, hs⟩ := T.frame b o (hideAll_get _ e fun q => hd b q mf) mf
  exact ⟨sl, F.keep _ _ hs⟩

theorem pre_call {A₀ : Around} {h₀ : Heap} (P₀ : Pre K p loose mean mg mb A₀ base l h₀ (n + 1)) (B : Below A₀ base l g) (D : KtsDicts (fsOf l) g) (F : Fr g L h m) (hf : env.frame = some L) (hk : env.scope.kind = .function) :
    Pre K p loose mean mg mb (A₀.deeper env) base (env :: l) h n := by
  have B₁ := pushX B F hf hk
  refine ⟨B₁, fun b hb => ?_, P₀.X, P₀.T, P₀.H1, P₀.H2, ?_, ?_⟩
  · obtain ⟨e', he, hfe⟩ := List.mem_filterMap.mp hb
    rcases List.mem_cons.mp he with rfl | he
    · rw [hf] at hfe
      cases hfe
      obtain ⟨o, es, ep, ho, hd, _⟩ := F.ns
      exact ⟨o, es, ep, ho, hd⟩
    · obtain ⟨o, es, n, ho, hd⟩ := D b (List.mem_filterMap.mpr ⟨e', he, hfe⟩)
      exact ⟨o, es, n, F.keep _ _ ho, hd⟩
  · have := P₀.rm; show A₀.depth + 1 + n ≤ 600; omega
  · have := P₀.un; show A₀.units + 3 + 4 * n ≤ 3000; omega
theorem Pre.mark (P : Pre K p loose mean mg mb A base l h n) (x : Option Value) : Pre K p loose mean mg mb (A.mark x) base l h n :=
  ⟨⟨P.B.stack, P.B.stays, P.B.frames⟩, P.D, P.X, P.T, P.H1, P.H2, P.rm, P.un⟩
theorem Pre.room (P : Pre K p loose mean mg mb A base l h n) : A.depth < recursionLimit := by
  have := P.rm
  show A.depth < 1000
  omega

theorem after_call {A₀ : Around} {h₀ : Heap} {M' : List Addr} (P₀ : Pre K p loose mean mg mb A₀ base l h₀ n) (B : Below A₀ base l g) (D : KtsDicts (fsOf l) g) (F : Fr g L h m) (hf : env.frame = some L) (k : Kept M' (fsOf (env :: l)) h h') (hM : ∀ b ∈ M', g.get? b = none ∧ b ≠ L) :
    ∃ g', KtsTurn (fsOf l) g g' ∧ Fr g' L h' m ∧ Below A₀ base l g' ∧ KtsDicts (fsOf l) g' ∧ K.In g' ∧ Top p loose mean mg mb g' := by
  have hL : g.get? L = none := kts_self F
  have mem : ∀ b, b ∈ fsOf (env :: l) → b = L ∨ b ∈ fsOf l := fun b hb => by
    obtain ⟨e', he, hfe⟩ := List.mem_filterMap.mp hb
    rcases List.mem_cons.mp he with rfl | he
    · rw [hf] at hfe; cases hfe; exact .inl rfl
    · exact .inr (List.mem_filterMap.mpr ⟨e', he, hfe⟩)
  have hLm : L ∈ fsOf (env :: l) := List.mem_filterMap.mpr ⟨env, .head _, hf⟩
  have sub : ∀ b, b ∈ fsOf l → b ∈ fsOf (env :: l) := fun b hb => by
    obtain ⟨e', he, hfe⟩ := List.mem_filterMap.mp hb
    exact List.mem_filterMap.mpr ⟨e', .tail _ he, hfe⟩
  obtain ⟨T₁, S₁⟩ := kts_turn_at (h := h') (fs := fsOf l) (g := g)
    (fun b hb => by obtain ⟨_, o, ho, _⟩ := B.frames.mem hb; exact ⟨o, ho⟩)
    (fun b o e nm => k.same b o (F.keep b o e) (fun q => by rw [(hM b q).1] at e; cases e) (fun q => by
      rcases mem b q with z | z
      · rw [z, hL] at e; cases e
      · exact nm z))
    (fun b o e hm => k.turn b o (F.keep b o e) (sub b hm))
  have st : base.StaysIn (ktsHeap h' (fsOf l) g) := fun b o e => T₁.other b o (B.stays b o e) fun hm => by rw [(B.frames.mem hm).1] at e; cases e
  have hns : Heap.Ns h' L m := by
    obtain ⟨oL, es, ep, hoL, hLd, hLk, hLf⟩ := F.ns
    obtain ⟨sl, hs⟩ := k.turn L oL hoL hLm
    exact ⟨_, es, ep, hs, hLd, hLk, hLf⟩
  refine ⟨_, T₁, ⟨hns, S₁, by rw [T₁.size]; exact F.above⟩, ⟨B.stack, st, B.frames.of_keeps fun b o e _ => ?_⟩, D.turn T₁, P₀.X.keeps st, P₀.T.keeps st⟩
  obtain ⟨sl, hs⟩ := T₁.up e
  exact ⟨_, hs, rfl⟩

theorem after_callC {A₀ : Around} {h₀ : Heap} {M' : List Addr} (P₀ : Pre K p loose mean mg mb A₀ base l h₀ n) (B : Below A₀ base l g) (D : KtsDicts (fsOf l) g) (F : Fr g L h m) (hf : env.frame = some L) (k : Kept M' (fsOf (env :: l)) h h') (hM : ∀ b ∈ M', g.get? b = none ∧ b ≠ L) {C : Prop}
    (c : ∀ g', KtsTurn (fsOf l) g g' → Fr g' L h' m → Below A₀ base l g' → KtsDicts (fsOf l) g' → K.In g' → Top p loose mean mg mb g' → C) : C := by
  obtain ⟨g', a, b, d, e, f, i⟩ := after_call P₀ B D F hf k hM
  exact c g' a b d e f i
theorem after_call0 {M' : List Addr} (F : Fr g L h m) (k : Kept M' [] h h') (hM : ∀ b ∈ M', g.get? b = none ∧ b ≠ L) : Fr g L h' m := by
  refine ⟨?_, fun b o e => k.same b o (F.keep b o e) (fun q => by rw [(hM b q).1] at e; cases e) (by simp), F.above⟩
  obtain ⟨oL, es, ep, hoL, r⟩ := F.ns
  exact ⟨oL, es, ep, k.same L oL hoL (fun q => (hM L q).2 rfl) (by simp), r⟩

theorem News.one {a : Addr} {o : Obj} (hn : h.get? a = some o ∧ a ≠ L ∧ g.get? a = none) (N : News g L h news) : News g L h ((a, o) :: news) := fun q hq => by
  rcases List.mem_cons.mp hq with rfl | hq
  · exact hn
  · exact N q hq
theorem old_of {A₀ : Around} {M' : List Addr} {g' : Heap} (B : Below A₀ base l g) (hf : env.frame = some L) (N : News g L h news) (k : Kept M' (fsOf (env :: l)) h h') (T : KtsTurn (fsOf l) g g') {a : Addr} {o : Obj} (hm : (a, o) ∈ news) (hM : a ∉ M') :
    h'.get? a = some o ∧ a ≠ L ∧ g'.get? a = none := by
  refine ⟨k.same a o (N _ hm).1 hM fun q => ?_, (N _ hm).2.1, T.none_ _ (N _ hm).2.2⟩
  obtain ⟨e', he, hfe⟩ := List.mem_filterMap.mp q
  rcases List.mem_cons.mp he with rfl | he
  · rw [hf] at hfe; exact (N _ hm).2.1 (Option.some.inj hfe).symm
  · obtain ⟨_, o', ho', _⟩ := B.frames.mem (List.mem_filterMap.mpr ⟨e', he, hfe⟩)
    have := (N _ hm).2.2
    rw [ho'] at this
    cases this
theorem old_of0 {M' : List Addr} (N : News g L h news) (k : Kept M' [] h h') {a : Addr} {o : Obj} (hm : (a, o) ∈ news) (hM : a ∉ M') : h'.get? a = some o ∧ a ≠ L ∧ g.get? a = none :=
  ⟨k.same a o (N _ hm).1 hM (by simp), (N _ hm).2⟩
theorem turned_of {a : Addr} {o o' : Obj} (N : News g L h news) (hm : (a, o) ∈ news) (e : h'.get? a = some o') {g' : Heap} {fs : List Addr} (T : KtsTurn fs g g') : h'.get? a = some o' ∧ a ≠ L ∧ g'.get? a = none :=
  ⟨e, (N _ hm).2.1, T.none_ _ (N _ hm).2.2⟩
theorem turned_of0 {a : Addr} {o o' : Obj} (N : News g L h news) (hm : (a, o) ∈ news) (e : h'.get? a = some o') : h'.get? a = some o' ∧ a ≠ L ∧ g.get? a = none :=
  ⟨e, (N _ hm).2.1, (N _ hm).2.2⟩
theorem new_of {a : Addr} {o' : Obj} (F : Fr g L h m) (en : h.get? a = none) (e : h'.get? a = some o') {g' : Heap} {fs : List Addr} (T : KtsTurn fs g g') : h'.get? a = some o' ∧ a ≠ L ∧ g'.get? a = none := by
  refine ⟨e, fun q => ?_, T.none_ _ (kts_none F.keep en)⟩
  obtain ⟨oL, _, _, hoL, _⟩ := F.ns
  rw [q, hoL] at en
  cases en
theorem new_of0 {a : Addr} {o' : Obj} (F : Fr g L h m) (en : h.get? a = none) (e : h'.get? a = some o') : h'.get? a = some o' ∧ a ≠ L ∧ g.get? a = none :=
  new_of F en e (KtsTurn.refl (fs := []))
end

structure Grd (hide : List Addr) (l : List Env) (h g : Heap) : Prop where
  ke : ∀ {g' L h' m}, KtsTurn (fsOf l) g g' → Fr g' L h' m → Kept hide (fsOf l) h h'
  ke0 : ∀ {L h' m}, Fr g L h' m → Kept hide [] h h'
  up : ∀ {b o}, h.get? b = some o → b ∉ hide → g.get? b = some o
  no : ∀ {b}, h.get? b = none → g.get? b = none
  hid : ∀ {b}, b ∈ hide → g.get? b = none
theorem Grd.mk' {base h : Heap} {l : List Env} {hide : List Addr} (D : KtsDicts (fsOf l) h) (hh : ∀ a ∈ hide, Loose base l h a) : Grd hide l h (hideAll h hide) where
  ke := fun T F => kept_end F T (fun a ha => (hh a ha).2.1) (fun a ha => (hh a ha).2.2) fun a ha => by
    obtain ⟨o, es, n, ho, hd⟩ := D a ha
    exact NotCode.of ho (isCodeO_dict hd)
  ke0 := fun F => kept_end F KtsTurn.refl (fun _ _ => by simp) (fun a ha => (hh a ha).2.2) fun _ hm => nomatch hm
  up := fun e n => hideAll_get _ e n
  no := fun e => by
    rename_i b
    cases q : (hideAll h hide).get? b with
    | none => rfl
    | some o => rw [of_hideAll _ q] at e; cases e
  hid := fun m => hideAll_none _ m

theorem enter {n : Nat} {prog : Program} {w : World} {K : Frag} {p : Program} {loose : List Str} {mean : ExcName → Option Value} {mg mb : Str → Option Value} {A : Around} {base : Heap} {l : List Env} {s : Shared} {R : Result → Shared → Prop}
    {name qual : Str} {params : Arguments} {body : List Stmt} {scope : Scope} {dV kV doc pm cdv ct oc : Value} {an od : Option Addr} {osl : Array (Option Value)} {f : Addr} {args : Args}
    (P : Pre K p loose mean mg mb A base l s.heap n) (hide : List Addr) (binds : List (Str × Value)) (hh : ∀ a ∈ hide, Loose base l s.heap a)
    (ho : K.lookup f = some ⟨oc, od, .func (fnOf name qual params body scope dV kV doc pm an cdv ct), osl⟩) (hcd : codeIn K cdv qual = true)
    (hbind : BindsTo s (fnOf name qual params body scope dV kV doc pm an cdv ct) args binds) (hloc : ∀ y ∈ binds, scope.names.lookup y.1 = some .local)
    (h : ∀ g L' h₁, Grd hide l s.heap g → Fr g L' h₁ (fun y => binds.reverse.lookup y) → (∀ {b o}, s.heap.get? b = some o → h₁.get? b = some o ∧ b < L') → s.heap.get? L' = none → Below A base l g → KtsDicts (fsOf l) g → K.In g → Top p loose mean mg mb g →
      wpAny (model prog w) (A.deeper (envOf qual scope L' f cdv)) (execs body (envOf qual scope L' f cdv))
        (fun fl s' => R (.ok (.ret (match fl with | .ret v => v | _ => .none))) s')
        (fun e s' => wpAny (model prog w) (A.deeper (envOf qual scope L' f cdv)) (leaving (envOf qual scope L' f cdv) e) (fun _ s'' => R (.error e) s'') (fun e' s'' => R (.error e') s'') s')
        { s with heap := h₁, toks := s.toks + binds.length })
    (hco : scope.isCoroutine = false := by rfl) (hgen : scope.isGenerator = false := by rfl) (hk : scope.kind = .function := by rfl)
    (hcell : ∀ x ∈ scope.names, x.2 ≠ .cell := by decide) : codeAny (model prog w) A (.call (.ref f) args) R s := by
  have X := P.X.keeps P.B.stays
  obtain ⟨B₂, D₂, X₂, T₂, hn⟩ := P.ground hh
  have hroom := P.room
  refine codeAny_call_def (fd := fnOf name qual params body scope dV kV doc pm an cdv ct) (body := body) (binds := binds) hroom (X _ _ ho) rfl (P.T.nolimit.keeps P.B.stays) (codeRec_of X hcd) rfl hbind hcell hloc (fun h₁ hns hk₁ => ?_) hco hgen hk
  exact h _ s.heap.objs.size h₁ (Grd.mk' P.D hh) ⟨hns, fun b o e => hk₁ b o (of_hideAll _ e), Nat.le_of_eq (hideAll_size _ _)⟩ (fun e => ⟨hk₁ _ _ e, Heap.lt_size e⟩) (Heap.get?_none_of_le (Nat.le_refl _)) B₂ D₂ X₂ T₂
theorem Grd.news1 {hide : List Addr} {l : List Env} {h g h₁ : Heap} {L a : Addr} {o : Obj} {news : List (Addr × Obj)} (G : Grd hide l h g) (kp : ∀ {b o}, h.get? b = some o → h₁.get? b = some o ∧ b < L) (e : h.get? a = some o) (m : a ∈ hide) (N : News g L h₁ news) : News g L h₁ ((a, o) :: news) :=
  News.one ⟨(kp e).1, Nat.ne_of_lt (kp e).2, G.hid m⟩ N
theorem Grd.isList {hide : List Addr} {l : List Env} {h g : Heap} {a : Addr} {vs : Array Value} (G : Grd hide l h g) (e : h.IsList a vs) (m : a ∉ hide) : g.IsList a vs := by
  obtain ⟨o, ho, r⟩ := e
  exact ⟨o, G.up ho m, r⟩

theorem Grd.new {hide : List Addr} {l : List Env} {h g h₁ : Heap} {L a : Addr} {o : Obj} {news : List (Addr × Obj)} (G : Grd hide l h g) (N : News g L h₁ news) (hm : (a, o) ∈ news) (hne : a ∉ hide) : h.get? a = none := by
  cases q : h.get? a with
  | none => rfl
  | some o' => have := G.up q hne; rw [(N _ hm).2.2] at this; cases this

theorem ne_new {h : Heap} {a b : Addr} {o : Obj} (e : h.get? a = some o) (n : h.get? b = none) : @Ne Nat a b := fun q => by
  have q' : a = b := q
  rw [q', n] at e; cases e
theorem ne_obj {h : Heap} {a b : Addr} {o o' : Obj} (e : h.get? a = some o) (e' : h.get? b = some o') (n : o ≠ o') : @Ne Nat a b := fun q => by
  have q' : a = b := q
  rw [q', e'] at e; cases e; exact n rfl
theorem News.kept0 {g h h' : Heap} {L : Addr} {M' : List Addr} {news : List (Addr × Obj)} (N : News g L h news) (k : Kept M' [] h h') (hM : ∀ p ∈ news, p.1 ∉ M') : News g L h' news := fun p hp => old_of0 N k hp (hM p hp)
theorem News.sub {g h : Heap} {L : Addr} {news news' : List (Addr × Obj)} (N : News g L h news) (hs : ∀ p ∈ news', p ∈ news) : News g L h news' := fun p hp => N p (hs p hp)

theorem ne_objc {h : Heap} {a b : Addr} {o o' : Obj} (e : h.get? a = some o) (e' : h.get? b = some o') (n : o.cls ≠ o'.cls) : @Ne Nat a b := ne_obj e e' fun q => n (congrArg _ q)
theorem cID {d : Addr} {es : List DictEntry} {n : Nat} : (instObj 52 d).cls ≠ (dictOf es n).cls := by simp
theorem cIL {d : Addr} {a : Array Value} {n : Nat} : (instObj 52 d).cls ≠ (listOf a n).cls := by simp
theorem cDL {a : Array Value} {es : List DictEntry} {n m : Nat} : (dictOf es n).cls ≠ (listOf a m).cls := by simp
theorem cIT {d : Addr} {ps : Array Value} : (instObj 52 d).cls ≠ (tabObj ps).cls := by simp
theorem cDT {es : List DictEntry} {n : Nat} {ps : Array Value} : (dictOf es n).cls ≠ (tabObj ps).cls := by simp
theorem cLT {a : Array Value} {n : Nat} {ps : Array Value} : (listOf a n).cls ≠ (tabObj ps).cls := by simp
theorem tupT {o : Obj} {ps : Array Value} (h : o.cls = .type "tuple") : o.cls ≠ (tabObj ps).cls := by rw [h]; simp
theorem tupI {o : Obj} {d : Addr} (h : o.cls = .type "tuple") : o.cls ≠ (instObj 52 d).cls := by rw [h]; simp
theorem tupD {o : Obj} {es : List DictEntry} {n : Nat} (h : o.cls = .type "tuple") : o.cls ≠ (dictOf es n).cls := by rw [h]; simp
theorem tupL {o : Obj} {a : Array Value} {n : Nat} (h : o.cls = .type "tuple") : o.cls ≠ (listOf a n).cls := by rw [h]; simp
theorem Grd.none_up {hide : List Addr} {l : List Env} {h g h₁ : Heap} {L b : Addr} {m : Str → Option Value} (G : Grd hide l h g) (F : Fr g L h₁ m) (hx : ∀ a ∈ hide, ∃ o, h₁.get? a = some o) (e : h₁.get? b = none) : h.get? b = none := by
  cases q : h.get? b with
  | none => rfl
  | some o =>
    by_cases z : b ∈ hide
    · obtain ⟨o', ho'⟩ := hx b z
      rw [e] at ho'; cases ho'
    · have := F.keep _ _ (G.up q z)
      rw [e] at this; cases this
theorem exC {h₁ : Heap} {a : Addr} {r : List Addr} {o : Obj} (e : h₁.get? a = some o) (y : ∀ a ∈ r, ∃ o, h₁.get? a = some o) : ∀ b ∈ a :: r, ∃ o, h₁.get? b = some o := fun b hb => by
  rcases List.mem_cons.mp hb with rfl | hb
  · exact ⟨o, e⟩
  · exact y b hb
theorem exN {h₁ : Heap} : ∀ b ∈ ([] : List Addr), ∃ o, h₁.get? b = some o := fun _ hb => nomatch hb

theorem loose_of {A₀ : Around} {base g h : Heap} {l : List Env} {env : Env} {L a : Addr} {o : Obj} {news : List (Addr × Obj)} (B : Below A₀ base l g) (hf : env.frame = some L) (N : News g L h news) (hm : (a, o) ∈ news) (hc : isCodeO o = false) : Loose base (env :: l) h a := by
  refine ⟨?_, fun q => ?_, NotCode.of (N _ hm).1 hc⟩
  · cases z : base.get? a with
    | none => rfl
    | some o' => have := B.stays _ _ z; rw [(N _ hm).2.2] at this; cases this
  · obtain ⟨e', he, hfe⟩ := List.mem_filterMap.mp q
    rcases List.mem_cons.mp he with rfl | he
    · rw [hf] at hfe; exact (N _ hm).2.1 (Option.some.inj hfe).symm
    · obtain ⟨_, o', ho', _⟩ := B.frames.mem (List.mem_filterMap.mpr ⟨e', he, hfe⟩)
      have := (N _ hm).2.2
      rw [ho'] at this
      cases this
theorem raise_exit {hide M8 : List Addr} {l : List Env} {env : Env} {h g g' h7 h8 : Heap} {L : Addr} {m : Str → Option Value} (G : Grd hide l h g) (T : KtsTurn (fsOf l) g g') (F : Fr g' L h7 m) (hL : h.get? L = none) (hf : env.frame = some L) (k8 : Kept M8 (fsOf (env :: l)) h7 h8) (hM : ∀ b ∈ M8, h.get? b = none)
    (hfr : ∀ b ∈ fsOf l, ∃ o, h.get? b = some o) : Kept hide (fsOf l) h h8 := by
  refine (G.ke T F).trans k8 (fun b hb => .inr (hM b hb)) (fun b hb => ?_) fun b hb q => ?_
  · obtain ⟨e', he, hfe⟩ := List.mem_filterMap.mp hb
    rcases List.mem_cons.mp he with rfl | he
    · rw [hf] at hfe; cases hfe; exact .inr hL
    · exact .inl (List.mem_filterMap.mpr ⟨e', he, hfe⟩)
  · obtain ⟨o, ho⟩ := hfr b hb
    rw [hM b q] at ho
    cases ho
theorem frames_there {A : Around} {base h : Heap} {l : List Env} (B : Below A base l h) : ∀ b ∈ fsOf l, ∃ o, h.get? b = some o := fun b hb => by
  obtain ⟨_, o, ho, _⟩ := B.frames.mem hb
  exact ⟨o, ho⟩

theorem fill : Challenge.rw_rh0157_01 = Challenge.rw_rh0157_01 ∧ Mine.hd.heap_39 = Mine.hd.heap_39 := by
  k_fill
  exact ⟨rfl, rfl⟩

end
section
open PySem.Builtin PySem.Builtin.ObjectAttr

abbrev excObj (C : Addr) (dct : Option Addr) (vs : Array Value) (sl : Array (Option Value)) : Obj := ⟨.ref C, dct, .fields vs, sl⟩

section
variable {prog : Program} {w : World} {A : Around} {E : Value → Shared → Prop} {s : Shared} {K : Frag} {C x dx L : Addr} {h₀ : Heap} {m : Str → Option Value} {news news' : List (Addr × Obj)} {vs : Array Value} {sl : Array (Option Value)} {es es' : List DictEntry} {n n' : Nat} {name : Str} {v : Value}
  {R : Result → Shared → Prop}

theorem exc_inst (h1 : s.heap.get? x = some (excObj C (some dx) vs sl)) {od : Obj} (h2 : s.heap.get? dx = some od) : InstAt s.heap x (excObj C (some dx) vs sl) C (some od) := ⟨h1, rfl, rfl, h2⟩
theorem exc_inst0 (h1 : s.heap.get? x = some (excObj C none vs sl)) : InstAt s.heap x (excObj C none vs sl) C none := ⟨h1, rfl, rfl, trivial⟩

def excOver (K : Frag) (C : Addr) : Bool := (clsIn K C).any fun cd => cd.mro == [.ref C, .type "Exception", .type "BaseException", .type "object"]

theorem osa_openX {ox : Obj} {od : Option Obj} {tk : Tok} {r : Option Value} (X : K.In s.heap) (I : InstAt s.heap x ox C od) (hp : excOver K C = true) (ht : takerIn K C name = some r)
    (h : ∀ b, wpAny (model prog w) A.in1 (match r with | some a => setByDescriptor a (.ref x) v | none => storeInOwnDict (.ref x) (.ref C) (.str name tk) name v b)
      (fun fin s' => match fin with | .done f => R (.ok f) s' | .again c' => c'.quiet = true ∧ codeAny (model prog w) A c' R s') (fun e s' => R (.error e) s') s) :
    codeAny (model prog w) A (.call (.builtin "object.__setattr__") ⟨[.ref x, .str name tk, v], []⟩) R s := by
  have SF := PySem.F.store_object
  obtain ⟨cd, hc, ho⟩ := any_some hp
  have hmro : cd.mro = [.ref C, .type "Exception", .type "BaseException", .type "object"] := beq_iff_eq.mp ho
  have sub : Looks (model prog w) s.heap (isInstance (.ref x) (.type "object")) true := I.type.andThen (looks_mroIn X (by unfold mroIn; rw [hc, Option.bind_some, hmro]; simp))
  refine codeAny_call_builtin SF.slot.plain SF.entry (@check_slot (model prog w) _ _ s "object.__setattr__" "object" "__setattr__" (.ref x) [.str name tk, v] [] _ SF.kind SF.split sub (SF.args (.ref x) (.str name tk) v) ?_)
  obtain ⟨attr, ha, hr⟩ := Option.bind_eq_some_iff.mp ht
  have hm : Looks (model prog w) s.heap (mroOf (.ref C)) cd.mro := (looks_clsIn X hc).andThen .now
  have L3 : Looks (model prog w) s.heap (storeTaker? attr) r := by
    cases attr with
    | none => cases hr; exact .now
    | some a =>
      obtain ⟨b, hb, rfl⟩ := Option.map_eq_some_iff.mp hr
      refine (looks_takesIn X hb).andThen ?_
      cases b <;> exact .now
  rw [osa_eq, refuse_eq]
  refine wpAny_bind (wpAny_bind (I.type.here (wpAny_bind (hm.here ?_))))
  rw [hmro, refuseLoop_ref, PySem.F.store_Exception.passes]
  exact wpAny_pure (wpAny_bind (I.type.here (wpAny_bind ((looks_findIn X ha).here (wpAny_bind (L3.here (h _)))))))

theorem osa_dictX {od od' : Obj} {tk : Tok} {pre post : List (Addr × Obj)} (F : Fr h₀ L s.heap m) (N : News h₀ L s.heap (pre ++ (dx, od) :: post)) (X : K.In s.heap)
    (hx : s.heap.get? x = some (excObj C (some dx) vs sl)) (hp : excOver K C = true) (ht : takerIn K C name = some none) (hh : hasDictIn K C = true)
    (hl : (lookIn name od).isSome = true) (h1 : ∀ p ∈ pre, p.1 ≠ dx) (h2 : ∀ p ∈ post, p.1 ≠ dx)
    (e : Obj.putName name (PyData.keyHash w.params name) (.str name s.toks) v od = od') (e' : od'.data = .dict es.toArray n) (hz : es.length ≤ 1000)
    (h : ∀ h', Fr h₀ L h' m → News h₀ L h' (pre ++ (dx, od') :: post) → R (.ok (.ret .none)) { s with heap := h', toks := s.toks + 1 }) :
    codeAny (model prog w) A (.call (.builtin "object.__setattr__") ⟨[.ref x, .str name tk, v], []⟩) R s := by
  have D := (N (dx, od) (by simp)).1
  refine osa_openX X (exc_inst hx D) hp ht fun b => ?_
  obtain ⟨cd, hc, hd'⟩ := any_some hh
  obtain ⟨U1, U2⟩ := news_upd (f := Obj.putName name (PyData.keyHash w.params name) (.str name s.toks) v) F N h1 h2 e (by obtain ⟨_, _, dd, _⟩ := od'; cases e'; rfl)
  have D' := (U2 (dx, od') (by simp)).1
  refine wpAny_bind (wpAny_pure (wpAny_bind (wpAny_bind (wpAny_loadPart hx (wpAny_bind ((looks_clsIn X hc).here ?_))))))
  rw [hd']
  refine wpAny_pure (a := some dx) (wpAny_bind (wpAny_pure (wpAny_bind ?_)))
  unfold nsSet
  refine wpAny_bind (wpAny_bind (wpAny_askSetting (wpAny_pure (wpAny_bind (wpAny_mkText (wpAny_bind (wpAny_loadPart D ?_)))))))
  unfold lookIn at hl
  split at hl
  · rename_i es₀ n₀ q
    rw [q]
    dsimp only
    have c : (!es₀.any (·.key.isStr name) && es₀.any (·.refKey)) = false := by
      rw [← Array.any_toList, ← Array.any_toList]
      split at hl
      · rename_i en he
        rw [List.any_eq_true.mpr ⟨en, List.mem_of_find?_eq_some he, List.find?_some he⟩]; rfl
      · split at hl
        · cases hl
        · rename_i z; rw [Bool.not_eq_true] at z; rw [z, Bool.and_false]
    rw [aRefKeyMayBeTheName_at, c]
    refine wpAny_updatePart D ?_
    refine wpAny_bind (wpAny_lookBehind D' (by rw [e']; exact pastItsLine_dict (by rw [List.size_toArray, sizeLine_eq]; omega)) ?_)
    exact wpAny_pure (h _ U1 U2)
  · cases hl

theorem set_exc {Q : Unit → Shared → Prop} (F : Fr h₀ L s.heap m := by k_asm) (X₀ : K.In h₀ := by k_asm) (N : News h₀ L s.heap news := by k_asm) (hx : (x, excObj C (some dx) vs sl) ∈ news := by walk_at "M.mem") (_hdm : (dx, dictOf es n) ∈ news := by walk_at "M.mem")
    (hs : findIn K (.ref C) "__setattr__" = some (some (.builtin "object.__setattr__")) := by k_is) (hp : excOver K C = true := by exact exc_over_80) (ht : takerIn K C name = some none := by k_is) (hh : hasDictIn K C = true := by k_is) (hl : (getL name es).isSome = true := by k_get)
    (e : (putL name (PyData.keyHash w.params name) (.str name (s.toks + 1)) v es, putN name es n) = (es', n') := by k_put) (U : Upd dx (dictOf es n) (dictOf es' n') news news' := by k_upd) (hz : es'.length ≤ 1000 := by exact Nat.le_of_ble_eq_true rfl)
    (h : ∀ h', Fr h₀ L h' m → News h₀ L h' news' → Q () { s with heap := h', toks := s.toks + 2 }) :
    wpAny (model prog w) A (setAttr (.ref x) name v) Q E s := by
  have hx' := (N _ hx).1
  obtain ⟨pre, post, rfl, rfl, a, b⟩ := U.split
  obtain ⟨e1, e2⟩ := Prod.mk.inj e
  exact set_plain (X₀.keeps F.keep) (exc_inst hx' (N (dx, dictOf es n) (by simp)).1) hs
    (osa_dictX (s := { s with toks := s.toks + 1 }) F N (X₀.keeps F.keep) hx' hp ht hh hl a b (by rw [putName_dict, e1, e2]) rfl hz fun h' F' N' => h h' F' N')

theorem osa_dict0X {tk : Tok} {pre post : List (Addr × Obj)} (F : Fr h₀ L s.heap m) (N : News h₀ L s.heap (pre ++ (x, excObj C none vs sl) :: post)) (X : K.In s.heap)
    (hp : excOver K C = true) (ht : takerIn K C name = some none) (hh : hasDictIn K C = true) (h1 : ∀ p ∈ pre, p.1 ≠ x) (h2 : ∀ p ∈ post, p.1 ≠ x)
    (h : ∀ d h', Fr h₀ L h' m → News h₀ L h' ((d, dictOf [⟨PyData.keyHash w.params name, .str name s.toks, v⟩] 1) :: (pre ++ (x, excObj C (some d) vs sl) :: post)) → (∀ p ∈ pre ++ (x, excObj C none vs sl) :: post, p.1 < d) → R (.ok (.ret .none)) { s with heap := h', toks := s.toks + 1 }) :
    codeAny (model prog w) A (.call (.builtin "object.__setattr__") ⟨[.ref x, .str name tk, v], []⟩) R s := by
  have hx := (N (x, excObj C none vs sl) (by simp)).1
  refine osa_openX X (exc_inst0 hx) hp ht fun b => ?_
  obtain ⟨cd, hc, hd'⟩ := any_some hh
  refine wpAny_bind (wpAny_pure (wpAny_bind (wpAny_bind (wpAny_loadPart hx (wpAny_bind ((looks_clsIn X hc).here ?_))))))
  rw [hd']
  have hN : ∀ p ∈ pre ++ (x, excObj C none vs sl) :: post, p.1 < s.heap.objs.size := fun p hp => Heap.lt_size (N p hp).1
  have F₁ := F.push emptyDict
  have N₁ : News h₀ L (s.heap.push emptyDict) ([(s.heap.objs.size, emptyDict)] ++ pre ++ (x, excObj C none vs sl) :: post) := N.push F emptyDict
  have hne : s.heap.objs.size ≠ x := Nat.ne_of_gt (hN (x, excObj C none vs sl) (by simp))
  refine wpAny_bind (wpAny_alloc (wpAny_bind (wpAny_update (N₁ (x, excObj C none vs sl) (by simp)).1 ?_)))
  obtain ⟨F₂, N₂⟩ := news_upd (f := fun o => { o with dict := some s.heap.objs.size }) (o' := excObj C (some s.heap.objs.size) vs sl) F₁ N₁ (fun p hp => by
    rcases List.mem_append.mp hp with hp | hp
    · rw [List.mem_singleton.mp hp]; exact hne
    · exact h1 p hp) h2 rfl rfl
  have D := (N₂ (s.heap.objs.size, emptyDict) (by simp)).1
  refine wpAny_pure (a := some s.heap.objs.size) (wpAny_bind (wpAny_pure (wpAny_bind ?_)))
  unfold nsSet
  refine wpAny_bind (wpAny_bind (wpAny_askSetting (wpAny_pure (wpAny_bind (wpAny_mkText (wpAny_bind (wpAny_loadPart D ?_)))))))
  dsimp only
  rw [aRefKeyMayBeTheName_at]
  have c : (!(#[] : Array DictEntry).any (·.key.isStr name) && (#[] : Array DictEntry).any (·.refKey)) = false := by simp
  rw [c]
  have N₂' : News h₀ L _ ([] ++ (s.heap.objs.size, emptyDict) :: (pre ++ (x, excObj C (some s.heap.objs.size) vs sl) :: post)) := fun p hp => N₂ p (by simpa using hp)
  obtain ⟨F₃, N₃⟩ := news_upd (f := Obj.putName name (PyData.keyHash w.params name) (.str name s.toks) v) (o' := dictOf [⟨PyData.keyHash w.params name, .str name s.toks, v⟩] 1) F₂ N₂' (fun _ hp => nomatch hp) (fun p hp => by
    rcases List.mem_append.mp hp with hp | hp
    · exact Nat.ne_of_lt (hN p (by simp [hp]))
    · rcases List.mem_cons.mp hp with rfl | hp
      · exact hne.symm
      · exact Nat.ne_of_lt (hN p (by simp [hp]))) (by exact putName_dict name _ _ v [] 0) rfl
  refine wpAny_updatePart D ?_
  refine wpAny_bind (wpAny_lookBehind (N₃ _ mm0).1 (pastItsLine_dict (by rw [List.size_toArray, sizeLine_eq, List.length_singleton]; omega)) ?_)
  exact wpAny_pure (h _ _ F₃ N₃ hN)

theorem set_exc0 {Q : Unit → Shared → Prop} {g : Obj → List (Addr × Obj)} (F : Fr h₀ L s.heap m := by k_asm) (X₀ : K.In h₀ := by k_asm) (N : News h₀ L s.heap news := by k_asm) (U : UpdF x (excObj C none vs sl) news g := by k_updF)
    (hs : findIn K (.ref C) "__setattr__" = some (some (.builtin "object.__setattr__")) := by k_is) (hp : excOver K C = true := by exact exc_over_80) (ht : takerIn K C name = some none := by k_is) (hh : hasDictIn K C = true := by k_is)
    (h : ∀ d h', Fr h₀ L h' m → News h₀ L h' ((d, dictOf [⟨PyData.keyHash w.params name, .str name (s.toks + 1), v⟩] 1) :: g (excObj C (some d) vs sl)) → (∀ p ∈ news, p.1 < d) → Q () { s with heap := h', toks := s.toks + 2 }) :
    wpAny (model prog w) A (setAttr (.ref x) name v) Q E s := by
  obtain ⟨pre, post, rfl, hg, a, b⟩ := U.split
  refine set_plain (X₀.keeps F.keep) (exc_inst0 (N (x, excObj C none vs sl) (by simp)).1) hs
    (osa_dict0X (s := { s with toks := s.toks + 1 }) F N (X₀.keeps F.keep) hp ht hh a b fun d h' F' N' hd => h d h' F' (by rw [hg]; exact N') hd)

theorem slot_exc_ga : Slot "Exception" "__getattribute__" "BaseException.__getattribute__" :=
  .of (owner := "BaseException") (n := "__getattribute__") (by rw [typeLookup_type, builtinLookup_eq_fast]; kernel_rfl) (by decide +kernel) (by decide +kernel) (by decide +kernel)
    (by first | exact .inl (by decide +kernel) | exact .inr (by decide +kernel)) (by rw [isSubtype_type]; kernel_rfl)

theorem get_exc {Q : Value → Shared → Prop} {expr : Bool} {dct : Addr} (F : Fr h₀ L s.heap m := by k_asm) (X₀ : K.In h₀ := by k_asm) (N : News h₀ L s.heap news := by k_asm) (hx : (x, excObj C (some dct) vs sl) ∈ news := by walk_at "M.mem") (hdm : (dct, dictOf es n) ∈ news := by walk_at "M.mem")
    (hga : findIn K (.ref C) "__getattribute__" = some (some (.builtin "BaseException.__getattribute__")) := by k_is) (hgh : findIn K (.ref C) "__getattr__" = some none := by k_is) (hb : mroIn K C (.type "BaseException") = some true := by k_is)
    (hh : hasDictIn K C = true := by k_is) (ha : findIn K (.ref C) name = some none := by k_is) (hl : getL name es = some (some v) := by k_get) (hv : handedIn v = true := by k_handed) (h : Q v { s with toks := s.toks + 1 }) :
    wpAny (model prog w) A (getAttr (.ref x) name expr) Q E s := by
  have X := X₀.keeps F.keep
  have I : InstAt s.heap x (excObj C (some dct) vs sl) C (some (dictOf es n)) := exc_inst (N _ hx).1 (N _ hdm).1
  have L0 := I.type (M := model prog w)
  have L1 := looks_findIn (M := model prog w) X hga
  have L2 := looks_findIn (M := model prog w) X hgh
  have L3 := looks_find (M := model prog w) X I (findObj_own hh ha rfl hl)
  have L4 : Looks (model prog w) s.heap (isInstance (.ref x) (.type "BaseException")) true := I.type.andThen (looks_mroIn X hb)
  obtain ⟨hhp, gg, d, t, os⟩ := s
  unfold getAttr getAttrBy
  refine wpAny_bind (wpAny_mkText (wpAny_holding (wpAny_bind (L0.at (wpAny_bind (L1.at ?_))))))
  have c1 : (Value.builtin "BaseException.__getattribute__" == Value.builtin "object.__getattribute__") = false := by decide +kernel
  show wpAny _ _ (if (onTheHeap (Value.ref C) && Value.builtin "BaseException.__getattribute__" == Value.builtin "object.__getattribute__") = true then _ else _) _ _ _
  rw [c1, Bool.and_false]
  show wpAny _ _ (getAttrByItsOwn _ _ _ _ _ _) _ _ _
  unfold getAttrByItsOwn
  refine wpAny_bind (L2.at (wpAny_bind (wpAny_attempt (wpAny_holding ?_))))
  have c2 : (expr && onTheHeap (Value.builtin "BaseException.__getattribute__")) = false := by cases expr <;> rfl
  unfold callGetattribute
  rw [c2]
  show wpAny _ _ (boundAndCalled _ _ _) _ _ _
  unfold boundAndCalled
  rw [slot_exc_ga.bind]
  refine wpAny_bind (wpAny_pure (wpAny_call (codeAny_call_builtin slot_exc_ga.plain PySem.F.entry_bexc_ga (@check_slot (model prog w) _ _ _ "BaseException.__getattribute__" "BaseException" "__getattribute__" (.ref x) [.str name t] [] _ (by decide +kernel) (by decide +kernel) L4 (PySem.F.args_bexc_ga _ _) ?_))))
  unfold Builtin.«object.__getattribute__»
  refine wpAny_bind (wpAny_pure (wpAny_bind (wpAny_pure (wpAny_bind (L0.at (wpAny_bind (L3.at ?_)))))))
  refine wpAny_pure ?_
  show wpAny _ _ (handedOut v) _ _ _
  rw [handedOut_of hv]
  exact wpAny_pure h
end

end
set_option hygiene false
local macro_rules | `(tactic| walk_at "M.mem") => `(tactic| first | exact mm0 | exact mm1 | exact mm2 | exact mm3 | (refine mt4 ?_; walk_at "M.mem"))
set_option hygiene true
set_option hygiene false
local macro_rules | `(tactic| k_mem) => `(tactic| walk_at "M.mem")
set_option hygiene true
local macro_rules | `(tactic| k_room) => `(tactic| ((try simp only [depth_under_make, depth_under_kw, depth_in1, depth_deeper]); (rename Pre _ _ _ _ _ _ _ _ _ _ _ => hP'); (have hr' := hP'.rm); (show _ < 1000); omega))
local macro_rules | `(tactic| walk_at "setAttr ref") => `(tactic| (k_here; k_dflt (first | (refine' set_exc (h := ?_); k_whole; intro h' F' N'; (try k_sweep)) | (refine' set_exc0 (h := ?_); k_whole; intro d' h' F' N' l1; (try dsimp only at N'); (try k_lt l1); (try k_sweep)))))
local macro_rules | `(tactic| walk_at "getAttr ref") => `(tactic| (k_here; k_dflt (refine' get_exc (h := ?_); k_whole)))
set_option hygiene false
local macro_rules | `(tactic| walk_at "M.off") => `(tactic| first | exact nm_nil | (refine nm_cons ?_ ?_ <;> first | assumption | exact Ne.symm (by assumption) | omega | walk_at "M.off"))
set_option hygiene true
section
theorem off_B3 : True := by
  w_top off
  exact True.intro
theorem fillX : Challenge.rw_rh0157_01 = Challenge.rw_rh0157_01 ∧ Mine.hd.heap_39 = Mine.hd.heap_39 := by
  k_fill
  exact ⟨rfl, rfl⟩
theorem excOver_of {K : Frag} {C : Addr} {cd : ClassData} (e : clsIn K C = some cd) (h : (cd.mro == [.ref C, .type "Exception", .type "BaseException", .type "object"]) = true) : excOver K C = true := by
  unfold excOver
  rw [e]
  exact h
theorem exc_over_80 {w : World} : excOver (Mine.hd.heap_39 w.params) 80 = true := by
  refine' excOver_of ?a ?b
  case a => k_is
  case b => decide +kernel

theorem frames_tc {A : Around} {args : Args} : (A.under (.builtin "type.__call__" args)).frames = A.frames := by
  show pushEnvs (Code.envs (.builtin "type.__call__" args)) A.frames = A.frames
  rfl

abbrev luaEs (w : World) (v : Value) (tr : Addr) (b : Bool) (k1 k2 k3 : Tok) : List DictEntry :=
  [⟨PyData.keyHash w.params (Str.ofString "value"), .str (Str.ofString "value") k1, v⟩, ⟨PyData.keyHash w.params (Str.ofString "trace"), .str (Str.ofString "trace") k2, .ref tr⟩, ⟨PyData.keyHash w.params (Str.ofString "is_in_handler"), .str (Str.ofString "is_in_handler") k3, .bool b⟩]

theorem luaInit_spec {hn : Nat} {prog : Program} {w : World} {p : Program} {loose : List Str} {mean : ExcName → Option Value} {mg mb : Str → Option Value} {A : Around} {base : Heap} {l : List Env} {s : Shared} {R : Result → Shared → Prop}
    (P : Pre (Mine.hd.heap_39 w.params) p loose mean mg mb A base l s.heap hn) {e t : Addr} {v : Value} (he : s.heap.get? e = some (excObj 80 none #[.ref t, .none, .none, .none, .bool false, .none] #[])) (hb : Loose base l s.heap e)
    (h : ∀ h' d tr k1 k2 k3 tk, Kept [e] [] s.heap h' → h'.get? e = some (excObj 80 (some d) #[.ref t, .none, .none, .none, .bool false, .none] #[]) → h'.get? d = some (dictOf (luaEs w v tr false k1 k2 k3) 3) → s.heap.get? d = none → R (.ok (.ret .none)) { s with heap := h', toks := tk }) :
    codeAny (model prog w) A (.call (.ref 77) ⟨[.ref e, v], []⟩) R s := by
  refine' enter P [e] [(Str.ofString "self", .ref e), (Str.ofString "value", v)] (loose1 hb) ?k6 ?k7 ?k9 ?kB ?_ ?c2 ?c3 ?c4 ?c5
  case k6 => k_is
  case k7 => k_is
  case k9 => exact BindsTo.of_eq rfl
  case kB => exact locs rfl
  case c2 => exact rfl
  case c3 => exact rfl
  case c4 => exact rfl
  case c5 => decide
  intro g L h₁ G F kp hL B D X T
  try dsimp only
  k_fold
  have N := G.news1 kp he mm0 News.nil
  clear kp
  (repeat' (first | walk1 | (dsimp only; walk1)))
  show R _ _
  rename Fr _ _ _ _ => hF
  rename News _ _ _ _ => hN
  exact h _ _ _ _ _ _ _ (G.ke0 hF) (hN _ mm2).1 (hN _ mm1).1 (G.new hN mm1 (by walk_at "M.off"))

theorem with_obj {K : Frag} {h : Heap} {a : Addr} {o : Obj} {G : Prop} (X : K.In h) (e : K.lookup a = some o) (k : h.get? a = some o → G) : G := k (X _ _ e)

theorem cls80 {w : World} {h : Heap} (X : (Mine.hd.heap_39 w.params).In h) : ∃ nm q bs k0 k1 k2 k3 k5 mN oI, h.get? 80 = some (excClassObj nm q 80 79 bs [.type "Exception", .type "BaseException", .type "object"] true [] [] false none none k0 k1 k2 k3 k5 "Exception.__new__") ∧
    h.Ns 79 mN ∧ mN "__init__" = some (.ref 77) ∧ h.get? 77 = some oI ∧ oI.cls = .type "function" := by
  refine' with_obj X ?k (a := 80) ?_
  case k => k_is
  intro h1
  refine' with_obj X ?k (a := 79) ?_
  case k => k_is
  intro h2
  refine' with_obj X ?k (a := 77) ?_
  case k => k_is
  intro h3
  refine ⟨_, _, _, _, _, _, _, _, fun x => nsFind _ x, _, h1, ⟨_, _, _, h2, rfl, ?_, fun _ => rfl⟩, ?_, h3, rfl⟩
  · intro e he
    simp only [List.mem_toArray, List.mem_cons, List.not_mem_nil, or_false] at he
    rcases he with rfl | rfl | rfl | rfl | rfl | rfl <;> exact ⟨_, _, rfl⟩
  · rfl

theorem lua_spec {hn : Nat} {prog : Program} {w : World} {p : Program} {loose : List Str} {mean : ExcName → Option Value} {mg mb : Str → Option Value} {A : Around} {base : Heap} {l : List Env} {s : Shared} {Q : Value → Shared → Prop} {E : Value → Shared → Prop}
    (P : Pre (Mine.hd.heap_39 w.params) p loose mean mg mb A base l s.heap (hn + 1)) {v : Value}
    (h : ∀ h' e t d tr k1 k2 k3 tk, Kept [] [] s.heap h' → h'.get? e = some (excObj 80 (some d) #[.ref t, .none, .none, .none, .bool false, .none] #[]) → h'.get? d = some (dictOf (luaEs w v tr false k1 k2 k3) 3) → s.heap.get? e = none → s.heap.get? d = none → Q (.ref e) { s with heap := h', toks := tk }) :
    wpAny (model prog w) A (call (.ref 80) [v]) Q E s := by
  have X := P.X.keeps P.B.stays
  obtain ⟨nm, q, bs, k0, k1, k2, k3, k5, mN, oI, c1, c2, c3, c4, c5⟩ := cls80 X
  obtain ⟨hh, g, dr, tk, os⟩ := s
  refine wpAny_call_exc_init PySem.F.excBase_Exception c1 c2 c3 c4 c5 (fun h' e M => ?_)
  obtain ⟨t, m1, m2, m3⟩ := M.there
  have P' : Pre (Mine.hd.heap_39 w.params) p loose mean mg mb (A.under (.builtin "type.__call__" ⟨[.ref 80, v], []⟩)) base l h' hn := by
    refine ⟨⟨frames_tc.trans P.B.stack, fun b o e => M.keeps _ _ (P.B.stays b o e), P.B.frames.of_keeps fun b o e _ => ⟨o, M.keeps _ _ e, rfl⟩⟩, fun b hb => ?_, P.X, P.T, P.H1, P.H2, ?_, ?_⟩
    · obtain ⟨o, es, n, ho, hd⟩ := P.D b hb
      exact ⟨o, es, n, M.keeps _ _ ho, hd⟩
    · have := P.rm; show A.depth + 1 + hn ≤ 600; omega
    · have := P.un; show A.units + 1 + 4 * hn ≤ 3000; omega
  have hb : Loose base l h' e := ⟨(P.fresh M.new).1, (P.fresh M.new).2, NotCode.of m1 rfl⟩
  refine wpAny_call (luaInit_spec (s := ⟨h', g, dr, tk, os⟩) P' m1 hb fun h₂ d tr k1 k2 k3 tk' kp e1 e2 en => ⟨rfl, ?_⟩)
  refine h h₂ e t d tr k1 k2 k3 tk' ((Kept.of_keeps (M := []) (fs := []) M.keeps).trans kp (fun b hb => ?_) (fun b hb => nomatch hb) (fun b hb => nomatch hb)) e1 e2 M.new ?_
  · rw [List.mem_singleton.mp hb]; exact .inr M.new
  · cases z : hh.get? d with
    | none => rfl
    | some o => have := M.keeps _ _ z; rw [en] at this; cases this

end
section

def Flown (e T : Addr) (dct : Option Addr) (x2 fl : Value) (h : Heap) : Prop :=
  ∃ vs sl oT ts, h.get? e = some (excObj 80 dct vs sl) ∧ vs[1]? = some (.ref T) ∧ vs[2]? = some x2 ∧ h.get? T = some oT ∧ oT.data = .fields ts ∧ ts[3]? = some fl ∧ T ≠ e ∧ ∃ lt, ts[1]? = some (.ref lt)

theorem flownEl {e T : Addr} {dct : Option Addr} {x2 fl : Value} {h : Heap} (x : Flown e T dct x2 fl h) {C : Prop}
    (c : ∀ vs sl oT ts, h.get? e = some (excObj 80 dct vs sl) → (vs[1]? = some (.ref T) ∧ vs[2]? = some x2 ∧ h.get? T = some oT ∧ oT.data = .fields ts ∧ ts[3]? = some fl ∧ T ≠ e ∧ ∃ lt, ts[1]? = some (.ref lt)) → C) : C := by
  obtain ⟨vs, sl, oT, ts, a, b⟩ := x
  exact c vs sl oT ts a b

def Fresh (e : Addr) (dct : Option Addr) (x2 : Value) (h : Heap) : Prop :=
  ∃ vs sl, h.get? e = some (excObj 80 dct vs sl) ∧ vs[1]? = some .none ∧ vs[2]? = some x2

section
variable {M : Model} {A : Around} {E : Value → Shared → Prop} {s : Shared} {base : Heap} {env : Env} {l : List Env} {L e T : Addr} {dct : Option Addr} {x2 fl : Value}

theorem Flown.keeps {h h' : Heap} (x : Flown e T dct x2 fl h) (k : ∀ b o, h.get? b = some o → b = e ∨ b = T → h'.get? b = some o) : Flown e T dct x2 fl h' := by
  obtain ⟨vs, sl, oT, ts, h1, h2, h3, h4, h5, h6, h7, h8⟩ := x
  exact ⟨vs, sl, oT, ts, k _ _ h1 (.inl rfl), h2, h3, k _ _ h4 (.inr rfl), h5, h6, h7, h8⟩

theorem entry_at {Q : Unit → Shared → Prop} {vs : Array Value} {sl : Array (Option Value)} {head : Value} {hadNext : Bool}
    (hfr : A.frames = some (env :: l)) (hl : s.heap.FunFrames base (env :: l)) (hf : env.frame = some L)
    (he : s.heap.get? e = some (excObj 80 dct vs sl)) (hsz : 1 < vs.size) (hcd : isCodeO (excObj 80 dct vs sl) = false) (h2 : vs[2]? = some x2)
    (h : ∀ h' T, Kept [e] (fsOf (env :: l)) s.heap h' → s.heap.get? T = none → Flown e T dct x2 (rawInt L) h' → Q () { s with heap := h' }) :
    wpAny M A (do let a ← frameOf env; let pl ← entryPlaceOf L hadNext; let b ← EntryCells.newEntry head a .none (rawInt L) .none pl; setField (.ref e) 1 b) Q E s := by
  have hene : e ∉ fsOf (env :: l) := fun hm => by
    obtain ⟨_, o, ho, hnf⟩ := hl.mem hm
    rw [he] at ho; injection ho with ho; subst ho; exact hnf vs rfl
  refine wpAny_bind (wpAny_frameOf_fun hfr hl hf fun h₁ hs₁ => ?_)
  refine wpAny_bind (wpAny_entryPlaceOf fun pl hpl => ?_)
  unfold EntryCells.newEntry newFields
  refine wpAny_bind (wpAny_newObj_type ?_ (hpl.sizeOk5 _ _ _ _ _))
  have he₁ : h₁.get? e = some (excObj 80 dct vs sl) := (hs₁.2.1 e hene).trans he
  have he₂ := Heap.get?_push_of_some (h := h₁) { cls := .type "traceback", dict := none, data := .fields ([head, .ref L, .none, rawInt L, .none] ++ (if pl.isEmpty then List.replicate 6 Value.none else pl)).toArray } he₁
  refine wpAny_setField he₂ rfl hsz (h _ h₁.objs.size ?_ ?_ ?_)
  · have keep : ∀ b o, b ≠ e → h₁.get? b = some o →
        ((h₁.push { cls := .type "traceback", dict := none, data := .fields ([head, .ref L, .none, rawInt L, .none] ++ (if pl.isEmpty then List.replicate 6 Value.none else pl)).toArray }).update e (Obj.mapFields (·.setIfInBounds 1 (Value.ref h₁.objs.size)))).get? b = some o :=
      fun b o hbe hb => by
        rw [Heap.get?_update_other _ _ (Ne.symm hbe)]
        exact Heap.get?_push_of_some _ hb
    refine ⟨fun b o ho c => keep b o (fun q => by rw [q, he] at ho; cases ho; rw [hcd] at c; cases c) ((hs₁.2.1 b fun q => ?_).trans ho), fun b o ho nm nf => keep b o (fun q => nm (by rw [q]; exact .head _)) ((hs₁.2.1 b nf).trans ho), fun b o ho mf => ?_⟩
    · obtain ⟨_, o', ho', hnf⟩ := hl.mem q
      rw [ho] at ho'; injection ho' with ho'; subst ho'
      unfold isCodeO at c
      split at c
      · rename_i vs' hd; exact hnf vs' hd
      · cases c
    obtain ⟨sl', hs⟩ := hs₁.2.2 b o ho
    exact ⟨sl', keep b _ (fun q => hene (q ▸ mf)) hs⟩
  · exact Heap.get?_none_of_le (by rw [hs₁.1]; exact Nat.le_refl _)
  · have hTe : h₁.objs.size ≠ e := Nat.ne_of_gt (Heap.lt_size he₁)
    refine ⟨vs.setIfInBounds 1 (.ref h₁.objs.size), sl, _, _, Heap.get?_update_self (Obj.mapFields (·.setIfInBounds 1 (Value.ref h₁.objs.size))) he₂ rfl, by simp [hsz], ?_, (Heap.get?_update_other _ _ (Ne.symm hTe)).trans (Heap.get?_push_size h₁ rfl), rfl, ?_, hTe, L, ?_⟩
    · rw [Array.getElem?_setIfInBounds_ne (by decide)]; exact h2
    · first | (simp; done) | (rcases hpl with rfl | ⟨_, _, _, _, _, _, _, rfl⟩ <;> simp)
    · first | (simp; done) | (rcases hpl with rfl | ⟨_, _, _, _, _, _, _, rfl⟩ <;> simp)

theorem note_first {Q : Unit → Shared → Prop} (B : Below A base (env :: l) s.heap) (hf : env.frame = some L) (x : Fresh e dct x2 s.heap)
    (h : ∀ h' T, Kept [e] (fsOf (env :: l)) s.heap h' → s.heap.get? T = none → Flown e T dct x2 (rawInt L) h' → Q () { s with heap := h' }) :
    wpAny M A (noteFrame (.ref e) env) Q E s := by
  obtain ⟨vs, sl, he, h1, h2⟩ := x
  unfold noteFrame
  simp only [hf]
  refine wpAny_bind (wpAny_field he rfl h1 ?_)
  rw [if_neg (by decide)]
  exact entry_at B.stack B.frames hf he (Array.getElem?_eq_some_iff.mp h1).1 (isCodeO_ref rfl h1 fun _ _ q => nomatch q) h2 h

theorem note_next {Q : Unit → Shared → Prop} (B : Below A base (env :: l) s.heap) (hf : env.frame = some L) (x : Flown e T dct x2 .none s.heap)
    (h : ∀ h' T', Kept [e, T] (fsOf (env :: l)) s.heap h' → s.heap.get? T' = none → Flown e T' dct x2 (rawInt L) h' → Q () { s with heap := h' }) :
    wpAny M A (noteFrame (.ref e) env) Q E s := by
  obtain ⟨vs, sl, oT, ts, he, h1, h2, hT, hdT, h3, hTe, lt, h8⟩ := x
  unfold noteFrame
  simp only [hf]
  refine wpAny_bind (wpAny_field he rfl h1 ?_)
  rw [if_pos (show (Value.ref T != Value.none) = true from by simp)]
  refine wpAny_bind (wpAny_field hT hdT h3 ?_)
  rw [if_neg (show ¬ ((Value.none == rawInt L) = true) from by simp [rawInt])]
  refine wpAny_bind (wpAny_setField hT hdT (Array.getElem?_eq_some_iff.mp h3).1 ?_)
  have other : ∀ b, b ≠ T → (s.heap.update T (Obj.mapFields (·.setIfInBounds 3 Value.none))).get? b = s.heap.get? b := fun b hb => Heap.get?_update_other _ _ (Ne.symm hb)
  have hTf : T ∉ fsOf (env :: l) := fun hm => by
    obtain ⟨_, o, ho, hnf⟩ := B.frames.mem hm
    rw [hT] at ho; injection ho with ho; subst ho; exact hnf ts hdT
  have k1 : Kept [T] (fsOf (env :: l)) s.heap (s.heap.update T (Obj.mapFields (·.setIfInBounds 3 Value.none))) :=
    ⟨fun b o ho c => (other b fun q => by rw [q, hT] at ho; cases ho; rw [isCodeO_ref hdT h8 fun _ _ q => nomatch q] at c; cases c).trans ho, fun b o ho nm _ => (other b fun q => nm (by rw [q]; exact .head _)).trans ho, fun b o ho mf => ⟨o.slots, (other b fun q => hTf (q ▸ mf)).trans ho⟩⟩
  refine entry_at (s := { s with heap := s.heap.update T (Obj.mapFields (·.setIfInBounds 3 Value.none)) }) B.stack (B.frames.of_keeps fun b o ho hnf => ⟨o, (other b fun q => by rw [q, hT] at ho; cases ho; exact hnf ts hdT).trans ho, rfl⟩) hf ((other e (Ne.symm hTe)).trans he) (Array.getElem?_eq_some_iff.mp h1).1 (isCodeO_ref rfl h1 fun _ _ q => nomatch q) h2 fun h' T' k hT' fl => ?_
  have heF : e ∉ fsOf (env :: l) := fun hm => by
    obtain ⟨_, o, ho, hnf⟩ := B.frames.mem hm
    rw [he] at ho; injection ho with ho; subst ho; exact hnf vs rfl
  refine h h' T' ((k1.mono (fun b hb => .inl (by rw [List.mem_singleton.mp hb]; exact .tail _ mm0)) (fun b hb => .inl hb) fun b hb q => hTf (by rw [← List.mem_singleton.mp q]; exact hb)).trans k (fun b hb => .inl (by rw [List.mem_singleton.mp hb]; exact .head _)) (fun b hb => .inl hb) fun b hb q => heF (by rw [← List.mem_singleton.mp q]; exact hb)) ?_ fl
  cases q : s.heap.get? T' with
  | none => rfl
  | some o =>
    by_cases z : T' = T
    · have hq := Heap.get?_update_self (Obj.mapFields (·.setIfInBounds 3 Value.none)) hT (Obj.isFreed_of_fields (Obj.data_mapFields hdT _))
      rw [← z] at hq
      have hT'' : (s.heap.update T' (Obj.mapFields (·.setIfInBounds 3 Value.none))).get? T' = none := by rw [z] at hT' ⊢; exact hT'
      rw [hT''] at hq; cases hq
    · have := (other T' z).trans q
      have hT'' : (s.heap.update T (Obj.mapFields (·.setIfInBounds 3 Value.none))).get? T' = none := hT'
      rw [hT''] at this; cases this

theorem land {Q : Unit → Shared → Prop} (x : Flown e T dct x2 fl s.heap) (h : ∀ h', Kept [T] [] s.heap h' → Flown e T dct x2 .none h' → Q () { s with heap := h' }) : wpAny M A (setFlight (.ref e) none) Q E s := by
  obtain ⟨vs, sl, oT, ts, he, h1, h2, hT, hdT, h3, hTe, lt, h8⟩ := x
  have hsz : 3 < ts.size := (Array.getElem?_eq_some_iff.mp h3).1
  have other : ∀ b, b ≠ T → (s.heap.update T (Obj.mapFields (·.setIfInBounds 3 Value.none))).get? b = s.heap.get? b := fun b hb => Heap.get?_update_other _ _ (Ne.symm hb)
  refine wpAny_setFlight_none he rfl h1 hT hdT hsz (h _ ⟨fun b o ho c => (other b fun q => by rw [q, hT] at ho; cases ho; rw [isCodeO_ref hdT h8 fun _ _ q => nomatch q] at c; cases c).trans ho, fun b o ho nm _ => (other b fun q => nm (by rw [q]; exact .head _)).trans ho, fun b o ho m => nomatch m⟩ ?_)
  exact ⟨vs, sl, _, _, (other e (Ne.symm hTe)).trans he, h1, h2, Heap.get?_update_self _ hT (Obj.isFreed_of_fields (Obj.data_mapFields hdT _)), Obj.data_mapFields hdT _, by simp [hsz], hTe, lt, by rw [Array.getElem?_setIfInBounds_ne (by decide)]; exact h8⟩
end

end
section

abbrev newExcObj (t d : Addr) : Obj := excObj 80 (some d) #[.ref t, .none, .none, .none, .bool false, .none] #[]

def Hd (A : Around) (h : Heap) : Prop := A.handled = none ∨ ∃ eh oh vs, A.handled = some (.ref eh) ∧ h.get? eh = some oh ∧ oh.data = .fields vs ∧ vs[2]? = some .none

theorem Hd.keeps {A : Around} {h h' : Heap} (x : Hd A h) (k : ∀ b o, h.get? b = some o → (∃ vs, o.data = .fields vs) → A.handled = some (.ref b) → h'.get? b = some o) : Hd A h' := by
  rcases x with x | ⟨eh, oh, vs, x1, x2, x3, x4⟩
  · exact .inl x
  · exact .inr ⟨eh, oh, vs, x1, k _ _ x2 ⟨vs, x3⟩ x1, x3, x4⟩

theorem Hd.ne {A : Around} {h : Heap} {e : Addr} (x : Hd A h) (en : h.get? e = none) : ∀ eh, A.handled = some (.ref eh) → eh ≠ e := fun eh he q => by
  rcases x with x | ⟨eh', oh, vs, x1, x2, x3, x4⟩
  · rw [x] at he; cases he
  · rw [x1] at he; cases he; rw [q, en] at x2; cases x2

theorem entry_unchain : entryFor table "proto.unchain" = some Builtin.«proto.unchain» := entryFor_of_tree (by kernel_rfl)

section
variable {prog : Program} {w : World} {A : Around} {E : Value → Shared → Prop} {s : Shared} {env : Env} {e t d : Addr}

theorem raiseNew_exc {α : Type} {Q : α → Shared → Prop} (hd : Hd A s.heap) (he : s.heap.get? e = some (newExcObj t d)) (hne : ∀ eh, A.handled = some (.ref eh) → eh ≠ e)
    (h : ∀ h', Kept [e] [] s.heap h' → Fresh e (some d) (A.handled.getD .none) h' → E (.ref e) { s with heap := h' }) : wpAny (model prog w) A (raiseNew (.ref e) : Sem α) Q E s := by
  unfold raiseNew
  refine wpAny_bind (wpAny_handled ?_)
  rcases hd with hh | ⟨eh, oh, vs, x1, x2, x3, x4⟩
  · rw [hh]
    refine wpAny_bind (wpAny_pure (wpAny_throw ?_))
    have := h s.heap Kept.refl ⟨_, _, he, rfl, by rw [hh]; rfl⟩
    exact this
  · rw [x1]
    have hn := hne eh x1
    have c : ((Value.ref eh != Value.ref e) = true) := by simp [hn]
    dsimp only
    rw [if_pos c]
    refine wpAny_bind (wpAny_holding (wpAny_runValue (codeAny_builtin entry_unchain ?_)))
    unfold Builtin.«proto.unchain»
    refine wpAny_bind (wpAny_field x2 x3 x4 ?_)
    refine wpAny_pure (a := Fin.done (.ret .none)) ?_
    dsimp only
    refine wpAny_bind (m := setField (.ref e) 2 (.ref eh)) (wpAny_setField he rfl (by simp) (wpAny_throw ?_))
    refine h _ ⟨fun b o ho c => (Heap.get?_update_other _ _ fun q : e = b => by rw [← q, he] at ho; cases ho; cases c).trans ho, fun b o ho nm _ => (Heap.get?_update_other _ _ fun q : e = b => nm (by rw [q]; exact .head _)).trans ho, fun b o ho m => nomatch m⟩ ⟨_, _, Heap.get?_update_self _ he rfl, rfl, ?_⟩
    rw [x1]; rfl

theorem raise_exc {x : Expr} {pos : Pos} {Q : Flow → Shared → Prop}
    (h : wpAny (model prog w) A (eval x env) (fun v s₁ => ∃ e t d, v = .ref e ∧ (Mine.hd.heap_39 w.params).In s₁.heap ∧ s₁.heap.get? e = some (newExcObj t d) ∧ Hd A s₁.heap ∧ (∀ eh, A.handled = some (.ref eh) → eh ≠ e) ∧
      ∀ h', Kept [e] [] s₁.heap h' → Fresh e (some d) (A.handled.getD .none) h' → E (.ref e) { s₁ with heap := h' }) E s) :
    wpAny (model prog w) A (exec (.Raise (some x) none pos) env) Q E s := by
  have key : ∀ X : Sem Value, wpAny (model prog w) A X (fun v s₁ => ∃ e t d, v = .ref e ∧ (Mine.hd.heap_39 w.params).In s₁.heap ∧ s₁.heap.get? e = some (newExcObj t d) ∧ Hd A s₁.heap ∧ (∀ eh, A.handled = some (.ref eh) → eh ≠ e) ∧
      ∀ h', Kept [e] [] s₁.heap h' → Fresh e (some d) (A.handled.getD .none) h' → E (.ref e) { s₁ with heap := h' }) E s → wpAny (model prog w) A (raiseStmt env (some X) none) Q E s := by
    intro X hX
    unfold raiseStmt
    refine wpAny_bind (wpAny_mono hX (fun v s₁ h₁ => ?_) fun _ _ x => x)
    obtain ⟨e, t, d, rfl, K, he, hd, hne, k⟩ := h₁
    obtain ⟨nm, q, bs, k0, k1, k2, k3, k5, mN, oI, hC, -, -, -, -⟩ := cls80 K
    obtain ⟨hp, g, dr, tk, os⟩ := s₁
    have hcB : ([Value.ref 80, .type "Exception", .type "BaseException", .type "object"]).contains (.type "BaseException") = true := by decide +kernel
    repeat (first | with_reducible refine wpAny_loadPart_at he ?_ | with_reducible refine wpAny_loadPart_at hC ?_ | (with_reducible refine wpAny_isSubtype_exc hC ?_; rw [hcB]) | wp_step)
    exact raiseNew_exc hd he hne k
  rw [arm_exec_Raise]
  first
    | exact wpAny_bind (wpAny_standAt (key _ (wpAny_bind (wpAny_mono h (fun v s₁ h₁ => wpAny_bind (wpAny_standAt (wpAny_pure h₁))) fun _ _ x => x))))
    | (simp only [evalOpt, Option.map]; exact wpAny_bind (wpAny_standAt (key _ (wpAny_bind (wpAny_mono h (fun v s₁ h₁ => wpAny_bind (wpAny_standAt (wpAny_pure h₁))) fun _ _ x => x)))))
end

section
variable {M : Model} {A : Around} {E : Value → Shared → Prop} {s : Shared} {base : Heap} {env : Env} {l : List Env} {L e T : Addr} {dct : Option Addr} {x2 fl : Value}

theorem leave_first {Q : Unit → Shared → Prop} (B : Below A base (env :: l) s.heap) (hf : env.frame = some L) (x : Fresh e dct x2 s.heap)
    (h : ∀ h' T, Kept [e] (fsOf (env :: l)) s.heap h' → s.heap.get? T = none → Flown e T dct x2 .none h' → Q () { s with heap := h' }) : wpAny M A (leaving env (.ref e)) Q E s := by
  unfold leaving
  have heF : e ∉ fsOf (env :: l) := fun hm => by
    obtain ⟨vs, sl, he, _⟩ := x
    obtain ⟨_, o, ho, hnf⟩ := B.frames.mem hm
    rw [he] at ho; injection ho with ho; subst ho; exact hnf vs rfl
  refine wpAny_bind (note_first B hf x fun h₁ T k1 hT F1 => land (s := { s with heap := h₁ }) F1 fun h₂ k2 F2 => h h₂ T ?_ hT F2)
  refine k1.trans k2 (fun b hb => by rw [List.mem_singleton.mp hb]; exact .inr hT) (fun b hb => nomatch hb) fun b hb q => ?_
  obtain ⟨_, o, ho, _⟩ := B.frames.mem hb
  rw [List.mem_singleton.mp q, hT] at ho
  cases ho

theorem leave_next {Q : Unit → Shared → Prop} (B : Below A base (env :: l) s.heap) (hf : env.frame = some L) (x : Flown e T dct x2 .none s.heap)
    (h : ∀ h' T', Kept [e, T] (fsOf (env :: l)) s.heap h' → s.heap.get? T' = none → Flown e T' dct x2 .none h' → Q () { s with heap := h' }) : wpAny M A (leaving env (.ref e)) Q E s := by
  unfold leaving
  refine wpAny_bind (note_next B hf x fun h₁ T' k1 hT F1 => land (s := { s with heap := h₁ }) F1 fun h₂ k2 F2 => h h₂ T' ?_ hT F2)
  refine k1.trans k2 (fun b hb => by rw [List.mem_singleton.mp hb]; exact .inr hT) (fun b hb => nomatch hb) fun b hb q => ?_
  obtain ⟨_, o, ho, _⟩ := B.frames.mem hb
  rw [List.mem_singleton.mp q, hT] at ho
  cases ho
end

end
section

section
variable {prog : Program} {w : World} {A : Around} {E : Value → Shared → Prop} {s : Shared}

theorem range_end {it : Addr} {x left step : Int} {Q : Option Value → Shared → Prop} (hd : Hd A s.heap) (hit : IsRangeIter s.heap it x left step) (hleft : left ≤ 0)
    (hQ : ∀ h', Heap.ExtBut it s.heap h' → Q none { s with heap := h' }) : wpAny (model prog w) A (pyNext (.ref it)) Q E s := by
  rcases hd with hh | ⟨eh, oh, vs, x1, x2, x3, x4⟩
  · exact wpAny_pyNext_range_end hh hit hleft hQ
  have hT : s.TypeIs (.ref it) "range_iterator" := ⟨_, hit, rfl⟩
  unfold pyNext
  refine wpAny_bind (wpAny_attempt (wpAny_callSpecial?_slot (name := Str.ofString "__next__") hT PySem.F.slot_range_iterator_next
    (wpAny_call_entry PySem.F.slot_range_iterator_next hT PySem.F.entry_range_iterator_next ?_ (PySem.F.args_range_iterator_next_1 _))))
  show wpAny _ _ (field (.ref it) 0 >>= _) _ _ s
  refine wpAny_bind (wpAny_field hit rfl (x := rawInt x) rfl ?_)
  show wpAny _ _ (field (.ref it) 1 >>= _) _ _ s
  refine wpAny_bind (wpAny_field hit rfl (x := rawInt left) rfl ?_)
  show wpAny _ _ (field (.ref it) 2 >>= _) _ _ s
  refine wpAny_bind (wpAny_field hit rfl (x := rawInt step) rfl ?_)
  show wpAny _ _ (if left ≤ 0 then _ else _) _ _ s
  rw [if_pos hleft]
  refine wpAny_bind (wpAny_rule ?_)
  refine wpAny_bind ?_
  show wpAny _ _ (newExc (.type "StopIteration") [] >>= _) _ _ _
  refine wpAny_bind ?_
  simp only [newExc, newTuple]
  refine wpAny_bind (wpAny_newObj_type ?_ (by size_fits))
  refine wpAny_bind (m := firstArgMember _ _) (wpAny_of_eq (a := Value.none) (by first | rfl | (simp only [firstArgMember]; rfl)) ?_)
  refine wpAny_newObj_type ?_ (by size_fits)
  simp only [raiseNew]
  refine wpAny_bind (wpAny_handled ?_)
  rw [show A.in1.handled = some (.ref eh) from x1]
  have hlt : eh < s.heap.objs.size := Heap.lt_size x2
  have x2' := Heap.get?_push_of_some { cls := Value.type "StopIteration", dict := none, data := .fields (#[.ref s.heap.objs.size, .none, .none, .none, .bool false, .none] ++ ownMembersOf (.type "StopIteration") []) } (Heap.get?_push_of_some { cls := Value.type "tuple", dict := none, data := .seq ([] : List Value).toArray } x2)
  have hsz : (s.heap.push { cls := Value.type "tuple", dict := none, data := .seq ([] : List Value).toArray }).objs.size = s.heap.objs.size + 1 := Heap.size_push ..
  have c : ((Value.ref eh != Value.ref (s.heap.push { cls := Value.type "tuple", dict := none, data := .seq ([] : List Value).toArray }).objs.size) = true) := by
    rw [hsz]; simp; exact Nat.ne_of_lt (Nat.lt_succ_of_lt hlt)
  dsimp only
  rw [if_pos c]
  refine wpAny_bind (wpAny_holding (wpAny_runValue (codeAny_builtin entry_unchain ?_)))
  unfold Builtin.«proto.unchain»
  refine wpAny_bind (wpAny_field x2' x3 x4 ?_)
  refine wpAny_pure (a := Fin.done (.ret .none)) ?_
  dsimp only
  refine wpAny_bind (m := setField (.ref _) 2 (.ref eh)) (wpAny_setField (Heap.get?_push_size _ rfl) rfl (by simp; omega) (wpAny_throw ?_))
  refine wpAny_bind (wpAny_isInstance (T := "StopIteration") (b := true) ⟨_, Heap.get?_update_self _ (Heap.get?_push_size _ rfl) rfl, rfl⟩ isSubtype_stop ?_)
  refine wpAny_pure (hQ _ fun b o hb e => ?_)
  refine (Heap.get?_update_other _ _ (fun q => ?_)).trans ((((Heap.ExtBut.refl it s.heap).push _).push _) b o hb e)
  have := Heap.lt_size e
  rw [← q, hsz] at this
  exact absurd this (Nat.not_lt.mpr (Nat.le_succ _))

theorem walks_range (hd : Hd A s.heap) (I : Addr) (hI : s.heap.objs.size ≤ I) (a c : Int) (n : Nat) :
    Walks prog w A I (I :: (match A.handled with | some (.ref eh) => [eh] | _ => [])) [I] n (fun i v => ∃ t, v = .int (a + i * c) t) (fun i h => IsRangeIter h I (a + (i : Nat) * c) ((n : Int) - (i : Nat)) c ∧ Hd A h) where
  sub := fun _ hb => by rw [List.mem_singleton.mp hb]; exact .head _
  frame := fun _ h h' st hk => ⟨hk I mm0 _ st.1, st.2.keeps fun b o e _ hb => hk b (by rw [hb]; exact .tail _ mm0) o e⟩
  item := fun i s' Q E hi st hQ => by
    refine wpAny_pyNext_range_item st.1 (by omega) fun h' hit' hs' => ?_
    have hne : ∀ b, A.handled = some (.ref b) → b ≠ I := fun b hb q => by
      rcases hd with hh | ⟨eh, oh, vs, x1, x2, x3, x4⟩
      · rw [hh] at hb; cases hb
      · rw [x1] at hb; cases hb
        exact absurd (Heap.lt_size x2) (Nat.not_lt.mpr (q ▸ hI))
    refine hQ _ h' _ ⟨_, rfl⟩ ⟨?_, st.2.keeps fun b o e _ hb => hs'.extBut b o (hne b hb) e⟩ fun b o hb e => hs'.extBut b o (fun h => hb (by simp [h])) e
    have e1 : a + ((i + 1 : Nat) : Int) * c = a + (i : Int) * c + c := by push_cast; rw [Int.add_mul, Int.one_mul, Int.add_assoc]
    have e2 : (n : Int) - ((i + 1 : Nat) : Int) = (n : Int) - (i : Int) - 1 := by push_cast; omega
    rw [e1, e2]; exact hit'
  done := fun s' Q E st hQ => range_end st.2 st.1 (by omega) fun h' he' => hQ h' s'.toks fun b o hb e => he' b o (fun h => hb (by simp [h])) e
  self := fun _ _ _ _ st hQ => wpAny_pyIter_rangeiter st.1 hQ
end
section
variable {prog : Program} {w : World} {A : Around} {E : Value → Shared → Prop} {s : Shared} {env : Env} {h₀ : Heap} {x : Str} {body : List Stmt} {Q : Flow → Shared → Prop}
theorem iter_rangeH {r : Addr} {a₀ b₀ : Int} {t₀ u₀ v₀ : Tok} {n : Nat} {m₀ : Str → Option Value} {news : List (Addr × Obj)} (J : Nat → (Str → Option Value) → List (Addr × Obj) → Prop)
    (hd : Hd A h₀) (hr : IsRange s.heap r a₀ b₀ 1 t₀ u₀ v₀) (hsmall : Builtin.Range.small a₀ b₀ 1 = true) (hn : Builtin.Range.rangeSize a₀ b₀ 1 = (n : Int)) (F : Fr h₀ env.locals s.heap m₀) (N : News h₀ env.locals s.heap news) (hj : J 0 m₀ news)
    (turn : ∀ i t m₁ news₁ h tk own, i < n → news₁.map (·.1) = news.map (·.1) → OwnOff own (news.map (·.1)) → J i m₁ news₁ → Fr h₀ env.locals h (fun y => if y = x then some (.int (a₀ + (i : Int)) t) else m₁ y) → News h₀ env.locals h (news₁ ++ own) →
      wpAny (model prog w) A (execs body env) (InvPostN h₀ env.locals (J (i + 1)) own (news.map (·.1)) { s with heap := h, toks := tk } Q) E { s with heap := h, toks := tk })
    (done : ∀ m₁ news₁ h tk, J n m₁ news₁ → Fr h₀ env.locals h m₁ → News h₀ env.locals h news₁ → Q .next { s with heap := h, toks := tk }) :
    wpAny (model prog w) A (pyIter (.ref r)) (fun it s₂ => LoopAtV prog w A h₀ env x body Q E it s₂) E s := by
  refine wpAny_pyIter_range hr hsmall ?_
  have hds : Hd A s.heap := hd.keeps fun b o e _ _ => F.keep b o e
  have heh : ∀ eh, A.handled = some (.ref eh) → ∃ o, h₀.get? eh = some o := fun eh he => by
    rcases hd with hh | ⟨eh', oh, vs, x1, x2, x3, x4⟩
    · rw [hh] at he; cases he
    · rw [x1] at he; cases he; exact ⟨oh, x2⟩
  have W := (walks_range (prog := prog) (w := w) (s := s) hds s.heap.objs.size (Nat.le_refl _) a₀ 1 n).bound
  have hfpm : ∀ b, b ∈ (s.heap.objs.size :: (match A.handled with | some (.ref eh) => [eh] | _ => []) : List Addr) → b = s.heap.objs.size ∨ A.handled = some (.ref b) := fun b hb => by
    rcases List.mem_cons.mp hb with h1 | h1
    · exact .inl h1
    · split at h1
      · rename_i eh he
        rw [List.mem_singleton.mp h1]; exact .inr he
      · cases h1
  refine loop_invN J W (fun hm => ?_) (fun b hb => ?_) (fun p hp hI => ?_) (fun p hp hI => ?_) ⟨?_, ?_⟩ (F.push _) (fun p hp => ⟨Heap.get?_push_of_some _ (N p hp).1, (N p hp).2⟩) hj ?_ done
  · rcases hfpm _ hm with h1 | h1
    · exact absurd F.ns.lt (h1 ▸ Nat.lt_irrefl _)
    · obtain ⟨o, ho⟩ := heh _ h1
      rw [kts_self F] at ho; cases ho
  · rw [List.mem_singleton.mp hb]
    exact next_is_new F
  · exact absurd (Heap.lt_size (N p hp).1) ((List.mem_singleton.mp hI) ▸ Nat.lt_irrefl _)
  · rcases hfpm _ hI with h1 | h1
    · exact absurd (Heap.lt_size (N p hp).1) (h1 ▸ Nat.lt_irrefl _)
    · obtain ⟨o, ho⟩ := heh _ h1
      rw [(N p hp).2.2] at ho; cases ho
  · show IsRangeIter _ _ _ _ _
    rw [hn]
    simpa using Heap.get?_push_size _ rfl
  · exact hds.keeps fun b o e _ _ => Heap.get?_push_of_some _ e
  · intro i v m₁ news₁ h tk own hi hP hadr hoff hJ F' N'
    obtain ⟨_, t, rfl⟩ := hP
    have := turn i t m₁ news₁ h tk own hi hadr hoff hJ (by simpa using F') N'
    exact this
end

end
section

def TabAt (P : Addr) (pos : Pos) (qual : Str) (h : Heap) : Prop :=
  h.get? P = some (tabObj #[]) ∨ ∃ c', h.get? P = some (tabObj #[rawInt pos.line, rawInt pos.col, .ref c']) ∧ h.CodeRec (.ref c') qual

theorem TabAt.obj {P : Addr} {pos : Pos} {qual : Str} {h : Heap} (x : TabAt P pos qual h) : ∃ ps, h.get? P = some (tabObj ps) ∧ isCodeO (tabObj ps) = false := by
  rcases x with e | ⟨c', e, _⟩
  · exact ⟨_, e, rfl⟩
  · exact ⟨_, e, rfl⟩
theorem codeRec_kept {M fs : List Addr} {h h' : Heap} {c : Value} {q : Str} (x : h.CodeRec c q) (k : Kept M fs h h') : h'.CodeRec c q := by
  obtain ⟨c', oc, vs, t, rfl, hoc, hd, hv⟩ := x
  exact ⟨c', oc, vs, t, rfl, k.code _ _ hoc (by unfold isCodeO; rw [hd]; dsimp only; rw [hv]), hd, hv⟩
theorem TabAt.kept {P : Addr} {pos : Pos} {qual : Str} {M fs : List Addr} {h h' : Heap} (x : TabAt P pos qual h) (k : Kept M fs h h') (hP : P ∉ M) (hf : P ∉ fs) : TabAt P pos qual h' := by
  rcases x with e | ⟨c', e, r⟩
  · exact .inl (k.same _ _ e hP hf)
  · exact .inr ⟨c', k.same _ _ e hP hf, codeRec_kept r k⟩

theorem kept_ext {P : Addr} {h h' : Heap} (hx : Heap.ExtBut P h h') (hc : NotCode h P) : Kept [P] [] h h' :=
  ⟨fun b o e c => hx b o (fun q => by rw [hc o (q ▸ e)] at c; cases c) e, fun b o e nm _ => hx b o (fun q => nm (by rw [q]; exact .head _)) e, fun _ _ _ m => nomatch m⟩
theorem kept_push {h : Heap} {o : Obj} : Kept [] [] h (h.push o) := .of_keeps fun _ _ e => Heap.get?_push_of_some _ e

section
variable {M : Model} {A : Around} {E : Value → Shared → Prop} {s : Shared} {h₀ : Heap} {L a c P : Addr} {m mg mb : Str → Option Value} {cn : Str} {cs : Scope} {ccd : Value} {cl : List (Str × Addr)}
  {p : Program} {loose : List Str} {mean : ExcName → Option Value} {params : Arguments} {scope : Scope} {pos : Pos} {clos : List (Str × Addr)}

theorem top_builtins (F : Fr h₀ L s.heap m) (T : Top p loose mean mg mb h₀) (hP : h₀.get? P = none) : mainGlobals ≠ P ∧ s.heap.BuiltinsAt mg P := by
  obtain ⟨bm, ob, b1, b2, b3, b4, b5, b6⟩ := T.bmain
  have hgP : mainGlobals ≠ P := fun q => by
    obtain ⟨o, es, ep, e, hd, _⟩ := T.g
    rw [q, hP] at e; cases e
  have hbP : bm ≠ P := fun q => by rw [q, hP] at b3; cases b3
  have hbG : bm ≠ mainGlobals := fun q => by
    obtain ⟨o, es, ep, e, hd, _⟩ := T.g
    rw [q, e] at b3; cases b3; rw [hd] at b6; cases b6
  exact ⟨hgP, bm, ob, b1, b2, hbG, hbP, F.keep _ _ b3, b4, b5, b6⟩

theorem fr_ext {h' : Heap} (F : Fr h₀ L s.heap m) (hP : h₀.get? P = none) (hPL : P ≠ L) (hx : Heap.ExtBut P s.heap h') : Fr h₀ L h' m :=
  ⟨F.ns.extBut hx (Ne.symm hPL), fun b o e => hx b o (fun q => by rw [q, hP] at e; cases e) (F.keep b o e), F.above⟩

theorem lam_make {body : Expr} {Q : Value → Shared → Prop} (F : Fr h₀ L s.heap m) (T : Top p loose mean mg mb h₀) (C : CodeHd h₀ c P) (hcd : ccd = .ref c) (hP : h₀.get? P = none) (hPL : P ≠ L)
    (tb : TabAt P pos ((envX cn cs L a ccd cl).qual ++ "<lambda>") s.heap) (hdef : defaultsOf params (envX cn cs L a ccd cl) = ([], [])) (hcl : closureFor scope (envX cn cs L a ccd cl) = pure clos)
    (h : ∀ f c' pm ctv h' tk, Fr h₀ L h' m → Kept [P] [] s.heap h' → TabAt P pos ((envX cn cs L a ccd cl).qual ++ "<lambda>") h' → s.heap.get? f = none → h'.get? f = some (kla_obj "<lambda>" ((envX cn cs L a ccd cl).qual ++ "<lambda>") params body scope clos pm c' ctv) → h'.CodeRec (.ref c') ((envX cn cs L a ccd cl).qual ++ "<lambda>") → Q (.ref f) { s with heap := h', toks := tk }) :
    wpAny M A (eval (.Lambda params body scope pos) (envX cn cs L a ccd cl)) Q E s := by
  obtain ⟨hgP, hb⟩ := top_builtins F T hP
  obtain ⟨ps, hps, hpc⟩ := tb.obj
  have hnc : NotCode s.heap P := NotCode.of hps hpc
  refine kla_eval hdef ?_
  rcases tb with e | ⟨c', e, r⟩
  · refine kla_makeFunction (mg := mg) hcl rfl (T.g.keeps F.keep) hcd (C.keeps F.keep) e True.intro rfl hgP hb fun c' ctv h' tk hx hge hlt hrec htb => ?_
    have k1 := (kept_ext hx hnc).trans (kept_push (o := kla_obj "<lambda>" ((envX cn cs L a ccd cl).qual ++ "<lambda>") params body scope clos ((mg "__name__").getD .none) c' ctv)) (fun _ hb => nomatch hb) (fun _ hb => nomatch hb) fun _ hb => nomatch hb
    refine h h'.objs.size c' _ ctv _ tk ((fr_ext F hP hPL hx).push _) k1 (.inr ⟨c', Heap.get?_push_of_some _ htb, codeRec_kept hrec (kept_push (h := h'))⟩) ?_ (Heap.get?_push_size _ rfl) (codeRec_kept hrec (kept_push (h := h')))
    exact Heap.get?_none_of_le (Nat.le_of_lt (Nat.lt_of_le_of_lt hge hlt))
  · refine kla_makeFunctionHit (mg := mg) (cv := .ref c') hcl rfl (T.g.keeps F.keep) hcd (C.keeps F.keep) e (by simp [TriplesOk, rawInt]) (by simp [codeAmong, rawInt]) hb fun ctv h' tk hk hsz => ?_
    have k1 := (Kept.of_keeps (M := [P]) (fs := []) hk).trans (kept_push (o := kla_obj "<lambda>" ((envX cn cs L a ccd cl).qual ++ "<lambda>") params body scope clos ((mg "__name__").getD .none) c' ctv)) (fun _ hb => nomatch hb) (fun _ hb => nomatch hb) fun _ hb => nomatch hb
    refine h h'.objs.size c' _ ctv _ tk (Fr.push ⟨F.ns.keeps hk, fun b o e => hk b o (F.keep b o e), F.above⟩ _) k1 (.inr ⟨c', Heap.get?_push_of_some _ (hk _ _ e), codeRec_kept r k1⟩) (Heap.get?_none_of_le hsz) (Heap.get?_push_size _ rfl) (codeRec_kept r k1)

theorem def_make {name : Str} {body : List Stmt} {Q : Flow → Shared → Prop} (F : Fr h₀ L s.heap m) (T : Top p loose mean mg mb h₀) (C : CodeHd h₀ c P) (hcd : ccd = .ref c) (hP : h₀.get? P = none) (hPL : P ≠ L)
    (tb : TabAt P pos (qualnameIn (envX cn cs L a ccd cl) name name) s.heap) (hd0 : params.defaults = []) (hk0 : params.kw_defaults = []) (ha : annTrees params none (envX cn cs L a ccd cl) = []) (hcl : closureFor scope (envX cn cs L a ccd cl) = pure clos)
    (h : ∀ f c' doc pm ctv h' tk, Fr h₀ L h' m → Kept [P] [] s.heap h' → TabAt P pos (qualnameIn (envX cn cs L a ccd cl) name name) h' → s.heap.get? f = none → h'.get? f = some (fnMade name (qualnameIn (envX cn cs L a ccd cl) name name) params body scope clos doc pm c' ctv) → h'.CodeRec (.ref c') (qualnameIn (envX cn cs L a ccd cl) name name) →
      wpAny M A (storeName (envX cn cs L a ccd cl) name (.ref f)) (fun _ s'' => Q .next s'') E { s with heap := h', toks := tk }) :
    wpAny M A (exec (.FunctionDef name params body [] none [] scope none name pos) (envX cn cs L a ccd cl)) Q E s := by
  obtain ⟨hgP, hb⟩ := top_builtins F T hP
  obtain ⟨ps, hps, hpc⟩ := tb.obj
  have hnc : NotCode s.heap P := NotCode.of hps hpc
  refine nestDef_K hd0 hk0 ha ?_
  rcases tb with e | ⟨c', e, r⟩
  · refine makeFunction_K (mg := mg) hcl rfl (T.g.keeps F.keep) hcd (C.keeps F.keep) e True.intro rfl hgP hb fun c' ctv doc h' tk hx hge hlt hrec htb => ?_
    have k1 := (kept_ext hx hnc).trans (kept_push (o := fnMade name (qualnameIn (envX cn cs L a ccd cl) name name) params body scope clos doc ((mg "__name__").getD .none) c' ctv)) (fun _ hb => nomatch hb) (fun _ hb => nomatch hb) fun _ hb => nomatch hb
    refine h h'.objs.size c' _ _ ctv _ tk ((fr_ext F hP hPL hx).push _) k1 (.inr ⟨c', Heap.get?_push_of_some _ htb, codeRec_kept hrec (kept_push (h := h'))⟩) ?_ (Heap.get?_push_size _ rfl) (codeRec_kept hrec (kept_push (h := h')))
    exact Heap.get?_none_of_le (Nat.le_of_lt (Nat.lt_of_le_of_lt hge hlt))
  · refine makeFunction_hit (mg := mg) (cv := .ref c') hcl rfl (T.g.keeps F.keep) hcd (C.keeps F.keep) e (by simp [TriplesOk, rawInt]) (by simp [codeAmong, rawInt]) hb fun ctv doc h' tk hk hsz => ?_
    have k1 := (Kept.of_keeps (M := [P]) (fs := []) hk).trans (kept_push (o := fnMade name (qualnameIn (envX cn cs L a ccd cl) name name) params body scope clos doc ((mg "__name__").getD .none) c' ctv)) (fun _ hb => nomatch hb) (fun _ hb => nomatch hb) fun _ hb => nomatch hb
    refine h h'.objs.size c' _ _ ctv _ tk (Fr.push ⟨F.ns.keeps hk, fun b o e => hk b o (F.keep b o e), F.above⟩ _) k1 (.inr ⟨c', Heap.get?_push_of_some _ (hk _ _ e), codeRec_kept r k1⟩) (Heap.get?_none_of_le hsz) (Heap.get?_push_size _ rfl) (codeRec_kept r k1)
end

section
variable {n : Nat} {prog : Program} {w : World} {K : Frag} {p : Program} {loose : List Str} {mean : ExcName → Option Value} {mg mb : Str → Option Value} {A : Around} {base : Heap} {l : List Env} {s : Shared} {R : Result → Shared → Prop}
  {name qual : Str} {params : Arguments} {scope : Scope} {cl : List (Str × Addr)} {doc pm ctv : Value} {c' : Addr} {f : Addr} {args : Args}

theorem enterE {body : Expr} (P : Pre K p loose mean mg mb A base l s.heap n) (hide : List Addr) (binds : List (Str × Value)) (hh : ∀ a ∈ hide, Loose base l s.heap a)
    (ho : s.heap.get? f = some (kla_obj name qual params body scope cl pm c' ctv)) (hcd : s.heap.CodeRec (.ref c') qual)
    (hbind : bindArgs (kla_fn name qual params body scope cl pm (.ref c') ctv) args = pure binds) (hloc : ∀ y ∈ binds, scope.names.lookup y.1 = some .local)
    (h : ∀ g L' h₁, Grd hide l s.heap g → Fr g L' h₁ (fun y => binds.reverse.lookup y) → (∀ {b o}, s.heap.get? b = some o → h₁.get? b = some o ∧ b < L') → s.heap.get? L' = none → Below A base l g → KtsDicts (fsOf l) g → K.In g → Top p loose mean mg mb g →
      wpAny (model prog w) (A.deeper (envX qual scope L' f (.ref c') cl)) (eval body (envX qual scope L' f (.ref c') cl))
        (fun v s' => R (.ok (.ret v)) s')
        (fun e s' => wpAny (model prog w) (A.deeper (envX qual scope L' f (.ref c') cl)) (leaving (envX qual scope L' f (.ref c') cl) e) (fun _ s'' => R (.error e) s'') (fun e' s'' => R (.error e') s'') s')
        { s with heap := h₁, toks := s.toks + binds.length })
    (hco : scope.isCoroutine = false := by rfl) (hgen : scope.isGenerator = false := by rfl) (hk : scope.kind = .function := by rfl)
    (hcell : ∀ x ∈ scope.names, x.2 ≠ .cell := by decide) : codeAny (model prog w) A (.call (.ref f) args) R s := by
  obtain ⟨B₂, D₂, X₂, T₂, hn⟩ := P.ground hh
  have hroom := P.room
  refine kla_callFunE hroom ho rfl hco hgen rfl hcd ?_
  rw [hbind]
  refine wpAny_pure (wpAny_newFunctionEnv hcell hloc (fun h₁ hns hsb => ⟨((P.T.nolimit).keeps P.B.stays).fresh _ hsb, ?_⟩) hk)
  show codeAny _ _ (.expr body (envX qual scope s.heap.objs.size f (.ref c') cl)) _ _
  have hk₁ : ∀ b o, s.heap.get? b = some o → h₁.get? b = some o := fun b o e => hsb.extBut b o (Nat.ne_of_lt (Heap.lt_size e)) (Heap.get?_push_of_some _ e)
  exact kla_codeExpr (h _ s.heap.objs.size h₁ (Grd.mk' P.D hh) ⟨hns, fun b o e => hk₁ b o (of_hideAll _ e), Nat.le_of_eq (hideAll_size _ _)⟩ (fun e => ⟨hk₁ _ _ e, Heap.lt_size e⟩) (Heap.get?_none_of_le (Nat.le_refl _)) B₂ D₂ X₂ T₂)

theorem enterX {body : List Stmt} (P : Pre K p loose mean mg mb A base l s.heap n) (hide : List Addr) (binds : List (Str × Value)) (hh : ∀ a ∈ hide, Loose base l s.heap a)
    (ho : s.heap.get? f = some (fnMade name qual params body scope cl doc pm c' ctv)) (hcd : s.heap.CodeRec (.ref c') qual)
    (hbind : BindsTo s (fnX name qual params body scope cl .none .none doc pm none (.ref c') ctv) args binds) (hloc : ∀ y ∈ binds, scope.names.lookup y.1 = some .local)
    (h : ∀ g L' h₁, Grd hide l s.heap g → Fr g L' h₁ (fun y => binds.reverse.lookup y) → (∀ {b o}, s.heap.get? b = some o → h₁.get? b = some o ∧ b < L') → s.heap.get? L' = none → Below A base l g → KtsDicts (fsOf l) g → K.In g → Top p loose mean mg mb g →
      wpAny (model prog w) (A.deeper (envX qual scope L' f (.ref c') cl)) (execs body (envX qual scope L' f (.ref c') cl))
        (fun fl s' => R (.ok (.ret (match fl with | .ret v => v | _ => .none))) s')
        (fun e s' => wpAny (model prog w) (A.deeper (envX qual scope L' f (.ref c') cl)) (leaving (envX qual scope L' f (.ref c') cl) e) (fun _ s'' => R (.error e) s'') (fun e' s'' => R (.error e') s'') s')
        { s with heap := h₁, toks := s.toks + binds.length })
    (hco : scope.isCoroutine = false := by rfl) (hgen : scope.isGenerator = false := by rfl) (hk : scope.kind = .function := by rfl)
    (hcell : ∀ x ∈ scope.names, x.2 ≠ .cell := by decide) : codeAny (model prog w) A (.call (.ref f) args) R s := by
  obtain ⟨B₂, D₂, X₂, T₂, hn⟩ := P.ground hh
  have hroom := P.room
  refine codeAny_call_def (fd := fnX name qual params body scope cl .none .none doc pm none (.ref c') ctv) (body := body) (binds := binds) hroom ho rfl (P.T.nolimit.keeps P.B.stays) hcd rfl hbind hcell hloc (fun h₁ hns hk₁ => ?_) hco hgen hk
  exact h _ s.heap.objs.size h₁ (Grd.mk' P.D hh) ⟨hns, fun b o e => hk₁ b o (of_hideAll _ e), Nat.le_of_eq (hideAll_size _ _)⟩ (fun e => ⟨hk₁ _ _ e, Heap.lt_size e⟩) (Heap.get?_none_of_le (Nat.le_refl _)) B₂ D₂ X₂ T₂
end

end
section
theorem off_N1 : True := by
  w_top off
  exact True.intro
theorem fill2 : Challenge.rw_rh0157_01 = Challenge.rw_rh0157_01 ∧ Mine.hd.heap_39 = Mine.hd.heap_39 := by
  k_fill
  exact ⟨rfl, rfl⟩

theorem next_spec {hn : Nat} {prog : Program} {w : World} {p : Program} {loose : List Str} {mean : ExcName → Option Value} {mg mb : Str → Option Value} {A : Around} {base : Heap} {l : List Env} {s : Shared} {R : Result → Shared → Prop}
    (P : Pre (Mine.hd.heap_39 w.params) p loose mean mg mb A base l s.heap hn) {rl sl : Addr} {vs : List Value} {ns : List Int} {c many : Int} {tc tm : Tok} {n : Nat}
    (hrl : s.heap.get? rl = some (listOf #[.ref sl, .int c tc] n)) (hsl : s.heap.IsList sl vs.toArray) (hi : IntsAre vs ns) (hlen : ns.length ≤ 63) (hb : Loose base l s.heap rl) (hsr : sl ≠ rl)
    (hc : 0 ≤ c ∧ c ≤ 1000000) (hm : 0 < many ∧ many ≤ 1000)
    (h : ∀ h' r tr tc' tk, Kept [rl] [] s.heap h' → h'.get? rl = some (listOf #[.ref sl, .int (c + 1) tc'] n) → 0 ≤ r → r < many → R (.ok (.ret (.int r tr))) { s with heap := h', toks := tk }) :
    codeAny (model prog w) A (.call (.ref 132) ⟨[.ref rl, .int many tm], []⟩) R s := by
  refine' enter P [rl] [(Str.ofString "rope", .ref rl), (Str.ofString "many", .int many tm)] (loose1 hb) ?k6 ?k7 ?k9 ?kB ?_ ?c2 ?c3 ?c4 ?c5
  case k6 => k_is
  case k7 => k_is
  case k9 => exact BindsTo.of_eq rfl
  case kB => exact locs rfl
  case c2 => exact rfl
  case c3 => exact rfl
  case c4 => exact rfl
  case c5 => decide
  intro g L h₁ G F kp hL B D X T
  try dsimp only
  k_fold
  have N := G.news1 kp hrl (.head _) News.nil
  have hsl' := G.isList hsl (by simpa using hsr)
  clear kp
  repeat' (first | walk1 | (dsimp only; walk1))
  all_goals ((show R _ _); (rename Fr _ _ _ _ => hF); (rename News _ _ _ _ => hN))
  all_goals (refine h _ _ _ _ _ (G.ke0 hF) (hN _ (.head _)).1 ?_ ?_)
  all_goals first | exact Int.fmod_nonneg_of_pos _ hm.1 | exact Int.fmod_lt_of_pos _ hm.1

end
section
section
variable {n : Nat} {prog : Program} {w : World} {K : Frag} {p : Program} {loose : List Str} {mean : ExcName → Option Value} {mg mb : Str → Option Value} {A : Around} {base : Heap} {l : List Env} {s : Shared} {R : Result → Shared → Prop}
theorem enterC {name qual : Str} {params : Arguments} {body : List Stmt} {scope : Scope} {dV kV doc pm cdv ct oc : Value} {an od : Option Addr} {osl : Array (Option Value)} {f : Addr} {args : Args}
    (P : Pre K p loose mean mg mb A base l s.heap n) (hide : List Addr) (binds : List (Str × Value)) (hh : ∀ a ∈ hide, Loose base l s.heap a)
    (ho : K.lookup f = some ⟨oc, od, .func (fnOf name qual params body scope dV kV doc pm an cdv ct), osl⟩) (hcd : codeIn K cdv qual = true)
    (hbind : BindsTo s (fnOf name qual params body scope dV kV doc pm an cdv ct) args binds) (hkind : (binds.all fun y => scope.names.lookup y.1 == some .local || scope.names.lookup y.1 == some .cell) = true)
    (hnd : ((cellsFrom 0 scope.names []).map (·.1)).Nodup)
    (h : ∀ g L' h₁ tk cells, Grd hide l s.heap g → Fr g L' h₁ (bindL (envOfC qual scope L' f cdv).kindOf binds fun _ => none) → News g L' h₁ cells →
      CellsAre (bindC (envOfC qual scope L' f cdv).kindOf binds fun _ => none) (cellsFrom (L' + 1) scope.names []) cells → (∀ {b o}, s.heap.get? b = some o → h₁.get? b = some o ∧ b < L') → s.heap.get? L' = none → Below A base l g → KtsDicts (fsOf l) g → K.In g → Top p loose mean mg mb g →
      wpAny (model prog w) (A.deeper (envOfC qual scope L' f cdv)) (execs body (envOfC qual scope L' f cdv))
        (fun fl s' => R (.ok (.ret (match fl with | .ret v => v | _ => .none))) s')
        (fun e s' => wpAny (model prog w) (A.deeper (envOfC qual scope L' f cdv)) (leaving (envOfC qual scope L' f cdv) e) (fun _ s'' => R (.error e) s'') (fun e' s'' => R (.error e') s'') s')
        { s with heap := h₁, toks := tk })
    (hco : scope.isCoroutine = false := by rfl) (hgen : scope.isGenerator = false := by rfl) (hk : scope.kind = .function := by rfl) : codeAny (model prog w) A (.call (.ref f) args) R s := by
  have X := P.X.keeps P.B.stays
  obtain ⟨B₂, D₂, X₂, T₂, hn⟩ := P.ground hh
  have hroom := P.room
  refine codeAny_call_function hroom (X _ _ ho) rfl hco hgen rfl (codeRec_of X hcd) (hbind _ _ _ _ ?_)
  refine wpAny_newFunctionEnv_cells hk (kindsX hkind _) fun env' he s' x => ?_
  subst he
  refine ⟨(P.T.nolimit.keeps P.B.stays).keeps x.toInCall.keep, codeAny_func ?_⟩
  obtain ⟨h₁, tk, rfl, _⟩ := x.done
  have hk₁ := x.toInCall.keep
  obtain ⟨cells, NC, Y⟩ := Cl.news (h₀ := s.heap) (Nat.le_refl _) fun n c hm => ⟨x.cell n c (lookup_of_mem_nodup (cellsFrom_names scope.names 0 (s.heap.objs.size + 1) [] [] rfl ▸ hnd) hm), x.above n c hm⟩
  refine h _ s.heap.objs.size h₁ tk cells (Grd.mk' P.D hh) ⟨x.toInCall.ns, fun b o e => hk₁ b o (of_hideAll _ e), Nat.le_of_eq (hideAll_size _ _)⟩ (fun p hp => ⟨(NC p hp).1, (NC p hp).2.1, ?_⟩) Y (fun e => ⟨hk₁ _ _ e, Heap.lt_size e⟩) (Heap.get?_none_of_le (Nat.le_refl _)) B₂ D₂ X₂ T₂
  exact (Grd.mk' P.D hh).no (NC p hp).2.2
end


end
section
section
variable {prog : Program} {w : World} {A : Around} {E : Value → Shared → Prop} {s : Shared}
theorem len_push {l : Addr} {items : Array Value} {x : Value} {Q : Value → Shared → Prop} (hl : s.heap.IsList l (items.push x)) (hz : items.size ≤ 100000 := by omega) (h : Q (.int ((items.size : Int) + 1) (s.toks + 1)) { s with toks := s.toks + 1 + 1 }) :
    wpAny (model prog w) A (call (.builtin "len") [.ref l]) Q E s := by
  refine len_list hl (by rw [Array.size_push]; omega) ?_
  rw [Array.size_push]
  exact h
theorem lenA {l L : Addr} {h₀ : Heap} {news : List (Addr × Obj)} {items : Array Value} {k : Nat} {x : Value} {Q : Value → Shared → Prop} (h : Q (.int ((items.size : Int) + 1) (s.toks + 1)) { s with toks := s.toks + 1 + 1 }) (N : News h₀ L s.heap news := by k_asm) (hm : (l, listOf (items.push x) k) ∈ news := by walk_at "M.mem") (hz : items.size ≤ 100000 := by omega) :
    wpAny (model prog w) A (call (.builtin "len") [.ref l]) Q E s := len_push (News.isList N hm) hz h
theorem nameXA {M : Model} {h₀ : Heap} {L a : Addr} {cn : Str} {cs : Scope} {ccd : Value} {cl : List (Str × Addr)} {x : Str} {pos : Pos} {v : Value} {Q : Value → Shared → Prop} {c : Addr} {o : Obj} {news : List (Addr × Obj)} (h : Q v s) (N : News h₀ L s.heap news := by k_asm) (hc : cl.lookup x = some c := by rfl) (hm : (c, o) ∈ news := by walk_at "M.mem") (hd : o.data = .cell (some v) := by k_asm)
    (hk : cs.kind = .function := by rfl) (hx : (envX cn cs L a ccd cl).kindOf x = some .free := by rfl) (hb : (x == ("__debug__" : Str)) = false := by decide) (hn : (x == ("__classdict__" : Str)) = false := by decide) :
    wpAny M A (eval (.Name x pos) (envX cn cs L a ccd cl)) Q E s := nameX_F N hc hm hd h hk hx hb hn
end


end
section
section
variable {prog : Program} {w : World} {A : Around} {E : Value → Shared → Prop} {s : Shared}

theorem tuple_core {it t eh : Addr} {i : Nat} {items : Array Value} {oh : Obj} {Q : Option Value → Shared → Prop} (x1 : A.handled = some (.ref eh)) (x2 : s.heap.get? eh = some oh) (hne : eh ≠ it)
    (hit : s.heap.IsTupleIter it t i) (ht : s.heap.IsTuple t items) (hx : items[i]? = none)
    (unch : ∀ (A' : Around) (s2 : Shared) (n : Addr) (R : Result → Shared → Prop), A'.handled = A.handled → (∀ b ob, b ≠ it → s.heap.get? b = some ob → s2.heap.get? b = some ob ∧ b ≠ n) → R (.ok (.ret .none)) s2 → codeAny (model prog w) A' (.builtin "proto.unchain" ⟨[.ref n, .ref eh, .ref eh, .bool false], []⟩) R s2)
    (hQ : ∀ h', Heap.ExtBut it s.heap h' → Q none { s with heap := h' }) : wpAny (model prog w) A (pyNext (.ref it)) Q E s := by
  obtain ⟨o, ho, hc, hdd⟩ := id hit
  obtain ⟨ol, hol, _, nl, hdl⟩ := ht
  unfold pyNext
  refine wpAny_bind (wpAny_attempt (wpAny_callSpecial?_slot (name := Str.ofString "__next__") hit.typeIs PySem.F.slot_tuple_iterator_next
    (wpAny_call_entry PySem.F.slot_tuple_iterator_next hit.typeIs PySem.F.entry_tuple_iterator_next ?_ (PySem.F.args_tuple_iterator_next_1 _))))
  show wpAny _ _ (field (.ref it) 0 >>= _) _ _ s
  refine wpAny_bind (wpAny_field ho hdd (x := .ref t) rfl ?_)
  show wpAny _ _ (if (Value.ref t == Value.none) = true then _ else _) _ _ s
  rw [if_neg (show ¬ ((Value.ref t == Value.none) = true) from Bool.false_ne_true)]
  show wpAny _ _ (field (.ref it) 1 >>= _) _ _ s
  refine wpAny_bind (wpAny_field ho hdd (x := .int i 0) rfl ?_)
  show wpAny _ _ (seqItems? (.ref t) >>= _) _ _ s
  refine wpAny_bind (wpAny_seqItems hol hdl ?_)
  simp only [Int.toNat_natCast, hx]
  refine wpAny_bind (wpAny_rule (wpAny_bind (wpAny_setField ho hdd (by simp) ?_)))
  have ub : ∀ b ob, b ≠ it → s.heap.get? b = some ob → (s.heap.update it (Obj.mapFields (·.setIfInBounds 0 Value.none))).get? b = some ob := fun b ob hb e => (Heap.get?_update_other _ _ (Ne.symm hb)).trans e
  generalize s.heap.update it (Obj.mapFields (·.setIfInBounds 0 Value.none)) = hu at ub
  show wpAny _ _ (newExc (.type "StopIteration") [] >>= _) _ _ _
  refine wpAny_bind ?_
  simp only [newExc, newTuple]
  refine wpAny_bind (wpAny_newObj_type ?_ (by size_fits))
  refine wpAny_bind (m := firstArgMember _ _) (wpAny_of_eq (a := Value.none) (by first | rfl | (simp only [firstArgMember]; rfl)) ?_)
  refine wpAny_newObj_type ?_ (by size_fits)
  simp only [raiseNew]
  refine wpAny_bind (wpAny_handled ?_)
  rw [show A.in1.handled = some (.ref eh) from x1]
  have hlt : eh < hu.objs.size := Heap.lt_size (ub eh oh hne x2)
  have hsz : (hu.push { cls := Value.type "tuple", dict := none, data := .seq ([] : List Value).toArray }).objs.size = hu.objs.size + 1 := Heap.size_push ..
  have c : ((Value.ref eh != Value.ref (hu.push { cls := Value.type "tuple", dict := none, data := .seq ([] : List Value).toArray }).objs.size) = true) := by
    rw [hsz]; simp; exact Nat.ne_of_lt (Nat.lt_succ_of_lt hlt)
  dsimp only
  rw [if_pos c]
  refine wpAny_bind (wpAny_holding (wpAny_runValue (unch _ _ _ _ rfl (fun b ob hb e => ⟨Heap.get?_push_of_some _ (Heap.get?_push_of_some _ (ub b ob hb e)), by rw [hsz]; exact Nat.ne_of_lt (Nat.lt_succ_of_lt (Heap.lt_size (ub b ob hb e)))⟩) ?_)))
  dsimp only
  refine wpAny_bind (m := setField (.ref _) 2 (.ref eh)) (wpAny_setField (Heap.get?_push_size _ rfl) rfl (by simp; omega) (wpAny_throw ?_))
  refine wpAny_bind (wpAny_isInstance (T := "StopIteration") (b := true) ⟨_, Heap.get?_update_self _ (Heap.get?_push_size _ rfl) rfl, rfl⟩ isSubtype_stop ?_)
  refine wpAny_pure (hQ _ fun b o hb e => ?_)
  have eu := ub b o hb e
  refine (Heap.get?_update_other _ _ (fun q => ?_)).trans (Heap.get?_push_of_some _ (Heap.get?_push_of_some _ eu))
  have := Heap.lt_size eu
  rw [← q, hsz] at this
  exact absurd this (Nat.not_lt.mpr (Nat.le_succ _))
theorem tuple_end {it t : Addr} {i : Nat} {items : Array Value} {Q : Option Value → Shared → Prop} (hd : Hd A s.heap) (hne : ∀ eh, A.handled = some (.ref eh) → eh ≠ it)
    (hit : s.heap.IsTupleIter it t i) (ht : s.heap.IsTuple t items) (hx : items[i]? = none)
    (hQ : ∀ h', Heap.ExtBut it s.heap h' → Q none { s with heap := h' }) : wpAny (model prog w) A (pyNext (.ref it)) Q E s := by
  rcases hd with hh | ⟨eh, oh, vs, x1, x2, x3, x4⟩
  · exact wpAny_pyNext_tuple_end hh hit ht hx hQ
  refine tuple_core x1 x2 (hne eh x1) hit ht hx (fun A' s2 n R hA hk hR => ?_) hQ
  refine codeAny_builtin entry_unchain ?_
  unfold Builtin.«proto.unchain»
  refine wpAny_bind (wpAny_field (hk eh oh (hne eh x1) x2).1 x3 x4 ?_)
  exact wpAny_pure (a := Fin.done (.ret .none)) hR

theorem walks_tuple (hd : Hd A s.heap) (I ax : Addr) (hI : s.heap.objs.size ≤ I) (hne : ax ≠ I) (items : Array Value) :
    Walks prog w A I (I :: ax :: (match A.handled with | some (.ref eh) => [eh] | _ => [])) [I] items.size (fun i v => items[i]? = some v) (fun i h => (h.IsTupleIter I ax i ∧ h.IsTuple ax items) ∧ Hd A h) where
  sub := fun _ hb => by rw [List.mem_singleton.mp hb]; exact .head _
  frame := fun _ h h' st hk => ⟨⟨st.1.1.at fun o e => hk I mm0 o e, st.1.2.at fun o e => hk ax mm1 o e⟩, st.2.keeps fun b o e _ hb => hk b (by rw [hb]; exact .tail _ mm1) o e⟩
  item := fun i s' Q E hi st hQ => by
    refine wpAny_pyNext_tuple_item st.1.1 st.1.2 (x := items[i]) (by simp [hi]) fun h' hit' hs' => ?_
    have hnI : ∀ b, A.handled = some (.ref b) → b ≠ I := fun b hb q => by
      rcases hd with hh | ⟨eh, oh, vs, x1, x2, x3, x4⟩
      · rw [hh] at hb; cases hb
      · rw [x1] at hb; cases hb
        exact absurd (Heap.lt_size x2) (Nat.not_lt.mpr (q ▸ hI))
    exact hQ _ h' s'.toks (by simp [hi]) ⟨⟨hit', st.1.2.extBut hs'.extBut hne⟩, st.2.keeps fun b o e _ hb => hs'.extBut b o (hnI b hb) e⟩ fun b o hb e => hs'.extBut b o (fun h => hb (by simp [h])) e
  done := fun s' Q E st hQ => tuple_end st.2 (fun b hb q => by
      rcases hd with hh | ⟨eh, oh, vs, x1, x2, x3, x4⟩
      · rw [hh] at hb; cases hb
      · rw [x1] at hb; cases hb
        exact absurd (Heap.lt_size x2) (Nat.not_lt.mpr (q ▸ hI))) st.1.1 st.1.2 (by simp) fun h' he' => hQ h' s'.toks fun b o hb e => he' b o (fun h => hb (by simp [h])) e
  self := fun _ _ _ _ st hQ => wpAny_pyIter_tupleiter st.1.1 hQ

theorem pick2 {f : Nat → Nat → Bool} {a b : Int} {t u : Tok} {v : Value} (h : (intItems #[(a, t), (b, u)])[argBest f 1]? = some v) : v = if f 1 0 = true then Value.int b u else Value.int a t := by
  cases hf : f 1 0 with
  | true =>
    rw [show argBest f 1 = 1 by simp [argBest, hf]] at h
    simpa [intItems] using h.symm
  | false =>
    rw [show argBest f 1 = 0 by simp [argBest, hf]] at h
    simpa [intItems] using h.symm
theorem min_two_H {a b : Int} {t u : Tok} {Q : Value → Shared → Prop} (hd : Hd A s.heap)
    (h : ∀ h' tk, (∀ c o, s.heap.get? c = some o → h'.get? c = some o) → Q (if b < a then .int b u else .int a t) { s with heap := h', toks := tk }) :
    wpAny (model prog w) A (call (.builtin "min") [.int a t, .int b u]) Q E s := by
  have hT : (s.heap.push { cls := .type "tuple", data := .seq #[.int a t, .int b u] }).IsTuple s.heap.objs.size (intItems #[(a, t), (b, u)]) := ⟨_, Heap.get?_push_size _ rfl, rfl, 0, by simp [intItems]⟩
  refine call_min_two (wpAny_pyIter_tuple hT ?_)
  have hsz : (s.heap.push { cls := .type "tuple", data := .seq #[.int a t, .int b u] }).objs.size = s.heap.objs.size + 1 := Heap.size_push ..
  have hd1 : Hd A.in1 (s.heap.push { cls := .type "tuple", data := .seq #[.int a t, .int b u] }) := Hd.keeps (A := A.in1) hd fun b o e _ _ => Heap.get?_push_of_some _ e
  refine ⟨_, _, [_], _, _, _, _, rfl, walks_tuple (A := A.in1) (s := { s with heap := s.heap.push { cls := .type "tuple", data := .seq #[.int a t, .int b u] } }) hd1 _ s.heap.objs.size (Nat.le_refl _) (by rw [hsz]; exact Nat.ne_of_lt (Nat.lt_succ_self _)) (intItems #[(a, t), (b, u)]),
    ⟨⟨⟨_, Heap.get?_push_size _ rfl, rfl, rfl⟩, hT.push _⟩, hd1.keeps fun b o e _ _ => Heap.get?_push_of_some _ e⟩, fun c hc => ?_, by simp [intItems], CmpOf.ints_lt (numAt #[(a, t), (b, u)]) (fun _ _ => intItems_at), fun v h' tk hP hk => ?_⟩
  · show c < ((s.heap.push _).push _).objs.size
    rw [Heap.size_push, hsz]
    rcases List.mem_cons.mp hc with rfl | hc
    · rw [hsz]; exact Nat.lt_succ_self _
    · rcases List.mem_cons.mp hc with rfl | hc
      · exact Nat.lt_succ_of_lt (Nat.lt_succ_self _)
      · rcases hd with hh | ⟨eh, oh, vs, x1, x2, x3, x4⟩
        · rw [show A.in1.handled = none from hh] at hc; cases hc
        · rw [show A.in1.handled = some (.ref eh) from x1] at hc
          rw [List.mem_singleton.mp hc]
          exact Nat.lt_succ_of_lt (Nat.lt_succ_of_lt (Heap.lt_size x2))
  · have hold : ∀ c o, s.heap.get? c = some o → h'.get? c = some o := fun c o e => by
      refine hk c o (fun hm => ?_) (Heap.get?_push_of_some _ (Heap.get?_push_of_some _ e))
      rcases List.mem_cons.mp hm with e1 | hm
      · have := Heap.lt_size e; rw [e1, hsz] at this; exact Nat.lt_irrefl _ (Nat.lt_of_succ_lt this)
      · cases hm
    have := h h' tk hold
    have hv : v = if b < a then Value.int b u else Value.int a t := by
      have hP' : (intItems #[(a, t), (b, u)])[argBest (fun i j => decide (numAt #[(a, t), (b, u)] i < numAt #[(a, t), (b, u)] j)) 1]? = some v := by
        have hsz2 : (intItems #[(a, t), (b, u)]).size - 1 = 1 := by simp [intItems]
        rw [← hsz2]; exact hP
      have := pick2 hP'
      simpa [numAt] using this
    rw [hv]; exact this

theorem max_two_H {a b : Int} {t u : Tok} {Q : Value → Shared → Prop} (hd : Hd A s.heap)
    (h : ∀ h' tk, (∀ c o, s.heap.get? c = some o → h'.get? c = some o) → Q (if b > a then .int b u else .int a t) { s with heap := h', toks := tk }) :
    wpAny (model prog w) A (call (.builtin "max") [.int a t, .int b u]) Q E s := by
  have hT : (s.heap.push { cls := .type "tuple", data := .seq #[.int a t, .int b u] }).IsTuple s.heap.objs.size (intItems #[(a, t), (b, u)]) := ⟨_, Heap.get?_push_size _ rfl, rfl, 0, by simp [intItems]⟩
  refine call_max_two (wpAny_pyIter_tuple hT ?_)
  have hsz : (s.heap.push { cls := .type "tuple", data := .seq #[.int a t, .int b u] }).objs.size = s.heap.objs.size + 1 := Heap.size_push ..
  have hd1 : Hd A.in1 (s.heap.push { cls := .type "tuple", data := .seq #[.int a t, .int b u] }) := Hd.keeps (A := A.in1) hd fun b o e _ _ => Heap.get?_push_of_some _ e
  refine ⟨_, _, [_], _, _, _, _, rfl, walks_tuple (A := A.in1) (s := { s with heap := s.heap.push { cls := .type "tuple", data := .seq #[.int a t, .int b u] } }) hd1 _ s.heap.objs.size (Nat.le_refl _) (by rw [hsz]; exact Nat.ne_of_lt (Nat.lt_succ_self _)) (intItems #[(a, t), (b, u)]),
    ⟨⟨⟨_, Heap.get?_push_size _ rfl, rfl, rfl⟩, hT.push _⟩, hd1.keeps fun b o e _ _ => Heap.get?_push_of_some _ e⟩, fun c hc => ?_, by simp [intItems], CmpOf.ints_gt (numAt #[(a, t), (b, u)]) (fun _ _ => intItems_at), fun v h' tk hP hk => ?_⟩
  · show c < ((s.heap.push _).push _).objs.size
    rw [Heap.size_push, hsz]
    rcases List.mem_cons.mp hc with rfl | hc
    · rw [hsz]; exact Nat.lt_succ_self _
    · rcases List.mem_cons.mp hc with rfl | hc
      · exact Nat.lt_succ_of_lt (Nat.lt_succ_self _)
      · rcases hd with hh | ⟨eh, oh, vs, x1, x2, x3, x4⟩
        · rw [show A.in1.handled = none from hh] at hc; cases hc
        · rw [show A.in1.handled = some (.ref eh) from x1] at hc
          rw [List.mem_singleton.mp hc]
          exact Nat.lt_succ_of_lt (Nat.lt_succ_of_lt (Heap.lt_size x2))
  · have hold : ∀ c o, s.heap.get? c = some o → h'.get? c = some o := fun c o e => by
      refine hk c o (fun hm => ?_) (Heap.get?_push_of_some _ (Heap.get?_push_of_some _ e))
      rcases List.mem_cons.mp hm with e1 | hm
      · have := Heap.lt_size e; rw [e1, hsz] at this; exact Nat.lt_irrefl _ (Nat.lt_of_succ_lt this)
      · cases hm
    have := h h' tk hold
    have hv : v = if b > a then Value.int b u else Value.int a t := by
      have hP' : (intItems #[(a, t), (b, u)])[argBest (fun i j => decide (numAt #[(a, t), (b, u)] i > numAt #[(a, t), (b, u)] j)) 1]? = some v := by
        have hsz2 : (intItems #[(a, t), (b, u)]).size - 1 = 1 := by simp [intItems]
        rw [← hsz2]; exact hP
      have := pick2 hP'
      simpa [numAt] using this
    rw [hv]; exact this

theorem unpack_tupleH {t : Addr} {items : Array Value} {targets : List (Bool × (Value → Sem Unit))} {Q : Unit → Shared → Prop} (hd : Hd A s.heap) (ht : s.heap.IsTuple t items)
    (hn : targets.length = items.size) (hstar : targets.findIdx? (·.1) = none)
    (h : ∀ h', Heap.ExtBut s.heap.objs.size s.heap h' → wpAny (model prog w) A (assignInOrder (targets.map (·.2)) items.toList) Q E { s with heap := h' }) :
    wpAny (model prog w) A (unpack (.ref t) targets) Q E s := by
  unfold unpack
  rw [hn, hstar]
  refine wpAny_bind (wpAny_holding ?_)
  have hlt : t ≠ s.heap.objs.size := by obtain ⟨o, ho, _⟩ := ht; exact Nat.ne_of_lt (Heap.lt_size ho)
  show wpAny _ _ (unpackItems (.ref t) items.size none) _ _ _
  unfold unpackItems
  refine wpAny_bind ?_
  · unfold notIterableAtAll
    refine wpAny_bind (wpAny_specialOf ht.typeIs PySem.F.slot_tuple_iter.lookup ?_)
    refine wpAny_pure ?_
    simp only [Bool.false_eq_true, if_false]
    refine wpAny_bind (wpAny_holding (wpAny_pyIter_tuple ht ?_))
    refine wpAny_bind (wpAny_holding (wpAny_draw_tuple hlt items.size 0 _ _ ⟨_, Heap.get?_push_size _ rfl, rfl, rfl⟩ (ht.push _) (by omega) fun h₁ hit₁ hs₁ => ?_))
    have hall : List.take items.size (List.drop 0 items.toList) = items.toList := by
      rw [List.drop_zero]; exact List.take_of_length_le (by simp)
    rw [hall]
    rw [if_neg (by simp)]
    have ht₁ : h₁.IsTuple t items := (ht.push _).extBut hs₁.extBut hlt
    have hnI : ∀ eh, A.handled = some (.ref eh) → eh ≠ s.heap.objs.size := fun eh he q => by
      rcases hd with hh | ⟨eh', oh, vs, x1, x2, x3, x4⟩
      · rw [hh] at he; cases he
      · rw [x1] at he; cases he
        have := Heap.lt_size x2
        rw [q] at this
        exact Nat.lt_irrefl _ this
    refine wpAny_bind (wpAny_holding (tuple_end (hd.keeps fun b o e _ hb => hs₁.extBut b o (hnI b hb) (Heap.get?_push_of_some _ e)) hnI hit₁ ht₁ (by simp) fun h₂ he₂ => ?_))
    simp only [Option.isSome_none, Bool.false_eq_true, if_false]
    refine wpAny_pure (h h₂ fun b o hb e => he₂ b o hb (hs₁.extBut b o hb (Heap.get?_push_of_some _ e)))
theorem min_two_HN {a b : Int} {t u : Tok} {h₀ : Heap} {L : Addr} {m : Str → Option Value} {news : List (Addr × Obj)} {Q : Value → Shared → Prop} (hd : Hd A s.heap) (F : Fr h₀ L s.heap m) (N : News h₀ L s.heap news)
    (h : ∀ h' tk t', Fr h₀ L h' m → News h₀ L h' news → (∀ c o, s.heap.get? c = some o → h'.get? c = some o) → Q (.int (if b < a then b else a) t') { s with heap := h', toks := tk }) :
    wpAny (model prog w) A (call (.builtin "min") [.int a t, .int b u]) Q E s := by
  refine min_two_H hd fun h' tk hk => ?_
  by_cases c : b < a
  · have := h h' tk u (F.grownK hk) (N.grown hk) hk
    rw [if_pos c] at this ⊢
    exact this
  · have := h h' tk t (F.grownK hk) (N.grown hk) hk
    rw [if_neg c] at this ⊢
    exact this
theorem while_quiet {Q : Flow → Shared → Prop} {env : Env} {h₀ : Heap} {L : Addr} {test : Expr} {body : List Stmt} {pos : Pos} {m : Str → Option Value} {news : List (Addr × Obj)} (J : Nat → (Str → Option Value) → List (Addr × Obj) → Prop) {n₀ : Nat}
    (F : Fr h₀ L s.heap m) (N : News h₀ L s.heap news) (hJ : J n₀ m news)
    (turn : ∀ n m₁ news₁ h₁ tk₁, Fr h₀ L h₁ m₁ → News h₀ L h₁ news₁ → J n m₁ news₁ →
      wpAny (model prog w) A (isTrue test env (eval test env)) (fun b s₂ =>
        if b = true then wpAny (model prog w) A (execs body env) (WhileStep h₀ L s J n) (fun _ _ => False) s₂ else Q .next s₂) (fun _ _ => False) { s with heap := h₁, toks := tk₁ }) :
    wpAny (model prog w) A (exec (.While test body [] pos) env) Q E s :=
  wpAny_mono (While_inv (E := fun _ _ => False) J F N hJ turn PassesOwnAt.never) (fun _ _ h => h) fun _ _ h => h.elim
end
theorem News.kept1 {g h h' : Heap} {L a : Addr} {o o' : Obj} {own rest : List (Addr × Obj)} (N : News g L h (own ++ (a, o) :: rest)) (k : Kept [a] [] h h') (e : h'.get? a = some o') (h1 : ∀ p ∈ own, p.1 ≠ a) (h2 : ∀ p ∈ rest, p.1 ≠ a) : News g L h' (own ++ (a, o') :: rest) := fun q hq => by
  rcases List.mem_append.mp hq with hq | hq
  · exact old_of0 N k (List.mem_append_left _ hq) (fun m => h1 q hq (List.mem_singleton.mp m))
  · rcases List.mem_cons.mp hq with rfl | hq
    · exact turned_of0 N (List.mem_append_right _ mm0) e
    · exact old_of0 N k (List.mem_append_right _ (.tail _ hq)) (fun m => h2 q hq (List.mem_singleton.mp m))
theorem all_nil {P : Addr × Obj → Prop} : ∀ p ∈ ([] : List (Addr × Obj)), P p := fun _ h => nomatch h
theorem all_cons {P : Addr × Obj → Prop} {a : Addr × Obj} {r : List (Addr × Obj)} (h : P a) (t : ∀ p ∈ r, P p) : ∀ p ∈ a :: r, P p := fun p hp => by
  rcases List.mem_cons.mp hp with rfl | hp
  · exact h
  · exact t p hp
section
variable {prog : Program} {w : World} {A : Around} {E : Value → Shared → Prop} {s : Shared}
theorem assign_TupleH {env : Env} {elts : List Expr} {x1} {pos : Pos} {t : Addr} {items : Array Value} {Q : Unit → Shared → Prop} (hd : Hd A s.heap) (ht : s.heap.IsTuple t items)
    (hn : (assignEach elts env).length = items.size) (hstar : (assignEach elts env).findIdx? (·.1) = none)
    (h : ∀ h', Heap.ExtBut s.heap.objs.size s.heap h' → wpAny (model prog w) A (assignInOrder ((assignEach elts env).map (·.2)) items.toList) Q E { s with heap := h' }) :
    wpAny (model prog w) A (assign (.Tuple elts x1 pos) env (.ref t)) Q E s := by
  rw [arm_assign_Tuple]
  exact wpAny_bind (wpAny_standAt (unpack_tupleH hd ht hn hstar h))
theorem assign_TupleHN {env : Env} {elts : List Expr} {x1} {pos : Pos} {t : Addr} {items : Array Value} {Q : Unit → Shared → Prop} {h₀ : Heap} {L : Addr} {m : Str → Option Value} {news : List (Addr × Obj)} (hd : Hd A s.heap) (F : Fr h₀ L s.heap m) (N : News h₀ L s.heap news) (ht : s.heap.IsTuple t items)
    (hn : (assignEach elts env).length = items.size) (hstar : (assignEach elts env).findIdx? (·.1) = none)
    (h : ∀ h', Fr h₀ L h' m → News h₀ L h' news → (∀ b o, s.heap.get? b = some o → h'.get? b = some o) → wpAny (model prog w) A (assignInOrder ((assignEach elts env).map (·.2)) items.toList) Q E { s with heap := h' }) :
    wpAny (model prog w) A (assign (.Tuple elts x1 pos) env (.ref t)) Q E s :=
  assign_TupleH hd ht hn hstar fun h' hx =>
    have hk : ∀ b o, s.heap.get? b = some o → h'.get? b = some o := fun b o e => hx b o (Nat.ne_of_lt (Heap.lt_size e)) e
    h h' (F.grownK hk) (N.grown hk) hk
end


end
section
theorem FnAt.kept {f : Addr} {h h' : Heap} {M fs : List Addr} (x : FnAt f h) (k : Kept M fs h h') (hM : f ∉ M) (hf : f ∉ fs) : FnAt f h' := by
  obtain ⟨a, b, c, d, e⟩ := x
  exact ⟨a, b, c, d, k.same _ _ e hM hf⟩
theorem FnAt.ne {f a : Addr} {h : Heap} {o : Obj} (x : FnAt f h) (e : h.get? a = some o) (hn : ∀ fd, o.data ≠ .func fd) : @Ne Nat f a := by
  obtain ⟨_, _, c, _, e'⟩ := x
  exact ne_obj e' e fun q => hn c (by rw [← q])

theorem FnAt.up {f : Addr} {g h : Heap} (x : FnAt f g) (k : ∀ b o, g.get? b = some o → h.get? b = some o) : FnAt f h := by
  obtain ⟨a, b, c, d, e⟩ := x
  exact ⟨a, b, c, d, k _ _ e⟩
section
variable {M : Model} {A : Around} {E : Value → Shared → Prop} {s : Shared} {env : Env} {h₀ : Heap} {L : Addr} {m : Str → Option Value} {news : List (Addr × Obj)}
end

section
variable {prog : Program} {w : World} {A : Around} {E : Value → Shared → Prop} {s : Shared} {env : Env} {base : Heap} {l : List Env} {L e T d : Addr} {x2 : Value}
theorem except_lua {n : Str} {pos : Pos} {tp : Expr} {b₀ : Stmt} {body : List Stmt} {Q : Flow → Shared → Prop} (B : Below A base (env :: l) s.heap) (XB : (Mine.hd.heap_39 w.params).In base) (be : base.get? e = none) (bT : base.get? T = none) (hf : env.frame = some L) (x : Flown e T (some d) x2 .none s.heap)
    (ht : ∀ h', Kept [e, T] (fsOf (env :: l)) s.heap h' → wpAny (model prog w) (A.mark (some (.ref e))) (eval tp env) (fun c s₁ => c = .ref 80 ∧ s₁ = { s with heap := h' }) (fun _ _ => False) { s with heap := h' })
    (h : ∀ h' T', Kept [e, T] (fsOf (env :: l)) s.heap h' → s.heap.get? T' = none → Flown e T' (some d) x2 .none h' → wpAny (model prog w) (A.mark (some (.ref e))) (storeName env n (.ref e)) (fun _ s₂ => wpAny (model prog w) (A.mark (some (.ref e))) (execs (b₀ :: body) env)
      (fun f s₃ => wpAny (model prog w) A (do bindName env n .none; unbindBehindTheSuite env n pos) (fun _ s₄ => Q f s₄) E s₃) (fun _ _ => False) s₂) (fun _ _ => False) { s with heap := h' }) :
    wpAny (model prog w) A (noteFrame (.ref e) env) (fun _ s₂ => wpAny (model prog w) A (setFlight (.ref e) none) (fun _ s₃ => wpAny (model prog w) A (handleBy (.ref e) env [.ExceptHandler (some tp) (some n) (b₀ :: body) pos]) Q E s₃) E s₂) E s := by
  have dj : ∀ {T₁ : Addr}, s.heap.get? T₁ = none → ∀ b ∈ fsOf (env :: l), b ∉ [T₁] := fun hT b hb q => by
    obtain ⟨_, o, ho, _⟩ := B.frames.mem hb
    rw [List.mem_singleton.mp q, hT] at ho
    cases ho
  refine note_next B hf x fun h₁ T₁ k1 hT f1 => land (s := { s with heap := h₁ }) f1 fun h₂ k2 f2 => ?_
  have k12 : Kept [e, T] (fsOf (env :: l)) s.heap h₂ := k1.trans k2 (fun b hb => by rw [List.mem_singleton.mp hb]; exact .inr hT) (fun b hb => nomatch hb) (dj hT)
  have X2 : (Mine.hd.heap_39 w.params).In h₂ := XB.keeps fun b o eb => k12.same b o (B.stays b o eb) (nm_cons (fun q : b = e => by rw [q, be] at eb; cases eb) (nm_cons (fun q : b = T => by rw [q, bT] at eb; cases eb) nm_nil)) fun hm => by rw [(B.frames.mem hm).1] at eb; cases eb
  refine wpAny_handleBy_cons (codeAny_handlers_test (wpAny_mono (ht h₂ k12) (fun c s₁ hc => ?_) fun _ _ q => q.elim)) (by intro q; cases q)
  obtain ⟨rfl, rfl⟩ := hc
  obtain ⟨nm, q, bs, k0, k1', k2', k3', k5, mN, oI, hC, -, -, -, -⟩ := cls80 X2
  obtain ⟨vs, sl, oT, ts, he, r⟩ := id f2
  refine wpAny_excMatches_sub_self (d := s.drawn) (t := s.toks) (os := s.os) (g := s.gens) hC he rfl (by decide +kernel) ?_
  refine codeAny_handlers_suite_as (land (s := { s with heap := h₂ }) f2 fun h₃ k3 f3 => ?_)
  have k13 : Kept [e, T] (fsOf (env :: l)) s.heap h₃ := k12.trans k3 (fun b hb => by rw [List.mem_singleton.mp hb]; exact .inr hT) (fun b hb => nomatch hb) (dj hT)
  exact wpAny_mono (h h₃ T₁ k13 hT f3) (fun _ s₂ h₂ => wpAny_mono h₂ (fun _ _ y => y) fun _ _ q => q.elim) fun _ _ q => q.elim
end

section
variable {prog : Program} {w : World} {A : Around} {E : Value → Shared → Prop} {s : Shared}
theorem while_any {Q : Flow → Shared → Prop} {env : Env} {test : Expr} {body : List Stmt} {pos : Pos} (I : Nat → Shared → Prop) (n₀ : Nat) (h0 : I n₀ s)
    (turn : ∀ n s', I n s' → wpAny (model prog w) A (isTrue test env (eval test env)) (fun b s₂ => if b = true then wpAny (model prog w) A (execs body env) (fun f s₃ => match f with
        | .next | .cont => ∃ m, m < n ∧ I m s₃
        | .brk => Q .next s₃
        | .ret v => Q (.ret v) s₃) (fun _ _ => False) s₂ else Q .next s₂) (fun _ _ => False) s') :
    wpAny (model prog w) A (exec (.While test body [] pos) env) Q E s := by
  refine wpAny_While (codeAny_whileLoop I ?_ n₀ h0)
  intro n s' hI
  refine wpAny_mono (turn n s' hI) (fun b s₂ h₂ => ?_) fun _ _ q => q.elim
  cases b with
  | false =>
    simp only [Bool.false_eq_true, if_false] at h₂ ⊢
    exact wpAny_execs_nil h₂
  | true =>
    simp only [if_true] at h₂ ⊢
    refine wpAny_mono h₂ (fun f s₃ h₃ => ?_) fun _ _ q => q.elim
    cases f <;> exact h₃
end

def TabG (g : Heap) (tc : Addr) (oc : Obj) (pos : Pos) (qual : Str) (ps : Array Value) : Prop :=
  ps = #[] ∨ ∃ c', ps = #[rawInt pos.line, rawInt pos.col, .ref c'] ∧ (g.CodeRec (.ref c') qual ∨ (c' = tc ∧ ∃ vs t, oc.data = .fields vs ∧ vs[1]? = some (.str qual t)))
theorem TabG.code {g : Heap} {tc : Addr} {oc : Obj} {pos : Pos} {qual : Str} {ps : Array Value} (x : TabG g tc oc pos qual ps) : isCodeO (tabObj ps) = false := by
  rcases x with rfl | ⟨c', rfl, _⟩
  · rfl
  · rfl
theorem codeRec_up {g h : Heap} {c : Value} {q : Str} (x : g.CodeRec c q) (k : ∀ b o, g.get? b = some o → h.get? b = some o) : h.CodeRec c q := codeRec_kept x (Kept.of_keeps (M := []) (fs := []) k)
theorem TabG.at {g h : Heap} {P tc : Addr} {oc : Obj} {pos : Pos} {qual : Str} {ps : Array Value} (x : TabG g tc oc pos qual ps) (k : ∀ b o, g.get? b = some o → h.get? b = some o) (e : h.get? P = some (tabObj ps)) (ec : h.get? tc = some oc) : TabAt P pos qual h := by
  rcases x with rfl | ⟨c', rfl, q | ⟨rfl, vs, t, hd, hv⟩⟩
  · exact .inl e
  · exact .inr ⟨c', e, codeRec_up q k⟩
  · exact .inr ⟨c', e, ⟨c', oc, vs, t, rfl, ec, hd, hv⟩⟩
theorem TabG.turn {fs : List Addr} {g g' : Heap} {tc : Addr} {oc : Obj} {pos : Pos} {qual : Str} {ps : Array Value} (x : TabG g tc oc pos qual ps) (T : KtsTurn fs g g') (D : KtsDicts fs g) : TabG g' tc oc pos qual ps := by
  rcases x with rfl | ⟨c', rfl, ⟨c'', oc', vs, t, q, hoc, hd, hv⟩ | q⟩
  · exact .inl rfl
  · cases q
    refine .inr ⟨_, rfl, .inl ⟨_, oc', vs, t, rfl, T.other _ _ hoc fun hm => ?_, hd, hv⟩⟩
    obtain ⟨o, es, n, ho, hdd⟩ := D _ hm
    rw [hoc] at ho; cases ho; rw [hd] at hdd; cases hdd
  · exact .inr ⟨_, rfl, .inr q⟩
theorem TabAt.ground {g h : Heap} {P : Addr} {pos : Pos} {qual : Str} {L : Addr} {m : Str → Option Value} (x : TabAt P pos qual h) (F : Fr g L h m) {dq : Addr} {od : Obj} (hdq : h.get? dq = some od ∧ dq ≠ L ∧ g.get? dq = none) :
    ∃ ps tc oc, h.get? P = some (tabObj ps) ∧ TabG g tc oc pos qual ps ∧ (h.get? tc = some oc ∧ tc ≠ L ∧ g.get? tc = none) ∧ (isCodeO oc = true ∨ (tc = dq ∧ oc = od)) := by
  rcases x with e | ⟨c', e, ⟨c'', oc, vs, t, q, hoc, hd, hv⟩⟩
  · exact ⟨_, dq, od, e, .inl rfl, hdq, .inr ⟨rfl, rfl⟩⟩
  · cases q
    cases hg : g.get? c' with
    | some o =>
      have := F.keep _ _ hg
      rw [hoc] at this
      cases this
      exact ⟨_, dq, od, e, .inr ⟨_, rfl, .inl ⟨_, oc, vs, t, rfl, hg, hd, hv⟩⟩, hdq, .inr ⟨rfl, rfl⟩⟩
    | none =>
      refine ⟨_, c', oc, e, .inr ⟨_, rfl, .inr ⟨rfl, vs, t, hd, hv⟩⟩, ⟨hoc, fun ql => ?_, hg⟩, .inl ?_⟩
      · obtain ⟨oL, es, ep, hoL, hLd, _⟩ := F.ns
        rw [ql, hoL] at hoc; cases hoc; rw [hd] at hLd; cases hLd
      · unfold isCodeO; rw [hd]; dsimp only; rw [hv]
def Odd (o : Obj) : Prop := isCodeO o = true ∨ o.cls = .type "tuple"
theorem TabAt.groundC {g h : Heap} {P : Addr} {pos : Pos} {qual : Str} {L : Addr} {m : Str → Option Value} (x : TabAt P pos qual h) (F : Fr g L h m) {dq : Addr} {od : Obj} (hdq : h.get? dq = some od ∧ dq ≠ L ∧ g.get? dq = none) {C : Prop}
    (c : ∀ ps tc oc, h.get? P = some (tabObj ps) → TabG g tc oc pos qual ps → (h.get? tc = some oc ∧ tc ≠ L ∧ g.get? tc = none) → (isCodeO oc = true ∨ (tc = dq ∧ oc = od)) → C) : C := by
  obtain ⟨a, b, d, e, f, i, j⟩ := x.ground F hdq
  exact c a b d e f i j
theorem Odd.ne {h : Heap} {a b : Addr} {o o' : Obj} (x : Odd o) (e : h.get? a = some o) (e' : h.get? b = some o') (h1 : isCodeO o' = false) (h2 : o'.cls ≠ .type "tuple") : @Ne Nat a b := ne_obj e e' fun q => by
  rcases x with x | x
  · rw [q, h1] at x; cases x
  · rw [q] at x; exact h2 x

theorem Grd.none_upT {hide : List Addr} {l : List Env} {h g g' h₁ : Heap} {L b : Addr} {m : Str → Option Value} (G : Grd hide l h g) (T : KtsTurn (fsOf l) g g') (F : Fr g' L h₁ m) (hx : ∀ a ∈ hide, ∃ o, h₁.get? a = some o) (e : h₁.get? b = none) : h.get? b = none := by
  cases q : h.get? b with
  | none => rfl
  | some o =>
    by_cases z : b ∈ hide
    · obtain ⟨o', ho'⟩ := hx b z
      rw [e] at ho'; cases ho'
    · by_cases z2 : b ∈ fsOf l
      · obtain ⟨sl, e'⟩ := (G.ke T F).turn _ _ q z2
        rw [e] at e'; cases e'
      · have := (G.ke T F).same _ _ q z z2
        rw [e] at this; cases this
theorem Flown.ne_other {e T a : Addr} {dct : Option Addr} {x2 fl : Value} {h : Heap} {o : Obj} (x : Flown e T dct x2 fl h) (ha : h.get? a = some o) (hn : isCodeO o = true ∨ ∀ vs, o.data ≠ .fields vs) : @Ne Nat a e ∧ @Ne Nat a T := by
  obtain ⟨vs, sl, oT, ts, h1, h2, h3, h4, h5, h6, h7, lt, h8⟩ := x
  rcases hn with hn | hn
  · exact ⟨ne_obj ha h1 fun q => (by rw [q, isCodeO_ref (vs := vs) rfl h2 (fun _ _ q => nomatch q)] at hn; cases hn), ne_obj ha h4 fun q => (by rw [q, isCodeO_ref h5 h8 (fun _ _ q => nomatch q)] at hn; cases hn)⟩
  · exact ⟨ne_obj ha h1 fun q => hn vs (by rw [q]), ne_obj ha h4 fun q => hn ts (by rw [q]; exact h5)⟩


end
section
def Hd2 (A : Around) (eh e0 : Addr) (h : Heap) : Prop := A.handled = some (.ref eh) ∧ eh ≠ e0 ∧ ∃ oh vs o0 vs0, h.get? eh = some oh ∧ oh.data = .fields vs ∧ vs[2]? = some (.ref e0) ∧ h.get? e0 = some o0 ∧ o0.data = .fields vs0 ∧ vs0[2]? = some .none
theorem Hd2.keeps {A A' : Around} {eh e0 : Addr} {h h' : Heap} (x : Hd2 A eh e0 h) (hA : A'.handled = A.handled) (k : ∀ b o, h.get? b = some o → b = eh ∨ b = e0 → h'.get? b = some o) : Hd2 A' eh e0 h' := by
  obtain ⟨x1, x2, oh, vs, o0, vs0, x3, x4, x5, x6, x7, x8⟩ := x
  exact ⟨hA.trans x1, x2, oh, vs, o0, vs0, k _ _ x3 (.inl rfl), x4, x5, k _ _ x6 (.inr rfl), x7, x8⟩
section
variable {prog : Program} {w : World} {A : Around} {E : Value → Shared → Prop} {s : Shared} {eh e0 : Addr}
theorem unchain2 {n : Addr} {R : Result → Shared → Prop} (hd : Hd2 A eh e0 s.heap) (hn : n ≠ e0) (h : R (.ok (.ret .none)) s) : codeAny (model prog w) A (.builtin "proto.unchain" ⟨[.ref n, .ref eh, .ref eh, .bool false], []⟩) R s := by
  obtain ⟨x1, x2, oh, vs, o0, vs0, x3, x4, x5, x6, x7, x8⟩ := hd
  refine codeAny_builtin entry_unchain ?_
  unfold Builtin.«proto.unchain»
  refine wpAny_bind (wpAny_field x3 x4 x5 ?_)
  dsimp only
  rw [if_neg (by simp), if_neg (by simp; exact fun q => hn q.symm), if_neg (by simp; exact fun q => x2 q.symm)]
  refine wpAny_pure (a := Fin.again _) ⟨plainId_quiet (by decide +kernel) _, codeAny_builtin entry_unchain ?_⟩
  unfold Builtin.«proto.unchain»
  refine wpAny_bind (wpAny_field x6 x7 x8 ?_)
  refine wpAny_pure (a := Fin.done (.ret .none)) ?_
  exact h
theorem tuple_end2 {it t : Addr} {i : Nat} {items : Array Value} {Q : Option Value → Shared → Prop} (hd : Hd2 A eh e0 s.heap) (hne : eh ≠ it) (hne0 : e0 ≠ it)
    (hit : s.heap.IsTupleIter it t i) (ht : s.heap.IsTuple t items) (hx : items[i]? = none)
    (hQ : ∀ h', Heap.ExtBut it s.heap h' → Q none { s with heap := h' }) : wpAny (model prog w) A (pyNext (.ref it)) Q E s := by
  obtain ⟨oh, vs, o0, vs0, y1, y2, y3, y4, y5⟩ := hd.2.2
  exact tuple_core hd.1 y1 hne hit ht hx (fun A' s2 n R hA hk hR => unchain2 (hd.keeps hA fun b ob e hb => (hk b ob (by rcases hb with rfl | rfl; exact hne; exact hne0) e).1) (hk e0 _ hne0 y4).2.symm hR) hQ
theorem Hd2.neI {h : Heap} {I b : Addr} (x : Hd2 A eh e0 h) (hI : h.objs.size ≤ I) (hb : b = eh ∨ b = e0) : b ≠ I := fun q => by
  obtain ⟨x1, x2, oh, vs, o0, vs0, x3, x4, x5, x6, x7, x8⟩ := x
  rcases hb with r | r
  · exact absurd (Heap.lt_size x3) (Nat.not_lt.mpr (by rw [← r, q]; exact hI))
  · exact absurd (Heap.lt_size x6) (Nat.not_lt.mpr (by rw [← r, q]; exact hI))

theorem walks_tuple2 (hd : Hd2 A eh e0 s.heap) (I ax : Addr) (hI : s.heap.objs.size ≤ I) (hne : ax ≠ I) (items : Array Value) :
    Walks prog w A I [I, ax, eh, e0] [I] items.size (fun i v => items[i]? = some v) (fun i h => (h.IsTupleIter I ax i ∧ h.IsTuple ax items) ∧ Hd2 A eh e0 h) where
  sub := fun _ hb => by rw [List.mem_singleton.mp hb]; exact .head _
  frame := fun _ h h' st hk => ⟨⟨st.1.1.at fun o e => hk I (by simp) o e, st.1.2.at fun o e => hk ax (by simp) o e⟩, st.2.keeps rfl fun b o e hb => hk b (by rcases hb with rfl | rfl <;> simp) o e⟩
  item := fun i s' Q E hi st hQ => by
    refine wpAny_pyNext_tuple_item st.1.1 st.1.2 (x := items[i]) (by simp [hi]) fun h' hit' hs' => ?_
    exact hQ _ h' s'.toks (by simp [hi]) ⟨⟨hit', st.1.2.extBut hs'.extBut hne⟩, st.2.keeps rfl fun b o e hb => hs'.extBut b o (hd.neI hI hb) e⟩ fun b o hb e => hs'.extBut b o (fun h => hb (by simp [h])) e
  done := fun s' Q E st hQ => tuple_end2 st.2 (hd.neI hI (.inl rfl)) (hd.neI hI (.inr rfl)) st.1.1 st.1.2 (by simp) fun h' he' => hQ h' s'.toks fun b o hb e => he' b o (fun h => hb (by simp [h])) e
  self := fun _ _ _ _ st hQ => wpAny_pyIter_tupleiter st.1.1 hQ

theorem max_two_H2 {a b : Int} {t u : Tok} {Q : Value → Shared → Prop} (hd : Hd2 A eh e0 s.heap)
    (h : ∀ h' tk, (∀ c o, s.heap.get? c = some o → h'.get? c = some o) → Q (if b > a then .int b u else .int a t) { s with heap := h', toks := tk }) :
    wpAny (model prog w) A (call (.builtin "max") [.int a t, .int b u]) Q E s := by
  have hT : (s.heap.push { cls := .type "tuple", data := .seq #[.int a t, .int b u] }).IsTuple s.heap.objs.size (intItems #[(a, t), (b, u)]) := ⟨_, Heap.get?_push_size _ rfl, rfl, 0, by simp [intItems]⟩
  refine call_max_two (wpAny_pyIter_tuple hT ?_)
  have hsz : (s.heap.push { cls := .type "tuple", data := .seq #[.int a t, .int b u] }).objs.size = s.heap.objs.size + 1 := Heap.size_push ..
  have hd1 : Hd2 A.in1 eh e0 (s.heap.push { cls := .type "tuple", data := .seq #[.int a t, .int b u] }) := hd.keeps rfl fun b o e _ => Heap.get?_push_of_some _ e
  refine ⟨_, [_, s.heap.objs.size, eh, e0], [_], _, _, _, _, rfl, walks_tuple2 (A := A.in1) (s := { s with heap := s.heap.push { cls := .type "tuple", data := .seq #[.int a t, .int b u] } }) hd1 _ s.heap.objs.size (Nat.le_refl _) (by rw [hsz]; exact Nat.ne_of_lt (Nat.lt_succ_self _)) (intItems #[(a, t), (b, u)]),
    ⟨⟨⟨_, Heap.get?_push_size _ rfl, rfl, rfl⟩, hT.push _⟩, hd1.keeps rfl fun b o e _ => Heap.get?_push_of_some _ e⟩, fun c hc => ?_, by simp [intItems], CmpOf.ints_gt (numAt #[(a, t), (b, u)]) (fun _ _ => intItems_at), fun v h' tk hP hk => ?_⟩
  · show c < ((s.heap.push _).push _).objs.size
    rw [Heap.size_push, hsz]
    rcases List.mem_cons.mp hc with rfl | hc
    · rw [hsz]; exact Nat.lt_succ_self _
    · rcases List.mem_cons.mp hc with rfl | hc
      · exact Nat.lt_succ_of_lt (Nat.lt_succ_self _)
      · have := hd.neI (b := c) (Nat.le_refl _) (by simpa using hc)
        rcases List.mem_cons.mp hc with q | hc
        · rw [q]; obtain ⟨_, _, _, _, _, _, x, _⟩ := hd; exact Nat.lt_succ_of_lt (Nat.lt_succ_of_lt (Heap.lt_size x))
        · rw [List.mem_singleton.mp hc]; obtain ⟨_, _, _, _, _, _, _, _, _, x, _⟩ := hd; exact Nat.lt_succ_of_lt (Nat.lt_succ_of_lt (Heap.lt_size x))
  · have hold : ∀ c o, s.heap.get? c = some o → h'.get? c = some o := fun c o e => by
      refine hk c o (fun hm => ?_) (Heap.get?_push_of_some _ (Heap.get?_push_of_some _ e))
      rcases List.mem_cons.mp hm with e1 | hm
      · have := Heap.lt_size e; rw [e1, hsz] at this; exact Nat.lt_irrefl _ (Nat.lt_of_succ_lt this)
      · cases hm
    have := h h' tk hold
    have hv : v = if b > a then Value.int b u else Value.int a t := by
      have hP' : (intItems #[(a, t), (b, u)])[argBest (fun i j => decide (numAt #[(a, t), (b, u)] i > numAt #[(a, t), (b, u)] j)) 1]? = some v := by
        have hsz2 : (intItems #[(a, t), (b, u)]).size - 1 = 1 := by simp [intItems]
        rw [← hsz2]; exact hP
      have := pick2 hP'
      simpa [numAt] using this
    rw [hv]; exact this

def HdX (A : Around) (h : Heap) : Prop := Hd A h ∨ ∃ eh e0, Hd2 A eh e0 h
theorem HdX.keeps {A : Around} {h h' : Heap} (x : HdX A h) (k : ∀ b o, h.get? b = some o → (∃ vs, o.data = .fields vs) → h'.get? b = some o) : HdX A h' := by
  rcases x with x | ⟨eh, e0, x⟩
  · exact .inl (x.keeps fun b o e hv _ => k b o e hv)
  · obtain ⟨x1, x2, oh, vs, o0, vs0, x3, x4, x5, x6, x7, x8⟩ := x
    exact .inr ⟨eh, e0, x1, x2, oh, vs, o0, vs0, k _ _ x3 ⟨_, x4⟩, x4, x5, k _ _ x6 ⟨_, x7⟩, x7, x8⟩
theorem max_two_X {a b : Int} {t u : Tok} {h₀ : Heap} {L : Addr} {m : Str → Option Value} {news : List (Addr × Obj)} {Q : Value → Shared → Prop} (hd : HdX A s.heap) (F : Fr h₀ L s.heap m) (N : News h₀ L s.heap news)
    (h : ∀ h' tk t', Fr h₀ L h' m → News h₀ L h' news → (∀ c o, s.heap.get? c = some o → h'.get? c = some o) → Q (.int (if b > a then b else a) t') { s with heap := h', toks := tk }) :
    wpAny (model prog w) A (call (.builtin "max") [.int a t, .int b u]) Q E s := by
  have key : ∀ h' tk, (∀ c o, s.heap.get? c = some o → h'.get? c = some o) → Q (if b > a then .int b u else .int a t) { s with heap := h', toks := tk } := fun h' tk hk => by
    by_cases c : b > a
    · have := h h' tk u (F.grownK hk) (N.grown hk) hk
      rw [if_pos c] at this ⊢
      exact this
    · have := h h' tk t (F.grownK hk) (N.grown hk) hk
      rw [if_neg c] at this ⊢
      exact this
  rcases hd with hd | ⟨eh, e0, hd⟩
  · exact max_two_H hd key
  · exact max_two_H2 hd key
theorem unpackItems_core {t : Addr} {items : Array Value} {Q : List Value → Shared → Prop} (ht : s.heap.IsTuple t items)
    (hend : ∀ (s1 : Shared) (j : Nat) (Q' : Option Value → Shared → Prop), (∀ b o, b ≠ s.heap.objs.size → s.heap.get? b = some o → s1.heap.get? b = some o) → s1.heap.IsTupleIter s.heap.objs.size t j → s1.heap.IsTuple t items → items[j]? = none → (∀ h', Heap.ExtBut s.heap.objs.size s1.heap h' → Q' none { s1 with heap := h' }) → wpAny (model prog w) A (pyNext (.ref s.heap.objs.size)) Q' E s1)
    (h : ∀ h', Heap.ExtBut s.heap.objs.size s.heap h' → Q items.toList { s with heap := h' }) : wpAny (model prog w) A (unpackItems (.ref t) items.size none) Q E s := by
  have hlt : t ≠ s.heap.objs.size := by obtain ⟨o, ho, _⟩ := ht; exact Nat.ne_of_lt (Heap.lt_size ho)
  unfold unpackItems
  refine wpAny_bind ?_
  · unfold notIterableAtAll
    refine wpAny_bind (wpAny_specialOf ht.typeIs PySem.F.slot_tuple_iter.lookup ?_)
    refine wpAny_pure ?_
    simp only [Bool.false_eq_true, if_false]
    refine wpAny_bind (wpAny_holding (wpAny_pyIter_tuple ht ?_))
    refine wpAny_bind (wpAny_holding (wpAny_draw_tuple hlt items.size 0 _ _ ⟨_, Heap.get?_push_size _ rfl, rfl, rfl⟩ (ht.push _) (by omega) fun h₁ hit₁ hs₁ => ?_))
    have hall : List.take items.size (List.drop 0 items.toList) = items.toList := by
      rw [List.drop_zero]; exact List.take_of_length_le (by simp)
    rw [hall]
    rw [if_neg (by simp)]
    have ht₁ : h₁.IsTuple t items := (ht.push _).extBut hs₁.extBut hlt
    refine wpAny_bind (wpAny_holding (hend _ _ _ (fun b o hb e => hs₁.extBut b o hb (Heap.get?_push_of_some _ e)) hit₁ ht₁ (by simp) fun h₂ he₂ => ?_))
    simp only [Option.isSome_none, Bool.false_eq_true, if_false]
    refine wpAny_pure (h h₂ fun b o hb e => he₂ b o hb (hs₁.extBut b o hb (Heap.get?_push_of_some _ e)))
theorem unpackItems_H {t : Addr} {items : Array Value} {Q : List Value → Shared → Prop} (hd : Hd A s.heap) (ht : s.heap.IsTuple t items)
    (h : ∀ h', Heap.ExtBut s.heap.objs.size s.heap h' → Q items.toList { s with heap := h' }) : wpAny (model prog w) A (unpackItems (.ref t) items.size none) Q E s := by
  have hnI : ∀ eh, A.handled = some (.ref eh) → eh ≠ s.heap.objs.size := fun eh he q => by
    rcases hd with hh | ⟨eh', oh, vs, x1, x2, x3, x4⟩
    · rw [hh] at he; cases he
    · rw [x1] at he; cases he
      have := Heap.lt_size x2
      rw [q] at this
      exact Nat.lt_irrefl _ this
  exact unpackItems_core ht (fun s1 j Q' k hit ht' hj hQ => tuple_end (hd.keeps fun b o e _ hb => k b o (hnI b hb) e) hnI hit ht' hj hQ) h
theorem unpackItems_H2 {t : Addr} {items : Array Value} {Q : List Value → Shared → Prop} (hd : Hd2 A eh e0 s.heap) (ht : s.heap.IsTuple t items)
    (h : ∀ h', Heap.ExtBut s.heap.objs.size s.heap h' → Q items.toList { s with heap := h' }) : wpAny (model prog w) A (unpackItems (.ref t) items.size none) Q E s := by
  have hnI : ∀ b, b = eh ∨ b = e0 → b ≠ s.heap.objs.size := fun b hb => hd.neI (Nat.le_refl _) hb
  exact unpackItems_core ht (fun s1 j Q' k hit ht' hj hQ => tuple_end2 (hd.keeps rfl fun b o e hb => k b o (hnI b hb) e) (hnI _ (.inl rfl)) (hnI _ (.inr rfl)) hit ht' hj hQ) h
theorem unpackItems_X {t : Addr} {items : Array Value} {k : Nat} {h₀ : Heap} {L : Addr} {m : Str → Option Value} {news : List (Addr × Obj)} {Q : List Value → Shared → Prop} (hd : HdX A s.heap) (F : Fr h₀ L s.heap m) (N : News h₀ L s.heap news) (ht : s.heap.IsTuple t items) (hk : k = items.size)
    (h : ∀ h', Fr h₀ L h' m → News h₀ L h' news → (∀ b o, s.heap.get? b = some o → h'.get? b = some o) → Q items.toList { s with heap := h' }) : wpAny (model prog w) A (unpackItems (.ref t) k none) Q E s := by
  subst hk
  have key : ∀ h', Heap.ExtBut s.heap.objs.size s.heap h' → Q items.toList { s with heap := h' } := fun h' hx =>
    have hk : ∀ b o, s.heap.get? b = some o → h'.get? b = some o := fun b o e => hx b o (Nat.ne_of_lt (Heap.lt_size e)) e
    h h' (F.grownK hk) (N.grown hk) hk
  rcases hd with hd | ⟨eh, e0, hd⟩
  · exact unpackItems_H hd ht key
  · exact unpackItems_H2 hd ht key
end
theorem hdx_of {A A' : Around} {e : Addr} {dct : Option Addr} {vs : Array Value} {sl : Array (Option Value)} {g h : Heap} (hA : A'.handled = some (.ref e)) (he : h.get? e = some (excObj 80 dct vs sl)) (h2 : vs[2]? = some (A.handled.getD .none)) (hd : Hd A g) (k : ∀ b o, g.get? b = some o → h.get? b = some o) (ng : g.get? e = none) : HdX A' h := by
  rcases hd with q | ⟨eh, oh, vs0, x1, x2, x3, x4⟩
  · rw [q] at h2
    exact .inl (.inr ⟨e, _, vs, hA, he, rfl, h2⟩)
  · rw [x1] at h2
    refine .inr ⟨e, eh, hA, fun q => ?_, _, vs, oh, vs0, he, rfl, h2, k _ _ x2, x3, x4⟩
    rw [q, x2] at ng
    cases ng


end
section
local macro_rules | `(tactic| walk_at "M.pad") => `(tactic| skip)
local macro_rules | `(tactic| walk_at "eval Name") => `(tactic| (k_here; k_dflt (refine' nameXA (h := ?_); k_whole)))
local macro_rules | `(tactic| walk_at "call builtin:len") => `(tactic| (k_here; (with_reducible show wpAny _ _ (call (Value.builtin "len") [Value.ref _]) _ _ _); k_dflt (refine' lenA (h := ?_); k_whole)))
set_option hygiene false
local macro_rules | `(tactic| k_ne) => `(tactic| first | assumption | exact Ne.symm (by assumption) | exact ne_led (by assumption) (by walk_at "M.mem") | exact Ne.symm (ne_led (by assumption) (by walk_at "M.mem")) | ((try dsimp only); omega))
set_option hygiene true
set_option hygiene false
local macro_rules | `(tactic| walk_at "M.all") => `(tactic| first | exact all_nil | (refine all_cons ?_ ?_; (· k_ne); walk_at "M.all"))
set_option hygiene true
set_option hygiene false
local macro_rules | `(tactic| k_all) => `(tactic| first | assumption | walk_at "M.all")
set_option hygiene true
set_option hygiene false
local macro_rules | `(tactic| k_lt $h:ident) => `(tactic| skip)
set_option hygiene true
theorem off_C1 : True := by
  w_top off
  exact True.intro
section
abbrev holdEs (w : World) (k : Nat → Tok) (st ou : Addr) (ans : Value) (over : Bool) (fl : Addr) (cc hn tp : Int) (t1 t2 t3 : Tok) : List DictEntry :=
  [⟨PyData.keyHash w.params (Str.ofString "stack"), .str (Str.ofString "stack") (k 0), .ref st⟩, ⟨PyData.keyHash w.params (Str.ofString "open_upvals"), .str (Str.ofString "open_upvals") (k 1), .ref ou⟩,
   ⟨PyData.keyHash w.params (Str.ofString "answers"), .str (Str.ofString "answers") (k 2), ans⟩, ⟨PyData.keyHash w.params (Str.ofString "is_over"), .str (Str.ofString "is_over") (k 3), .bool over⟩,
   ⟨PyData.keyHash w.params (Str.ofString "frames"), .str (Str.ofString "frames") (k 4), .ref fl⟩, ⟨PyData.keyHash w.params (Str.ofString "ccalls"), .str (Str.ofString "ccalls") (k 5), .int cc t1⟩,
   ⟨PyData.keyHash w.params (Str.ofString "handling"), .str (Str.ofString "handling") (k 6), .int hn t2⟩, ⟨PyData.keyHash w.params (Str.ofString "top"), .str (Str.ofString "top") (k 7), .int tp t3⟩]

abbrev fullB : Array UInt8 := #[102, 117, 108, 108]
abbrev eieB : Array UInt8 := #[101, 114, 114, 111, 114, 32, 105, 110, 32, 101, 114, 114, 111, 114, 32, 104, 97, 110, 100, 108, 105, 110, 103]
def Made (w : World) (e d : Addr) (v : Value) (b : Bool) (h h' : Heap) : Prop :=
  (∃ t, h'.get? e = some (newExcObj t d)) ∧ (∃ tr k1 k2 k3, h'.get? d = some (dictOf (luaEs w v tr b k1 k2 k3) 3)) ∧ h.get? e = none ∧ h.get? d = none

theorem madeEl {w : World} {e d : Addr} {v : Value} {b : Bool} {h h' : Heap} (x : Made w e d v b h h') {C : Prop}
    (c : ∀ t tr k1 k2 k3, h'.get? e = some (newExcObj t d) → h'.get? d = some (dictOf (luaEs w v tr b k1 k2 k3) 3) → h.get? e = none → h.get? d = none → C) : C := by
  obtain ⟨⟨t, a⟩, ⟨tr, k1, k2, k3, b⟩, d, e⟩ := x
  exact c t tr k1 k2 k3 a b d e
theorem Made.up {w : World} {e d : Addr} {v : Value} {b : Bool} {h₀ h h' : Heap} (x : Made w e d v b h h') (u : ∀ {a}, h.get? a = none → h₀.get? a = none) : Made w e d v b h₀ h' := ⟨x.1, x.2.1, u x.2.2.1, u x.2.2.2⟩

section
variable {hn : Nat} {prog : Program} {w : World} {p : Program} {loose : List Str} {mean : ExcName → Option Value} {mg mb : Str → Option Value} {A : Around} {base : Heap} {l : List Env} {s : Shared} {R : Result → Shared → Prop} {Q : Value → Shared → Prop} {E : Value → Shared → Prop}
theorem room_spec (P : Pre (Mine.hd.heap_39 w.params) p loose mean mg mb A base l s.heap hn) {limit over spare : Int} {t1 t2 t3 : Tok}
    (h : ∀ h' r tr tk, Kept [] [] s.heap h' → r = (if over > 0 then limit + Int.fdiv limit 8 + spare else limit) → R (.ok (.ret (.int r tr))) { s with heap := h', toks := tk }) :
    codeAny (model prog w) A (.call (.ref 21) ⟨[.int limit t1, .int over t2, .int spare t3], []⟩) R s := by
  refine' enter P [] [(Str.ofString "limit", .int limit t1), (Str.ofString "over", .int over t2), (Str.ofString "spare", .int spare t3)] (fun _ hm => nomatch hm) ?k6 ?k7 ?k9 ?kB ?_ ?c2 ?c3 ?c4 ?c5
  case k6 => k_is
  case k7 => k_is
  case k9 => exact BindsTo.of_eq rfl
  case kB => exact locs rfl
  case c2 => exact rfl
  case c3 => exact rfl
  case c4 => exact rfl
  case c5 => decide
  intro g L h₁ G F kp hL B D X T
  try dsimp only
  k_fold
  clear kp
  (repeat' ((fail_if_success (with_reducible show wpAny _ _ (pyIter _) _ _ _)); (fail_if_success (with_reducible show wpAny _ _ (call (Value.ref _) _) _ _ _)); (fail_if_success (with_reducible show wpAny _ _ (exec (Stmt.Raise _ _ _) _) _ _ _)); (fail_if_success (with_reducible show wpAny _ _ (exec (Stmt.While _ _ _ _) _) _ _ _)); (fail_if_success (with_reducible show wpAny _ _ (exec (Stmt.Try _ _ _ _ _) _) _ _ _)); (fail_if_success (with_reducible show wpAny _ _ (call (Value.builtin "min") _ _) _ _ _)); (fail_if_success (with_reducible show wpAny _ _ (call (Value.builtin "max") _ _) _ _ _)); (fail_if_success (with_reducible show wpAny _ _ (eval (Expr.Lambda _ _ _ _) _) _ _ _)); (fail_if_success (with_reducible show InvPostN _ _ _ _ _ _ _ _ _)); first | walk1 | (dsimp only; walk1)))
  all_goals ((show R _ _); (rename Fr _ _ _ _ => hF))
  · refine h _ _ _ _ (G.ke0 hF) ?_
    rw [if_pos (by assumption)]
  · refine h _ _ _ _ (G.ke0 hF) ?_
    rw [if_neg (by assumption)]

theorem isroom_spec (P : Pre (Mine.hd.heap_39 w.params) p loose mean mg mb A base l s.heap hn) {fl : Addr} {fr : Array Value} {k : Nat} {limit : Int} {t1 : Tok} (hfl : s.heap.get? fl = some (listOf fr k)) (hsz : fr.size ≤ 100000)
    (h : ∀ h' tk, Kept [] [] s.heap h' → R (.ok (.ret (.bool (decide ((fr.size : Int) < limit))))) { s with heap := h', toks := tk }) :
    codeAny (model prog w) A (.call (.ref 28) ⟨[.ref fl, .int limit t1], []⟩) R s := by
  refine' enter P [] [(Str.ofString "frames", .ref fl), (Str.ofString "limit", .int limit t1)] (fun _ hm => nomatch hm) ?k6 ?k7 ?k9 ?kB ?_ ?c2 ?c3 ?c4 ?c5
  case k6 => k_is
  case k7 => k_is
  case k9 => exact BindsTo.of_eq rfl
  case kB => exact locs rfl
  case c2 => exact rfl
  case c3 => exact rfl
  case c4 => exact rfl
  case c5 => decide
  intro g L h₁ G F kp hL B D X T
  try dsimp only
  k_fold
  have hl' : g.IsList fl fr := ⟨_, G.up hfl nm_nil, rfl, k, rfl⟩
  clear kp
  (repeat' ((fail_if_success (with_reducible show wpAny _ _ (pyIter _) _ _ _)); (fail_if_success (with_reducible show wpAny _ _ (call (Value.ref _) _) _ _ _)); (fail_if_success (with_reducible show wpAny _ _ (exec (Stmt.Raise _ _ _) _) _ _ _)); (fail_if_success (with_reducible show wpAny _ _ (exec (Stmt.While _ _ _ _) _) _ _ _)); (fail_if_success (with_reducible show wpAny _ _ (exec (Stmt.Try _ _ _ _ _) _) _ _ _)); (fail_if_success (with_reducible show wpAny _ _ (call (Value.builtin "min") _ _) _ _ _)); (fail_if_success (with_reducible show wpAny _ _ (call (Value.builtin "max") _ _) _ _ _)); (fail_if_success (with_reducible show wpAny _ _ (eval (Expr.Lambda _ _ _ _) _) _ _ _)); (fail_if_success (with_reducible show InvPostN _ _ _ _ _ _ _ _ _)); first | walk1 | (dsimp only; walk1)))
  (show R _ _)
  exact h _ _ (G.ke0 F)

theorem eie_spec (P : Pre (Mine.hd.heap_39 w.params) p loose mean mg mb A base l s.heap (hn + 2))
    (h : ∀ h' e d tb tk, Kept [] [] s.heap h' → Made w e d (.bytes eieB tb) true s.heap h' → R (.ok (.ret (.ref e))) { s with heap := h', toks := tk }) :
    codeAny (model prog w) A (.call (.ref 90) ⟨[], []⟩) R s := by
  refine' enter P [] [] (fun _ hm => nomatch hm) ?k6 ?k7 ?k9 ?kB ?_ ?c2 ?c3 ?c4 ?c5
  case k6 => k_is
  case k7 => k_is
  case k9 => exact BindsTo.of_eq rfl
  case kB => exact locs rfl
  case c2 => exact rfl
  case c3 => exact rfl
  case c4 => exact rfl
  case c5 => decide
  intro g L h₁ G F kp hL B D X T
  try dsimp only
  k_fold
  have N : News g L h₁ [] := News.nil
  clear kp
  (repeat' ((fail_if_success (with_reducible show wpAny _ _ (pyIter _) _ _ _)); (fail_if_success (with_reducible show wpAny _ _ (call (Value.ref _) _) _ _ _)); (fail_if_success (with_reducible show wpAny _ _ (exec (Stmt.Raise _ _ _) _) _ _ _)); (fail_if_success (with_reducible show wpAny _ _ (exec (Stmt.While _ _ _ _) _) _ _ _)); (fail_if_success (with_reducible show wpAny _ _ (exec (Stmt.Try _ _ _ _ _) _) _ _ _)); (fail_if_success (with_reducible show wpAny _ _ (call (Value.builtin "min") _ _) _ _ _)); (fail_if_success (with_reducible show wpAny _ _ (call (Value.builtin "max") _ _) _ _ _)); (fail_if_success (with_reducible show wpAny _ _ (eval (Expr.Lambda _ _ _ _) _) _ _ _)); (fail_if_success (with_reducible show InvPostN _ _ _ _ _ _ _ _ _)); first | walk1 | (dsimp only; walk1)))
  refine lua_spec (pre_call P B D F rfl rfl) (fun h' e t d tr k1 k2 k3 tk kp e1 e2 n1 n2 => ?_)
  have F' := after_call0 F kp (fun _ hm => nomatch hm)
  have ed : @Ne Nat e d := ne_obj e1 e2 (fun q => by cases q)
  have N' : News g L h' [(e, newExcObj t d), (d, dictOf (luaEs w (.bytes eieB 293) tr false k1 k2 k3) 3)] := News.one (new_of0 F n1 e1) (News.one (new_of0 F n2 e2) News.nil)
  have hn1 := F.keep
  clear N
  try dsimp only
  (repeat' ((fail_if_success (with_reducible show wpAny _ _ (pyIter _) _ _ _)); (fail_if_success (with_reducible show wpAny _ _ (call (Value.ref _) _) _ _ _)); (fail_if_success (with_reducible show wpAny _ _ (exec (Stmt.Raise _ _ _) _) _ _ _)); (fail_if_success (with_reducible show wpAny _ _ (exec (Stmt.While _ _ _ _) _) _ _ _)); (fail_if_success (with_reducible show wpAny _ _ (exec (Stmt.Try _ _ _ _ _) _) _ _ _)); (fail_if_success (with_reducible show wpAny _ _ (call (Value.builtin "min") _ _) _ _ _)); (fail_if_success (with_reducible show wpAny _ _ (call (Value.builtin "max") _ _) _ _ _)); (fail_if_success (with_reducible show wpAny _ _ (eval (Expr.Lambda _ _ _ _) _) _ _ _)); (fail_if_success (with_reducible show InvPostN _ _ _ _ _ _ _ _ _)); first | walk1 | (dsimp only; walk1)))
  (show R _ _)
  rename Fr _ _ _ _ => hF
  rename News _ _ _ _ => hN
  exact h _ e d 293 _ (G.ke0 hF) ⟨⟨t, (hN _ mm0).1⟩, ⟨tr, k1, k2, k3, (hN _ mm1).1⟩, G.new hN mm0 nm_nil, G.new hN mm1 nm_nil⟩
end


end
theorem off_C2 : True := by
  w_top off
  exact True.intro
section
def FullLam (prog : Program) (w : World) (p : Program) (loose : List Str) (mean : ExcName → Option Value) (mg mb : Str → Option Value) (base : Heap) (f : Addr) (of : Obj) (cdv : Value) (qual : Str) : Prop :=
  ∀ {hn : Nat} {A : Around} {l : List Env} {s : Shared} {R : Result → Shared → Prop}, Pre (Mine.hd.heap_39 w.params) p loose mean mg mb A base l s.heap (hn + 2) → s.heap.get? f = some of → s.heap.CodeRec cdv qual →
    (∀ h' e d tb tk, Kept [] [] s.heap h' → Made w e d (.bytes fullB tb) false s.heap h' → R (.ok (.ret (.ref e))) { s with heap := h', toks := tk }) → codeAny (model prog w) A (.call (.ref f) ⟨[], []⟩) R s

section
variable {hn : Nat} {prog : Program} {w : World} {p : Program} {loose : List Str} {mean : ExcName → Option Value} {mg mb : Str → Option Value} {A : Around} {base : Heap} {l : List Env} {s : Shared} {R : Result → Shared → Prop} {Q : Value → Shared → Prop} {E : Value → Shared → Prop}
theorem overflow_spec (P : Pre (Mine.hd.heap_39 w.params) p loose mean mg mb A base l s.heap (hn + 3)) {x dx st ou fl f c' : Addr} {kk : Nat → Tok} {ans : Value} {over : Bool} {cc hd tp : Int} {t1 t2 t3 : Tok} {nm qual : Str} {params : Arguments} {body : Expr} {scope : Scope} {cl : List (Str × Addr)} {pm ctv : Value}
    (hx : s.heap.get? x = some (instObj 52 dx)) (hdx : s.heap.get? dx = some (dictOf (holdEs w kk st ou ans over fl cc hd tp t1 t2 t3) 8)) (bx : Loose base l s.heap x) (bdx : Loose base l s.heap dx)
    (hf : s.heap.get? f = some (kla_obj nm qual params body scope cl pm c' ctv)) (bf : Loose base l s.heap f) (hc : s.heap.CodeRec (.ref c') qual) (hw : FullLam prog w p loose mean mg mb base f (kla_obj nm qual params body scope cl pm c' ctv) (.ref c') qual)
    (h : ∀ h' e d v tk, Kept [dx] [] s.heap h' → h'.get? dx = some (dictOf (holdEs w kk st ou ans true fl cc hd tp t1 t2 t3) 8) → Made w e d v over s.heap h' → (∃ tb, v = .bytes (if over then eieB else fullB) tb) → R (.ok (.ret (.ref e))) { s with heap := h', toks := tk }) :
    codeAny (model prog w) A (.call (.ref 97) ⟨[.ref x, .ref f], []⟩) R s := by
  refine' enter P [x, dx, f] [(Str.ofString "holder", .ref x), (Str.ofString "work", .ref f)] (looseC bx (looseC bdx (loose1 bf))) ?k6 ?k7 ?k9 ?kB ?_ ?c2 ?c3 ?c4 ?c5
  case k6 => k_is
  case k7 => k_is
  case k9 => exact BindsTo.of_eq rfl
  case kB => exact locs rfl
  case c2 => exact rfl
  case c3 => exact rfl
  case c4 => exact rfl
  case c5 => decide
  intro g L h₁ G F kp hL B D X T
  try dsimp only
  k_fold
  have xd : @Ne Nat x dx := ne_obj hx hdx (fun q => by cases q)
  have xf : @Ne Nat x f := ne_obj hx hf (fun q => by cases q)
  have df : @Ne Nat dx f := ne_objc hdx hf (by simp)
  have N := G.news1 kp hx mm0 (G.news1 kp hdx mm1 (G.news1 kp hf mm2 News.nil))
  have hc₁ := codeRec_kept hc (Kept.of_keeps (M := []) (fs := []) fun b o e => (kp e).1)
  clear kp
  (repeat' ((fail_if_success (with_reducible show wpAny _ _ (pyIter _) _ _ _)); (fail_if_success (with_reducible show wpAny _ _ (call (Value.ref _) _) _ _ _)); (fail_if_success (with_reducible show wpAny _ _ (exec (Stmt.Raise _ _ _) _) _ _ _)); (fail_if_success (with_reducible show wpAny _ _ (exec (Stmt.While _ _ _ _) _) _ _ _)); (fail_if_success (with_reducible show wpAny _ _ (exec (Stmt.Try _ _ _ _ _) _) _ _ _)); (fail_if_success (with_reducible show wpAny _ _ (call (Value.builtin "min") _ _) _ _ _)); (fail_if_success (with_reducible show wpAny _ _ (call (Value.builtin "max") _ _) _ _ _)); (fail_if_success (with_reducible show wpAny _ _ (eval (Expr.Lambda _ _ _ _) _) _ _ _)); (fail_if_success (with_reducible show InvPostN _ _ _ _ _ _ _ _ _)); first | walk1 | (dsimp only; walk1)))
  · refine wpAny_call (eie_spec (pre_call P B D F rfl rfl) fun h' e d tb tk kp mk => ?_)
    have up : ∀ {a}, h₁.get? a = none → s.heap.get? a = none := fun ea => G.none_up F (exC (nGet N mm0) (exC (nGet N mm1) (exC (nGet N mm2) exN))) ea
    have F' := after_call0 F kp (fun _ hm => nomatch hm)
    have N' := News.kept0 N kp (fun _ _ => nm_nil)
    (show R _ _)
    have k1 := (G.ke0 F').tight (M := [dx]) (tightC (.inr (tight_old hx (nGet N' mm0))) (tightC (.inl mm0) (tightC (.inr (tight_old hf (nGet N' mm2))) tightN)))
    have hov : over = true := by assumption
    subst hov
    exact h _ e d _ _ k1 (nGet N' mm1) (mk.up up) ⟨tb, rfl⟩
  · rename Fr _ _ _ _ => hF
    rename News _ _ _ _ => hN
    have hc₂ := codeRec_kept hc (G.ke0 hF)
    refine callWith_F0 (FnAt.of hN mm2) ?_
    refine wpAny_call (hw (pre_call P B D hF rfl rfl) (hN _ mm2).1 hc₂ fun h' e d tb tk kp mk => ?_)
    have up : ∀ {a}, _ := fun {a} ea => G.none_up hF (b := a) (exC (hN _ mm0).1 (exC (hN _ mm1).1 (exC (hN _ mm2).1 exN))) ea
    have F' := after_call0 hF kp (fun _ hm => nomatch hm)
    have N' := News.kept0 hN kp (fun _ _ => nm_nil)
    (show R _ _)
    have k1 := (G.ke0 F').tight (M := [dx]) (tightC (.inr (tight_old hx (nGet N' mm0))) (tightC (.inl mm0) (tightC (.inr (tight_old hf (nGet N' mm2))) tightN)))
    have hov : over = false := by assumption
    subst hov
    exact h _ e d _ _ k1 (nGet N' mm1) (mk.up up) ⟨tb, rfl⟩
end


end
theorem off_C3 : True := by
  w_top off
  exact True.intro
section
inductive Out where
  | none | full | eie
def gone (bound spare : Int) : Nat → Int → Bool → Int × Bool × Out
  | 0, d, b => (d, b, .none)
  | n + 1, d, b => if d < (if b then bound + Int.fdiv bound 8 + spare else bound) then gone bound spare n (d + 1) b else (d, true, if b then .eie else .full)
def isVal (o : Out) (v : Value) : Prop := match o with
  | .none => False
  | .full => ∃ tb, v = .bytes fullB tb
  | .eie => ∃ tb, v = .bytes eieB tb

theorem TabAt.same {P : Addr} {pos : Pos} {qual : Str} {M fs : List Addr} {h h' : Heap} (x : TabAt P pos qual h) (e : h'.get? P = h.get? P) (k : Kept M fs h h') : TabAt P pos qual h' := by
  rcases x with y | ⟨c', y, r⟩
  · exact .inl (e.trans y)
  · exact .inr ⟨c', e.trans y, codeRec_kept r k⟩

abbrev lamPos : Pos := ⟨90, 35, 90, 60⟩
abbrev lamQual : Str := (Str.ofString "_law_deeper" ++ Str.ofString ".<locals>.") ++ Str.ofString "<lambda>"

theorem sub_step {n i : Nat} (h : i < n) : n - i = (n - (i + 1)) + 1 := (Nat.succ_pred_eq_of_pos (Nat.sub_pos_of_lt h)).symm
theorem smallM {many : Int} (b : 0 ≤ many ∧ many ≤ 1000) : Builtin.Range.small 0 many 1 = true := small_one (by omega) (by omega) (by omega) (by omega)
inductive CI (w : World) (x dx fl st ou : Addr) (kk : Nat → Tok) (ans : Value) (over : Bool) (cc hd tp : Int) (t1 t2 t3 : Tok) (ps fr : Array Value) (bound spare many : Int) (tb ts tm : Tok) (i : Nat) (m₁ : Str → Option Value) (nx : List (Addr × Obj)) : Prop where
  | mk (fr' : Array Value) (ext : List Value) (k' : Nat) (e : nx = [(x, instObj 52 dx), (dx, dictOf (holdEs w kk st ou ans over fl cc hd tp t1 t2 t3) 8), (fl, listOf fr' k'), (134, tabObj ps)]) (h1 : fr'.toList = fr.toList ++ ext) (h2 : ext.length = i)
      (hm : ∀ z, z ≠ Str.ofString "turn" → m₁ z = List.lookup z (List.reverse [(Str.ofString "holder", Value.ref x), (Str.ofString "bound", Value.int bound tb), (Str.ofString "spare", Value.int spare ts), (Str.ofString "many", Value.int many tm)]))
      (hg : gone bound spare many.toNat fr.size over = gone bound spare (many.toNat - i) fr'.size over) : CI w x dx fl st ou kk ans over cc hd tp t1 t2 t3 ps fr bound spare many tb ts tm i m₁ nx
section
variable {hn : Nat} {prog : Program} {w : World} {p : Program} {loose : List Str} {mean : ExcName → Option Value} {mg mb : Str → Option Value} {A : Around} {base : Heap} {l : List Env} {s : Shared} {R : Result → Shared → Prop} {Q : Value → Shared → Prop} {E : Value → Shared → Prop}
theorem deeper_spec (P : Pre (Mine.hd.heap_39 w.params) p loose mean mg mb A base l s.heap (hn + 5)) {x dx st ou fl : Addr} {kk : Nat → Tok} {ans : Value} {over : Bool} {cc hd tp bound spare many : Int} {t1 t2 t3 tb ts tm : Tok} {fr : Array Value} {k : Nat}
    (hx : s.heap.get? x = some (instObj 52 dx)) (hdx : s.heap.get? dx = some (dictOf (holdEs w kk st ou ans over fl cc hd tp t1 t2 t3) 8)) (hfl : s.heap.get? fl = some (listOf fr k)) (ht : TabAt 134 lamPos lamQual s.heap)
    (bx : Loose base l s.heap x) (bdx : Loose base l s.heap dx) (bfl : Loose base l s.heap fl) (bt : Loose base l s.heap 134) (hH : Hd A s.heap) (hHn : ∀ eh, A.handled = some (.ref eh) → eh ≠ 134)
    (b1 : 0 ≤ bound ∧ bound ≤ 1000) (b2 : 0 ≤ spare ∧ spare ≤ 1000) (b3 : 0 ≤ many ∧ many ≤ 1000) (b4 : fr.size ≤ 1000)
    (h : ∀ h' fr' ext k' tk, Kept [fl] [] s.heap h' → h'.get? fl = some (listOf fr' k') → fr'.toList = fr.toList ++ ext → gone bound spare many.toNat fr.size over = ((fr'.size : Int), over, .none) → R (.ok (.ret .none)) { s with heap := h', toks := tk })
    (hr : ∀ h' fr' ext k' e T d v o tk tr k1 k2 k3, Kept [dx, fl, 134] (fsOf l) s.heap h' → h'.get? dx = some (dictOf (holdEs w kk st ou ans true fl cc hd tp t1 t2 t3) 8) → h'.get? fl = some (listOf fr' k') → fr'.toList = fr.toList ++ ext →
      TabAt 134 lamPos lamQual h' → Flown e T (some d) (A.handled.getD .none) .none h' → h'.get? d = some (dictOf (luaEs w v tr over k1 k2 k3) 3) → isVal o v → gone bound spare many.toNat fr.size over = ((fr'.size : Int), true, o) →
      s.heap.get? e = none → s.heap.get? d = none → s.heap.get? T = none → R (.error (.ref e)) { s with heap := h', toks := tk }) :
    codeAny (model prog w) A (.call (.ref 139) ⟨[.ref x, .int bound tb, .int spare ts, .int many tm], []⟩) R s := by
  refine' enter P [x, dx, fl, 134] [(Str.ofString "holder", .ref x), (Str.ofString "bound", .int bound tb), (Str.ofString "spare", .int spare ts), (Str.ofString "many", .int many tm)] (looseC bx (looseC bdx (looseC bfl (loose1 bt)))) ?k6 ?k7 ?k9 ?kB ?_ ?c2 ?c3 ?c4 ?c5
  case k6 => k_is
  case k7 => k_is
  case k9 => exact BindsTo.of_eq rfl
  case kB => exact locs rfl
  case c2 => exact rfl
  case c3 => exact rfl
  case c4 => exact rfl
  case c5 => decide
  intro g L h₁ G F kp hL B D X T
  try dsimp only
  k_fold
  refine exEl2 ht.obj fun ps hps hpc => ?_
  have xd : @Ne Nat x dx := ne_objc hx hdx (by first | exact cID | exact cIL | exact cIT | exact cDL | exact cDT | exact cLT | simp)
  have xf : @Ne Nat x fl := ne_objc hx hfl (by first | exact cID | exact cIL | exact cIT | exact cDL | exact cDT | exact cLT | simp)
  have df : @Ne Nat dx fl := ne_objc hdx hfl (by first | exact cID | exact cIL | exact cIT | exact cDL | exact cDT | exact cLT | simp)
  have xt : @Ne Nat x 134 := ne_objc hx hps (by first | exact cID | exact cIL | exact cIT | exact cDL | exact cDT | exact cLT | simp)
  have dt : @Ne Nat dx 134 := ne_objc hdx hps (by first | exact cID | exact cIL | exact cIT | exact cDL | exact cDT | exact cLT | simp)
  have ft : @Ne Nat fl 134 := ne_objc hfl hps (by first | exact cID | exact cIL | exact cIT | exact cDL | exact cDT | exact cLT | simp)
  have N := G.news1 kp hx mm0 (G.news1 kp hdx mm1 (G.news1 kp hfl mm2 (G.news1 kp hps mm3 News.nil)))
  clear kp
  (repeat' ((fail_if_success (with_reducible show wpAny _ _ (pyIter _) _ _ _)); (fail_if_success (with_reducible show wpAny _ _ (call (Value.ref _) _) _ _ _)); (fail_if_success (with_reducible show wpAny _ _ (exec (Stmt.Raise _ _ _) _) _ _ _)); (fail_if_success (with_reducible show wpAny _ _ (exec (Stmt.While _ _ _ _) _) _ _ _)); (fail_if_success (with_reducible show wpAny _ _ (exec (Stmt.Try _ _ _ _ _) _) _ _ _)); (fail_if_success (with_reducible show wpAny _ _ (call (Value.builtin "min") _ _) _ _ _)); (fail_if_success (with_reducible show wpAny _ _ (call (Value.builtin "max") _ _) _ _ _)); (fail_if_success (with_reducible show wpAny _ _ (eval (Expr.Lambda _ _ _ _) _) _ _ _)); (fail_if_success (with_reducible show InvPostN _ _ _ _ _ _ _ _ _)); first | walk1 | (dsimp only; walk1)))
  rename IsRange _ _ _ _ _ _ _ _ => hR
  rename News _ _ _ _ => hN
  rename Fr _ _ _ _ => hF
  have hHg : Hd A g := hH.keeps fun b o e ⟨vs, hv⟩ hb => G.up e fun q => by
    rcases List.mem_cons.mp q with rfl | q
    · rw [hx] at e; cases e; cases hv
    rcases List.mem_cons.mp q with rfl | q
    · rw [hdx] at e; cases e; cases hv
    rcases List.mem_cons.mp q with rfl | q
    · rw [hfl] at e; cases e; cases hv
    · exact hHn b hb (List.mem_singleton.mp q)
  refine iter_rangeH (n := many.toNat) (CI w x dx fl st ou kk ans over cc hd tp t1 t2 t3 ps fr bound spare many tb ts tm) hHg hR (smallM b3) ((rangeSize_nat _ _).trans (by simp)) hF hN ⟨fr, [], k, rfl, by simp, rfl, fun _ _ => rfl, by simp⟩ ?_ ?_
  · rintro i t m₁ news₁ hp tk own hi hadr hoff ⟨fr', ext, k', rfl, hfr, hext, hm, hg⟩ F' N'
    rw [map_none hm] at F'
    clear hR hN hF
    dsimp only [List.cons_append, List.nil_append] at N'
    have ofl : ∀ p ∈ own, p.1 ≠ fl := OwnOff.ne hoff (by simp)
    have odx : ∀ p ∈ own, p.1 ≠ dx := OwnOff.ne hoff (by simp)
    (repeat' ((fail_if_success (with_reducible show wpAny _ _ (pyIter _) _ _ _)); (fail_if_success (with_reducible show wpAny _ _ (call (Value.ref _) _) _ _ _)); (fail_if_success (with_reducible show wpAny _ _ (exec (Stmt.Raise _ _ _) _) _ _ _)); (fail_if_success (with_reducible show wpAny _ _ (exec (Stmt.While _ _ _ _) _) _ _ _)); (fail_if_success (with_reducible show wpAny _ _ (exec (Stmt.Try _ _ _ _ _) _) _ _ _)); (fail_if_success (with_reducible show wpAny _ _ (call (Value.builtin "min") _ _) _ _ _)); (fail_if_success (with_reducible show wpAny _ _ (call (Value.builtin "max") _ _) _ _ _)); (fail_if_success (with_reducible show wpAny _ _ (eval (Expr.Lambda _ _ _ _) _) _ _ _)); (fail_if_success (with_reducible show InvPostN _ _ _ _ _ _ _ _ _)); first | walk1 | (dsimp only; walk1)))
    have hsz : fr'.size ≤ 3000 := by
      have e1 : fr'.toList.length = fr.toList.length + ext.length := by rw [hfr, List.length_append]
      simp only [Array.length_toList] at e1
      omega
    refine wpAny_call (room_spec (pre_call P B D F' rfl rfl) fun h2 r tr tk2 kp2 er => ?_)
    have F2 := after_call0 F' kp2 (fun _ hm => nomatch hm)
    have N2 := News.kept0 N' kp2 (fun _ _ => nm_nil)
    clear F' N' kp2
    try dsimp only
    (repeat' ((fail_if_success (with_reducible show wpAny _ _ (pyIter _) _ _ _)); (fail_if_success (with_reducible show wpAny _ _ (call (Value.ref _) _) _ _ _)); (fail_if_success (with_reducible show wpAny _ _ (exec (Stmt.Raise _ _ _) _) _ _ _)); (fail_if_success (with_reducible show wpAny _ _ (exec (Stmt.While _ _ _ _) _) _ _ _)); (fail_if_success (with_reducible show wpAny _ _ (exec (Stmt.Try _ _ _ _ _) _) _ _ _)); (fail_if_success (with_reducible show wpAny _ _ (call (Value.builtin "min") _ _) _ _ _)); (fail_if_success (with_reducible show wpAny _ _ (call (Value.builtin "max") _ _) _ _ _)); (fail_if_success (with_reducible show wpAny _ _ (eval (Expr.Lambda _ _ _ _) _) _ _ _)); (fail_if_success (with_reducible show InvPostN _ _ _ _ _ _ _ _ _)); first | walk1 | (dsimp only; walk1)))
    refine wpAny_call (isroom_spec (pre_call P B D F2 rfl rfl) (nGet N2 mm2) (by omega) fun h3 tk3 kp3 => ?_)
    have F3 := after_call0 F2 kp3 (fun _ hm => nomatch hm)
    have N3 := News.kept0 N2 kp3 (fun _ _ => nm_nil)
    clear F2 N2 kp3
    try dsimp only
    (repeat' ((fail_if_success (with_reducible show wpAny _ _ (pyIter _) _ _ _)); (fail_if_success (with_reducible show wpAny _ _ (call (Value.ref _) _) _ _ _)); (fail_if_success (with_reducible show wpAny _ _ (exec (Stmt.Raise _ _ _) _) _ _ _)); (fail_if_success (with_reducible show wpAny _ _ (exec (Stmt.While _ _ _ _) _) _ _ _)); (fail_if_success (with_reducible show wpAny _ _ (exec (Stmt.Try _ _ _ _ _) _) _ _ _)); (fail_if_success (with_reducible show wpAny _ _ (call (Value.builtin "min") _ _) _ _ _)); (fail_if_success (with_reducible show wpAny _ _ (call (Value.builtin "max") _ _) _ _ _)); (fail_if_success (with_reducible show wpAny _ _ (eval (Expr.Lambda _ _ _ _) _) _ _ _)); (fail_if_success (with_reducible show InvPostN _ _ _ _ _ _ _ _ _)); first | walk1 | (dsimp only; walk1)))
    · rename Fr _ _ _ _ => hF
      rename News _ _ _ _ => hN
      have hlt : (fr'.size : Int) < r := by assumption
      refine InvEndN.intro hF hN ⟨fr'.push (Value.int (0 + (i : Int)) t), ext ++ [Value.int (0 + (i : Int)) t], k' + 1, rfl, ?_, ?_, fun z hz => if_neg hz, ?_⟩ (by simp) (fun q hq => ?_) (fun q hq => .tail _ (.tail _ (.tail _ (.tail _ hq))))
      · rw [Array.toList_push, hfr, List.append_assoc]
      · rw [List.length_append, hext]; rfl
      · rw [hg, sub_step hi, Array.size_push]
        rw [gone, if_pos (by rw [er] at hlt; cases over <;> simpa using hlt)]
        rfl
      · simp only [List.mem_cons, List.not_mem_nil, or_false] at hq ⊢
        rcases hq with q | q | q | q <;> simp [q]
    · have hge : ¬ (fr'.size : Int) < r := by assumption
      refine raise_exc ?_
      (repeat' ((fail_if_success (with_reducible show wpAny _ _ (pyIter _) _ _ _)); (fail_if_success (with_reducible show wpAny _ _ (call (Value.ref _) _) _ _ _)); (fail_if_success (with_reducible show wpAny _ _ (exec (Stmt.Raise _ _ _) _) _ _ _)); (fail_if_success (with_reducible show wpAny _ _ (exec (Stmt.While _ _ _ _) _) _ _ _)); (fail_if_success (with_reducible show wpAny _ _ (exec (Stmt.Try _ _ _ _ _) _) _ _ _)); (fail_if_success (with_reducible show wpAny _ _ (call (Value.builtin "min") _ _) _ _ _)); (fail_if_success (with_reducible show wpAny _ _ (call (Value.builtin "max") _ _) _ _ _)); (fail_if_success (with_reducible show wpAny _ _ (eval (Expr.Lambda _ _ _ _) _) _ _ _)); (fail_if_success (with_reducible show InvPostN _ _ _ _ _ _ _ _ _)); first | walk1 | (dsimp only; walk1)))
      have tb3 : TabAt 134 lamPos lamQual h3 := ht.same ((N3 _ mm3).1.trans hps.symm) (G.ke0 F3)
      have hg134 : g.get? 134 = none := (nOff N3 mm3)
      k_dflt (refine' lam_make (P := 134) (c := 138) F3 T (P.H1.keeps B.stays) ?e1 hg134 (nNeL N3 mm3) tb3 ?e2 ?e3 ?_)
      case e1 => exact rfl
      case e2 => exact rfl
      case e3 => exact rfl
      intro f c' pm ctv h4 tk4 F4 kp4 tb4 nf hf hc
      have N4 : News g L h4 [(x, instObj 52 dx), (dx, dictOf (holdEs w kk st ou ans over fl cc hd tp t1 t2 t3) 8), (fl, listOf fr' k'), (f, _)] :=
        News.one (old_of0 N3 kp4 mm0 (nm_cons xt nm_nil)) (News.one (old_of0 N3 kp4 mm1 (nm_cons dt nm_nil)) (News.one (old_of0 N3 kp4 mm2 (nm_cons ft nm_nil)) (News.one (new_of0 F3 nf hf) News.nil)))
      try dsimp only
      (repeat' ((fail_if_success (with_reducible show wpAny _ _ (pyIter _) _ _ _)); (fail_if_success (with_reducible show wpAny _ _ (call (Value.ref _) _) _ _ _)); (fail_if_success (with_reducible show wpAny _ _ (exec (Stmt.Raise _ _ _) _) _ _ _)); (fail_if_success (with_reducible show wpAny _ _ (exec (Stmt.While _ _ _ _) _) _ _ _)); (fail_if_success (with_reducible show wpAny _ _ (exec (Stmt.Try _ _ _ _ _) _) _ _ _)); (fail_if_success (with_reducible show wpAny _ _ (call (Value.builtin "min") _ _) _ _ _)); (fail_if_success (with_reducible show wpAny _ _ (call (Value.builtin "max") _ _) _ _ _)); (fail_if_success (with_reducible show wpAny _ _ (eval (Expr.Lambda _ _ _ _) _) _ _ _)); (fail_if_success (with_reducible show InvPostN _ _ _ _ _ _ _ _ _)); first | walk1 | (dsimp only; walk1)))
      have lx : ∀ env : Env, env.frame = some L → Loose base (env :: l) h4 x := fun _ he => loose_of B he N4 mm0 rfl
      have ldx : ∀ env : Env, env.frame = some L → Loose base (env :: l) h4 dx := fun _ he => loose_of B he N4 mm1 rfl
      have lfl : ∀ env : Env, env.frame = some L → Loose base (env :: l) h4 fl := fun _ he => loose_of B he N4 mm2 rfl
      have lf : ∀ env : Env, env.frame = some L → Loose base (env :: l) h4 f := fun _ he => loose_of B he N4 mm3 rfl
      refine wpAny_call (overflow_spec (pre_call P B D F4 rfl rfl) (nGet N4 mm0) (nGet N4 mm1) (lx _ rfl) (ldx _ rfl) hf (lf _ rfl) hc ?hw fun h6 e d v tk6 kp6 hdx6 mk6 hv6 => ?_)
      case hw =>
        intro hn' A' l' s' R' P' hf' hc' k'
        refine' enterE P' [] [] (fun _ hm => nomatch hm) hf' hc' ?b ?lc ?_
        case b => rfl
        case lc => exact fun _ hm => nomatch hm
        intro g' L' h₁' G' F' kp' hL' B' D' X' T'
        try dsimp only
        clear kp'
        have N' : News g' L' h₁' [] := News.nil
        (repeat' ((fail_if_success (with_reducible show wpAny _ _ (pyIter _) _ _ _)); (fail_if_success (with_reducible show wpAny _ _ (call (Value.ref _) _) _ _ _)); (fail_if_success (with_reducible show wpAny _ _ (exec (Stmt.Raise _ _ _) _) _ _ _)); (fail_if_success (with_reducible show wpAny _ _ (exec (Stmt.While _ _ _ _) _) _ _ _)); (fail_if_success (with_reducible show wpAny _ _ (exec (Stmt.Try _ _ _ _ _) _) _ _ _)); (fail_if_success (with_reducible show wpAny _ _ (call (Value.builtin "min") _ _) _ _ _)); (fail_if_success (with_reducible show wpAny _ _ (call (Value.builtin "max") _ _) _ _ _)); (fail_if_success (with_reducible show wpAny _ _ (eval (Expr.Lambda _ _ _ _) _) _ _ _)); (fail_if_success (with_reducible show InvPostN _ _ _ _ _ _ _ _ _)); first | walk1 | (dsimp only; walk1)))
        refine lua_spec (pre_call P' B' D' F' rfl rfl) (fun h2 e t d tr k1 k2 k3 tk kp e1 e2 n1 n2 => ?_)
        have F2 := after_call0 F' kp (fun _ hm => nomatch hm)
        exact k' _ e d _ _ (G'.ke0 F2) ⟨⟨t, e1⟩, ⟨tr, k1, k2, k3, e2⟩, G'.none_up F' exN n1, G'.none_up F' exN n2⟩
      refine madeEl mk6 fun t0 tr0 q1 q2 q3 ge gd ne nd => ?_
      have F6 := after_call0 F4 kp6 (forall_cons ⟨(nOff N4 mm1), (nNeL N4 mm1)⟩ forall_nil)
      have geg : g.get? e = none := kts_none F4.keep ne
      have eL : e ≠ L := fun q => by
        obtain ⟨oL, _, _, hoL, _⟩ := F4.ns
        rw [q] at ne
        rw [ne] at hoL; cases hoL
      refine ⟨e, t0, d, rfl, X.keeps F6.keep, ge, hHg.keeps (fun b o eo _ _ => F6.keep b o eo), hHg.ne geg, fun h7 k7 fr7 => ?_⟩
      have F7 := after_call0 F6 k7 (forall_cons ⟨geg, eL⟩ forall_nil)
      show wpAny _ _ (leaving _ (.ref e)) _ _ _
      refine leave_first (pre_call P B D F7 rfl rfl).B rfl fr7 fun h8 T8 k8 hT8 fl8 => ?_
      (show R _ _)
      have xe := ne_new (nGet N4 mm0) ne
      have dxe := ne_new (nGet N4 mm1) ne
      have fle := ne_new (nGet N4 mm2) ne
      refine exEl2 tb4.obj fun ps4 hps4 hpc4 => ?_
      have te := ne_new hps4 ne
      have de : @Ne Nat d e := ne_objc gd ge (by first | exact cID | exact cIL | exact cIT | exact cDL | exact cDT | exact cLT | simp)
      have dF : ∀ env : Env, env.frame = some L → env.scope.kind = .function → d ∉ fsOf (env :: l) := fun _ e1 e2 => ((pre_call P B D F4 e1 e2).fresh nd).2
      have tF : ∀ env : Env, env.frame = some L → env.scope.kind = .function → (134 : Addr) ∉ fsOf (env :: l) := by
        intro env e1 e2 q
        obtain ⟨_, o', ho', hnf⟩ := (pre_call P B D F4 e1 e2).B.frames.mem q
        rw [hps4] at ho'; cases ho'; exact hnf _ rfl
      have gx6 := kp6.same _ _ (nGet N4 mm0) (nm_cons xd nm_nil) (by simp)
      have gfl6 := kp6.same _ _ (nGet N4 mm2) (nm_cons df.symm nm_nil) (by simp)
      have gx8 := k8.same _ _ (k7.same _ _ gx6 (nm_cons xe nm_nil) (by simp)) (nm_cons xe nm_nil) (lx _ rfl).2.1
      have gdx8 := k8.same _ _ (k7.same _ _ hdx6 (nm_cons dxe nm_nil) (by simp)) (nm_cons dxe nm_nil) (ldx _ rfl).2.1
      have gfl8 := k8.same _ _ (k7.same _ _ gfl6 (nm_cons fle nm_nil) (by simp)) (nm_cons fle nm_nil) (lfl _ rfl).2.1
      have gd8 := k8.same _ _ (k7.same _ _ gd (nm_cons de nm_nil) (by simp)) (nm_cons de nm_nil) (dF _ rfl rfl)
      have tb8 := ((tb4.kept kp6 (nm_cons dt.symm nm_nil) (by simp)).kept k7 (nm_cons te nm_nil) (by simp)).kept k8 (nm_cons te nm_nil) (tF _ rfl rfl)
      have ex4 := exC (nGet N4 mm0) (exC (nGet N4 mm1) (exC (nGet N4 mm2) (exC hps4 exN)))
      have se := G.none_up F4 ex4 ne
      have sd := G.none_up F4 ex4 nd
      obtain ⟨ps7, hps7, _⟩ := ((tb4.kept kp6 (nm_cons dt.symm nm_nil) (by simp)).kept k7 (nm_cons te nm_nil) (by simp)).obj
      have sT := G.none_up F7 (exC (k7.same _ _ gx6 (nm_cons xe nm_nil) (by simp)) (exC (k7.same _ _ hdx6 (nm_cons dxe nm_nil) (by simp)) (exC (k7.same _ _ gfl6 (nm_cons fle nm_nil) (by simp)) (exC hps7 exN)))) hT8
      have KK := (raise_exit G KtsTurn.refl F7 hL rfl k8 (fun b hb => by rw [List.mem_singleton.mp hb]; exact se) (frames_there P.B)).tight (M := [dx, fl, 134])
        (tightC (.inr (tight_old hx gx8)) (tightC (.inl mm0) (tightC (.inl mm1) (tightC (.inl mm2) tightN))))
      have hgo : gone bound spare many.toNat fr.size over = ((fr'.size : Int), true, if over then Out.eie else Out.full) := by
        rw [hg, sub_step hi, gone, if_neg (by rw [er] at hge; cases over <;> simpa using hge)]
      refine hr h8 fr' ext k' e T8 d v _ _ tr0 q1 q2 q3 KK gdx8 gfl8 hfr tb8 fl8 gd8 ?_ hgo se sd sT
      cases over <;> exact hv6
  · rintro m₁ nx hp tk ⟨fr', ext, k', rfl, hfr, hext, hm, hg⟩ F' N'
    (repeat' ((fail_if_success (with_reducible show wpAny _ _ (pyIter _) _ _ _)); (fail_if_success (with_reducible show wpAny _ _ (call (Value.ref _) _) _ _ _)); (fail_if_success (with_reducible show wpAny _ _ (exec (Stmt.Raise _ _ _) _) _ _ _)); (fail_if_success (with_reducible show wpAny _ _ (exec (Stmt.While _ _ _ _) _) _ _ _)); (fail_if_success (with_reducible show wpAny _ _ (exec (Stmt.Try _ _ _ _ _) _) _ _ _)); (fail_if_success (with_reducible show wpAny _ _ (call (Value.builtin "min") _ _) _ _ _)); (fail_if_success (with_reducible show wpAny _ _ (call (Value.builtin "max") _ _) _ _ _)); (fail_if_success (with_reducible show wpAny _ _ (eval (Expr.Lambda _ _ _ _) _) _ _ _)); (fail_if_success (with_reducible show InvPostN _ _ _ _ _ _ _ _ _)); first | walk1 | (dsimp only; walk1)))
    (show R _ _)
    have K0 := (G.ke0 F').tight (M := [fl]) (tightC (.inr (tight_old hx (nGet N' mm0))) (tightC (.inr (tight_old hdx (nGet N' mm1))) (tightC (.inl mm0) (tightC (.inr (tight_old hps (nGet N' mm3))) tightN))))
    refine h hp fr' ext k' _ K0 (nGet N' mm2) hfr ?_
    rw [hg, Nat.sub_self]
    rfl
end


end
theorem off_D1 : True := by
  w_top off
  exact True.intro
section
abbrev ownB : Array UInt8 := #[111, 119, 110]
inductive Ends (raises : Bool) : Out → Array UInt8 → Bool → Prop where
  | full : Ends raises .full fullB false
  | eie : Ends raises .eie eieB true
  | own (h : raises = true) : Ends raises .none ownB false
theorem gone_full {bound spare : Int} {n : Nat} {d : Int} {b : Bool} {z : Int} {c : Bool} {o : Out} (h : gone bound spare n d b = (z, c, o)) : (o = .none → c = b) ∧ (o = .full → b = false) ∧ (o = .eie → b = true) := by
  induction n generalizing d with
  | zero => rw [gone] at h; cases h; exact ⟨fun _ => rfl, nofun, nofun⟩
  | succ n ih =>
    rw [gone] at h
    by_cases q : d < (if b then bound + Int.fdiv bound 8 + spare else bound)
    · rw [if_pos q] at h
      exact ih h
    · rw [if_neg q] at h
      cases h
      cases b
      · exact ⟨nofun, fun _ => rfl, nofun⟩
      · exact ⟨nofun, nofun, fun _ => rfl⟩
theorem isVal_ends {raises : Bool} {o : Out} {v : Value} {over : Bool} {bound spare : Int} {n : Nat} {d z : Int} {c : Bool} (h : isVal o v) (hg : gone bound spare n d over = (z, c, o)) : ∃ bs tb, v = .bytes bs tb ∧ Ends raises o bs over := by
  obtain ⟨_, g2, g3⟩ := gone_full hg
  cases o with
  | none => exact absurd h id
  | full => obtain ⟨tb, rfl⟩ := h; rw [g2 rfl]; exact ⟨_, tb, rfl, .full⟩
  | eie => obtain ⟨tb, rfl⟩ := h; rw [g3 rfl]; exact ⟨_, tb, rfl, .eie⟩
theorem Flown.ne_dict {e T d : Addr} {dct : Option Addr} {x2 fl : Value} {h : Heap} {o : Obj} (x : Flown e T dct x2 fl h) (hd : h.get? d = some o) (hn : ∀ vs, o.data ≠ .fields vs) : @Ne Nat d e ∧ @Ne Nat d T := by
  obtain ⟨vs, sl, oT, ts, h1, h2, h3, h4, h5, h6, h7, h8⟩ := x
  exact ⟨ne_obj hd h1 fun q => hn vs (by rw [q]), ne_obj hd h4 fun q => hn ts (by rw [q]; exact h5)⟩

section
variable {hn : Nat} {prog : Program} {w : World} {p : Program} {loose : List Str} {mean : ExcName → Option Value} {mg mb : Str → Option Value} {A : Around} {base : Heap} {l : List Env} {s : Shared} {R : Result → Shared → Prop} {Q : Value → Shared → Prop} {E : Value → Shared → Prop}
theorem work_spec (P : Pre (Mine.hd.heap_39 w.params) p loose mean mg mb A base l s.heap (hn + 6)) {x dx st ou fl : Addr} {kk : Nat → Tok} {ans : Value} {over raises : Bool} {cc hd tp bound spare many : Int} {t1 t2 t3 tb ts tm : Tok} {fr : Array Value} {k : Nat}
    (hx : s.heap.get? x = some (instObj 52 dx)) (hdx : s.heap.get? dx = some (dictOf (holdEs w kk st ou ans over fl cc hd tp t1 t2 t3) 8)) (hfl : s.heap.get? fl = some (listOf fr k)) (ht : TabAt 134 lamPos lamQual s.heap)
    (bx : Loose base l s.heap x) (bdx : Loose base l s.heap dx) (bfl : Loose base l s.heap fl) (bt : Loose base l s.heap 134) (hH : Hd A s.heap) (hHn : ∀ eh, A.handled = some (.ref eh) → eh ≠ 134)
    (b1 : 0 ≤ bound ∧ bound ≤ 1000) (b2 : 0 ≤ spare ∧ spare ≤ 1000) (b3 : 0 ≤ many ∧ many ≤ 1000) (b4 : fr.size ≤ 1000)
    (h : ∀ h' fr' ext k' tk, Kept [fl] [] s.heap h' → h'.get? fl = some (listOf fr' k') → fr'.toList = fr.toList ++ ext → raises = false → gone bound spare many.toNat fr.size over = ((fr'.size : Int), over, .none) → R (.ok (.ret .none)) { s with heap := h', toks := tk })
    (hr : ∀ h' fr' ext k' e T d bs tb b ih o tk tr k1 k2 k3, Kept [dx, fl, 134] (fsOf l) s.heap h' → h'.get? dx = some (dictOf (holdEs w kk st ou ans b fl cc hd tp t1 t2 t3) 8) → h'.get? fl = some (listOf fr' k') → fr'.toList = fr.toList ++ ext →
      TabAt 134 lamPos lamQual h' → Flown e T (some d) (A.handled.getD .none) .none h' → h'.get? d = some (dictOf (luaEs w (.bytes bs tb) tr ih k1 k2 k3) 3) → Ends raises o bs ih → gone bound spare many.toNat fr.size over = ((fr'.size : Int), b, o) →
      s.heap.get? e = none → s.heap.get? d = none → s.heap.get? T = none → R (.error (.ref e)) { s with heap := h', toks := tk }) :
    codeAny (model prog w) A (.call (.ref 146) ⟨[.ref x, .int bound tb, .int spare ts, .int many tm, .bool raises], []⟩) R s := by
  refine' enter P [x, dx, fl, 134] [(Str.ofString "holder", .ref x), (Str.ofString "bound", .int bound tb), (Str.ofString "spare", .int spare ts), (Str.ofString "many", .int many tm), (Str.ofString "raises", .bool raises)] (looseC bx (looseC bdx (looseC bfl (loose1 bt)))) ?k6 ?k7 ?k9 ?kB ?_ ?c2 ?c3 ?c4 ?c5
  case k6 => k_is
  case k7 => k_is
  case k9 => exact BindsTo.of_eq rfl
  case kB => exact locs rfl
  case c2 => exact rfl
  case c3 => exact rfl
  case c4 => exact rfl
  case c5 => decide
  intro g L h₁ G F kp hL B D X T
  try dsimp only
  k_fold
  refine exEl2 ht.obj fun ps hps hpc => ?_
  have xd : @Ne Nat x dx := ne_objc hx hdx (by first | exact cID | exact cIL | exact cIT | exact cDL | exact cDT | exact cLT | simp)
  have xf : @Ne Nat x fl := ne_objc hx hfl (by first | exact cID | exact cIL | exact cIT | exact cDL | exact cDT | exact cLT | simp)
  have df : @Ne Nat dx fl := ne_objc hdx hfl (by first | exact cID | exact cIL | exact cIT | exact cDL | exact cDT | exact cLT | simp)
  have xt : @Ne Nat x 134 := ne_objc hx hps (by first | exact cID | exact cIL | exact cIT | exact cDL | exact cDT | exact cLT | simp)
  have dt : @Ne Nat dx 134 := ne_objc hdx hps (by first | exact cID | exact cIL | exact cIT | exact cDL | exact cDT | exact cLT | simp)
  have ft : @Ne Nat fl 134 := ne_objc hfl hps (by first | exact cID | exact cIL | exact cIT | exact cDL | exact cDT | exact cLT | simp)
  have N := G.news1 kp hx mm0 (G.news1 kp hdx mm1 (G.news1 kp hfl mm2 (G.news1 kp hps mm3 News.nil)))
  have ht₁ : TabAt 134 lamPos lamQual h₁ := ht.same ((kp hps).1.trans hps.symm) (Kept.of_keeps (M := []) (fs := []) fun b o e => (kp e).1)
  have hH₁ : Hd A h₁ := hH.keeps fun b o e _ _ => (kp e).1
  clear kp
  (repeat' ((fail_if_success (with_reducible show wpAny _ _ (pyIter _) _ _ _)); (fail_if_success (with_reducible show wpAny _ _ (call (Value.ref _) _) _ _ _)); (fail_if_success (with_reducible show wpAny _ _ (exec (Stmt.Raise _ _ _) _) _ _ _)); (fail_if_success (with_reducible show wpAny _ _ (exec (Stmt.While _ _ _ _) _) _ _ _)); (fail_if_success (with_reducible show wpAny _ _ (exec (Stmt.Try _ _ _ _ _) _) _ _ _)); (fail_if_success (with_reducible show wpAny _ _ (call (Value.builtin "min") _ _) _ _ _)); (fail_if_success (with_reducible show wpAny _ _ (call (Value.builtin "max") _ _) _ _ _)); (fail_if_success (with_reducible show wpAny _ _ (eval (Expr.Lambda _ _ _ _) _) _ _ _)); (fail_if_success (with_reducible show InvPostN _ _ _ _ _ _ _ _ _)); first | walk1 | (dsimp only; walk1)))
  have lx : ∀ env : Env, env.frame = some L → Loose base (env :: l) h₁ x := fun _ he => loose_of B he N mm0 rfl
  have ldx : ∀ env : Env, env.frame = some L → Loose base (env :: l) h₁ dx := fun _ he => loose_of B he N mm1 rfl
  have lfl : ∀ env : Env, env.frame = some L → Loose base (env :: l) h₁ fl := fun _ he => loose_of B he N mm2 rfl
  have lt : ∀ env : Env, env.frame = some L → Loose base (env :: l) h₁ 134 := fun _ he => loose_of B he N mm3 hpc
  refine wpAny_call (deeper_spec (pre_call P B D F rfl rfl) (nGet N mm0) (nGet N mm1) (nGet N mm2) ht₁ (lx _ rfl) (ldx _ rfl) (lfl _ rfl) (lt _ rfl) hH₁ hHn b1 b2 b3 b4 (fun h2 fr2 ext k2 tk2 kp2 hfl2 hext hgo => ?_) (fun h2 fr2 ext k2 e T d v o tk2 tr q1 q2 q3 kp2 hdx2 hfl2 hext tb2 fl2 hd2 hv hgo ne nd nT => ?_))
  · have F2 := after_call0 F kp2 (forall_cons ⟨(nOff N mm2), (nNeL N mm2)⟩ forall_nil)
    have N2 : News g L h2 [(x, instObj 52 dx), (dx, dictOf (holdEs w kk st ou ans over fl cc hd tp t1 t2 t3) 8), (fl, listOf fr2 k2), (134, tabObj ps)] :=
      News.one (old_of0 N kp2 mm0 (nm_cons xf nm_nil)) (News.one (old_of0 N kp2 mm1 (nm_cons df nm_nil)) (News.one (turned_of0 N mm2 hfl2) (News.one (old_of0 N kp2 mm3 (nm_cons ft.symm nm_nil)) News.nil)))
    have tb2 := ht₁.kept kp2 (nm_cons ft.symm nm_nil) (by simp)
    have hH₂ := hH₁.keeps (h' := h2) fun b o e hv _ => kp2.same b o e (fun q => by
      rw [List.mem_singleton.mp q] at e
      have e' := (nGet N mm2)
      rw [e'] at e; obtain ⟨vs, hv⟩ := hv; cases e; cases hv) (by simp)
    clear N F lx ldx lfl lt
    try dsimp only
    (repeat' ((fail_if_success (with_reducible show wpAny _ _ (pyIter _) _ _ _)); (fail_if_success (with_reducible show wpAny _ _ (call (Value.ref _) _) _ _ _)); (fail_if_success (with_reducible show wpAny _ _ (exec (Stmt.Raise _ _ _) _) _ _ _)); (fail_if_success (with_reducible show wpAny _ _ (exec (Stmt.While _ _ _ _) _) _ _ _)); (fail_if_success (with_reducible show wpAny _ _ (exec (Stmt.Try _ _ _ _ _) _) _ _ _)); (fail_if_success (with_reducible show wpAny _ _ (call (Value.builtin "min") _ _) _ _ _)); (fail_if_success (with_reducible show wpAny _ _ (call (Value.builtin "max") _ _) _ _ _)); (fail_if_success (with_reducible show wpAny _ _ (eval (Expr.Lambda _ _ _ _) _) _ _ _)); (fail_if_success (with_reducible show InvPostN _ _ _ _ _ _ _ _ _)); first | walk1 | (dsimp only; walk1)))
    · have hraises : raises = true := by assumption
      refine raise_exc ?_
      (repeat' ((fail_if_success (with_reducible show wpAny _ _ (pyIter _) _ _ _)); (fail_if_success (with_reducible show wpAny _ _ (call (Value.ref _) _) _ _ _)); (fail_if_success (with_reducible show wpAny _ _ (exec (Stmt.Raise _ _ _) _) _ _ _)); (fail_if_success (with_reducible show wpAny _ _ (exec (Stmt.While _ _ _ _) _) _ _ _)); (fail_if_success (with_reducible show wpAny _ _ (exec (Stmt.Try _ _ _ _ _) _) _ _ _)); (fail_if_success (with_reducible show wpAny _ _ (call (Value.builtin "min") _ _) _ _ _)); (fail_if_success (with_reducible show wpAny _ _ (call (Value.builtin "max") _ _) _ _ _)); (fail_if_success (with_reducible show wpAny _ _ (eval (Expr.Lambda _ _ _ _) _) _ _ _)); (fail_if_success (with_reducible show InvPostN _ _ _ _ _ _ _ _ _)); first | walk1 | (dsimp only; walk1)))
      refine lua_spec (pre_call P B D F2 rfl rfl) (fun h3 e t d tr q1 q2 q3 tk3 kp3 e1 e2 n1 n2 => ?_)
      have F3 := after_call0 F2 kp3 (fun _ hm => nomatch hm)
      have N3 := News.kept0 N2 kp3 (fun _ _ => nm_nil)
      have tb3 := tb2.kept kp3 nm_nil (by simp)
      have geg : g.get? e = none := kts_none F2.keep n1
      have eL : e ≠ L := fun q => by
        obtain ⟨oL, _, _, hoL, _⟩ := F2.ns
        rw [q] at n1
        rw [n1] at hoL; cases hoL
      refine ⟨e, t, d, rfl, X.keeps F3.keep, e1, hH₂.keeps (fun b o eo _ _ => kp3.same b o eo nm_nil (by simp)), hH₂.ne n1, fun h7 k7 fr7 => ?_⟩
      have F7 := after_call0 F3 k7 (forall_cons ⟨geg, eL⟩ forall_nil)
      show wpAny _ _ (leaving _ (.ref e)) _ _ _
      refine leave_first (pre_call P B D F7 rfl rfl).B rfl fr7 fun h8 T8 k8 hT8 fl8 => ?_
      (show R _ _)
      have xe := ne_new (nGet N2 mm0) n1
      have dxe := ne_new (nGet N2 mm1) n1
      have fle := ne_new (nGet N2 mm2) n1
      have te := ne_new (nGet N2 mm3) n1
      have de : @Ne Nat d e := ne_objc e2 e1 (by first | exact cID | exact cIL | exact cIT | exact cDL | exact cDT | exact cLT | simp)
      have N7 := News.kept0 N3 k7 (fun p hp => by
        simp only [List.mem_cons, List.not_mem_nil, or_false] at hp
        rcases hp with q | q | q | q <;> rw [q] <;> first | exact nm_cons xe nm_nil | exact nm_cons dxe nm_nil | exact nm_cons fle nm_nil | exact nm_cons te nm_nil)
      have gx8 := k8.same _ _ (nGet N7 mm0) (nm_cons xe nm_nil) (loose_of B rfl N7 mm0 rfl).2.1
      have gdx8 := k8.same _ _ (nGet N7 mm1) (nm_cons dxe nm_nil) (loose_of B rfl N7 mm1 rfl).2.1
      have gfl8 := k8.same _ _ (nGet N7 mm2) (nm_cons fle nm_nil) (loose_of B rfl N7 mm2 rfl).2.1
      have gd8 := k8.same _ _ (k7.same _ _ e2 (nm_cons de nm_nil) (by simp)) (nm_cons de nm_nil) ((pre_call P B D F2 rfl rfl).fresh n2).2
      have tb8 := (tb3.kept k7 (nm_cons te nm_nil) (by simp)).kept k8 (nm_cons te nm_nil) (loose_of B rfl N7 mm3 hpc).2.1
      have ex2 := exC (nGet N2 mm0) (exC (nGet N2 mm1) (exC (nGet N2 mm2) (exC (nGet N2 mm3) exN)))
      have ex7 := exC (nGet N7 mm0) (exC (nGet N7 mm1) (exC (nGet N7 mm2) (exC (nGet N7 mm3) exN)))
      have se := G.none_up F2 ex2 n1
      have sd := G.none_up F2 ex2 n2
      have sT := G.none_up F7 ex7 hT8
      have KK := (raise_exit G KtsTurn.refl F7 hL rfl k8 (fun b hb => by rw [List.mem_singleton.mp hb]; exact se) (frames_there P.B)).tight (M := [dx, fl, 134])
        (tightC (.inr (tight_old hx gx8)) (tightC (.inl mm0) (tightC (.inl mm1) (tightC (.inl mm2) tightN))))
      exact hr h8 fr2 ext k2 e T8 d _ _ _ _ _ _ tr q1 q2 q3 KK gdx8 gfl8 hext tb8 fl8 gd8 (.own hraises) hgo se sd sT
    · have hraises : raises = false := by assumption
      (show R _ _)
      have K0 := (G.ke0 F2).tight (M := [fl]) (tightC (.inr (tight_old hx (nGet N2 mm0))) (tightC (.inr (tight_old hdx (nGet N2 mm1))) (tightC (.inl mm0) (tightC (.inr (tight_old hps (nGet N2 mm3))) tightN))))
      exact h _ fr2 ext k2 _ K0 (nGet N2 mm2) hext hraises hgo
  · obtain ⟨bs, tv, rfl, hE⟩ := isVal_ends (raises := raises) hv hgo
    refine after_callC P B D F rfl kp2 (forall_cons ⟨(nOff N mm1), (nNeL N mm1)⟩ (forall_cons ⟨(nOff N mm2), (nNeL N mm2)⟩ (forall_cons ⟨(nOff N mm3), (nNeL N mm3)⟩ (forall_nil)))) fun g2 Tg F2 B2 D2 X2 T2 => ?_
    show wpAny _ _ (leaving _ (.ref e)) _ _ _
    refine leave_next (pre_call P B2 D2 F2 rfl rfl).B rfl fl2 fun h8 T8 k8 hT8 fl8 => ?_
    (show R _ _)
    obtain ⟨de, dT⟩ := fl2.ne_dict hd2 (fun _ q => by cases q)
    refine exEl2 tb2.obj fun ps2 hps2 hpc2 => ?_
    have gx2 := kp2.same _ _ (nGet N mm0) (nm_cons xd (nm_cons xf (nm_cons xt nm_nil))) (lx _ rfl).2.1
    have gx8 := k8.same _ _ gx2 (nm_cons (ne_new (nGet N mm0) ne) (nm_cons (ne_new (nGet N mm0) nT) nm_nil)) (lx _ rfl).2.1
    have gdx8 := k8.same _ _ hdx2 (nm_cons (ne_new (nGet N mm1) ne) (nm_cons (ne_new (nGet N mm1) nT) nm_nil)) (ldx _ rfl).2.1
    have gfl8 := k8.same _ _ hfl2 (nm_cons (ne_new (nGet N mm2) ne) (nm_cons (ne_new (nGet N mm2) nT) nm_nil)) (lfl _ rfl).2.1
    have gd8 := k8.same _ _ hd2 (nm_cons de (nm_cons dT nm_nil)) ((pre_call P B D F rfl rfl).fresh nd).2
    have tb8 := tb2.kept k8 (nm_cons (ne_new (nGet N mm3) ne) (nm_cons (ne_new (nGet N mm3) nT) nm_nil)) (lt _ rfl).2.1
    have ex1 := exC (nGet N mm0) (exC (nGet N mm1) (exC (nGet N mm2) (exC (nGet N mm3) exN)))
    have ex2 := exC gx2 (exC hdx2 (exC hfl2 (exC hps2 exN)))
    have se := G.none_up F ex1 ne
    have sd := G.none_up F ex1 nd
    have sT := G.none_up F ex1 nT
    have sT8 : s.heap.get? T8 = none := by
      cases q : s.heap.get? T8 with
      | none => rfl
      | some o =>
        by_cases z : T8 ∈ [x, dx, fl, 134]
        · obtain ⟨o', e'⟩ := ex2 T8 z
          rw [hT8] at e'; cases e'
        · by_cases z2 : T8 ∈ fsOf l
          · obtain ⟨sl, e'⟩ := (G.ke Tg F2).turn _ _ q z2
            rw [hT8] at e'; cases e'
          · have := (G.ke Tg F2).same _ _ q z z2
            rw [hT8] at this; cases this
    have KK := (raise_exit G Tg F2 hL rfl k8 (fun b hb => by
      simp only [List.mem_cons, List.not_mem_nil, or_false] at hb
      rcases hb with q | q <;> rw [q] <;> assumption) (frames_there P.B)).tight (M := [dx, fl, 134])
      (tightC (.inr (tight_old hx gx8)) (tightC (.inl mm0) (tightC (.inl mm1) (tightC (.inl mm2) tightN))))
    exact hr h8 fr2 ext k2 e T8 d bs tv true over o _ tr q1 q2 q3 KK gdx8 gfl8 hext tb8 fl8 gd8 hE hgo se sd sT8
end


end
theorem off_A1 : True := by
  w_top off
  exact True.intro
section
structure Hold where
  (x dx st ou fl : Addr) (kk : Nat → Tok) (tp : Int) (t3 : Tok)
structure HoldAt (w : World) (H : Hold) (ans : Value) (over : Bool) (cc hd : Int) (t1 t2 : Tok) (fr : Array Value) (k : Nat) (h : Heap) : Prop where
  hx : h.get? H.x = some (instObj 52 H.dx)
  hdx : h.get? H.dx = some (dictOf (holdEs w H.kk H.st H.ou ans over H.fl cc hd H.tp t1 t2 H.t3) 8)
  hfl : h.get? H.fl = some (listOf fr k)

def planAt (plan : List Int) (i : Nat) : Int := (plan ++ [0]).getD (min i plan.length) 0
theorem planAt_le {plan : List Int} (h : ∀ x ∈ plan, 0 ≤ x ∧ x ≤ 1000) (i : Nat) : 0 ≤ planAt plan i ∧ planAt plan i ≤ 1000 := by
  unfold planAt
  rw [List.getD_eq_getElem?_getD]
  cases e : (plan ++ [0])[min i plan.length]? with
  | none => simp
  | some x =>
    have hm := List.mem_of_getElem? e
    rcases List.mem_append.mp hm with hm | hm
    · simpa using h x hm
    · rw [List.mem_singleton.mp hm]; simp
theorem gone_le {bound spare : Int} {n : Nat} {d : Int} {b : Bool} {z : Int} {c : Bool} {o : Out} (h : gone bound spare n d b = (z, c, o)) : z ≤ d + n := by
  induction n generalizing d with
  | zero => rw [gone] at h; cases h; omega
  | succ n ih =>
    rw [gone] at h
    by_cases q : d < (if b then bound + Int.fdiv bound 8 + spare else bound)
    · rw [if_pos q] at h
      have := ih h
      omega
    · rw [if_neg q] at h
      cases h
      omega
abbrev ansPos : Pos := ⟨98, 4, 104, 25⟩
abbrev ansQual : Str := (Str.ofString "_law_answers" ++ Str.ofString ".<locals>.") ++ Str.ofString "answer"

inductive AI (w : World) (H : Hold) (ak tu L : Addr) (ans : Value) (over : Bool) (cc hd : Int) (t1 t2 tt : Tok) (v : Value) (fr asked ps' : Array Value) (ka : Nat) (o1 o2 o3 o4 : Obj) (n : Nat) (m₁ : Str → Option Value) (nx : List (Addr × Obj)) : Prop where
  | mk (ta : Tok) (fr' : Array Value) (k' : Nat) (ext' : List Value) (e : m₁ = (fun y => if y = Str.ofString "ahead" then some (Value.int (fr.size : Int) ta) else List.lookup y [(Str.ofString "holder", Value.ref H.x), (Str.ofString "value", v)].reverse))
      (e2 : nx = [(tu, { cls := .type "tuple", data := .seq #[v, .int fr.size tt] }), (H.x, instObj 52 H.dx), (H.dx, dictOf (holdEs w H.kk H.st H.ou ans over H.fl cc hd H.tp t1 t2 H.t3) 8), (H.fl, listOf fr' k'), (ak, listOf (asked.push (.ref tu)) (ka + 1)), (134, tabObj ps'), (L + 1 + 1 + 1 + 1, o1), (L + 1 + 1 + 1, o2), (L + 1 + 1, o3), (L + 1, o4)])
      (h1 : fr'.toList = fr.toList ++ ext') (h2 : ext'.length = n) (h3 : n ≤ 1000) : AI w H ak tu L ans over cc hd t1 t2 tt v fr asked ps' ka o1 o2 o3 o4 n m₁ nx
theorem lw1 {a b n : Nat} (h : a ≤ 1000) (hn : n ≤ 1000) (e : b = a + n) : b ≤ 3000 := by omega
theorem lw2 {a n k : Nat} (h : ¬ ((a : Int) < ((a + n : Nat) : Int))) (e : k = n) : k = 0 := by omega
theorem lw3 {a n k : Nat} (h : (a : Int) < ((a + n : Nat) : Int)) (e : k = n) : 0 < k := by omega
theorem lw5 {p : List Value} {y : Value} {n : Nat} (e : (p ++ [y]).length = n) : p.length < n := by rw [← e, List.length_append]; exact Nat.lt_succ_self _
theorem lw4 {p : List Value} {y : Value} {n : Nat} (e : (p ++ [y]).length = n) (h : n ≤ 1000) : p.length ≤ 1000 := Nat.le_of_lt (Nat.lt_of_lt_of_le (lw5 e) h)
theorem pix0 {a k : Nat} : 0 ≤ (if (a : Int) < (k : Int) + 1 - 1 then (a : Int) else (k : Int) + 1 - 1) := by split <;> omega
theorem pix1 {plan : List Int} {k : Nat} : (if (plan.length : Int) < (k : Int) + 1 - 1 then (plan.length : Int) else (k : Int) + 1 - 1) < ((plan ++ [0]).length : Int) := by rw [List.length_append, List.length_singleton]; split <;> omega
theorem pix2 {a k : Nat} (ha : a ≤ 9) (hk : k ≤ 9) : (if (a : Int) < (k : Int) + 1 - 1 then (a : Int) else (k : Int) + 1 - 1) < 2 ^ 63 := by split <;> omega
theorem pixM {a k : Nat} : (if (a : Int) < (k : Int) + 1 - 1 then (a : Int) else (k : Int) + 1 - 1).toNat = min k a := by
  rw [Int.add_sub_cancel]
  split
  · rename_i h; rw [Int.toNat_natCast, Nat.min_eq_right (Nat.le_of_lt (Int.ofNat_lt.mp h))]
  · rename_i h; rw [Int.toNat_natCast, Nat.min_eq_left (Int.ofNat_le.mp (Int.not_lt.mp h))]
theorem pixV {plan : List Int} {k : Nat} : (plan ++ [0]).getD (if (plan.length : Int) < (k : Int) + 1 - 1 then (plan.length : Int) else (k : Int) + 1 - 1).toNat 0 = planAt plan k := by
  unfold planAt
  rw [pixM]
theorem item_plan {prog : Program} {w : World} {A : Around} {E : Value → Shared → Prop} {s : Shared} {value slice : PySem.Expr} {l : Addr} {vs : List Value} {plan : List Int} {k : Nat} {u : Tok} {Q : Value → Shared → Prop} (hl : s.heap.IsList l vs.toArray) (hi : IntsAre vs (plan ++ [0])) (hp : plan.length ≤ 9) (hk : k ≤ 9) (h : ∀ t, Q (.int (planAt plan k) t) s)
    (hs : subscripted slice false (.ref l) (.int (if (plan.length : Int) < (k : Int) + 1 - 1 then (plan.length : Int) else (k : Int) + 1 - 1) u) = operate [.ref l, .int (if (plan.length : Int) < (k : Int) + 1 - 1 then (plan.length : Int) else (k : Int) + 1 - 1) u] (getItem (.ref l) (.int (if (plan.length : Int) < (k : Int) + 1 - 1 then (plan.length : Int) else (k : Int) + 1 - 1) u)) := by with_unfolding_all rfl) :
    wpAny (model prog w) A (subscriptTail value slice (.ref l) (.int (if (plan.length : Int) < (k : Int) + 1 - 1 then (plan.length : Int) else (k : Int) + 1 - 1) u)) Q E s := item_anyK hl hi pix0 pix1 (pix2 hp hk) (fun t => by rw [pixV]; exact h t) hs
def Reply (prog : Program) (w : World) (p : Program) (loose : List Str) (mean : ExcName → Option Value) (mg mb : Str → Option Value) (base : Heap) (H : Hold) (ak f : Addr) (bound spare : Int) (plan : List Int) (fs : List Addr) (h₀ : Heap) : Prop :=
  ∀ {hn : Nat} {A : Around} {l : List Env} {s : Shared} {R : Result → Shared → Prop} {ans : Value} {over : Bool} {cc hd : Int} {t1 t2 : Tok} {fr : Array Value} {k : Nat} {asked : Array Value} {ka : Nat} {v : Value}, Pre (Mine.hd.heap_39 w.params) p loose mean mg mb A base l s.heap (hn + 6) →
    Kept [H.dx, H.fl, ak, 134] fs h₀ s.heap → HoldAt w H ans over cc hd t1 t2 fr k s.heap → s.heap.get? ak = some (listOf asked ka) → TabAt 134 lamPos lamQual s.heap →
    Loose base l s.heap H.x → Loose base l s.heap H.dx → Loose base l s.heap H.fl → Loose base l s.heap ak → Loose base l s.heap 134 → Hd A s.heap → (∀ eh, A.handled = some (.ref eh) → eh ≠ 134) → fr.size ≤ 900 → asked.size ≤ 9 →
    (∀ h' fr' k' ka' tu tk tr t z, Kept [H.fl, ak] [] s.heap h' → h'.get? H.fl = some (listOf fr' k') → fr'.toList = fr.toList → h'.get? ak = some (listOf (asked.push (.ref tu)) ka') → s.heap.get? tu = none → IsTup h' tu #[v, .int fr.size t] →
      gone bound spare (planAt plan asked.size).toNat fr.size over = (z, over, .none) → R (.ok (.ret (.int ((asked.size + 1 : Nat) : Int) tr))) { s with heap := h', toks := tk }) →
    (∀ h' fr' ext k' ka' tu e T d bs tb o tk tr k1 k2 k3 t, Kept [H.dx, H.fl, ak, 134] (fsOf l) s.heap h' → HoldAt w H ans true cc hd t1 t2 fr' k' h' → fr'.toList = fr.toList ++ ext → h'.get? ak = some (listOf (asked.push (.ref tu)) ka') → s.heap.get? tu = none → IsTup h' tu #[v, .int fr.size t] →
      TabAt 134 lamPos lamQual h' → Flown e T (some d) (A.handled.getD .none) .none h' → h'.get? d = some (dictOf (luaEs w (.bytes bs tb) tr over k1 k2 k3) 3) → Ends false o bs over → gone bound spare (planAt plan asked.size).toNat fr.size over = ((fr'.size : Int), true, o) →
      s.heap.get? e = none → s.heap.get? d = none → s.heap.get? T = none → R (.error (.ref e)) { s with heap := h', toks := tk }) →
    codeAny (model prog w) A (.call (.ref f) ⟨[.ref H.x, v], []⟩) R s

section
variable {hn : Nat} {prog : Program} {w : World} {p : Program} {loose : List Str} {mean : ExcName → Option Value} {mg mb : Str → Option Value} {A : Around} {base : Heap} {l : List Env} {s : Shared} {R : Result → Shared → Prop} {Q : Value → Shared → Prop} {E : Value → Shared → Prop}
theorem answers_spec (P : Pre (Mine.hd.heap_39 w.params) p loose mean mg mb A base l s.heap (hn + 9)) {bound spare : Int} {tb ts : Tok} {pl ak : Addr} {pv : List Value} {plan : List Int} {H : Hold} (hpl : s.heap.IsList pl pv.toArray) (hpi : IntsAre pv plan) (hp : plan.length ≤ 9 ∧ ∀ x ∈ plan, 0 ≤ x ∧ x ≤ 1000) (ht : TabAt 148 ansPos ansQual s.heap) (bt : Loose base l s.heap 148) (bpl : Loose base l s.heap pl)
    (b1 : 0 ≤ bound ∧ bound ≤ 1000) (b2 : 0 ≤ spare ∧ spare ≤ 1000) (hne : ∀ b ∈ [H.x, H.dx, H.fl, ak], pl ≠ b ∧ ∃ o, s.heap.get? b = some o) (hpt : pl ≠ 134) (h134 : ∃ o, s.heap.get? 134 = some o) (hp9 : pl ≠ 169) (h169 : ∃ o, s.heap.get? 169 = some o) (hfa : @Ne Nat H.fl ak)
    (h : ∀ h' f tk, Kept [148] [] s.heap h' → TabAt 148 ansPos ansQual h' → FnAt f h' ∧ s.heap.get? f = none → (∀ h'', Kept (169 :: fsOf l) [] h' h'' → Reply prog w p loose mean mg mb base H ak f bound spare plan (fsOf l) h'') → R (.ok (.ret (.ref f))) { s with heap := h', toks := tk }) :
    codeAny (model prog w) A (.call (.ref 153) ⟨[.int bound tb, .int spare ts, .ref pl, .ref ak], []⟩) R s := by
  refine' enterC P [148] [(Str.ofString "bound", .int bound tb), (Str.ofString "spare", .int spare ts), (Str.ofString "plan", .ref pl), (Str.ofString "asked", .ref ak)] (loose1 bt) ?k6 ?k7 ?k9 ?kB ?kD ?_ ?c2 ?c3 ?c4
  case k6 => k_is
  case k7 => k_is
  case k9 => exact BindsTo.of_eq rfl
  case kB => exact rfl
  case kD => decide +kernel
  case c2 => exact rfl
  case c3 => exact rfl
  case c4 => exact rfl
  intro g L h₁ tk cells G F N Y kp hL B D X T
  k_cells Y
  try dsimp only [List.cons_append, List.nil_append] at N
  try dsimp only
  show wpAny _ _ _ _ _ _
  k_fold
  rename_i o1 o2 o3 o4 d1 d2 d3 d4
  refine exEl2 ht.obj fun ps hps hpc => ?_
  have ht₁ : TabAt 148 ansPos ansQual h₁ := ht.same ((kp hps).1.trans hps.symm) (Kept.of_keeps (M := []) (fs := []) fun b o e => (kp e).1)
  refine wpAny_execs_cons ?_
  k_dflt (refine' def_make (P := 148) (c := 152) F T (P.H2.keeps B.stays) ?e1 (G.hid mm0) (Nat.ne_of_lt (kp hps).2) ht₁ ?e2 ?e3 ?e4 ?e5 ?_)
  case e1 => exact rfl
  case e2 => exact rfl
  case e3 => exact rfl
  case e4 => exact rfl
  case e5 => exact rfl
  intro f c' doc pm ctv h2 tk2 F2 kp2 tb2 nf hf hc
  have h148 : (148 : Nat) < L := (kp hps).2
  have kp₁ := fun {b o} (e : s.heap.get? b = some o) => (kp e).1
  clear kp
  have N2 : News g L h2 [(f, _), (L + 1 + 1 + 1 + 1, o1), (L + 1 + 1 + 1, o2), (L + 1 + 1, o3), (L + 1, o4)] :=
    News.one (new_of0 F nf hf) (News.kept0 N kp2 (forall_cons (nm_cons (Nat.ne_of_gt (gt4 h148)) nm_nil) (forall_cons (nm_cons (Nat.ne_of_gt (gt3 h148)) nm_nil) (forall_cons (nm_cons (Nat.ne_of_gt (gt2 h148)) nm_nil) (forall_cons (nm_cons (Nat.ne_of_gt (gt1 h148)) nm_nil) forall_nil)))))
  have d1' : o1.data = .cell (some (.ref ak)) := d1
  have d2' : o2.data = .cell (some (.ref pl)) := d2
  have d3' : o3.data = .cell (some (.int spare ts)) := d3
  have d4' : o4.data = .cell (some (.int bound tb)) := d4
  clear d1 d2 d3 d4 N F
  try dsimp only
  refine wpAny_storeName_local rfl F2.ns (fun h3 hn3 hs3 => ?_)
  have hF := F2.set hn3 hs3
  have hN := N2.set hs3
  have k23 : Kept [L] [] h2 h3 := by
    obtain ⟨oL, es, ep, hoL, hd, _⟩ := F2.ns
    exact ⟨fun b o e c => (hs3.2 b fun q => by
      have q' : b = L := q
      rw [q', hoL] at e; cases e; rw [isCodeO_dict hd] at c; cases c).trans e, fun b o e nm _ => (hs3.2 b fun q => nm (by rw [q]; exact .head _)).trans e, fun _ _ _ m => nomatch m⟩
  have tb3 := tb2.same (hs3.2 148 (Nat.ne_of_lt h148)) k23
  have hc3 := codeRec_kept hc k23
  have pl3 : h3.IsList pl pv.toArray := by
    obtain ⟨o, e, r⟩ := hpl
    exact ⟨o, hF.keep _ _ (G.up e (nm_cons (ne_objc e hps (by rw [r.1]; simp)) nm_nil)), r⟩
  clear N2 F2 hc tb2 kp2
  try dsimp only
  (repeat' ((fail_if_success (with_reducible show wpAny _ _ (pyIter _) _ _ _)); (fail_if_success (with_reducible show wpAny _ _ (call (Value.ref _) _) _ _ _)); (fail_if_success (with_reducible show wpAny _ _ (exec (Stmt.Raise _ _ _) _) _ _ _)); (fail_if_success (with_reducible show wpAny _ _ (exec (Stmt.While _ _ _ _) _) _ _ _)); (fail_if_success (with_reducible show wpAny _ _ (exec (Stmt.Try _ _ _ _ _) _) _ _ _)); (fail_if_success (with_reducible show wpAny _ _ (call (Value.builtin "min") _ _) _ _ _)); (fail_if_success (with_reducible show wpAny _ _ (call (Value.builtin "max") _ _) _ _ _)); (fail_if_success (with_reducible show wpAny _ _ (eval (Expr.Lambda _ _ _ _) _) _ _ _)); (fail_if_success (with_reducible show InvPostN _ _ _ _ _ _ _ _ _)); first | walk1 | (dsimp only; walk1)))
  (show R _ _)
  refine h h3 f _ (G.ke0 hF) tb3 ⟨⟨_, _, _, _, (hN _ mm0).1⟩, G.new hN mm0 (nm_cons (ne_new (kp₁ hps) nf).symm nm_nil)⟩ ?_
  clear h
  clear qk ek
  intro hx9 k9
  intro hn' A' l' s' R' ans over cc hd t1 t2 fr k asked ka v P' kp' HA hak ht' bx bdx bfl bak bt' hH hHn hfr hask ok er
  have keep : ∀ {b o}, h3.get? b = some o → s.heap.get? b = none → s'.heap.get? b = some o := fun {b o} e en => kp'.same b o (k9.same b o e (fun hm => by
      rcases List.mem_cons.mp hm with q | q
      · obtain ⟨o', e'⟩ := h169
        rw [q, e'] at en; cases en
      · exact (P.fresh en).2 q) (by simp)) (fun hm => by
    simp only [List.mem_cons, List.not_mem_nil, or_false] at hm
    rcases hm with q | q | q | q
    · obtain ⟨_, o', e'⟩ := hne H.dx mm1
      rw [q, e'] at en; cases en
    · obtain ⟨_, o', e'⟩ := hne H.fl mm2
      rw [q, e'] at en; cases en
    · obtain ⟨_, o', e'⟩ := hne ak mm3
      rw [q, e'] at en; cases en
    · obtain ⟨o', e'⟩ := h134
      rw [q, e'] at en; cases en) (P.fresh en).2
  have nf' : s.heap.get? f = none := G.new hN mm0 (nm_cons (ne_new (kp₁ hps) nf).symm nm_nil)
  have n1 : s.heap.get? (L + 1 + 1 + 1 + 1) = none := G.new hN mm1 (nm_cons (Nat.ne_of_gt (gt4 h148)) nm_nil)
  have n2 : s.heap.get? (L + 1 + 1 + 1) = none := G.new hN mm2 (nm_cons (Nat.ne_of_gt (gt3 h148)) nm_nil)
  have n3 : s.heap.get? (L + 1 + 1) = none := G.new hN mm3 (nm_cons (Nat.ne_of_gt (gt2 h148)) nm_nil)
  have n4 : s.heap.get? (L + 1) = none := G.new hN mm4 (nm_cons (Nat.ne_of_gt (gt1 h148)) nm_nil)
  have hf' := keep (hN _ mm0).1 nf'
  have c1 := keep (hN _ mm1).1 n1
  have c2 := keep (hN _ mm2).1 n2
  have c3 := keep (hN _ mm3).1 n3
  have c4 := keep (hN _ mm4).1 n4
  have lc : ∀ {b o v}, s'.heap.get? b = some o → s.heap.get? b = none → o.data = .cell v → Loose base l' s'.heap b := fun {b o v} e en hd => by
    refine ⟨(P.fresh en).1, fun hm => ?_, NotCode.of e (by unfold isCodeO; rw [hd])⟩
    obtain ⟨o', es, n, e', hd'⟩ := P'.D b hm
    rw [e'] at e; cases e; rw [hd] at hd'; cases hd'
  have pl' : s'.heap.IsList pl pv.toArray := by
    obtain ⟨o, e, r⟩ := pl3
    refine ⟨o, kp'.same _ _ (k9.same _ _ e (fun hm => (List.mem_cons.mp hm).elim hp9 bpl.2.1) (by simp)) (fun hm => ?_) bpl.2.1, r⟩
    simp only [List.mem_cons, List.not_mem_nil, or_false] at hm
    rcases hm with q | q | q | q
    · exact (hne H.dx mm1).1 q
    · exact (hne H.fl mm2).1 q
    · exact (hne ak mm3).1 q
    · exact hpt q
  have hc' := codeRec_kept (codeRec_kept hc3 k9) kp'
  have l1 := lc c1 n1 d1'
  have l2 := lc c2 n2 d2'
  have l3 := lc c3 n3 d3'
  have l4 := lc c4 n4 d4'
  have e1 : ∀ b ∈ [H.x, H.dx, H.fl, ak], s.heap.get? b ≠ none := fun b hb => by obtain ⟨_, o, e⟩ := hne b hb; rw [e]; simp
  clear hN hF keep lc kp' k9 hp9 h169 hc3 hs3 k23 tb3 pl3 hn3 nf hf
  generalize qualnameIn _ (Str.ofString "answer") (Str.ofString "answer") = qn at hf' hc'
  refine' enterX P' [H.x, H.dx, H.fl, ak, 134, L + 1 + 1 + 1 + 1, L + 1 + 1 + 1, L + 1 + 1, L + 1] [(Str.ofString "holder", .ref H.x), (Str.ofString "value", v)] (looseC bx (looseC bdx (looseC bfl (looseC bak (looseC bt' (looseC l1 (looseC l2 (looseC l3 (loose1 l4))))))))) hf' hc' ?b ?lc ?_
  case b => exact BindsTo.of_eq rfl
  case lc => exact locs rfl
  intro g' L' h1' G' F' kpp hL' B' D' X' T'
  try dsimp only
  show wpAny _ _ _ _ _ _
  k_fold
  refine exEl2 ht'.obj fun ps' hps' hpc' => ?_
  have xd : @Ne Nat H.x H.dx := ne_objc HA.hx HA.hdx (by first | exact cID | exact cIL | exact cIT | exact cDL | exact cDT | exact cLT | simp)
  have xf : @Ne Nat H.x H.fl := ne_objc HA.hx HA.hfl (by first | exact cID | exact cIL | exact cIT | exact cDL | exact cDT | exact cLT | simp)
  have xa : @Ne Nat H.x ak := ne_objc HA.hx hak (by first | exact cID | exact cIL | exact cIT | exact cDL | exact cDT | exact cLT | simp)
  have df : @Ne Nat H.dx H.fl := ne_objc HA.hdx HA.hfl (by first | exact cID | exact cIL | exact cIT | exact cDL | exact cDT | exact cLT | simp)
  have da : @Ne Nat H.dx ak := ne_objc HA.hdx hak (by first | exact cID | exact cIL | exact cIT | exact cDL | exact cDT | exact cLT | simp)
  have xt : @Ne Nat H.x 134 := ne_objc HA.hx hps' (by first | exact cID | exact cIL | exact cIT | exact cDL | exact cDT | exact cLT | simp)
  have dt : @Ne Nat H.dx 134 := ne_objc HA.hdx hps' (by first | exact cID | exact cIL | exact cIT | exact cDL | exact cDT | exact cLT | simp)
  have ft : @Ne Nat H.fl 134 := ne_objc HA.hfl hps' (by first | exact cID | exact cIL | exact cIT | exact cDL | exact cDT | exact cLT | simp)
  have at' : @Ne Nat ak 134 := ne_objc hak hps' (by first | exact cID | exact cIL | exact cIT | exact cDL | exact cDT | exact cLT | simp)
  have nw : ∀ {b c : Addr}, b ∈ [H.x, H.dx, H.fl, ak] → s.heap.get? c = none → @Ne Nat b c := fun {b c} hb e q => e1 b hb (by
    have q' : b = c := q
    rw [q']; exact e)
  have f1 : @Ne Nat H.fl (L + 1 + 1 + 1 + 1) := nw (by simp) n1
  have f2 : @Ne Nat H.fl (L + 1 + 1 + 1) := nw (by simp) n2
  have f3 : @Ne Nat H.fl (L + 1 + 1) := nw (by simp) n3
  have f4 : @Ne Nat H.fl (L + 1) := nw (by simp) n4
  have a1 : @Ne Nat ak (L + 1 + 1 + 1 + 1) := nw (by simp) n1
  have a2 : @Ne Nat ak (L + 1 + 1 + 1) := nw (by simp) n2
  have a3 : @Ne Nat ak (L + 1 + 1) := nw (by simp) n3
  have a4 : @Ne Nat ak (L + 1) := nw (by simp) n4
  clear nw
  have N' : News g' L' h1' [(H.x, instObj 52 H.dx), (H.dx, dictOf (holdEs w H.kk H.st H.ou ans over H.fl cc hd H.tp t1 t2 H.t3) 8), (H.fl, listOf fr k), (ak, listOf asked ka), (134, tabObj ps'), (L + 1 + 1 + 1 + 1, o1), (L + 1 + 1 + 1, o2), (L + 1 + 1, o3), (L + 1, o4)] :=
    G'.news1 kpp HA.hx (by k_mem) (G'.news1 kpp HA.hdx (by k_mem) (G'.news1 kpp HA.hfl (by k_mem) (G'.news1 kpp hak (by k_mem) (G'.news1 kpp hps' (by k_mem) (G'.news1 kpp c1 (by k_mem) (G'.news1 kpp c2 (by k_mem) (G'.news1 kpp c3 (by k_mem) (G'.news1 kpp c4 (by k_mem) News.nil))))))))
  have plg : g'.IsList pl pv.toArray := G'.isList pl' (fun hm => by
    obtain ⟨o, e, _⟩ := hpl
    simp only [List.mem_cons, List.not_mem_nil, or_false] at hm
    rcases hm with q | q | q | q | q | q | q | q | q
    · exact (hne _ mm0).1 q
    · exact (hne _ mm1).1 q
    · exact (hne _ mm2).1 q
    · exact (hne _ mm3).1 q
    · exact hpt q
    all_goals (rw [q] at e; simp_all))
  have ht1 : TabAt 134 lamPos lamQual h1' := ht'.same ((kpp hps').1.trans hps'.symm) (Kept.of_keeps (M := []) (fs := []) fun b o e => (kpp e).1)
  have hH1 : Hd A' h1' := hH.keeps fun b o e _ _ => (kpp e).1
  have hHg : Hd A' g' := hH.keeps fun b o e ⟨vs, hv⟩ hb => G'.up e fun q => by
    simp only [List.mem_cons, List.not_mem_nil, or_false] at q
    rcases q with q | q | q | q | q | q | q | q | q
    · rw [q, HA.hx] at e; cases e; cases hv
    · rw [q, HA.hdx] at e; cases e; cases hv
    · rw [q, HA.hfl] at e; cases e; cases hv
    · rw [q, hak] at e; cases e; cases hv
    · exact hHn b hb q
    · rw [q, c1] at e; cases e; rw [d1'] at hv; cases hv
    · rw [q, c2] at e; cases e; rw [d2'] at hv; cases hv
    · rw [q, c3] at e; cases e; rw [d3'] at hv; cases hv
    · rw [q, c4] at e; cases e; rw [d4'] at hv; cases hv
  clear kpp hf' pl' e1 hne hpt hpl h134 bt bpl ht ht₁ hps hpc kp₁ nf' n1 n2 n3 n4 h148 G P B D X T l1 l2 l3 l4 hL
  (repeat' ((fail_if_success (with_reducible show wpAny _ _ (pyIter _) _ _ _)); (fail_if_success (with_reducible show wpAny _ _ (call (Value.ref _) _) _ _ _)); (fail_if_success (with_reducible show wpAny _ _ (exec (Stmt.Raise _ _ _) _) _ _ _)); (fail_if_success (with_reducible show wpAny _ _ (exec (Stmt.While _ _ _ _) _) _ _ _)); (fail_if_success (with_reducible show wpAny _ _ (exec (Stmt.Try _ _ _ _ _) _) _ _ _)); (fail_if_success (with_reducible show wpAny _ _ (call (Value.builtin "min") _ _) _ _ _)); (fail_if_success (with_reducible show wpAny _ _ (call (Value.builtin "max") _ _) _ _ _)); (fail_if_success (with_reducible show wpAny _ _ (eval (Expr.Lambda _ _ _ _) _) _ _ _)); (fail_if_success (with_reducible show InvPostN _ _ _ _ _ _ _ _ _)); first | walk1 | (dsimp only; walk1)))
  rename Fr _ _ _ _ => F3
  rename News _ _ _ _ => N3
  rename IntsAre _ (plan ++ [0]) => hI3
  refine min_two_HN (hHg.keeps fun b o e _ _ => F3.keep b o e) F3 N3 (fun h4 tk4 t4 F4 N4 _ => ?_)
  clear F3 N3
  try dsimp only
  refine item_plan (News.isList N4 mm0) hI3 hp.1 (by assumption) (fun t5 => ?_)
  have hN5 : ∃ tu t, News g' L' h4 [(tu, { cls := .type "tuple", data := .seq #[v, .int fr.size t] }), (H.x, instObj 52 H.dx), (H.dx, dictOf (holdEs w H.kk H.st H.ou ans over H.fl cc hd H.tp t1 t2 H.t3) 8), (H.fl, listOf fr k), (ak, listOf (asked.push (.ref tu)) (ka + 1)), (134, tabObj ps'), (L + 1 + 1 + 1 + 1, o1), (L + 1 + 1 + 1, o2), (L + 1 + 1, o3), (L + 1, o4)] := ⟨_, _, News.sub N4 (fun p hp => .tail _ (.tail _ hp))⟩
  clear N4
  obtain ⟨tu, tt, N5⟩ := hN5
  try dsimp only
  (repeat' ((fail_if_success (with_reducible show wpAny _ _ (pyIter _) _ _ _)); (fail_if_success (with_reducible show wpAny _ _ (call (Value.ref _) _) _ _ _)); (fail_if_success (with_reducible show wpAny _ _ (exec (Stmt.Raise _ _ _) _) _ _ _)); (fail_if_success (with_reducible show wpAny _ _ (exec (Stmt.While _ _ _ _) _) _ _ _)); (fail_if_success (with_reducible show wpAny _ _ (exec (Stmt.Try _ _ _ _ _) _) _ _ _)); (fail_if_success (with_reducible show wpAny _ _ (call (Value.builtin "min") _ _) _ _ _)); (fail_if_success (with_reducible show wpAny _ _ (call (Value.builtin "max") _ _) _ _ _)); (fail_if_success (with_reducible show wpAny _ _ (eval (Expr.Lambda _ _ _ _) _) _ _ _)); (fail_if_success (with_reducible show InvPostN _ _ _ _ _ _ _ _ _)); first | walk1 | (dsimp only; walk1)))
  have dne : ∀ {o : Obj} {v : Option Value} {vs : Array Value} {c : Value}, o.data = .cell v → ({ cls := c, data := .seq vs } : Obj) ≠ o := fun hd q => by rw [← q] at hd; cases hd
  have m0 := N5 _ mm0
  have m1 := N5 _ mm1
  have m2 := N5 _ mm2
  have m3 := N5 _ mm3
  have m4 := N5 _ mm4
  have m5 := N5 _ mm5
  have m6 := N5 _ mm6
  have m7 := N5 _ mm7
  have m8 := N5 _ mm8
  have m9 := N5 _ mm9
  have nt : s'.heap.get? tu = none := G'.new N5 mm0 (nm_cons (ne_objc m0.1 m1.1 (by first | exact cID | exact cIL | exact cIT | exact cDL | exact cDT | exact cLT | simp)) (nm_cons (ne_objc m0.1 m2.1 (by first | exact cID | exact cIL | exact cIT | exact cDL | exact cDT | exact cLT | simp)) (nm_cons (ne_objc m0.1 m3.1 (by first | exact cID | exact cIL | exact cIT | exact cDL | exact cDT | exact cLT | simp)) (nm_cons (ne_objc m0.1 m4.1 (by first | exact cID | exact cIL | exact cIT | exact cDL | exact cDT | exact cLT | simp)) (nm_cons (ne_obj m0.1 m5.1 (fun q => by cases q)) (nm_cons (ne_obj m0.1 m6.1 (dne d1')) (nm_cons (ne_obj m0.1 m7.1 (dne d2')) (nm_cons (ne_obj m0.1 m8.1 (dne d3')) (nm_cons (ne_obj m0.1 m9.1 (dne d4')) nm_nil)))))))))
  have tb4 : TabAt 134 lamPos lamQual h4 := ht'.same ((N5 _ mm5).1.trans hps'.symm) (G'.ke0 F4)
  have lx : ∀ env : Env, env.frame = some L' → Loose base (env :: l') h4 H.x := fun _ he => loose_of B' he N5 mm1 rfl
  have ldx : ∀ env : Env, env.frame = some L' → Loose base (env :: l') h4 H.dx := fun _ he => loose_of B' he N5 mm2 rfl
  have lfl : ∀ env : Env, env.frame = some L' → Loose base (env :: l') h4 H.fl := fun _ he => loose_of B' he N5 mm3 rfl
  have lak : ∀ env : Env, env.frame = some L' → Loose base (env :: l') h4 ak := fun _ he => loose_of B' he N5 mm4 rfl
  have lt : ∀ env : Env, env.frame = some L' → Loose base (env :: l') h4 134 := fun _ he => loose_of B' he N5 mm5 hpc'
  have hH4 : Hd A' h4 := hHg.keeps fun b o e _ _ => F4.keep b o e
  have tf : @Ne Nat tu H.fl := ne_objc (nGet N5 mm0) (nGet N5 mm3) (by simp)
  have tdx : @Ne Nat tu H.dx := ne_objc (nGet N5 mm0) (nGet N5 mm2) (by simp)
  have ta : @Ne Nat tu ak := ne_objc (nGet N5 mm0) (nGet N5 mm4) (by simp)
  refine wpAny_call (deeper_spec (pre_call P' B' D' F4 rfl rfl) (nGet N5 mm1) (nGet N5 mm2) (nGet N5 mm3) tb4 (lx _ rfl) (ldx _ rfl) (lfl _ rfl) (lt _ rfl) hH4 hHn b1 b2 (planAt_le hp.2 _) (Nat.le_trans hfr (by decide)) (fun h6 fr6 ext6 k6 tk6 kp6 hfl6 hext6 hgo6 => ?_) (fun h6 fr6 ext6 k6 e T d v6 o tk6 tr q1 q2 q3 kp6 hdx6 hfl6 hext6 tb6 fl6 hd6 hv6 hgo6 ne nd nT => ?_))
  · have F6 := after_call0 F4 kp6 (forall_cons ⟨(nOff N5 mm3), (nNeL N5 mm3)⟩ forall_nil)
    have N6 := News.kept1 (own := [_, _, _]) N5 kp6 hfl6 (all_cons tf (all_cons xf (all_cons df all_nil))) (all_cons hfa.symm (all_cons ft.symm (all_cons f1.symm (all_cons f2.symm (all_cons f3.symm (all_cons f4.symm all_nil))))))
    dsimp only [List.cons_append, List.nil_append] at N6
    clear F4 N5 lx ldx lfl lak lt tb4 m0 m1 m2 m3 m4 m5 m6 m7 m8 m9
    have hle6 : ext6.length ≤ 1000 := by
      have e1 := congrArg List.length hext6
      rw [List.length_append, Array.length_toList, Array.length_toList] at e1
      have := gone_le hgo6
      have := (planAt_le hp.2 asked.size).2
      omega
    try dsimp only
    (repeat' ((fail_if_success (with_reducible show wpAny _ _ (pyIter _) _ _ _)); (fail_if_success (with_reducible show wpAny _ _ (call (Value.ref _) _) _ _ _)); (fail_if_success (with_reducible show wpAny _ _ (exec (Stmt.Raise _ _ _) _) _ _ _)); (fail_if_success (with_reducible show wpAny _ _ (exec (Stmt.While _ _ _ _) _) _ _ _)); (fail_if_success (with_reducible show wpAny _ _ (exec (Stmt.Try _ _ _ _ _) _) _ _ _)); (fail_if_success (with_reducible show wpAny _ _ (call (Value.builtin "min") _ _) _ _ _)); (fail_if_success (with_reducible show wpAny _ _ (call (Value.builtin "max") _ _) _ _ _)); (fail_if_success (with_reducible show wpAny _ _ (eval (Expr.Lambda _ _ _ _) _) _ _ _)); (fail_if_success (with_reducible show InvPostN _ _ _ _ _ _ _ _ _)); first | walk1 | (dsimp only; walk1)))
    refine while_quiet (n₀ := ext6.length) (AI w H ak tu L ans over cc hd t1 t2 tt v fr asked ps' ka o1 o2 o3 o4) F6 N6 ⟨_, fr6, k6, ext6, rfl, rfl, hext6, rfl, hle6⟩ ?_
    rintro n m₁ nx h7 tk7 F7 N7 ⟨ta, fr7, k7, ext7, rfl, rfl, hext7, hn7, hle7⟩
    have hsz7 : fr7.size = fr.size + n := by
      have := congrArg List.length hext7
      simpa [hn7] using this
    have hsm7 : fr7.size ≤ 3000 := lw1 (Nat.le_trans hfr (by decide)) hle7 hsz7
    clear F6 N6 hext6 hfl6 kp6
    (repeat' ((fail_if_success (with_reducible show wpAny _ _ (pyIter _) _ _ _)); (fail_if_success (with_reducible show wpAny _ _ (call (Value.ref _) _) _ _ _)); (fail_if_success (with_reducible show wpAny _ _ (exec (Stmt.Raise _ _ _) _) _ _ _)); (fail_if_success (with_reducible show wpAny _ _ (exec (Stmt.While _ _ _ _) _) _ _ _)); (fail_if_success (with_reducible show wpAny _ _ (exec (Stmt.Try _ _ _ _ _) _) _ _ _)); (fail_if_success (with_reducible show wpAny _ _ (call (Value.builtin "min") _ _) _ _ _)); (fail_if_success (with_reducible show wpAny _ _ (call (Value.builtin "max") _ _) _ _ _)); (fail_if_success (with_reducible show wpAny _ _ (eval (Expr.Lambda _ _ _ _) _) _ _ _)); (fail_if_success (with_reducible show InvPostN _ _ _ _ _ _ _ _ _)); first | walk1 | (dsimp only; walk1)))
    · have hpos : 0 < ext7.length := lw3 (by assumption) hn7
      obtain ⟨p7, y7, rfl⟩ : ∃ p y, ext7 = p ++ [y] := by
        rcases List.eq_nil_or_concat ext7 with rfl | ⟨p, y, rfl⟩
        · cases hpos
        · exact ⟨p, y, by simp⟩
      rename News _ _ _ _ => N7
      try dsimp only
      refine kl_pop F7 N7 (p := fr.toList ++ p7) (y := y7) ?pe (.tail tf (.tail xf (.tail df (.head (all_cons hfa.symm (all_cons ft.symm (all_cons f1.symm (all_cons f2.symm (all_cons f3.symm (all_cons f4.symm all_nil)))))))))) ?pz (fun h8 F8 N8 => ?_)
      case pe => rw [hext7, ← List.append_assoc]; exact kpa_last _ _
      case pz => rw [Array.length_toList, PySem.sizeLine_eq]; omega
      clear F7 N7
      try dsimp only
      (repeat' ((fail_if_success (with_reducible show wpAny _ _ (pyIter _) _ _ _)); (fail_if_success (with_reducible show wpAny _ _ (call (Value.ref _) _) _ _ _)); (fail_if_success (with_reducible show wpAny _ _ (exec (Stmt.Raise _ _ _) _) _ _ _)); (fail_if_success (with_reducible show wpAny _ _ (exec (Stmt.While _ _ _ _) _) _ _ _)); (fail_if_success (with_reducible show wpAny _ _ (exec (Stmt.Try _ _ _ _ _) _) _ _ _)); (fail_if_success (with_reducible show wpAny _ _ (call (Value.builtin "min") _ _) _ _ _)); (fail_if_success (with_reducible show wpAny _ _ (call (Value.builtin "max") _ _) _ _ _)); (fail_if_success (with_reducible show wpAny _ _ (eval (Expr.Lambda _ _ _ _) _) _ _ _)); (fail_if_success (with_reducible show InvPostN _ _ _ _ _ _ _ _ _)); first | walk1 | (dsimp only; walk1)))
      exact WhileStep.intro F8 N8 (n' := p7.length) (lw5 hn7) ⟨ta, _, _, p7, rfl, rfl, by simp, rfl, lw4 hn7 hle7⟩
    · have hz7 : ext7 = [] := List.length_eq_zero_iff.mp (lw2 (by assumption) hn7)
      subst hz7
      rename News _ _ _ _ => N7
      (show R' _ _)
      rw [List.append_nil] at hext7
      have KK := (G'.ke0 F7).tight (M := [H.fl, ak]) (tightC (.inr (tight_old HA.hx (nGet N7 mm1))) (tightC (.inr (tight_old HA.hdx (nGet N7 mm2))) (tightC (.inl mm0) (tightC (.inl mm1) (tightC (.inr (tight_old hps' (nGet N7 mm5))) (tightC (.inr (tight_old c1 (nGet N7 mm6))) (tightC (.inr (tight_old c2 (nGet N7 mm7))) (tightC (.inr (tight_old c3 (nGet N7 mm8))) (tightC (.inr (tight_old c4 (nGet N7 mm9))) tightN)))))))))
      exact ok _ fr7 _ _ tu _ _ tt _ KK (nGet N7 mm3) hext7 (nGet N7 mm4) nt ⟨_, (nGet N7 mm0), rfl, _, rfl⟩ hgo6
  · obtain ⟨bs, tv, rfl, hE⟩ := isVal_ends (raises := false) hv6 hgo6
    refine after_callC P' B' D' F4 rfl kp6 (forall_cons ⟨m2.2.2, m2.2.1⟩ (forall_cons ⟨m3.2.2, m3.2.1⟩ (forall_cons ⟨m5.2.2, m5.2.1⟩ (forall_nil)))) fun g2 Tg F6 B6 D6 X6 T6 => ?_
    show wpAny _ _ (leaving _ (.ref e)) _ _ _
    refine leave_next (pre_call P' B6 D6 F6 rfl rfl).B rfl fl6 fun h8 T8 k8 hT8 fl8 => ?_
    (show R' _ _)
    obtain ⟨de, dT⟩ := fl6.ne_dict hd6 (fun _ q => by cases q)
    refine exEl2 tb6.obj fun ps6 hps6 hpc6 => ?_
    have cc : ∀ {o : Obj} {v : Option Value}, o.data = .cell v → isCodeO o = false := fun {o v} hd => by unfold isCodeO; rw [hd]
    have keep6 : ∀ {a : Addr} {o : Obj}, h4.get? a = some o → a ∉ [H.dx, H.fl, 134] → (∀ env : Env, env.frame = some L' → Loose base (env :: l') h4 a) → h6.get? a = some o := fun {a o} e4 nm hf => kp6.same a o e4 nm (hf _ rfl).2.1
    have keep8 : ∀ {a : Addr} {o : Obj}, h4.get? a = some o → a ∉ [H.dx, H.fl, 134] → (∀ env : Env, env.frame = some L' → Loose base (env :: l') h4 a) → h8.get? a = some o := fun {a o} e4 nm hf => k8.same a o (keep6 e4 nm hf) (nm_cons (ne_new e4 ne) (nm_cons (ne_new e4 nT) nm_nil)) (hf _ rfl).2.1
    have tt' : @Ne Nat tu 134 := ne_obj m0.1 m5.1 (fun q => by cases q)
    have cne : ∀ {o o' : Obj} {v : Option Value}, o.data = .cell v → (∀ v, o'.data ≠ .cell v) → o ≠ o' := fun {o o' v} hd hn q => hn v (by rw [← q]; exact hd)
    have z1 := nm_cons (ne_obj m6.1 m2.1 (cne d1' (fun _ q => by cases q))) (nm_cons f1.symm (nm_cons (ne_obj m6.1 m5.1 (cne d1' (fun _ q => by cases q))) nm_nil))
    have z2 := nm_cons (ne_obj m7.1 m2.1 (cne d2' (fun _ q => by cases q))) (nm_cons f2.symm (nm_cons (ne_obj m7.1 m5.1 (cne d2' (fun _ q => by cases q))) nm_nil))
    have z3 := nm_cons (ne_obj m8.1 m2.1 (cne d3' (fun _ q => by cases q))) (nm_cons f3.symm (nm_cons (ne_obj m8.1 m5.1 (cne d3' (fun _ q => by cases q))) nm_nil))
    have z4 := nm_cons (ne_obj m9.1 m2.1 (cne d4' (fun _ q => by cases q))) (nm_cons f4.symm (nm_cons (ne_obj m9.1 m5.1 (cne d4' (fun _ q => by cases q))) nm_nil))
    have zx := nm_cons xd (nm_cons xf (nm_cons xt nm_nil))
    have za := nm_cons da.symm (nm_cons hfa.symm (nm_cons at' nm_nil))
    have zt := nm_cons tdx (nm_cons tf (nm_cons tt' nm_nil))
    have y1 : ∀ env : Env, env.frame = some L' → Loose base (env :: l') h4 (L + 1 + 1 + 1 + 1) := fun _ he => loose_of B' he N5 mm6 (cc d1')
    have y2 : ∀ env : Env, env.frame = some L' → Loose base (env :: l') h4 (L + 1 + 1 + 1) := fun _ he => loose_of B' he N5 mm7 (cc d2')
    have y3 : ∀ env : Env, env.frame = some L' → Loose base (env :: l') h4 (L + 1 + 1) := fun _ he => loose_of B' he N5 mm8 (cc d3')
    have y4 : ∀ env : Env, env.frame = some L' → Loose base (env :: l') h4 (L + 1) := fun _ he => loose_of B' he N5 mm9 (cc d4')
    have yt : ∀ env : Env, env.frame = some L' → Loose base (env :: l') h4 tu := fun _ he => loose_of B' he N5 mm0 rfl
    have gdx8 := k8.same _ _ hdx6 (nm_cons (ne_new m2.1 ne) (nm_cons (ne_new m2.1 nT) nm_nil)) (ldx _ rfl).2.1
    have gfl8 := k8.same _ _ hfl6 (nm_cons (ne_new m3.1 ne) (nm_cons (ne_new m3.1 nT) nm_nil)) (lfl _ rfl).2.1
    have gd8 := k8.same _ _ hd6 (nm_cons de (nm_cons dT nm_nil)) ((pre_call P' B' D' F4 rfl rfl).fresh nd).2
    have tb8 := tb6.kept k8 (nm_cons (ne_new m5.1 ne) (nm_cons (ne_new m5.1 nT) nm_nil)) (lt _ rfl).2.1
    have ex4 := exC m1.1 (exC m2.1 (exC m3.1 (exC m4.1 (exC m5.1 (exC m6.1 (exC m7.1 (exC m8.1 (exC m9.1 exN))))))))
    have ex6 := exC (keep6 m1.1 zx lx) (exC hdx6 (exC hfl6 (exC (keep6 m4.1 za lak) (exC hps6 (exC (keep6 m6.1 z1 y1) (exC (keep6 m7.1 z2 y2) (exC (keep6 m8.1 z3 y3) (exC (keep6 m9.1 z4 y4) exN))))))))
    have se := G'.none_up F4 ex4 ne
    have sd := G'.none_up F4 ex4 nd
    have sT := G'.none_up F4 ex4 nT
    have sT8 : s'.heap.get? T8 = none := by
      cases q : s'.heap.get? T8 with
      | none => rfl
      | some o =>
        by_cases z : T8 ∈ [H.x, H.dx, H.fl, ak, 134, L + 1 + 1 + 1 + 1, L + 1 + 1 + 1, L + 1 + 1, L + 1]
        · obtain ⟨o', e'⟩ := ex6 T8 z
          rw [hT8] at e'; cases e'
        · by_cases z2 : T8 ∈ fsOf l'
          · obtain ⟨sl, e'⟩ := (G'.ke Tg F6).turn _ _ q z2
            rw [hT8] at e'; cases e'
          · have := (G'.ke Tg F6).same _ _ q z z2
            rw [hT8] at this; cases this
    have KK := (raise_exit G' Tg F6 hL' rfl k8 (fun b hb => by
      simp only [List.mem_cons, List.not_mem_nil, or_false] at hb
      rcases hb with q | q <;> rw [q] <;> assumption) (frames_there P'.B)).tight (M := [H.dx, H.fl, ak, 134])
      (tightC (.inr (tight_old HA.hx (keep8 m1.1 zx lx))) (tightC (.inl mm0) (tightC (.inl mm1) (tightC (.inl mm2) (tightC (.inl mm3) (tightC (.inr (tight_old c1 (keep8 m6.1 z1 y1))) (tightC (.inr (tight_old c2 (keep8 m7.1 z2 y2))) (tightC (.inr (tight_old c3 (keep8 m8.1 z3 y3))) (tightC (.inr (tight_old c4 (keep8 m9.1 z4 y4))) tightN)))))))))
    exact er h8 fr6 ext6 k6 _ tu e T8 d bs tv o _ tr q1 q2 q3 tt KK ⟨keep8 m1.1 zx lx, gdx8, gfl8⟩ hext6 (keep8 m4.1 za lak) nt ⟨_, keep8 m0.1 zt yt, rfl, _, rfl⟩ tb8 fl8 gd8 hE hgo6 se sd sT8
end


end
theorem off_H1 : True := by
  w_top off
  exact True.intro
section
def Err (w : World) (e d : Addr) (v : Value) (ih : Bool) (h : Heap) : Prop :=
  (∃ vs sl, h.get? e = some (excObj 80 (some d) vs sl) ∧ isCodeO (excObj 80 (some d) vs sl) = false) ∧ ∃ tr k1 k2 k3, h.get? d = some (dictOf (luaEs w v tr ih k1 k2 k3) 3)
inductive AskedAre (h : Heap) : List Value → List (Array UInt8 × Int) → Prop where
  | nil : AskedAre h [] []
  | snoc {vs : List Value} {as : List (Array UInt8 × Int)} {tu : Addr} {b : Array UInt8} {d : Int} {tb t : Tok} (r : AskedAre h vs as) (x : IsTup h tu #[.bytes b tb, .int d t]) : AskedAre h (vs ++ [.ref tu]) (as ++ [(b, d)])
theorem errEl {w : World} {e d : Addr} {v : Value} {ih : Bool} {h : Heap} (x : Err w e d v ih h) {C : Prop}
    (c : ∀ vs sl tr k1 k2 k3, h.get? e = some (excObj 80 (some d) vs sl) → isCodeO (excObj 80 (some d) vs sl) = false → h.get? d = some (dictOf (luaEs w v tr ih k1 k2 k3) 3) → C) : C := by
  obtain ⟨⟨vs, sl, a, b⟩, tr, k1, k2, k3, d⟩ := x
  exact c vs sl tr k1 k2 k3 a b d
def NoTup (h : Heap) (a : Addr) : Prop := ∀ o, h.get? a = some o → o.cls ≠ .type "tuple"
theorem AskedAre.kept {h h' : Heap} {M fs : List Addr} {vs : List Value} {as : List (Array UInt8 × Int)} (x : AskedAre h vs as) (k : Kept M fs h h') (hM : ∀ a ∈ M, NoTup h a) (hf : ∀ a ∈ fs, NoTup h a) : AskedAre h' vs as := by
  induction x with
  | nil => exact .nil
  | snoc r x ih =>
    obtain ⟨o, e, c, n, hd⟩ := x
    exact .snoc ih ⟨o, k.same _ _ e (fun q => hM _ q o e c) (fun q => hf _ q o e c), c, n, hd⟩
theorem AskedAre.length {h : Heap} {vs : List Value} {as : List (Array UInt8 × Int)} (x : AskedAre h vs as) : vs.length = as.length := by
  induction x with
  | nil => rfl
  | snoc r x ih => simp [ih]

def One (tq : Addr) (oq : Obj) (av : List Value) (as : List (Array UInt8 × Int)) : Prop :=
  oq.cls = .type "tuple" ∧ ((av = [] ∧ as = []) ∨ ∃ b d tb t n, av = [.ref tq] ∧ as = [(b, d)] ∧ oq.data = .seq #[.bytes b tb, .int d t] n)
theorem One.at {tq : Addr} {oq : Obj} {av : List Value} {as : List (Array UInt8 × Int)} {h : Heap} (x : One tq oq av as) (e : h.get? tq = some oq) : AskedAre h av as := by
  obtain ⟨c, ⟨rfl, rfl⟩ | ⟨b, d, tb, t, n, rfl, rfl, hd⟩⟩ := x
  · exact .nil
  · exact .snoc (vs := []) (as := []) .nil ⟨oq, e, c, n, hd⟩
def told (bound spare : Int) (plan : List Int) : Nat → List (Array UInt8 × Int) → Array UInt8 → Int → Bool → List (Array UInt8 × Int) × Option Int
  | 0, as, _, _, _ => (as, none)
  | k + 1, as, v, d, b => match gone bound spare (planAt plan as.length).toNat d b with
    | (_, _, .none) => (as ++ [(v, d)], some ((as.length + 1 : Nat) : Int))
    | (_, _, .eie) => (as ++ [(v, d)], none)
    | (z, b', .full) => told bound spare plan k (as ++ [(v, d)]) fullB z b'
def tellsV (o : Option Int) (v : Value) : Prop := match o with
  | some n => ∃ t, v = .int n t
  | none => ∃ t, v = .bytes eieB t

theorem ends_f {o : Out} {bs : Array UInt8} (h : Ends false o bs false) : bs = fullB ∧ o = .full := by
  cases h with
  | full => exact ⟨rfl, rfl⟩
  | own q => cases q
theorem ends_t {o : Out} {bs : Array UInt8} (h : Ends false o bs true) : bs = eieB ∧ o = .eie := by cases h; exact ⟨rfl, rfl⟩
theorem pred_of {n : Nat} (h : 0 < n) : ∃ m, n = m + 1 := ⟨n - 1, by omega⟩
theorem hA0 {n k : Nat} (h : n + k = 2) (h0 : 0 < n) : k ≤ 9 := by omega
theorem hA1 {c n k : Nat} (h : c ≤ 300 + 150 * k) (h2 : n + k = 2) (h0 : 0 < n) : c ≤ 900 := by omega
theorem len0 {n k : Nat} (h : n + k = 2) (h0 : 0 < n) (h1 : n ≠ 1) : k = 0 := by omega
theorem beqF {y z : Str} (h : ¬ y = z) : (y == z) = false := by simpa using h
theorem planAt_leM {plan : List Int} {M : Int} (hM : 0 ≤ M) (h : ∀ x ∈ plan, 0 ≤ x ∧ x ≤ M) (i : Nat) : 0 ≤ planAt plan i ∧ planAt plan i ≤ M := by
  unfold planAt
  rw [List.getD_eq_getElem?_getD]
  cases e : (plan ++ [0])[min i plan.length]? with
  | none => simpa using hM
  | some x =>
    have hm := List.mem_of_getElem? e
    rcases List.mem_append.mp hm with hm | hm
    · simpa using h x hm
    · rw [List.mem_singleton.mp hm]; simpa using hM
theorem while_opq {prog : Program} {w : World} {A : Around} {E : Value → Shared → Prop} {s : Shared} {Q : Flow → Shared → Prop} {env : Env} {test : Expr} {body : List Stmt} {pos : Pos} (I : Nat → Shared → Prop) (n₀ : Nat) (h0 : I n₀ s)
    (turn : ∀ n s', I n s' → ∀ QN : Flow → Shared → Prop, (∀ f s₃, (match f with
        | .next | .cont => ∃ m, m < n ∧ I m s₃
        | .brk => Q .next s₃
        | .ret v => Q (.ret v) s₃) → QN f s₃) → wpAny (model prog w) A (isTrue test env (eval test env)) (fun b s₂ => if b = true then wpAny (model prog w) A (execs body env) QN (fun _ _ => False) s₂ else Q .next s₂) (fun _ _ => False) s') :
    wpAny (model prog w) A (exec (.While test body [] pos) env) Q E s := while_any I n₀ h0 fun n s' hI => turn n s' hI _ fun _ _ x => x
inductive HI (w : World) (p : Program) (loose : List Str) (mean : ExcName → Option Value) (mg mb : Str → Option Value) (A : Around) (base : Heap) (l : List Env) (s : Shared) (g : Heap) (L : Addr) (H : Hold) (ak hg f : Addr) (og : Obj) (ans : Value) (over : Bool) (bound spare : Int) (t99 : Tok) (fr : Array Value) (plan : List Int) (vb : Array UInt8) (n : Nat) (s' : Shared) : Prop where
  | mk (g' h' : Heap) (tk : Nat) (over' : Bool) (ti cc' hd' : Int) (vb' : Array UInt8) (fr' : Array Value) (ext av' : List Value) (as' : List (Array UInt8 × Int)) (k' ka' : Nat) (ps' : Array Value) (t1' t2' tt tv' : Tok) (u : Option Value) (tq : Addr) (oq : Obj) (tc : Addr) (oc : Obj) (e : s' = { s with heap := h', toks := tk }) (Tg : KtsTurn (fsOf l) g g')
      (F : Fr g' L h' (fun y => if y = Str.ofString "other" then u else List.lookup y [(Str.ofString "tries", Value.int ti tt), (Str.ofString "most", .int 99 t99), (Str.ofString "reply", .ref f), (Str.ofString "value", .bytes vb' tv'), (Str.ofString "handling", .ref hg), (Str.ofString "holder", .ref H.x)]))
      (N : News g' L h' [(H.x, instObj 52 H.dx), (H.dx, dictOf (holdEs w H.kk H.st H.ou ans over' H.fl cc' hd' H.tp t1' t2' H.t3) 8), (H.fl, listOf fr' k'), (ak, listOf av'.toArray ka'), (134, tabObj ps'), (hg, og), (tq, oq), (tc, oc)])
      (B : Below A base l g') (D : KtsDicts (fsOf l) g') (X : (Mine.hd.heap_39 w.params).In g') (T : Top p loose mean mg mb g') (Hd' : Hd A g') (fn : FnAt f g') (tg : TabG g' tc oc lamPos lamQual ps') (odd : Odd oc) (one : One tq oq av' as') (hfr : fr'.toList = fr.toList ++ ext) (hsz : fr'.size ≤ 300 + 150 * as'.length)
      (htold : told bound spare plan 2 [] vb fr.size over = told bound spare plan n as' vb' fr'.size over') (hti : ti = (as'.length : Int)) (hn2 : n + as'.length = 2) (hn0 : 0 < n) (hov : n = 1 → over' = true) : HI w p loose mean mg mb A base l s g L H ak hg f og ans over bound spare t99 fr plan vb n s'
section
variable {hn : Nat} {prog : Program} {w : World} {p : Program} {loose : List Str} {mean : ExcName → Option Value} {mg mb : Str → Option Value} {A : Around} {base : Heap} {l : List Env} {s : Shared} {R : Result → Shared → Prop} {Q : Value → Shared → Prop} {E : Value → Shared → Prop}
theorem handled_spec (P : Pre (Mine.hd.heap_39 w.params) p loose mean mg mb A base l s.heap (hn + 9)) {H : Hold} {ak hg f : Addr} {ans : Value} {over : Bool} {hd bound spare : Int} {t1 t2 t99 tvb : Tok} {fr : Array Value} {k ka : Nat} {plan : List Int} {vb : Array UInt8}
    (HA : HoldAt w H ans over 0 hd t1 t2 fr k s.heap) (hak : s.heap.get? ak = some (listOf #[] ka)) (ht : TabAt 134 lamPos lamQual s.heap) (hhg : IsTup s.heap hg #[.ref f, .int 99 t99])
    (hff : FnAt f s.heap) (bff : f ∉ fsOf l) (hrep : Reply prog w p loose mean mg mb base H ak f bound spare plan (fsOf l) s.heap)
    (bx : Loose base l s.heap H.x) (bdx : Loose base l s.heap H.dx) (bfl : Loose base l s.heap H.fl) (bak : Loose base l s.heap ak) (bt : Loose base l s.heap 134) (bhg : Loose base l s.heap hg) (hH : Hd A s.heap) (hHn : ∀ eh, A.handled = some (.ref eh) → eh ≠ 134) (hfa : @Ne Nat H.fl ak)
    (b1 : 0 ≤ bound ∧ bound ≤ 100) (b2 : 0 ≤ spare ∧ spare ≤ 100) (hp : plan.length ≤ 9 ∧ ∀ x ∈ plan, 0 ≤ x ∧ x ≤ 100) (b4 : fr.size ≤ 300)
    (h : ∀ h' e d v as' av' n fr' ext over' cc hd' t1' t2' k' ka' tk, Kept [H.dx, H.fl, ak, 134] (fsOf l) s.heap h' → Err w e d v n.isNone h' → tellsV n v → HoldAt w H ans over' cc hd' t1' t2' fr' k' h' → (fr'.toList = fr.toList ++ ext ∧ fr'.size ≤ 900) → h'.get? ak = some (listOf av'.toArray ka') → AskedAre h' av' as' →
      TabAt 134 lamPos lamQual h' → told bound spare plan 2 [] vb fr.size over = (as', n) → s.heap.get? e = none → s.heap.get? d = none → R (.ok (.ret (.ref e))) { s with heap := h', toks := tk }) :
    codeAny (model prog w) A (.call (.ref 111) ⟨[.ref H.x, .ref hg, .bytes vb tvb], []⟩) R s := by
  refine' enter P [H.x, H.dx, H.fl, ak, 134, hg] [(Str.ofString "holder", .ref H.x), (Str.ofString "handling", .ref hg), (Str.ofString "value", .bytes vb tvb)] (looseC bx (looseC bdx (looseC bfl (looseC bak (looseC bt (loose1 bhg)))))) ?k6 ?k7 ?k9 ?kB ?_ ?c2 ?c3 ?c4 ?c5
  case k6 => k_is
  case k7 => k_is
  case k9 => exact BindsTo.of_eq rfl
  case kB => exact locs rfl
  case c2 => exact rfl
  case c3 => exact rfl
  case c4 => exact rfl
  case c5 => decide
  intro g L h₁ G F kp hL B D X T
  try dsimp only
  k_fold
  refine exEl2 ht.obj fun ps hps hpc => ?_
  refine tupEl hhg fun og hog hcg ng hdg => ?_
  have xd : @Ne Nat H.x H.dx := ne_objc HA.hx HA.hdx (by first | exact cID | exact cIL | exact cIT | exact cDL | exact cDT | exact cLT | simp)
  have xf : Unit → @Ne Nat H.x H.fl := fun _ => ne_objc HA.hx HA.hfl (by first | exact cID | exact cIL | exact cIT | exact cDL | exact cDT | exact cLT | simp)
  have xa : Unit → @Ne Nat H.x ak := fun _ => ne_objc HA.hx hak (by first | exact cID | exact cIL | exact cIT | exact cDL | exact cDT | exact cLT | simp)
  have df : @Ne Nat H.dx H.fl := ne_objc HA.hdx HA.hfl (by first | exact cID | exact cIL | exact cIT | exact cDL | exact cDT | exact cLT | simp)
  have da : @Ne Nat H.dx ak := ne_objc HA.hdx hak (by first | exact cID | exact cIL | exact cIT | exact cDL | exact cDT | exact cLT | simp)
  have xt : Unit → @Ne Nat H.x 134 := fun _ => ne_objc HA.hx hps (by first | exact cID | exact cIL | exact cIT | exact cDL | exact cDT | exact cLT | simp)
  have dt : @Ne Nat H.dx 134 := ne_objc HA.hdx hps (by first | exact cID | exact cIL | exact cIT | exact cDL | exact cDT | exact cLT | simp)
  have ft : Unit → @Ne Nat H.fl 134 := fun _ => ne_objc HA.hfl hps (by first | exact cID | exact cIL | exact cIT | exact cDL | exact cDT | exact cLT | simp)
  have at' : Unit → @Ne Nat ak 134 := fun _ => ne_objc hak hps (by first | exact cID | exact cIL | exact cIT | exact cDL | exact cDT | exact cLT | simp)
  have gx : Unit → @Ne Nat hg H.x := fun _ => ne_objc hog HA.hx (by first | exact tupI hcg | exact tupD hcg | exact tupL hcg | exact tupT hcg | (rw [hcg]; simp))
  have gd : @Ne Nat hg H.dx := ne_objc hog HA.hdx (by first | exact tupI hcg | exact tupD hcg | exact tupL hcg | exact tupT hcg | (rw [hcg]; simp))
  have gf : Unit → @Ne Nat hg H.fl := fun _ => ne_objc hog HA.hfl (by first | exact tupI hcg | exact tupD hcg | exact tupL hcg | exact tupT hcg | (rw [hcg]; simp))
  have ga : Unit → @Ne Nat hg ak := fun _ => ne_objc hog hak (by first | exact tupI hcg | exact tupD hcg | exact tupL hcg | exact tupT hcg | (rw [hcg]; simp))
  have gt : Unit → @Ne Nat hg 134 := fun _ => ne_objc hog hps (by first | exact tupI hcg | exact tupD hcg | exact tupL hcg | exact tupT hcg | (rw [hcg]; simp))
  have ht1 : TabAt 134 lamPos lamQual h₁ := ht.same ((kp hps).1.trans hps.symm) (Kept.of_keeps (M := []) (fs := []) fun b o e => (kp e).1)
  have hgN : h₁.get? hg = some og ∧ hg ≠ L ∧ g.get? hg = none := ⟨(kp hog).1, Nat.ne_of_lt (kp hog).2, G.hid (by k_mem)⟩
  refine TabAt.groundC ht1 F hgN fun ps₁ tc oc hps₁ tg htc hoc => ?_
  have eps : tabObj ps₁ = tabObj ps := Option.some.inj (hps₁.symm.trans (kp hps).1)
  cases eps
  have odd : Odd oc := by
    rcases hoc with q | ⟨_, q⟩
    · exact .inl q
    · rw [q]; exact .inr hcg
  have N : News g L h₁ [(H.x, instObj 52 H.dx), (H.dx, dictOf (holdEs w H.kk H.st H.ou ans over H.fl 0 hd H.tp t1 t2 H.t3) 8), (H.fl, listOf fr k), (ak, listOf #[] ka), (134, tabObj ps), (hg, og), (hg, og), (tc, oc)] :=
    G.news1 kp HA.hx (by k_mem) (G.news1 kp HA.hdx (by k_mem) (G.news1 kp HA.hfl (by k_mem) (G.news1 kp hak (by k_mem) (G.news1 kp hps (by k_mem) (G.news1 kp hog (by k_mem) (G.news1 kp hog (by k_mem) (News.one htc News.nil)))))))
  have cx : Unit → @Ne Nat tc H.x := fun _ => odd.ne htc.1 (kp HA.hx).1 rfl (by simp)
  have cd : @Ne Nat tc H.dx := odd.ne htc.1 (kp HA.hdx).1 rfl (by simp)
  have cf : Unit → @Ne Nat tc H.fl := fun _ => odd.ne htc.1 (kp HA.hfl).1 rfl (by simp)
  have ca : Unit → @Ne Nat tc ak := fun _ => odd.ne htc.1 (kp hak).1 rfl (by simp)
  have ct : Unit → @Ne Nat tc 134 := fun _ => odd.ne htc.1 (kp hps).1 hpc (by simp)
  have hHg : Hd A g := hH.keeps fun b o e ⟨vs, hv⟩ hb => G.up e fun q => by
    simp only [List.mem_cons, List.not_mem_nil, or_false] at q
    rcases q with q | q | q | q | q | q
    · rw [q, HA.hx] at e; cases e; cases hv
    · rw [q, HA.hdx] at e; cases e; cases hv
    · rw [q, HA.hfl] at e; cases e; cases hv
    · rw [q, hak] at e; cases e; cases hv
    · exact hHn b hb q
    · rw [q, hog] at e; cases e; rw [hdg] at hv; cases hv
  have hTg : h₁.IsTuple hg #[.ref f, .int 99 t99] := ⟨og, (kp hog).1, hcg, ng, hdg⟩
  have hfg : FnAt f g := by
    obtain ⟨a1, a2, a3, a4, e⟩ := id hff
    exact ⟨a1, a2, a3, a4, G.up e (nm_cons (FnAt.ne hff HA.hx fun _ q => by cases q) (nm_cons (FnAt.ne hff HA.hdx fun _ q => by cases q) (nm_cons (FnAt.ne hff HA.hfl fun _ q => by cases q) (nm_cons (FnAt.ne hff hak fun _ q => by cases q) (nm_cons (FnAt.ne hff hps fun _ q => by cases q) (nm_cons (FnAt.ne hff hog fun _ q => by rw [hdg] at q; cases q) nm_nil))))))⟩
  clear kp
  refine wpAny_execs_cons ?_
  walk1
  walk1
  try dsimp only
  refine assign_TupleHN (hHg.keeps fun b o e _ _ => F.keep b o e) F N hTg ?e1 ?e2 (fun h2 F2 N2 hk2 => ?_)
  case e1 => rfl
  case e2 => rfl
  clear F N
  try dsimp only
  (repeat' ((fail_if_success (with_reducible show wpAny _ _ (pyIter _) _ _ _)); (fail_if_success (with_reducible show wpAny _ _ (call (Value.ref _) _) _ _ _)); (fail_if_success (with_reducible show wpAny _ _ (exec (Stmt.Raise _ _ _) _) _ _ _)); (fail_if_success (with_reducible show wpAny _ _ (exec (Stmt.While _ _ _ _) _) _ _ _)); (fail_if_success (with_reducible show wpAny _ _ (exec (Stmt.Try _ _ _ _ _) _) _ _ _)); (fail_if_success (with_reducible show wpAny _ _ (call (Value.builtin "min") _ _) _ _ _)); (fail_if_success (with_reducible show wpAny _ _ (call (Value.builtin "max") _ _) _ _ _)); (fail_if_success (with_reducible show wpAny _ _ (eval (Expr.Lambda _ _ _ _) _) _ _ _)); (fail_if_success (with_reducible show InvPostN _ _ _ _ _ _ _ _ _)); first | walk1 | (dsimp only; walk1)))
  rename Fr _ _ _ _ => F3
  rename News _ _ _ _ => N3
  refine while_opq (HI w p loose mean mg mb A base l s g L H ak hg f og ans over bound spare t99 fr plan vb) 2 ?_ ?_
  · refine ⟨g, _, _, over, 0, 0, hd, vb, fr, [], [], [], k, ka, ps, t1, t2, t1, tvb, none, hg, og, tc, oc, rfl, KtsTurn.refl, ?_, N3, B, D, X, T, hHg, hfg, tg, odd, ⟨hcg, .inl ⟨rfl, rfl⟩⟩, by simp, by simpa using b4, rfl, rfl, rfl, by decide, fun q => by cases q⟩
    · refine cast (congrArg (Fr g L _) ?_) F3
      funext y
      by_cases q0 : y = Str.ofString "other"
      · rw [q0]; rfl
      by_cases q1 : y = Str.ofString "tries"
      · rw [q1]; rfl
      by_cases q2 : y = Str.ofString "most"
      · rw [q2]; rfl
      by_cases q3 : y = Str.ofString "reply"
      · rw [q3]; rfl
      rw [if_neg q0, if_neg q1, if_neg q2, if_neg q3]
      simp only [List.reverse_cons, List.reverse_nil, List.nil_append, List.cons_append, List.lookup_cons, beqF q1, beqF q2, beqF q3]
  · rintro n s' ⟨g', h', tk', over', ti, cc', hd', vb', fr', ext, av', as', k', ka', ps', t1', t2', tt, tv', u, tq, oq, tc, oc, rfl, Tg, F4, N4, B4, D4, X4, T4, Hd4, fn4, tg4, odd4, as4, hfr4, hsz4, htold, hti, hn2, hn0, hov⟩ QN hQN
    clear F3 N3
    clear cx cd cf ca ct
    have n0 := N4 _ mm0
    have n1 := N4 _ mm1
    have n2 := N4 _ mm2
    have n3 := N4 _ mm3
    have n4 := N4 _ mm4
    have n5 := N4 _ mm5
    have n6 := N4 _ mm6
    have n7 := N4 _ mm7
    have qx : Unit → @Ne Nat tq H.x := fun _ => ne_objc n6.1 n0.1 (by first | exact tupI as4.1 | exact tupD as4.1 | exact tupL as4.1 | exact tupT as4.1 | (rw [as4.1]; simp))
    have cx : Unit → @Ne Nat tc H.x := fun _ => odd4.ne n7.1 n0.1 rfl (by simp)
    have qd : @Ne Nat tq H.dx := ne_objc n6.1 n1.1 (by first | exact tupI as4.1 | exact tupD as4.1 | exact tupL as4.1 | exact tupT as4.1 | (rw [as4.1]; simp))
    have cd : @Ne Nat tc H.dx := odd4.ne n7.1 n1.1 rfl (by simp)
    have qf : Unit → @Ne Nat tq H.fl := fun _ => ne_objc n6.1 n2.1 (by first | exact tupI as4.1 | exact tupD as4.1 | exact tupL as4.1 | exact tupT as4.1 | (rw [as4.1]; simp))
    have cf : Unit → @Ne Nat tc H.fl := fun _ => odd4.ne n7.1 n2.1 rfl (by simp)
    have qa : Unit → @Ne Nat tq ak := fun _ => ne_objc n6.1 n3.1 (by first | exact tupI as4.1 | exact tupD as4.1 | exact tupL as4.1 | exact tupT as4.1 | (rw [as4.1]; simp))
    have ca : Unit → @Ne Nat tc ak := fun _ => odd4.ne n7.1 n3.1 rfl (by simp)
    have qt : Unit → @Ne Nat tq 134 := fun _ => ne_objc n6.1 n4.1 (by first | exact tupI as4.1 | exact tupD as4.1 | exact tupL as4.1 | exact tupT as4.1 | (rw [as4.1]; simp))
    have ct : Unit → @Ne Nat tc 134 := fun _ => odd4.ne n7.1 n4.1 tg4.code (by simp)
    have hlen : av'.length = as'.length := (One.at as4 n6.1).length
    (repeat' ((fail_if_success (with_reducible show wpAny _ _ (pyIter _) _ _ _)); (fail_if_success (with_reducible show wpAny _ _ (call (Value.ref _) _) _ _ _)); (fail_if_success (with_reducible show wpAny _ _ (exec (Stmt.Raise _ _ _) _) _ _ _)); (fail_if_success (with_reducible show wpAny _ _ (exec (Stmt.While _ _ _ _) _) _ _ _)); (fail_if_success (with_reducible show wpAny _ _ (exec (Stmt.Try _ _ _ _ _) _) _ _ _)); (fail_if_success (with_reducible show wpAny _ _ (call (Value.builtin "min") _ _) _ _ _)); (fail_if_success (with_reducible show wpAny _ _ (call (Value.builtin "max") _ _) _ _ _)); (fail_if_success (with_reducible show wpAny _ _ (eval (Expr.Lambda _ _ _ _) _) _ _ _)); (fail_if_success (with_reducible show InvPostN _ _ _ _ _ _ _ _ _)); first | walk1 | (dsimp only; walk1)))
    rename Fr _ _ _ _ => F5
    rename News _ _ _ _ => N5
    refine wpAny_Try_except ?_
    (repeat' ((fail_if_success (with_reducible show wpAny _ _ (pyIter _) _ _ _)); (fail_if_success (with_reducible show wpAny _ _ (call (Value.ref _) _) _ _ _)); (fail_if_success (with_reducible show wpAny _ _ (exec (Stmt.Raise _ _ _) _) _ _ _)); (fail_if_success (with_reducible show wpAny _ _ (exec (Stmt.While _ _ _ _) _) _ _ _)); (fail_if_success (with_reducible show wpAny _ _ (exec (Stmt.Try _ _ _ _ _) _) _ _ _)); (fail_if_success (with_reducible show wpAny _ _ (call (Value.builtin "min") _ _) _ _ _)); (fail_if_success (with_reducible show wpAny _ _ (call (Value.builtin "max") _ _) _ _ _)); (fail_if_success (with_reducible show wpAny _ _ (eval (Expr.Lambda _ _ _ _) _) _ _ _)); (fail_if_success (with_reducible show InvPostN _ _ _ _ _ _ _ _ _)); first | walk1 | (dsimp only; walk1)))
    refine callWith_F (FnAt.up fn4 F5.keep) ?_
    (repeat' ((fail_if_success (with_reducible show wpAny _ _ (pyIter _) _ _ _)); (fail_if_success (with_reducible show wpAny _ _ (call (Value.ref _) _) _ _ _)); (fail_if_success (with_reducible show wpAny _ _ (exec (Stmt.Raise _ _ _) _) _ _ _)); (fail_if_success (with_reducible show wpAny _ _ (exec (Stmt.While _ _ _ _) _) _ _ _)); (fail_if_success (with_reducible show wpAny _ _ (exec (Stmt.Try _ _ _ _ _) _) _ _ _)); (fail_if_success (with_reducible show wpAny _ _ (call (Value.builtin "min") _ _) _ _ _)); (fail_if_success (with_reducible show wpAny _ _ (call (Value.builtin "max") _ _) _ _ _)); (fail_if_success (with_reducible show wpAny _ _ (eval (Expr.Lambda _ _ _ _) _) _ _ _)); (fail_if_success (with_reducible show InvPostN _ _ _ _ _ _ _ _ _)); first | walk1 | (dsimp only; walk1)))
    · exact FnAt.up fn4 F5.keep
    have m0 := N5 _ mm0
    have m1 := N5 _ mm1
    have m2 := N5 _ mm2
    have m3 := N5 _ mm3
    have m4 := N5 _ mm4
    have m5 := N5 _ mm5
    have m6 := N5 _ mm6
    have m7 := N5 _ mm7
    have lx : ∀ env : Env, env.frame = some L → Loose base (env :: l) _ H.x := fun _ he => loose_of B4 he N5 mm0 rfl
    have ldx : ∀ env : Env, env.frame = some L → Loose base (env :: l) _ H.dx := fun _ he => loose_of B4 he N5 mm1 rfl
    have lfl : ∀ env : Env, env.frame = some L → Loose base (env :: l) _ H.fl := fun _ he => loose_of B4 he N5 mm2 rfl
    have lak : ∀ env : Env, env.frame = some L → Loose base (env :: l) _ ak := fun _ he => loose_of B4 he N5 mm3 rfl
    have lt : ∀ env : Env, env.frame = some L → Loose base (env :: l) _ 134 := fun _ he => loose_of B4 he N5 mm4 tg4.code
    have K5 := (G.ke Tg F5).tight (M := [H.dx, H.fl, ak, 134]) (tightC (.inr (tight_old HA.hx m0.1)) (tightC (.inl mm0) (tightC (.inl mm1) (tightC (.inl mm2) (tightC (.inl mm3) (tightC (.inr (tight_old hog m5.1)) tightN))))))
    have tb5 : TabAt 134 lamPos lamQual _ := tg4.at F5.keep m4.1 m7.1
    try dsimp only
    refine wpAny_call (hrep (pre_call P B4 D4 F5 rfl rfl) K5 ⟨m0.1, m1.1, m2.1⟩ m3.1 tb5 (lx _ rfl) (ldx _ rfl) (lfl _ rfl) (lak _ rfl) (lt _ rfl) ?hd hHn ?sz ?az ?ok ?er)
    case hd => exact Hd4.keeps fun b o e _ _ => F5.keep b o e
    case sz => exact hA1 hsz4 hn2 hn0
    case az => rw [List.size_toArray, hlen]; exact hA0 hn2 hn0
    case ok =>
      intro h7 fr7 k7 ka7 tu tk7 tr7 t7 z kp7 hfl7 hfr7 hak7 ntu htu hgo7
      refine tupEl htu fun otu htu1 htu2 ntu' htu3 => ?_
      have F7 := after_call0 F5 kp7 (forall_cons ⟨m2.2.2, m2.2.1⟩ (forall_cons ⟨m3.2.2, m3.2.1⟩ (forall_nil)))
      have N7 := News.one (old_of0 N5 kp7 mm0 (nm_cons (xf ()) (nm_cons (xa ()) nm_nil))) (News.one (old_of0 N5 kp7 mm1 (nm_cons df (nm_cons da nm_nil))) (News.one (turned_of0 N5 mm2 hfl7) (News.one (turned_of0 N5 mm3 hak7) (News.one (old_of0 N5 kp7 mm4 (nm_cons (ft ()).symm (nm_cons (at' ()).symm nm_nil))) (News.one (old_of0 N5 kp7 mm5 (nm_cons (gf ()) (nm_cons (ga ()) nm_nil))) (News.one (old_of0 N5 kp7 mm6 (nm_cons (qf ()) (nm_cons (qa ()) nm_nil))) (News.one (new_of0 F5 ntu htu1) (News.one (old_of0 N5 kp7 mm7 (nm_cons (cf ()) (nm_cons (ca ()) nm_nil))) News.nil))))))))
      clear N5 lx ldx lfl lak lt tb5 K5 n0 n1 n2 n3 n4 n5 n6 n7
      try dsimp only
      (repeat' ((fail_if_success (with_reducible show wpAny _ _ (pyIter _) _ _ _)); (fail_if_success (with_reducible show wpAny _ _ (call (Value.ref _) _) _ _ _)); (fail_if_success (with_reducible show wpAny _ _ (exec (Stmt.Raise _ _ _) _) _ _ _)); (fail_if_success (with_reducible show wpAny _ _ (exec (Stmt.While _ _ _ _) _) _ _ _)); (fail_if_success (with_reducible show wpAny _ _ (exec (Stmt.Try _ _ _ _ _) _) _ _ _)); (fail_if_success (with_reducible show wpAny _ _ (call (Value.builtin "min") _ _) _ _ _)); (fail_if_success (with_reducible show wpAny _ _ (call (Value.builtin "max") _ _) _ _ _)); (fail_if_success (with_reducible show wpAny _ _ (eval (Expr.Lambda _ _ _ _) _) _ _ _)); (fail_if_success (with_reducible show InvPostN _ _ _ _ _ _ _ _ _)); first | walk1 | (dsimp only; walk1)))
      refine lua_spec (pre_call P B4 D4 F7 rfl rfl) (fun h8 e t d tr q1 q2 q3 tk8 kp8 e1 e2 n1 n2 => ?_)
      have F8 := after_call0 F7 kp8 (fun _ hm => nomatch hm)
      have N8 := News.kept0 N7 kp8 (fun _ _ => nm_nil)
      try dsimp only
      (repeat' ((fail_if_success (with_reducible show wpAny _ _ (pyIter _) _ _ _)); (fail_if_success (with_reducible show wpAny _ _ (call (Value.ref _) _) _ _ _)); (fail_if_success (with_reducible show wpAny _ _ (exec (Stmt.Raise _ _ _) _) _ _ _)); (fail_if_success (with_reducible show wpAny _ _ (exec (Stmt.While _ _ _ _) _) _ _ _)); (fail_if_success (with_reducible show wpAny _ _ (exec (Stmt.Try _ _ _ _ _) _) _ _ _)); (fail_if_success (with_reducible show wpAny _ _ (call (Value.builtin "min") _ _) _ _ _)); (fail_if_success (with_reducible show wpAny _ _ (call (Value.builtin "max") _ _) _ _ _)); (fail_if_success (with_reducible show wpAny _ _ (eval (Expr.Lambda _ _ _ _) _) _ _ _)); (fail_if_success (with_reducible show InvPostN _ _ _ _ _ _ _ _ _)); first | walk1 | (dsimp only; walk1)))
      refine hQN _ _ ?_
      (show R _ _)
      have ex7 := exC (nGet N7 mm0) (exC (nGet N7 mm1) (exC (nGet N7 mm2) (exC (nGet N7 mm3) (exC (nGet N7 mm4) (exC (nGet N7 mm5) exN)))))
      have KK := (G.ke Tg F8).tight (M := [H.dx, H.fl, ak, 134]) (tightC (.inr (tight_old HA.hx (nGet N8 mm0))) (tightC (.inl mm0) (tightC (.inl mm1) (tightC (.inl mm2) (tightC (.inl mm3) (tightC (.inr (tight_old hog (nGet N8 mm5))) tightN))))))
      have hszA : av'.toArray.size = as'.length := by rw [List.size_toArray, hlen]
      have hto : told bound spare plan 2 [] vb fr.size over = (as' ++ [(vb', (fr'.size : Int))], some ((as'.length + 1 : Nat) : Int)) := by
        obtain ⟨m, rfl⟩ : ∃ m, n = m + 1 := pred_of hn0
        rw [hszA] at hgo7
        rw [htold, told, hgo7]
      refine h h8 e d _ _ (av' ++ [.ref tu]) (some ((as'.length + 1 : Nat) : Int)) fr7 ext _ _ _ _ _ _ ka7 _ KK ⟨⟨_, _, e1, rfl⟩, tr, q1, q2, q3, e2⟩ ⟨tr7, by rw [hszA]⟩ ⟨(nGet N8 mm0), (nGet N8 mm1), (nGet N8 mm2)⟩ ⟨hfr7.trans hfr4, by have hq7 := congrArg List.length hfr7; simp only [Array.length_toList] at hq7; omega⟩ ?_ (AskedAre.snoc (One.at as4 (nGet N8 mm6)) ⟨otu, (nGet N8 mm7), htu2, ntu', htu3⟩) (tg4.at F8.keep (nGet N8 mm4) (nGet N8 mm8)) hto (G.none_upT Tg F7 ex7 n1) (G.none_upT Tg F7 ex7 n2)
      have := (nGet N8 mm3)
      rwa [List.push_toArray] at this
    case er =>
      intro h7 fr7 ext7 k7 ka7 tu e T d bs tv o tk7 tr q1 q2 q3 t7 kp7 HA7 hfr7 hak7 ntu htu tb7 fl7 hd7 hE hgo7 ne nd nT
      refine tupEl htu fun otu htu1 htu2 ntu' htu3 => ?_
      refine after_callC P B4 D4 F5 rfl kp7 (forall_cons ⟨m1.2.2, m1.2.1⟩ (forall_cons ⟨m2.2.2, m2.2.1⟩ (forall_cons ⟨m3.2.2, m3.2.1⟩ (forall_cons ⟨m4.2.2, m4.2.1⟩ (forall_nil))))) fun g2 Tg2 F7 B7 D7 X7 T7 => ?_
      have hgN7 := old_of B4 rfl N5 kp7 Tg2 mm5 (nm_cons gd (nm_cons (gf ()) (nm_cons (ga ()) (nm_cons (gt ()) nm_nil))))
      refine TabAt.groundC tb7 F7 hgN7 fun ps7 tc7 oc7 hps7 tg7 htc7 hoc7 => ?_
      have odd7 : Odd oc7 := by
        rcases hoc7 with q | ⟨_, q⟩
        · exact .inl q
        · rw [q]; exact .inr hcg
      refine flownEl fl7 fun vs7 sl7 oT7 ts7 he7 hv7 => ?_
      have N7 := News.one (old_of B4 rfl N5 kp7 Tg2 mm0 (nm_cons xd (nm_cons (xf ()) (nm_cons (xa ()) (nm_cons (xt ()) nm_nil))))) (News.one (turned_of N5 mm1 HA7.hdx Tg2) (News.one (turned_of N5 mm2 HA7.hfl Tg2) (News.one (turned_of N5 mm3 hak7 Tg2) (News.one (turned_of N5 mm4 hps7 Tg2) (News.one hgN7 (News.one (new_of F5 ntu htu1 Tg2) (News.one htc7 (News.one (new_of F5 ne he7 Tg2) (News.one (new_of F5 nd hd7 Tg2) (News.one (old_of B4 rfl N5 kp7 Tg2 mm6 (nm_cons (qd) (nm_cons (qf ()) (nm_cons (qa ()) (nm_cons (qt ()) nm_nil))))) News.nil))))))))))
      have ex5 := exC m0.1 (exC m1.1 (exC m2.1 (exC m3.1 (exC m4.1 (exC m5.1 exN)))))
      have se := G.none_upT Tg F5 ex5 ne
      have sd := G.none_upT Tg F5 ex5 nd
      have sT := G.none_upT Tg F5 ex5 nT
      have tTg := Tg.trans Tg2
      have eg2 : ∀ b ∈ [e, T], g2.get? b = none ∧ b ≠ L := fun b hb => by
        have : ∀ b, _ → g2.get? b = none ∧ b ≠ L := fun b (nb : Heap.get? _ b = none) => ⟨Tg2.none_ _ (kts_none F5.keep nb), fun q => by
          obtain ⟨oL, _, _, hoL, _⟩ := F5.ns
          rw [← q] at hoL
          rw [nb] at hoL; cases hoL⟩
        simp only [List.mem_cons, List.not_mem_nil, or_false] at hb
        rcases hb with q | q <;> rw [q]
        · exact this _ ne
        · exact this _ nT
      have Hd7 : Hd A g2 := Hd4.keeps fun b o eo hv _ => Tg2.other _ _ eo fun hm => by
        obtain ⟨o', es, n, e', hd'⟩ := D4 b hm
        obtain ⟨vs, hv⟩ := hv
        rw [eo] at e'; cases e'; rw [hv] at hd'; cases hd'
      have fn7 : FnAt f g2 := by
        obtain ⟨a1, a2, a3, a4, ef⟩ := fn4
        exact ⟨a1, a2, a3, a4, Tg2.other _ _ ef bff⟩
      obtain ⟨eu, eT⟩ := fl7.ne_other htu1 (.inr fun _ q => by rw [htu3] at q; cases q)
      obtain ⟨ed, dT⟩ := fl7.ne_dict hd7 (fun _ q => by cases q)
      obtain ⟨ec, cT⟩ := fl7.ne_other htc7.1 (by
        rcases hoc7 with q | ⟨_, q⟩
        · exact .inl q
        · exact .inr fun _ q' => by rw [q, hdg] at q'; cases q')
      have xe := ne_new m0.1 ne
      have qe := ne_new m6.1 ne
      have qT := ne_new m6.1 nT
      have dxe := ne_new m1.1 ne
      have fle := ne_new m2.1 ne
      have ake := ne_new m3.1 ne
      have te := ne_new m4.1 ne
      have ge := ne_new m5.1 ne
      have xT := ne_new m0.1 nT
      have dxT := ne_new m1.1 nT
      have flT := ne_new m2.1 nT
      have akT := ne_new m3.1 nT
      have tT := ne_new m4.1 nT
      have gT := ne_new m5.1 nT
      clear F5 N5 lx ldx lfl lak lt tb5 K5 n0 n1 n2 n3 n4 n5 n6 n7 m0 m1 m2 m3 m4 m5 m6 m7 B4 D4 X4 T4
      refine except_lua (pre_call P B7 D7 F7 rfl rfl).B P.X (P.fresh se).1 (P.fresh sT).1 rfl fl7 (fun h8 k8 => ?_) (fun h8 T8 k8 hT8 fl8 => ?_)
      · refine after_callC P B7 D7 F7 rfl k8 eg2 fun g3 Tg3 F8 B8 D8 X8 T8 => ?_
        clear F7 X7 T7 B7 D7
        (repeat' ((fail_if_success (with_reducible show wpAny _ _ (pyIter _) _ _ _)); (fail_if_success (with_reducible show wpAny _ _ (call (Value.ref _) _) _ _ _)); (fail_if_success (with_reducible show wpAny _ _ (exec (Stmt.Raise _ _ _) _) _ _ _)); (fail_if_success (with_reducible show wpAny _ _ (exec (Stmt.While _ _ _ _) _) _ _ _)); (fail_if_success (with_reducible show wpAny _ _ (exec (Stmt.Try _ _ _ _ _) _) _ _ _)); (fail_if_success (with_reducible show wpAny _ _ (call (Value.builtin "min") _ _) _ _ _)); (fail_if_success (with_reducible show wpAny _ _ (call (Value.builtin "max") _ _) _ _ _)); (fail_if_success (with_reducible show wpAny _ _ (eval (Expr.Lambda _ _ _ _) _) _ _ _)); (fail_if_success (with_reducible show InvPostN _ _ _ _ _ _ _ _ _)); first | walk1 | (dsimp only; walk1)))
      · refine after_callC P B7 D7 F7 rfl k8 eg2 fun g3 Tg3 F8 B8 D8 X8 T8' => ?_
        refine flownEl fl8 fun vs8 sl8 oT8 ts8 he8 hv8 => ?_
        have N8 := (News.one (old_of B7 rfl N7 k8 Tg3 mm0 (nm_cons xe (nm_cons xT nm_nil))) (News.one (old_of B7 rfl N7 k8 Tg3 mm1 (nm_cons dxe (nm_cons dxT nm_nil))) (News.one (old_of B7 rfl N7 k8 Tg3 mm2 (nm_cons fle (nm_cons flT nm_nil))) (News.one (old_of B7 rfl N7 k8 Tg3 mm3 (nm_cons ake (nm_cons akT nm_nil))) (News.one (old_of B7 rfl N7 k8 Tg3 mm4 (nm_cons te (nm_cons tT nm_nil))) (News.one (old_of B7 rfl N7 k8 Tg3 mm5 (nm_cons ge (nm_cons gT nm_nil))) (News.one (old_of B7 rfl N7 k8 Tg3 mm6 (nm_cons eu (nm_cons eT nm_nil))) (News.one (old_of B7 rfl N7 k8 Tg3 mm7 (nm_cons ec (nm_cons cT nm_nil))) (News.one (turned_of N7 mm8 he8 Tg3) (News.one (old_of B7 rfl N7 k8 Tg3 mm9 (nm_cons ed (nm_cons dT nm_nil))) (News.one (old_of B7 rfl N7 k8 Tg3 mm10 (nm_cons qe (nm_cons qT nm_nil))) News.nil)))))))))))
        clear F7 N7 B7 X7 T7 eu eT ed dT ec cT xe dxe fle ake te ge xT dxT flT akT tT gT qe qT
        have Hd8 : Hd A g3 := Hd7.keeps fun b o eo hv _ => Tg3.other _ _ eo fun hm => by
          obtain ⟨o', es, n, e', hd'⟩ := D7 b hm
          obtain ⟨vs, hv⟩ := hv
          rw [eo] at e'; cases e'; rw [hv] at hd'; cases hd'
        have fn8 : FnAt f g3 := by
          obtain ⟨a1, a2, a3, a4, ef⟩ := fn7
          exact ⟨a1, a2, a3, a4, Tg3.other _ _ ef bff⟩
        have tg8 := tg7.turn Tg3 D7
        have hszA : av'.toArray.size = as'.length := by rw [List.size_toArray, hlen]
        rw [hszA] at hgo7
        clear Hd7 fn7 tg7 D7
        cases over'
        · (repeat' ((fail_if_success (with_reducible show wpAny _ _ (pyIter _) _ _ _)); (fail_if_success (with_reducible show wpAny _ _ (call (Value.ref _) _) _ _ _)); (fail_if_success (with_reducible show wpAny _ _ (exec (Stmt.Raise _ _ _) _) _ _ _)); (fail_if_success (with_reducible show wpAny _ _ (exec (Stmt.While _ _ _ _) _) _ _ _)); (fail_if_success (with_reducible show wpAny _ _ (exec (Stmt.Try _ _ _ _ _) _) _ _ _)); (fail_if_success (with_reducible show wpAny _ _ (call (Value.builtin "min") _ _) _ _ _)); (fail_if_success (with_reducible show wpAny _ _ (call (Value.builtin "max") _ _) _ _ _)); (fail_if_success (with_reducible show wpAny _ _ (eval (Expr.Lambda _ _ _ _) _) _ _ _)); (fail_if_success (with_reducible show InvPostN _ _ _ _ _ _ _ _ _)); first | walk1 | (dsimp only; walk1)))
          rename Fr _ _ _ _ => F9
          rename News _ _ _ _ => N9
          refine max_two_X (hdx_of (A := A) rfl (nGet N9 mm8) hv8.2.1 Hd8 F9.keep (nOff N9 mm8)) F9 N9 (fun h10 tk10 t10 F10 N10 _ => ?_)
          clear F9 N9
          try dsimp only
          (repeat' ((fail_if_success (with_reducible show wpAny _ _ (pyIter _) _ _ _)); (fail_if_success (with_reducible show wpAny _ _ (call (Value.ref _) _) _ _ _)); (fail_if_success (with_reducible show wpAny _ _ (exec (Stmt.Raise _ _ _) _) _ _ _)); (fail_if_success (with_reducible show wpAny _ _ (exec (Stmt.While _ _ _ _) _) _ _ _)); (fail_if_success (with_reducible show wpAny _ _ (exec (Stmt.Try _ _ _ _ _) _) _ _ _)); (fail_if_success (with_reducible show wpAny _ _ (call (Value.builtin "min") _ _) _ _ _)); (fail_if_success (with_reducible show wpAny _ _ (call (Value.builtin "max") _ _) _ _ _)); (fail_if_success (with_reducible show wpAny _ _ (eval (Expr.Lambda _ _ _ _) _) _ _ _)); (fail_if_success (with_reducible show InvPostN _ _ _ _ _ _ _ _ _)); first | walk1 | (dsimp only; walk1)))
          rename Fr _ _ _ _ => F11
          rename News _ _ _ _ => N11
          refine unpackItems_X (hdx_of (A := A) rfl (nGet N11 mm9) hv8.2.1 Hd8 F11.keep (nOff N11 mm9)) F11 N11 (News.isTup N11 mm0) (by rfl) (fun h12 F12 N12 _ => ?_)
          clear F11 N11
          try dsimp only
          (repeat' ((fail_if_success (with_reducible show Exists _)); (fail_if_success (with_reducible show wpAny _ _ (pyIter _) _ _ _)); (fail_if_success (with_reducible show wpAny _ _ (call (Value.ref _) _) _ _ _)); (fail_if_success (with_reducible show wpAny _ _ (exec (Stmt.Raise _ _ _) _) _ _ _)); (fail_if_success (with_reducible show wpAny _ _ (exec (Stmt.While _ _ _ _) _) _ _ _)); (fail_if_success (with_reducible show wpAny _ _ (exec (Stmt.Try _ _ _ _ _) _) _ _ _)); (fail_if_success (with_reducible show wpAny _ _ (call (Value.builtin "min") _ _) _ _ _)); (fail_if_success (with_reducible show wpAny _ _ (call (Value.builtin "max") _ _) _ _ _)); (fail_if_success (with_reducible show wpAny _ _ (eval (Expr.Lambda _ _ _ _) _) _ _ _)); (fail_if_success (with_reducible show InvPostN _ _ _ _ _ _ _ _ _)); first | walk1 | (dsimp only; walk1)))
          rename Fr _ _ _ _ => F13
          rename News _ _ _ _ => N13
          rename Option Value => u9
          have hn1 : n ≠ 1 := fun q => by cases hov q
          obtain rfl : as' = [] := List.length_eq_zero_iff.mp (len0 hn2 hn0 hn1)
          obtain rfl : av' = [] := List.length_eq_zero_iff.mp hlen
          obtain rfl : n = 2 := by simpa using hn2
          obtain rfl : ti = 0 := by simpa using hti
          have hbs := (ends_f hE).1
          rw [(ends_f hE).2] at hgo7
          have hz := gone_le hgo7
          have hpl := (planAt_le (plan := plan) (fun x hx => ⟨(hp.2 x hx).1, Int.le_trans (hp.2 x hx).2 (by decide)⟩) ([] : List (Array UInt8 × Int)).length).1
          have hpl2 : planAt plan ([] : List (Array UInt8 × Int)).length ≤ 100 := (planAt_leM (by decide) hp.2 _).2
          refine hQN _ _ ?_
          show ∃ m, _ ∧ _
          refine ⟨1, by decide, g3, _, _, true, 1, 0, hd' + 1, bs, fr7, ext ++ ext7, [.ref tu], [(vb', (fr'.size : Int))], k7, ka7, ps7, _, _, t10, tv, u9, tu, otu, tc7, oc7, rfl, tTg.trans Tg3, ?_, (News.one (N13 (_, _) mm1) (News.one (N13 (_, _) mm2) (News.one (N13 (_, _) mm3) (News.one (N13 (_, _) mm4) (News.one (N13 (_, _) mm5) (News.one (N13 (_, _) mm6) (News.one (N13 (_, _) mm7) (News.one (N13 (_, _) mm8) News.nil)))))))), B8, D8, X8, T8', Hd8, fn8, tg8, odd7, ⟨htu2, .inr ⟨vb', _, tv', t7, ntu', rfl, rfl, htu3⟩⟩, ?_, ?_, ?_, rfl, rfl, by decide, fun _ => rfl⟩
          · refine cast (congrArg (Fr g3 L _) ?_) F13
            funext y
            by_cases q0 : y = Str.ofString "other"
            · rw [if_pos q0, if_pos q0]
            by_cases q1 : y = Str.ofString "value"
            · rw [q1]; rfl
            by_cases q2 : y = Str.ofString "tries"
            · rw [q2]; rfl
            rw [if_neg q0, if_neg q1, if_neg q2, if_neg q0, if_neg q2, if_neg q0, if_neg q0]
            simp only [List.lookup_cons, beqF q1, beqF q2]
          · rw [hfr7, hfr4, List.append_assoc]
          · simp only [List.length_singleton, List.length_nil] at hsz4 ⊢
            omega
          · rw [htold, told, hgo7, hbs]
            rfl
        · (repeat' ((fail_if_success (with_reducible show wpAny _ _ (pyIter _) _ _ _)); (fail_if_success (with_reducible show wpAny _ _ (call (Value.ref _) _) _ _ _)); (fail_if_success (with_reducible show wpAny _ _ (exec (Stmt.Raise _ _ _) _) _ _ _)); (fail_if_success (with_reducible show wpAny _ _ (exec (Stmt.While _ _ _ _) _) _ _ _)); (fail_if_success (with_reducible show wpAny _ _ (exec (Stmt.Try _ _ _ _ _) _) _ _ _)); (fail_if_success (with_reducible show wpAny _ _ (call (Value.builtin "min") _ _) _ _ _)); (fail_if_success (with_reducible show wpAny _ _ (call (Value.builtin "max") _ _) _ _ _)); (fail_if_success (with_reducible show wpAny _ _ (eval (Expr.Lambda _ _ _ _) _) _ _ _)); (fail_if_success (with_reducible show InvPostN _ _ _ _ _ _ _ _ _)); first | walk1 | (dsimp only; walk1)))
          rename Fr _ _ _ _ => F9
          rename News _ _ _ _ => N9
          refine hQN _ _ ?_
          (show R _ _)
          have hbs := (ends_t hE).1
          rw [(ends_t hE).2] at hgo7
          have hto : told bound spare plan 2 [] vb fr.size over = (as' ++ [(vb', (fr'.size : Int))], none) := by
            obtain ⟨m, rfl⟩ : ∃ m, n = m + 1 := pred_of hn0
            rw [htold, told, hgo7]
          have KK := (G.ke (tTg.trans Tg3) F9).tight (M := [H.dx, H.fl, ak, 134]) (tightC (.inr (tight_old HA.hx (nGet N9 mm0))) (tightC (.inl mm0) (tightC (.inl mm1) (tightC (.inl mm2) (tightC (.inl mm3) (tightC (.inr (tight_old hog (nGet N9 mm5))) tightN))))))
          refine h _ e d _ _ (av' ++ [.ref tu]) none fr7 (ext ++ ext7) _ _ _ _ _ _ ka7 _ KK ⟨⟨_, _, (nGet N9 mm8), isCodeO_ref rfl hv8.1 (fun _ _ q => nomatch q)⟩, tr, q1, q2, q3, (nGet N9 mm9)⟩ ⟨tv, by rw [hbs]⟩ ⟨(nGet N9 mm0), (nGet N9 mm1), (nGet N9 mm2)⟩ ?_ ?_ ?_ (tg8.at F9.keep (nGet N9 mm4) (nGet N9 mm7)) hto se sd
          · refine ⟨by rw [hfr7, hfr4, List.append_assoc], ?_⟩
            have hz := gone_le hgo7
            have hpl1 := (planAt_leM (plan := plan) (M := 100) (by decide) hp.2 as'.length).1
            have hpl2 := (planAt_leM (plan := plan) (M := 100) (by decide) hp.2 as'.length).2
            omega
          · have := (nGet N9 mm3)
            rwa [List.push_toArray] at this
          · exact AskedAre.snoc (One.at as4 (nGet N9 mm10)) ⟨otu, (nGet N9 mm6), htu2, ntu', htu3⟩
end


end
theorem off_G1 : True := by
  w_top off
  exact True.intro
section

theorem fs_or {env : Env} {l : List Env} {L : Addr} {h : Heap} (hf : env.frame = some L) (hL : h.get? L = none) : ∀ b ∈ fsOf (env :: l), b ∈ fsOf l ∨ h.get? b = none := fun b hb => by
  obtain ⟨e', he, hfe⟩ := List.mem_filterMap.mp hb
  rcases List.mem_cons.mp he with rfl | he
  · rw [hf] at hfe; cases hfe; exact .inr hL
  · exact .inl (List.mem_filterMap.mpr ⟨e', he, hfe⟩)
theorem nfs_cons {env : Env} {l : List Env} {L b : Addr} {h : Heap} {o : Obj} (hf : env.frame = some L) (hL : h.get? L = none) (e : h.get? b = some o) (n : b ∉ fsOf l) : b ∉ fsOf (env :: l) := fun hm => by
  rcases fs_or hf hL b hm with q | q
  · exact n q
  · rw [e] at q; cases q
theorem told_len {bound spare : Int} {plan : List Int} {k : Nat} {as : List (Array UInt8 × Int)} {v : Array UInt8} {d : Int} {b : Bool} {as' : List (Array UInt8 × Int)} {n : Option Int} (h : told bound spare plan k as v d b = (as', n)) : as'.length ≤ as.length + k := by
  induction k generalizing as v d b with
  | zero => rw [told] at h; cases h; omega
  | succ k ih =>
    rw [told] at h
    split at h
    · cases h; simp
    · cases h; simp
    · have := ih h
      simp at this
      omega
theorem AskedAre.ground {g h : Heap} {L : Addr} {m : Str → Option Value} {av : List Value} {as : List (Array UInt8 × Int)} (x : AskedAre h av as) (F : Fr g L h m) (hl : as.length ≤ 2) {dq : Addr} {od : Obj} (hdq : h.get? dq = some od ∧ dq ≠ L ∧ g.get? dq = none) :
    ∃ q1 o1 q2 o2, (h.get? q1 = some o1 ∧ q1 ≠ L ∧ g.get? q1 = none) ∧ (h.get? q2 = some o2 ∧ q2 ≠ L ∧ g.get? q2 = none) ∧ (o1.cls = .type "tuple" ∨ q1 = dq) ∧ (o2.cls = .type "tuple" ∨ q2 = dq) ∧
      ∀ h', (∀ b o, g.get? b = some o → h'.get? b = some o) → h'.get? q1 = some o1 → h'.get? q2 = some o2 → AskedAre h' av as := by
  have one : ∀ {tu items}, IsTup h tu items → ∃ q o, (h.get? q = some o ∧ q ≠ L ∧ g.get? q = none) ∧ (o.cls = .type "tuple" ∨ q = dq) ∧ ∀ h' : Heap, (∀ b o, g.get? b = some o → h'.get? b = some o) → h'.get? q = some o → IsTup h' tu items := fun {tu items} z => by
    obtain ⟨o, e, c, n, hd⟩ := z
    cases hg : g.get? tu with
    | some o' =>
      have := F.keep _ _ hg
      rw [e] at this; cases this
      exact ⟨dq, od, hdq, .inr rfl, fun h' k _ => ⟨o, k _ _ hg, c, n, hd⟩⟩
    | none =>
      refine ⟨tu, o, ⟨e, fun ql => ?_, hg⟩, .inl c, fun h' _ e' => ⟨o, e', c, n, hd⟩⟩
      obtain ⟨oL, es, ep, hoL, hLd, _⟩ := F.ns
      rw [ql, hoL] at e; cases e; rw [hd] at hLd; cases hLd
  cases x with
  | nil => exact ⟨dq, od, dq, od, hdq, hdq, .inr rfl, .inr rfl, fun _ _ _ _ => .nil⟩
  | snoc r x =>
    obtain ⟨q, o, a1, a2, a3⟩ := one x
    cases r with
    | nil => exact ⟨q, o, dq, od, a1, hdq, a2, .inr rfl, fun h' k e _ => .snoc (vs := []) (as := []) .nil (a3 h' k e)⟩
    | snoc r2 x2 =>
      obtain ⟨q', o', b1, b2, b3⟩ := one x2
      cases r2 with
      | nil => exact ⟨q, o, q', o', a1, b1, a2, b2, fun h' k e e' => .snoc (vs := [_]) (as := [_]) (.snoc (vs := []) (as := []) .nil (b3 h' k e')) (a3 h' k e)⟩
      | snoc r3 x3 => simp at hl
theorem AskedAre.groundC {g h : Heap} {L : Addr} {m : Str → Option Value} {av : List Value} {as : List (Array UInt8 × Int)} (x : AskedAre h av as) (F : Fr g L h m) (hl : as.length ≤ 2) {dq : Addr} {od : Obj} (hdq : h.get? dq = some od ∧ dq ≠ L ∧ g.get? dq = none) {C : Prop}
    (c : ∀ q1 o1 q2 o2, (h.get? q1 = some o1 ∧ q1 ≠ L ∧ g.get? q1 = none) → (h.get? q2 = some o2 ∧ q2 ≠ L ∧ g.get? q2 = none) → (o1.cls = .type "tuple" ∨ q1 = dq) → (o2.cls = .type "tuple" ∨ q2 = dq) →
      (∀ h', (∀ b o, g.get? b = some o → h'.get? b = some o) → h'.get? q1 = some o1 → h'.get? q2 = some o2 → AskedAre h' av as) → C) : C := by
  obtain ⟨a, b, d, e, f, i, j, k, l⟩ := x.ground F hl hdq
  exact c a b d e f i j k l
inductive Res where
  | nothing
  | err (bs : Array UInt8) (ih : Bool)
  | num (n : Int)
def askOf (bound spare : Int) (plan : Option (List Int)) (z : Int) (b : Bool) (v : Array UInt8) : List (Array UInt8 × Int) × Res :=
  match plan with
  | none => ([], .err v false)
  | some p => match told bound spare p 2 [] v z b with
    | (as, some n) => (as, .num n)
    | (as, none) => (as, .err eieB true)
def dueOf (bound spare : Int) (many : Nat) (raises : Bool) (plan : Option (List Int)) (d : Int) (over : Bool) : List (Array UInt8 × Int) × Res :=
  match gone bound spare many d over with
  | (z, b, .none) => if raises then askOf bound spare plan z b ownB else ([], .nothing)
  | (z, b, .full) => askOf bound spare plan z b fullB
  | (_, _, .eie) => ([], .err eieB true)
def Found (w : World) (res : Res) (rv : Value) (h₀ h : Heap) : Prop := match res with
  | .nothing => rv = .none
  | .err bs ih => ∃ e d tb, rv = .ref e ∧ Err w e d (.bytes bs tb) ih h ∧ h₀.get? e = none ∧ h₀.get? d = none
  | .num n => ∃ e d t, rv = .ref e ∧ Err w e d (.int n t) false h ∧ h₀.get? e = none ∧ h₀.get? d = none
def resOf (n : Option Int) : Res := match n with
  | some n => .num n
  | none => .err eieB true
section
variable {bound spare d z : Int} {many : Nat} {raises over c ih : Bool} {o : Out} {bs : Array UInt8} {plan : Option (List Int)}
theorem due_none (hE : Ends raises o bs ih) (hgo : gone bound spare many d over = (z, c, o)) : dueOf bound spare many raises none d over = ([], .err bs ih) := by
  unfold dueOf
  rw [hgo]
  cases hE with
  | full => rfl
  | eie => rfl
  | own q => rw [q]; rfl
theorem due_eie (hE : Ends raises o bs true) (hgo : gone bound spare many d over = (z, c, o)) : dueOf bound spare many raises plan d over = ([], .err bs true) := by
  unfold dueOf
  rw [hgo]
  cases hE
  rfl
theorem due_some {pl : List Int} {as : List (Array UInt8 × Int)} {n : Option Int} (hE : Ends raises o bs false) (hgo : gone bound spare many d over = (z, c, o)) (hto : told bound spare pl 2 [] bs z c = (as, n)) : dueOf bound spare many raises (some pl) d over = (as, resOf n) := by
  unfold dueOf
  rw [hgo]
  cases hE with
  | full =>
    unfold askOf
    simp only [hto]
    cases n <;> rfl
  | own q =>
    simp only [q, if_true]
    unfold askOf
    simp only [hto]
    cases n <;> rfl
theorem due_end (hgo : gone bound spare many d over = (z, c, .none)) (hrs : raises = false) : dueOf bound spare many raises plan d over = ([], .nothing) := by unfold dueOf; rw [hgo]; simp [hrs]
theorem found_of {w : World} {e d : Addr} {v : Value} {n : Option Int} {h₀ h : Heap} (tv : tellsV n v) (x : Err w e d v n.isNone h) (ne : h₀.get? e = none) (nd : h₀.get? d = none) : Found w (resOf n) (.ref e) h₀ h := by
  cases n with
  | none => obtain ⟨t, rfl⟩ := tv; exact ⟨e, d, t, rfl, x, ne, nd⟩
  | some n => obtain ⟨t, rfl⟩ := tv; exact ⟨e, d, t, rfl, x, ne, nd⟩
end
theorem sz3 {many : Int} {a c : Nat} (b : 0 ≤ many ∧ many ≤ 100) (h : a ≤ 100) (e : (c : Int) ≤ (a : Int) + (many.toNat : Nat)) : c ≤ 300 := by omega
theorem sz9 {many : Int} {a c : Nat} (b : 0 ≤ many ∧ many ≤ 100) (h : a ≤ 100) (e : (c : Int) ≤ (a : Int) + (many.toNat : Nat)) : c ≤ 900 := Nat.le_trans (sz3 b h e) (by decide)
theorem Reply.kept {prog : Program} {w : World} {p : Program} {loose : List Str} {mean : ExcName → Option Value} {mg mb : Str → Option Value} {base : Heap} {H : Hold} {ak f : Addr} {bound spare : Int} {plan : List Int} {fs fs' : List Addr} {h₀ h₁ : Heap} (x : Reply prog w p loose mean mg mb base H ak f bound spare plan fs h₀) (k : Kept [H.dx, H.fl, ak, 134] fs h₀ h₁)
    (hf : ∀ b ∈ fs', b ∈ fs ∨ h₀.get? b = none) (hd : ∀ b ∈ fs, b ∉ [H.dx, H.fl, ak, 134]) : Reply prog w p loose mean mg mb base H ak f bound spare plan fs' h₁ :=
  fun P k' => x P (k.trans k' (fun _ q => .inl q) hf hd)

def Work (prog : Program) (w : World) (p : Program) (loose : List Str) (mean : ExcName → Option Value) (mg mb : Str → Option Value) (base : Heap) (H : Hold) (f : Addr) (bound spare many : Int) (raises : Bool) (fs : List Addr) (h₀ : Heap) : Prop :=
  ∀ {hn : Nat} {A : Around} {l : List Env} {s : Shared} {R : Result → Shared → Prop} {ans : Value} {over : Bool} {cc hd : Int} {t1 t2 : Tok} {fr : Array Value} {k : Nat}, Pre (Mine.hd.heap_39 w.params) p loose mean mg mb A base l s.heap (hn + 7) →
    Kept [H.dx] fs h₀ s.heap → HoldAt w H ans over cc hd t1 t2 fr k s.heap → TabAt 134 lamPos lamQual s.heap →
    Loose base l s.heap H.x → Loose base l s.heap H.dx → Loose base l s.heap H.fl → Loose base l s.heap 134 → Hd A s.heap → (∀ eh, A.handled = some (.ref eh) → eh ≠ 134) → fr.size ≤ 900 →
    (∀ h' fr' ext k' tk, Kept [H.fl] [] s.heap h' → h'.get? H.fl = some (listOf fr' k') → fr'.toList = fr.toList ++ ext → raises = false → gone bound spare many.toNat fr.size over = ((fr'.size : Int), over, .none) → R (.ok (.ret .none)) { s with heap := h', toks := tk }) →
    (∀ h' fr' ext k' e T d bs tb b ih o tk tr k1 k2 k3, Kept [H.dx, H.fl, 134] (fsOf l) s.heap h' → HoldAt w H ans b cc hd t1 t2 fr' k' h' → fr'.toList = fr.toList ++ ext →
      TabAt 134 lamPos lamQual h' → Flown e T (some d) (A.handled.getD .none) .none h' → h'.get? d = some (dictOf (luaEs w (.bytes bs tb) tr ih k1 k2 k3) 3) → Ends raises o bs ih → gone bound spare many.toNat fr.size over = ((fr'.size : Int), b, o) →
      s.heap.get? e = none → s.heap.get? d = none → s.heap.get? T = none → R (.error (.ref e)) { s with heap := h', toks := tk }) →
    codeAny (model prog w) A (.call (.ref f) ⟨[], []⟩) R s

inductive HdlAt (prog : Program) (w : World) (p : Program) (loose : List Str) (mean : ExcName → Option Value) (mg mb : Str → Option Value) (base : Heap) (l : List Env) (h : Heap) (H : Hold) (ak : Addr) (bound spare : Int) (hdl : Value) (plan : Option (List Int)) : Prop where
  | no (e1 : hdl = .none) (e2 : plan = none) : HdlAt prog w p loose mean mg mb base l h H ak bound spare hdl plan
  | yes (hg f : Addr) (pl : List Int) (t99 : Tok) (e1 : hdl = .ref hg) (e2 : plan = some pl) (hhg : IsTup h hg #[.ref f, .int 99 t99]) (bhg : base.get? hg = none) (hff : FnAt f h) (bff : f ∉ fsOf l) (hrep : Reply prog w p loose mean mg mb base H ak f bound spare pl (fsOf l) h) (hpl1 : pl.length ≤ 9) (hpl2 : ∀ x ∈ pl, 0 ≤ x ∧ x ≤ 100) : HdlAt prog w p loose mean mg mb base l h H ak bound spare hdl plan
section
variable {hn : Nat} {prog : Program} {w : World} {p : Program} {loose : List Str} {mean : ExcName → Option Value} {mg mb : Str → Option Value} {A : Around} {base : Heap} {l : List Env} {s : Shared} {R : Result → Shared → Prop} {Q : Value → Shared → Prop} {E : Value → Shared → Prop}
theorem loose_data {n : Nat} {K : Frag} {a : Addr} {o : Obj} {h : Heap} (P : Pre K p loose mean mg mb A base l h n) (b : base.get? a = none) (e : h.get? a = some o) (c : isCodeO o = false) (hd : ∀ es n, o.data ≠ .dict es n) : Loose base l h a := by
  refine ⟨b, fun hm => ?_, NotCode.of e c⟩
  obtain ⟨o', es, n, e', hd'⟩ := P.D a hm
  rw [e] at e'; cases e'; exact hd _ _ hd'

theorem guarded_spec (P : Pre (Mine.hd.heap_39 w.params) p loose mean mg mb A base l s.heap (hn + 11)) {H : Hold} {ak wf : Addr} {over raises : Bool} {bound spare many : Int} {t1 t2 : Tok} {fr : Array Value} {k ka : Nat} {hdl : Value} {plan : Option (List Int)}
    (HA : HoldAt w H .none over 0 0 t1 t2 fr k s.heap) (hak : s.heap.get? ak = some (listOf #[] ka)) (ht : TabAt 134 lamPos lamQual s.heap) (hA : A.handled = none)
    (hwf : FnAt wf s.heap) (bwf : wf ∉ fsOf l) (hwk : Work prog w p loose mean mg mb base H wf bound spare many raises (fsOf l) s.heap)
    (hdl' : HdlAt prog w p loose mean mg mb base l s.heap H ak bound spare hdl plan)
    (bx : Loose base l s.heap H.x) (bdx : Loose base l s.heap H.dx) (bfl : Loose base l s.heap H.fl) (bak : Loose base l s.heap ak) (bt : Loose base l s.heap 134) (hfa : @Ne Nat H.fl ak)
    (b1 : 0 ≤ bound ∧ bound ≤ 100) (b2 : 0 ≤ spare ∧ spare ≤ 100) (b3 : 0 ≤ many ∧ many ≤ 100) (b4 : fr.size ≤ 100)
    (h : ∀ h' rv res as' av' fr' ext cc hd' t1' t2' k' ka' tk, Kept [H.dx, H.fl, ak, 134] (fsOf l) s.heap h' → HoldAt w H .none over cc hd' t1' t2' fr' k' h' → (fr'.toList = fr.toList ++ ext ∧ fr'.size ≤ 900) → h'.get? ak = some (listOf av'.toArray ka') → AskedAre h' av' as' →
      TabAt 134 lamPos lamQual h' → dueOf bound spare many.toNat raises plan fr.size over = (as', res) → Found w res rv s.heap h' → R (.ok (.ret rv)) { s with heap := h', toks := tk }) :
    codeAny (model prog w) A (.call (.ref 118) ⟨[.ref H.x, .ref wf, hdl], []⟩) R s := by
  refine' enter P [H.x, H.dx, H.fl, ak, 134] [(Str.ofString "holder", .ref H.x), (Str.ofString "work", .ref wf), (Str.ofString "handling", hdl)] (looseC bx (looseC bdx (looseC bfl (looseC bak (loose1 bt))))) ?k6 ?k7 ?k9 ?kB ?_ ?c2 ?c3 ?c4 ?c5
  case k6 => k_is
  case k7 => k_is
  case k9 => exact BindsTo.of_eq rfl
  case kB => exact locs rfl
  case c2 => exact rfl
  case c3 => exact rfl
  case c4 => exact rfl
  case c5 => decide
  intro g L h₁ G F kp hL B D X T
  try dsimp only
  k_fold
  refine exEl2 ht.obj fun ps hps hpc => ?_
  have xd : @Ne Nat H.x H.dx := ne_objc HA.hx HA.hdx (by first | exact cID | exact cIL | exact cIT | exact cDL | exact cDT | exact cLT | simp)
  have df : @Ne Nat H.dx H.fl := ne_objc HA.hdx HA.hfl (by first | exact cID | exact cIL | exact cIT | exact cDL | exact cDT | exact cLT | simp)
  have da : @Ne Nat H.dx ak := ne_objc HA.hdx hak (by first | exact cID | exact cIL | exact cIT | exact cDL | exact cDT | exact cLT | simp)
  have dt : @Ne Nat H.dx 134 := ne_objc HA.hdx hps (by first | exact cID | exact cIL | exact cIT | exact cDL | exact cDT | exact cLT | simp)
  have xf : Unit → @Ne Nat H.x H.fl := fun _ => ne_objc HA.hx HA.hfl (by first | exact cID | exact cIL | exact cIT | exact cDL | exact cDT | exact cLT | simp)
  have xa : Unit → @Ne Nat H.x ak := fun _ => ne_objc HA.hx hak (by first | exact cID | exact cIL | exact cIT | exact cDL | exact cDT | exact cLT | simp)
  have xt : Unit → @Ne Nat H.x 134 := fun _ => ne_objc HA.hx hps (by first | exact cID | exact cIL | exact cIT | exact cDL | exact cDT | exact cLT | simp)
  have ft : Unit → @Ne Nat H.fl 134 := fun _ => ne_objc HA.hfl hps (by first | exact cID | exact cIL | exact cIT | exact cDL | exact cDT | exact cLT | simp)
  have at' : Unit → @Ne Nat ak 134 := fun _ => ne_objc hak hps (by first | exact cID | exact cIL | exact cIT | exact cDL | exact cDT | exact cLT | simp)
  have ht1 : TabAt 134 lamPos lamQual h₁ := ht.same ((kp hps).1.trans hps.symm) (Kept.of_keeps (M := []) (fs := []) fun b o e => (kp e).1)
  have hxN : h₁.get? H.x = some (instObj 52 H.dx) ∧ H.x ≠ L ∧ g.get? H.x = none := ⟨(kp HA.hx).1, Nat.ne_of_lt (kp HA.hx).2, G.hid (by k_mem)⟩
  refine TabAt.groundC ht1 F hxN fun ps₁ tc oc hps₁ tg htc hoc => ?_
  have eps : tabObj ps₁ = tabObj ps := Option.some.inj (hps₁.symm.trans (kp hps).1)
  cases eps
  have cne : ∀ {a : Addr} {o : Obj}, h₁.get? a = some o → isCodeO o = false → @Ne Nat H.x a → @Ne Nat tc a := fun {a o} e c n => by
    rcases hoc with q | ⟨q, _⟩
    · exact ne_obj htc.1 e fun q' => by rw [q', c] at q; cases q
    · rw [q]; exact n
  have cd : @Ne Nat tc H.dx := cne (kp HA.hdx).1 rfl xd
  have cf : Unit → @Ne Nat tc H.fl := fun _ => cne (kp HA.hfl).1 rfl (xf ())
  have ca : Unit → @Ne Nat tc ak := fun _ => cne (kp hak).1 rfl (xa ())
  have ct : Unit → @Ne Nat tc 134 := fun _ => cne (kp hps).1 hpc (xt ())
  have N : News g L h₁ [(H.x, instObj 52 H.dx), (H.dx, dictOf (holdEs w H.kk H.st H.ou .none over H.fl 0 0 H.tp t1 t2 H.t3) 8), (H.fl, listOf fr k), (ak, listOf #[] ka), (134, tabObj ps), (tc, oc)] :=
    G.news1 kp HA.hx (by k_mem) (G.news1 kp HA.hdx (by k_mem) (G.news1 kp HA.hfl (by k_mem) (G.news1 kp hak (by k_mem) (G.news1 kp hps (by k_mem) (News.one htc News.nil)))))
  have hfg : FnAt wf g := by
    obtain ⟨a1, a2, a3, a4, e⟩ := id hwf
    exact ⟨a1, a2, a3, a4, G.up e (nm_cons (FnAt.ne hwf HA.hx fun _ q => by cases q) (nm_cons (FnAt.ne hwf HA.hdx fun _ q => by cases q) (nm_cons (FnAt.ne hwf HA.hfl fun _ q => by cases q) (nm_cons (FnAt.ne hwf hak fun _ q => by cases q) (nm_cons (FnAt.ne hwf hps fun _ q => by cases q) nm_nil)))))⟩
  clear kp cne
  (repeat' ((fail_if_success (with_reducible show wpAny _ _ (pyIter _) _ _ _)); (fail_if_success (with_reducible show wpAny _ _ (call (Value.ref _) _) _ _ _)); (fail_if_success (with_reducible show wpAny _ _ (exec (Stmt.Raise _ _ _) _) _ _ _)); (fail_if_success (with_reducible show wpAny _ _ (exec (Stmt.While _ _ _ _) _) _ _ _)); (fail_if_success (with_reducible show wpAny _ _ (exec (Stmt.Try _ _ _ _ _) _) _ _ _)); (fail_if_success (with_reducible show wpAny _ _ (call (Value.builtin "min") _ _) _ _ _)); (fail_if_success (with_reducible show wpAny _ _ (call (Value.builtin "max") _ _) _ _ _)); (fail_if_success (with_reducible show wpAny _ _ (eval (Expr.Lambda _ _ _ _) _) _ _ _)); (fail_if_success (with_reducible show InvPostN _ _ _ _ _ _ _ _ _)); first | walk1 | (dsimp only; walk1)))
  rename Fr _ _ _ _ => F2
  rename News _ _ _ _ => N2
  refine unpackItems_X (.inl (.inl hA)) F2 N2 (News.isTup N2 mm0) (by rfl) (fun h3 F3 N3 _ => ?_)
  replace N3 := News.sub (news' := _ :: _) N3 (fun p hp => .tail _ hp)
  clear F2 N2
  try dsimp only
  (repeat' ((fail_if_success (with_reducible show wpAny _ _ (pyIter _) _ _ _)); (fail_if_success (with_reducible show wpAny _ _ (call (Value.ref _) _) _ _ _)); (fail_if_success (with_reducible show wpAny _ _ (exec (Stmt.Raise _ _ _) _) _ _ _)); (fail_if_success (with_reducible show wpAny _ _ (exec (Stmt.While _ _ _ _) _) _ _ _)); (fail_if_success (with_reducible show wpAny _ _ (exec (Stmt.Try _ _ _ _ _) _) _ _ _)); (fail_if_success (with_reducible show wpAny _ _ (call (Value.builtin "min") _ _) _ _ _)); (fail_if_success (with_reducible show wpAny _ _ (call (Value.builtin "max") _ _) _ _ _)); (fail_if_success (with_reducible show wpAny _ _ (eval (Expr.Lambda _ _ _ _) _) _ _ _)); (fail_if_success (with_reducible show InvPostN _ _ _ _ _ _ _ _ _)); first | walk1 | (dsimp only; walk1)))
  rename Fr _ _ _ _ => F5
  rename News _ _ _ _ => N5
  refine wpAny_Try_except_finally ?_
  (repeat' ((fail_if_success (with_reducible show wpAny _ _ (pyIter _) _ _ _)); (fail_if_success (with_reducible show wpAny _ _ (call (Value.ref _) _) _ _ _)); (fail_if_success (with_reducible show wpAny _ _ (exec (Stmt.Raise _ _ _) _) _ _ _)); (fail_if_success (with_reducible show wpAny _ _ (exec (Stmt.While _ _ _ _) _) _ _ _)); (fail_if_success (with_reducible show wpAny _ _ (exec (Stmt.Try _ _ _ _ _) _) _ _ _)); (fail_if_success (with_reducible show wpAny _ _ (call (Value.builtin "min") _ _) _ _ _)); (fail_if_success (with_reducible show wpAny _ _ (call (Value.builtin "max") _ _) _ _ _)); (fail_if_success (with_reducible show wpAny _ _ (eval (Expr.Lambda _ _ _ _) _) _ _ _)); (fail_if_success (with_reducible show InvPostN _ _ _ _ _ _ _ _ _)); first | walk1 | (dsimp only; walk1)))
  refine callWith_F0 (FnAt.up hfg F5.keep) ?_
  try dsimp only
  have m0 := N5 _ mm0
  have m1 := N5 _ mm1
  have m2 := N5 _ mm2
  have m3 := N5 _ mm3
  have m4 := N5 _ mm4
  have m5 := N5 _ mm5
  have lx : ∀ env : Env, env.frame = some L → Loose base (env :: l) _ H.x := fun _ he => loose_of B he N5 mm0 rfl
  have ldx : ∀ env : Env, env.frame = some L → Loose base (env :: l) _ H.dx := fun _ he => loose_of B he N5 mm1 rfl
  have lfl : ∀ env : Env, env.frame = some L → Loose base (env :: l) _ H.fl := fun _ he => loose_of B he N5 mm2 rfl
  have lak : ∀ env : Env, env.frame = some L → Loose base (env :: l) _ ak := fun _ he => loose_of B he N5 mm3 rfl
  have lt : ∀ env : Env, env.frame = some L → Loose base (env :: l) _ 134 := fun _ he => loose_of B he N5 mm4 tg.code
  have K5 := (G.ke KtsTurn.refl F5).tight (M := [H.dx]) (tightC (.inr (tight_old HA.hx m0.1)) (tightC (.inl mm0) (tightC (.inr (tight_old HA.hfl m2.1)) (tightC (.inr (tight_old hak m3.1)) (tightC (.inr (tight_old hps m4.1)) tightN)))))
  have tb5 : TabAt 134 lamPos lamQual _ := tg.at F5.keep m4.1 m5.1
  refine wpAny_call (hwk (pre_call P B D F5 rfl rfl) K5 ⟨m0.1, m1.1, m2.1⟩ tb5 (lx _ rfl) (ldx _ rfl) (lfl _ rfl) (lt _ rfl) (.inl hA) (fun eh he => by rw [show A.handled = some (.ref eh) from he] at hA; cases hA) ?sz ?ok ?er)
  case sz => exact Nat.le_trans b4 (by decide)
  case ok =>
    intro h6 fr6 ext6 k6 tk6 kp6 hfl6 hfr6 hrs hgo6
    have F6 := after_call0 F5 kp6 (forall_cons ⟨m2.2.2, m2.2.1⟩ forall_nil)
    have N6 := News.kept1 (own := [_, _]) N5 kp6 hfl6 (all_cons (xf ()) (all_cons df all_nil)) (all_cons hfa.symm (all_cons (ft ()).symm (all_cons (cf ()) all_nil)))
    dsimp only [List.cons_append, List.nil_append] at N6
    clear F5 N5 lx ldx lfl lak lt K5 tb5 m0 m1 m2 m3 m4 m5
    try dsimp only
    (repeat' ((fail_if_success (with_reducible show wpAny _ _ (pyIter _) _ _ _)); (fail_if_success (with_reducible show wpAny _ _ (call (Value.ref _) _) _ _ _)); (fail_if_success (with_reducible show wpAny _ _ (exec (Stmt.Raise _ _ _) _) _ _ _)); (fail_if_success (with_reducible show wpAny _ _ (exec (Stmt.While _ _ _ _) _) _ _ _)); (fail_if_success (with_reducible show wpAny _ _ (exec (Stmt.Try _ _ _ _ _) _) _ _ _)); (fail_if_success (with_reducible show wpAny _ _ (call (Value.builtin "min") _ _) _ _ _)); (fail_if_success (with_reducible show wpAny _ _ (call (Value.builtin "max") _ _) _ _ _)); (fail_if_success (with_reducible show wpAny _ _ (eval (Expr.Lambda _ _ _ _) _) _ _ _)); (fail_if_success (with_reducible show InvPostN _ _ _ _ _ _ _ _ _)); first | walk1 | (dsimp only; walk1)))
    (show R _ _)
    rename Fr _ _ _ _ => F7
    rename News _ _ _ _ => N7
    have KK := (G.ke KtsTurn.refl F7).tight (M := [H.dx, H.fl, ak, 134]) (tightC (.inr (tight_old HA.hx (nGet N7 mm0))) (tightC (.inl mm0) (tightC (.inl mm1) (tightC (.inl mm2) (tightC (.inl mm3) tightN)))))
    exact h _ .none .nothing [] [] fr6 ext6 0 0 _ _ _ ka _ KK ⟨(nGet N7 mm0), (nGet N7 mm1), (nGet N7 mm2)⟩ ⟨hfr6, sz9 b3 b4 (gone_le hgo6)⟩ (nGet N7 mm3) .nil (tg.at F7.keep (nGet N7 mm4) (nGet N7 mm5)) (due_end hgo6 hrs) rfl
  case er =>
    intro h7 fr7 ext7 k7 e T d bs tv b ih o tk7 tr q1 q2 q3 kp7 HA7 hfr7 tb7 fl7 hd7 hE hgo7 ne nd nT
    rw [show (A.deeper _).handled = A.handled from rfl, hA] at fl7
    refine after_callC P B D F5 rfl kp7 (forall_cons ⟨m1.2.2, m1.2.1⟩ (forall_cons ⟨m2.2.2, m2.2.1⟩ (forall_cons ⟨m4.2.2, m4.2.1⟩ (forall_nil)))) fun g2 Tg2 F7 B7 D7 X7 T7 => ?_
    have hxN7 := old_of B rfl N5 kp7 Tg2 mm0 (nm_cons xd (nm_cons (xf ()) (nm_cons (xt ()) nm_nil)))
    refine TabAt.groundC tb7 F7 hxN7 fun ps7 tc7 oc7 hps7 tg7 htc7 hoc7 => ?_
    refine flownEl fl7 fun vs7 sl7 oT7 ts7 he7 hv7 => ?_
    have N7 := News.one hxN7 (News.one (turned_of N5 mm1 HA7.hdx Tg2) (News.one (turned_of N5 mm2 HA7.hfl Tg2) (News.one (old_of B rfl N5 kp7 Tg2 mm3 (nm_cons da.symm (nm_cons hfa.symm (nm_cons (at' ()) nm_nil)))) (News.one (turned_of N5 mm4 hps7 Tg2) (News.one htc7 (News.one (new_of F5 ne he7 Tg2) (News.one (new_of F5 nd hd7 Tg2) News.nil)))))))
    have ex5 := exC m0.1 (exC m1.1 (exC m2.1 (exC m3.1 (exC m4.1 exN))))
    have se := G.none_upT KtsTurn.refl F5 ex5 ne
    have sd := G.none_upT KtsTurn.refl F5 ex5 nd
    have sT := G.none_upT KtsTurn.refl F5 ex5 nT
    have eg2 : ∀ b ∈ [e, T], g2.get? b = none ∧ b ≠ L := fun b hb => by
      have : ∀ b, _ → g2.get? b = none ∧ b ≠ L := fun b (nb : Heap.get? _ b = none) => ⟨Tg2.none_ _ (kts_none F5.keep nb), fun q => by
        obtain ⟨oL, _, _, hoL, _⟩ := F5.ns
        rw [← q] at hoL
        rw [nb] at hoL; cases hoL⟩
      simp only [List.mem_cons, List.not_mem_nil, or_false] at hb
      rcases hb with q | q <;> rw [q]
      · exact this _ ne
      · exact this _ nT
    obtain ⟨ed, dT⟩ := fl7.ne_dict hd7 (fun _ q => by cases q)
    have ecT : @Ne Nat tc7 e ∧ @Ne Nat tc7 T := by
      rcases hoc7 with q | ⟨q, _⟩
      · exact fl7.ne_other htc7.1 (.inl q)
      · rw [q]; exact ⟨ne_new m0.1 ne, ne_new m0.1 nT⟩
    obtain ⟨ec, cT⟩ := ecT
    have xe := ne_new m0.1 ne
    have dxe : @Ne Nat H.dx e := ne_new m1.1 ne
    have dxd : @Ne Nat H.dx d := ne_new m1.1 nd
    have fle := ne_new m2.1 ne
    have ake := ne_new m3.1 ne
    have te := ne_new m4.1 ne
    have teN : Unit → @Ne Nat 134 e := fun _ => te
    have xT := ne_new m0.1 nT
    have dxT := ne_new m1.1 nT
    have flT := ne_new m2.1 nT
    have akT := ne_new m3.1 nT
    have tT := ne_new m4.1 nT
    have cne : ∀ {a : Addr} {o : Obj}, h7.get? a = some o → isCodeO o = false → @Ne Nat H.x a → @Ne Nat tc7 a := fun {a o} e c n => by
      rcases hoc7 with q | ⟨q, _⟩
      · exact ne_obj htc7.1 e fun q' => by rw [q', c] at q; cases q
      · rw [q]; exact n
    have cd7 : @Ne Nat tc7 H.dx := cne HA7.hdx rfl xd
    have cf7 : Unit → @Ne Nat tc7 H.fl := fun _ => cne HA7.hfl rfl (xf ())
    have ca7 : Unit → @Ne Nat tc7 ak := fun _ => cne (nGet N7 mm3) rfl (xa ())
    have ct7 : Unit → @Ne Nat tc7 134 := fun _ => cne hps7 tg7.code (xt ())
    clear F5 N5 lx ldx lfl lak lt tb5 K5 m0 m1 m2 m3 m4 m5 B D X cd cf ca ct cne
    refine except_lua (pre_call P B7 D7 F7 rfl rfl).B P.X (P.fresh se).1 (P.fresh sT).1 rfl fl7 (fun h8 k8 => ?_) (fun h8 T8 k8 hT8 fl8 => ?_)
    · refine after_callC P B7 D7 F7 rfl k8 eg2 fun g3 Tg3 F8 B8 D8 X8 T8 => ?_
      clear F7 X7 T7 B7 D7
      (repeat' ((fail_if_success (with_reducible show wpAny _ _ (pyIter _) _ _ _)); (fail_if_success (with_reducible show wpAny _ _ (call (Value.ref _) _) _ _ _)); (fail_if_success (with_reducible show wpAny _ _ (exec (Stmt.Raise _ _ _) _) _ _ _)); (fail_if_success (with_reducible show wpAny _ _ (exec (Stmt.While _ _ _ _) _) _ _ _)); (fail_if_success (with_reducible show wpAny _ _ (exec (Stmt.Try _ _ _ _ _) _) _ _ _)); (fail_if_success (with_reducible show wpAny _ _ (call (Value.builtin "min") _ _) _ _ _)); (fail_if_success (with_reducible show wpAny _ _ (call (Value.builtin "max") _ _) _ _ _)); (fail_if_success (with_reducible show wpAny _ _ (eval (Expr.Lambda _ _ _ _) _) _ _ _)); (fail_if_success (with_reducible show InvPostN _ _ _ _ _ _ _ _ _)); first | walk1 | (dsimp only; walk1)))
    · refine after_callC P B7 D7 F7 rfl k8 eg2 fun g3 Tg3 F8 B8 D8 X8 T8' => ?_
      refine flownEl fl8 fun vs8 sl8 oT8 ts8 he8 hv8 => ?_
      have N8 := (News.one (old_of B7 rfl N7 k8 Tg3 mm0 (nm_cons xe (nm_cons xT nm_nil))) (News.one (old_of B7 rfl N7 k8 Tg3 mm1 (nm_cons dxe (nm_cons dxT nm_nil))) (News.one (old_of B7 rfl N7 k8 Tg3 mm2 (nm_cons fle (nm_cons flT nm_nil))) (News.one (old_of B7 rfl N7 k8 Tg3 mm3 (nm_cons ake (nm_cons akT nm_nil))) (News.one (old_of B7 rfl N7 k8 Tg3 mm4 (nm_cons te (nm_cons tT nm_nil))) (News.one (old_of B7 rfl N7 k8 Tg3 mm5 (nm_cons ec (nm_cons cT nm_nil))) (News.one (turned_of N7 mm6 he8 Tg3) (News.one (old_of B7 rfl N7 k8 Tg3 mm7 (nm_cons ed (nm_cons dT nm_nil))) News.nil))))))))
      have tg8 := tg7.turn Tg3 D7
      have tTg := Tg2.trans Tg3
      clear F7 N7 B7 D7 X7 T7 ed dT ec cT xe fle ake te xT dxT flT akT tT
      rcases hdl' with ⟨rfl, rfl⟩ | ⟨hg, f, pl, t99, rfl, rfl, hhg, bhg, hff, bff, hrep, hpl1, hpl2⟩
      · (repeat' ((fail_if_success (with_reducible show wpAny _ _ (pyIter _) _ _ _)); (fail_if_success (with_reducible show wpAny _ _ (call (Value.ref _) _) _ _ _)); (fail_if_success (with_reducible show wpAny _ _ (exec (Stmt.Raise _ _ _) _) _ _ _)); (fail_if_success (with_reducible show wpAny _ _ (exec (Stmt.While _ _ _ _) _) _ _ _)); (fail_if_success (with_reducible show wpAny _ _ (exec (Stmt.Try _ _ _ _ _) _) _ _ _)); (fail_if_success (with_reducible show wpAny _ _ (call (Value.builtin "min") _ _) _ _ _)); (fail_if_success (with_reducible show wpAny _ _ (call (Value.builtin "max") _ _) _ _ _)); (fail_if_success (with_reducible show wpAny _ _ (eval (Expr.Lambda _ _ _ _) _) _ _ _)); (fail_if_success (with_reducible show InvPostN _ _ _ _ _ _ _ _ _)); first | walk1 | (dsimp only; walk1)))
        (show R _ _)
        rename Fr _ _ _ _ => F9
        rename News _ _ _ _ => N9
        have KK := (G.ke tTg F9).tight (M := [H.dx, H.fl, ak, 134]) (tightC (.inr (tight_old HA.hx (nGet N9 mm0))) (tightC (.inl mm0) (tightC (.inl mm1) (tightC (.inl mm2) (tightC (.inl mm3) tightN)))))
        refine h _ (.ref e) (.err bs ih) [] [] fr7 ext7 0 0 _ _ _ ka _ KK ⟨(nGet N9 mm0), (nGet N9 mm1), (nGet N9 mm2)⟩ ⟨hfr7, sz9 b3 b4 (gone_le hgo7)⟩ (nGet N9 mm3) .nil (tg8.at F9.keep (nGet N9 mm4) (nGet N9 mm5)) (due_none hE hgo7) ⟨e, d, tv, rfl, ⟨⟨_, _, (nGet N9 mm6), isCodeO_ref rfl hv8.1 (fun _ _ q => nomatch q)⟩, tr, q1, q2, q3, (nGet N9 mm7)⟩, se, sd⟩
      · cases ih
        · (repeat' ((fail_if_success (with_reducible show wpAny _ _ (pyIter _) _ _ _)); (fail_if_success (with_reducible show wpAny _ _ (call (Value.ref _) _) _ _ _)); (fail_if_success (with_reducible show wpAny _ _ (exec (Stmt.Raise _ _ _) _) _ _ _)); (fail_if_success (with_reducible show wpAny _ _ (exec (Stmt.While _ _ _ _) _) _ _ _)); (fail_if_success (with_reducible show wpAny _ _ (exec (Stmt.Try _ _ _ _ _) _) _ _ _)); (fail_if_success (with_reducible show wpAny _ _ (call (Value.builtin "min") _ _) _ _ _)); (fail_if_success (with_reducible show wpAny _ _ (call (Value.builtin "max") _ _) _ _ _)); (fail_if_success (with_reducible show wpAny _ _ (eval (Expr.Lambda _ _ _ _) _) _ _ _)); (fail_if_success (with_reducible show InvPostN _ _ _ _ _ _ _ _ _)); first | walk1 | (dsimp only; walk1)))
          rename Fr _ _ _ _ => F9
          rename News _ _ _ _ => N9
          have m0 := N9 _ mm0
          have m1 := N9 _ mm1
          have m2 := N9 _ mm2
          have m3 := N9 _ mm3
          have m4 := N9 _ mm4
          have m5 := N9 _ mm5
          have m6 := N9 _ mm6
          have lx : ∀ env : Env, env.frame = some L → Loose base (env :: l) _ H.x := fun _ he => loose_of B8 he N9 mm0 rfl
          have ldx : ∀ env : Env, env.frame = some L → Loose base (env :: l) _ H.dx := fun _ he => loose_of B8 he N9 mm1 rfl
          have lfl : ∀ env : Env, env.frame = some L → Loose base (env :: l) _ H.fl := fun _ he => loose_of B8 he N9 mm2 rfl
          have lak : ∀ env : Env, env.frame = some L → Loose base (env :: l) _ ak := fun _ he => loose_of B8 he N9 mm3 rfl
          have lt : ∀ env : Env, env.frame = some L → Loose base (env :: l) _ 134 := fun _ he => loose_of B8 he N9 mm4 tg8.code
          have K9 := (G.ke tTg F9).tight (M := [H.dx, H.fl, ak, 134]) (tightC (.inr (tight_old HA.hx m0.1)) (tightC (.inl mm0) (tightC (.inl mm1) (tightC (.inl mm2) (tightC (.inl mm3) tightN)))))
          have tb9 : TabAt 134 lamPos lamQual _ := tg8.at F9.keep m4.1 m5.1
          refine tupEl hhg fun og hog hcg ng hdg => ?_
          have hgL := loose_data P bhg hog (by unfold isCodeO; rw [hdg]) (fun _ _ q => by rw [hdg] at q; cases q)
          have hgM : hg ∉ [H.dx, H.fl, ak, 134] := nm_cons (ne_objc hog HA.hdx (by first | exact tupI hcg | exact tupD hcg | exact tupL hcg | exact tupT hcg | (rw [hcg]; simp))) (nm_cons (ne_objc hog HA.hfl (by first | exact tupI hcg | exact tupD hcg | exact tupL hcg | exact tupT hcg | (rw [hcg]; simp))) (nm_cons (ne_objc hog hak (by first | exact tupI hcg | exact tupD hcg | exact tupL hcg | exact tupT hcg | (rw [hcg]; simp))) (nm_cons (ne_objc hog hps (by first | exact tupI hcg | exact tupD hcg | exact tupL hcg | exact tupT hcg | (rw [hcg]; simp))) nm_nil)))
          have hog9 := K9.same _ _ hog hgM hgL.2.1
          have hff9 := FnAt.kept hff K9 (nm_cons (FnAt.ne hff HA.hdx fun _ q => by cases q) (nm_cons (FnAt.ne hff HA.hfl fun _ q => by cases q) (nm_cons (FnAt.ne hff hak fun _ q => by cases q) (nm_cons (FnAt.ne hff hps fun _ q => by cases q) nm_nil)))) bff
          have bff9 : ∀ env : Env, env.frame = some L → f ∉ fsOf (env :: l) := fun _ he => by
            obtain ⟨_, _, _, _, ef⟩ := hff
            exact nfs_cons he hL ef bff
          have hrep9 : ∀ env : Env, env.frame = some L → Reply prog w p loose mean mg mb base H ak f bound spare pl (fsOf (env :: l)) _ := fun _ he => hrep.kept K9 (fs_or he hL) (fun b hb q => by
            simp only [List.mem_cons, List.not_mem_nil, or_false] at q
            rcases q with q | q | q | q <;> rw [q] at hb
            · exact bdx.2.1 hb
            · exact bfl.2.1 hb
            · exact bak.2.1 hb
            · exact bt.2.1 hb)
          refine wpAny_call (handled_spec (Pre.mark (pre_call P B8 D8 F9 rfl rfl) _) ⟨m0.1, m1.1, m2.1⟩ m3.1 tb9 ⟨og, hog9, hcg, ng, hdg⟩ hff9 (bff9 _ rfl) (hrep9 _ rfl) (lx _ rfl) (ldx _ rfl) (lfl _ rfl) (lak _ rfl) (lt _ rfl) ?lg ?hd ?hn hfa b1 b2 ⟨hpl1, hpl2⟩ ?sz (fun h10 e2 d2 v10 as10 av10 n10 fr10 ext10 over10 cc10 hd10 t110 t210 k10 ka10 tk10 kp10 er10 tv10 HA10 hfr10 hak10 as10' tb10 hto10 ne10 nd10 => ?_))
          case lg => exact loose_data (pre_call P B8 D8 F9 rfl rfl) bhg hog9 (by unfold isCodeO; rw [hdg]) (fun _ _ q => by rw [hdg] at q; cases q)
          case hd => exact .inr ⟨e, _, _, rfl, m6.1, rfl, hv8.2.1⟩
          case hn => exact fun eh he => by cases he; exact (teN ()).symm
          case sz => exact sz3 b3 b4 (gone_le hgo7)
          refine errEl er10 fun vse sle tre qe1 qe2 qe3 ee10 ec10 ed10 => ?_
          refine after_callC P B8 D8 F9 rfl kp10 (forall_cons ⟨m1.2.2, m1.2.1⟩ (forall_cons ⟨m2.2.2, m2.2.1⟩ (forall_cons ⟨m3.2.2, m3.2.1⟩ (forall_cons ⟨m4.2.2, m4.2.1⟩ (forall_nil))))) fun g4 Tg4 F10 B10 D10 X10 T10 => ?_
          have hxN10 := old_of B8 rfl N9 kp10 Tg4 mm0 (nm_cons xd (nm_cons (xf ()) (nm_cons (xa ()) (nm_cons (xt ()) nm_nil))))
          refine TabAt.groundC tb10 F10 hxN10 fun psA tcA ocA hpsA tgA htcA hocA => ?_
          refine as10'.groundC F10 (told_len hto10) hxN10 fun a1 o1 a2 o2 ha1 ha2 ta1 ta2 hasA => ?_
          have N10 := News.one hxN10 (News.one (turned_of N9 mm1 HA10.hdx Tg4) (News.one (turned_of N9 mm2 HA10.hfl Tg4) (News.one (turned_of N9 mm3 hak10 Tg4) (News.one (turned_of N9 mm4 hpsA Tg4) (News.one htcA (News.one (new_of F9 ne10 ee10 Tg4) (News.one (new_of F9 nd10 ed10 Tg4) (News.one ha1 (News.one ha2 News.nil)))))))))
          have cdA : @Ne Nat tcA H.dx := by
            rcases hocA with q | ⟨q, _⟩
            · exact ne_obj htcA.1 HA10.hdx fun q' => by rw [q'] at q; exact absurd q (by rw [isCodeO_dict rfl]; simp)
            · rw [q]; exact xd
          have adA : @Ne Nat a1 H.dx := by
            rcases ta1 with q | q
            · exact ne_objc ha1.1 HA10.hdx (by first | exact tupI q | exact tupD q | exact tupL q | exact tupT q | (rw [q]; simp))
            · rw [q]; exact xd
          have bdA : @Ne Nat a2 H.dx := by
            rcases ta2 with q | q
            · exact ne_objc ha2.1 HA10.hdx (by first | exact tupI q | exact tupD q | exact tupL q | exact tupT q | (rw [q]; simp))
            · rw [q]; exact xd
          have edA : @Ne Nat H.dx e2 := ne_new m1.1 ne10
          have ddA : @Ne Nat H.dx d2 := ne_new m1.1 nd10
          have ex9 := exC m0.1 (exC m1.1 (exC m2.1 (exC m3.1 (exC m4.1 exN))))
          have se2 := G.none_upT tTg F9 ex9 ne10
          have sd2 := G.none_upT tTg F9 ex9 nd10
          clear F9 N9 m0 m1 m2 m3 m4 m5 m6 lx ldx lfl lak lt K9 tb9 cd7 cf7 ca7 ct7 dxe dxd B8 X8 T8' ex9
          try dsimp only
          (repeat' ((fail_if_success (with_reducible show wpAny _ _ (pyIter _) _ _ _)); (fail_if_success (with_reducible show wpAny _ _ (call (Value.ref _) _) _ _ _)); (fail_if_success (with_reducible show wpAny _ _ (exec (Stmt.Raise _ _ _) _) _ _ _)); (fail_if_success (with_reducible show wpAny _ _ (exec (Stmt.While _ _ _ _) _) _ _ _)); (fail_if_success (with_reducible show wpAny _ _ (exec (Stmt.Try _ _ _ _ _) _) _ _ _)); (fail_if_success (with_reducible show wpAny _ _ (call (Value.builtin "min") _ _) _ _ _)); (fail_if_success (with_reducible show wpAny _ _ (call (Value.builtin "max") _ _) _ _ _)); (fail_if_success (with_reducible show wpAny _ _ (eval (Expr.Lambda _ _ _ _) _) _ _ _)); (fail_if_success (with_reducible show InvPostN _ _ _ _ _ _ _ _ _)); first | walk1 | (dsimp only; walk1)))
          (show R _ _)
          rename Fr _ _ _ _ => F11
          rename News _ _ _ _ => N11
          have KK := (G.ke (tTg.trans Tg4) F11).tight (M := [H.dx, H.fl, ak, 134]) (tightC (.inr (tight_old HA.hx (nGet N11 mm0))) (tightC (.inl mm0) (tightC (.inl mm1) (tightC (.inl mm2) (tightC (.inl mm3) tightN)))))
          refine h _ (.ref e2) (resOf n10) as10 av10 fr10 (ext7 ++ ext10) cc10 hd10 _ _ _ ka10 _ KK ⟨(nGet N11 mm0), (nGet N11 mm1), (nGet N11 mm2)⟩ ⟨by rw [hfr10.1, hfr7, List.append_assoc], hfr10.2⟩ (nGet N11 mm3) (hasA _ F11.keep (nGet N11 mm8) (nGet N11 mm9)) (tgA.at F11.keep (nGet N11 mm4) (nGet N11 mm5)) (due_some hE hgo7 hto10) (found_of tv10 ⟨⟨_, _, (nGet N11 mm6), ec10⟩, tre, qe1, qe2, qe3, (nGet N11 mm7)⟩ se2 sd2)
        · (repeat' ((fail_if_success (with_reducible show wpAny _ _ (pyIter _) _ _ _)); (fail_if_success (with_reducible show wpAny _ _ (call (Value.ref _) _) _ _ _)); (fail_if_success (with_reducible show wpAny _ _ (exec (Stmt.Raise _ _ _) _) _ _ _)); (fail_if_success (with_reducible show wpAny _ _ (exec (Stmt.While _ _ _ _) _) _ _ _)); (fail_if_success (with_reducible show wpAny _ _ (exec (Stmt.Try _ _ _ _ _) _) _ _ _)); (fail_if_success (with_reducible show wpAny _ _ (call (Value.builtin "min") _ _) _ _ _)); (fail_if_success (with_reducible show wpAny _ _ (call (Value.builtin "max") _ _) _ _ _)); (fail_if_success (with_reducible show wpAny _ _ (eval (Expr.Lambda _ _ _ _) _) _ _ _)); (fail_if_success (with_reducible show InvPostN _ _ _ _ _ _ _ _ _)); first | walk1 | (dsimp only; walk1)))
          (show R _ _)
          rename Fr _ _ _ _ => F9
          rename News _ _ _ _ => N9
          have KK := (G.ke tTg F9).tight (M := [H.dx, H.fl, ak, 134]) (tightC (.inr (tight_old HA.hx (nGet N9 mm0))) (tightC (.inl mm0) (tightC (.inl mm1) (tightC (.inl mm2) (tightC (.inl mm3) tightN)))))
          refine h _ (.ref e) (.err bs true) [] [] fr7 ext7 0 0 _ _ _ ka _ KK ⟨(nGet N9 mm0), (nGet N9 mm1), (nGet N9 mm2)⟩ ⟨hfr7, sz9 b3 b4 (gone_le hgo7)⟩ (nGet N9 mm3) .nil (tg8.at F9.keep (nGet N9 mm4) (nGet N9 mm5)) (due_eie hE hgo7) ⟨e, d, tv, rfl, ⟨⟨_, _, (nGet N9 mm6), isCodeO_ref rfl hv8.1 (fun _ _ q => nomatch q)⟩, tr, q1, q2, q3, (nGet N9 mm7)⟩, se, sd⟩
end


end
theorem off_D2 : True := by
  w_top off
  exact True.intro
section
section
variable {hn : Nat} {prog : Program} {w : World} {p : Program} {loose : List Str} {mean : ExcName → Option Value} {mg mb : Str → Option Value} {A : Around} {base : Heap} {l : List Env} {s : Shared} {R : Result → Shared → Prop} {Q : Value → Shared → Prop} {E : Value → Shared → Prop}
def outV (o : Out) (v : Value) : Prop := match o with
  | .none => v = .none
  | .full => ∃ tb, v = .bytes fullB tb
  | .eie => ∃ tb, v = .bytes eieB tb
theorem lawgone_spec (P : Pre (Mine.hd.heap_39 w.params) p loose mean mg mb A base l s.heap hn) (hA : A.handled = none) {d bound spare many : Int} {over : Bool} {t1 t2 t3 t4 : Tok} (hd : 0 ≤ d ∧ d ≤ 2000) (b1 : 0 ≤ bound ∧ bound ≤ 1000) (b2 : 0 ≤ spare ∧ spare ≤ 1000) (b3 : 0 ≤ many ∧ many ≤ 1000)
    (h : ∀ h' r z b o v t tk, Kept [] [] s.heap h' → gone bound spare many.toNat d over = (z, b, o) → outV o v → h'.get? r = some { cls := .type "tuple", data := .seq #[.int z t, .bool b, v] } → s.heap.get? r = none → R (.ok (.ret (.ref r))) { s with heap := h', toks := tk }) :
    codeAny (model prog w) A (.call (.ref 160) ⟨[.int d t1, .bool over, .int bound t2, .int spare t3, .int many t4], []⟩) R s := by
  refine' enter P [] [(Str.ofString "depth", .int d t1), (Str.ofString "is_over", .bool over), (Str.ofString "bound", .int bound t2), (Str.ofString "spare", .int spare t3), (Str.ofString "many", .int many t4)] (fun _ hm => nomatch hm) ?k6 ?k7 ?k9 ?kB ?_ ?c2 ?c3 ?c4 ?c5
  case k6 => k_is
  case k7 => k_is
  case k9 => exact BindsTo.of_eq rfl
  case kB => exact locs rfl
  case c2 => exact rfl
  case c3 => exact rfl
  case c4 => exact rfl
  case c5 => decide
  intro g L h₁ G F kp hL B D X T
  try dsimp only
  k_fold
  have N : News g L h₁ [] := News.nil
  clear kp
  (repeat' ((fail_if_success (with_reducible show wpAny _ _ (pyIter _) _ _ _)); (fail_if_success (with_reducible show wpAny _ _ (call (Value.ref _) _) _ _ _)); (fail_if_success (with_reducible show wpAny _ _ (exec (Stmt.Raise _ _ _) _) _ _ _)); (fail_if_success (with_reducible show wpAny _ _ (exec (Stmt.While _ _ _ _) _) _ _ _)); (fail_if_success (with_reducible show wpAny _ _ (exec (Stmt.Try _ _ _ _ _) _) _ _ _)); (fail_if_success (with_reducible show wpAny _ _ (call (Value.builtin "min") _ _) _ _ _)); (fail_if_success (with_reducible show wpAny _ _ (call (Value.builtin "max") _ _) _ _ _)); (fail_if_success (with_reducible show wpAny _ _ (eval (Expr.Lambda _ _ _ _) _) _ _ _)); (fail_if_success (with_reducible show InvPostN _ _ _ _ _ _ _ _ _)); first | walk1 | (dsimp only; walk1)))
  rename IsRange _ _ _ _ _ _ _ _ => hR
  rename News _ _ _ _ => hN
  rename Fr _ _ _ _ => hF
  refine iter_rangeH (n := many.toNat) (fun i m₁ nx => ∃ t, nx = [] ∧ (∀ z, z ≠ Str.ofString "turn" → m₁ z = (if z = Str.ofString "depth" then some (Value.int (d + (i : Int)) t) else List.lookup z [(Str.ofString "many", Value.int many t4), (Str.ofString "spare", Value.int spare t3), (Str.ofString "bound", Value.int bound t2), (Str.ofString "is_over", Value.bool over)])) ∧
      gone bound spare many.toNat d over = gone bound spare (many.toNat - i) (d + (i : Int)) over) (.inl hA) hR (smallM b3) ((rangeSize_nat _ _).trans (by simp)) hF hN ⟨t1, rfl, fun z hz => ?_, by simp⟩ ?_ ?_
  · by_cases q1 : z = Str.ofString "depth"
    · rw [q1, if_pos rfl, show d + ((0 : Nat) : Int) = d from by simp]; rfl
    · rw [if_neg q1]
      simp only [List.reverse_cons, List.reverse_nil, List.nil_append, List.cons_append, List.lookup_cons, beqF q1, List.lookup_nil]
  · rintro i t m₁ news₁ hp tk own hi hadr hoff ⟨td, rfl, hm, hg⟩ F' N'
    rw [map_none hm] at F'
    clear hR hN hF
    dsimp only [List.cons_append, List.nil_append] at N'
    (repeat' ((fail_if_success (with_reducible show wpAny _ _ (pyIter _) _ _ _)); (fail_if_success (with_reducible show wpAny _ _ (call (Value.ref _) _) _ _ _)); (fail_if_success (with_reducible show wpAny _ _ (exec (Stmt.Raise _ _ _) _) _ _ _)); (fail_if_success (with_reducible show wpAny _ _ (exec (Stmt.While _ _ _ _) _) _ _ _)); (fail_if_success (with_reducible show wpAny _ _ (exec (Stmt.Try _ _ _ _ _) _) _ _ _)); (fail_if_success (with_reducible show wpAny _ _ (call (Value.builtin "min") _ _) _ _ _)); (fail_if_success (with_reducible show wpAny _ _ (call (Value.builtin "max") _ _) _ _ _)); (fail_if_success (with_reducible show wpAny _ _ (eval (Expr.Lambda _ _ _ _) _) _ _ _)); (fail_if_success (with_reducible show InvPostN _ _ _ _ _ _ _ _ _)); first | walk1 | (dsimp only; walk1)))
    · rename Fr _ _ _ _ => hF
      rename News _ _ _ _ => hN
      have hov : over = true := by assumption
      have hge : bound + (bound.fdiv 8 + spare) ≤ d + (i : Int) := by assumption
      subst hov
      (show R _ _)
      refine h _ _ (d + (i : Int)) true .eie _ _ _ (G.ke0 hF) ?_ ⟨_, rfl⟩ (hN _ mm0).1 (G.new hN mm0 nm_nil)
      rw [hg, sub_step hi, gone, if_neg (by simp; omega)]
      rfl
    · rename Fr _ _ _ _ => hF
      rename News _ _ _ _ => hN
      have hov : over = true := by assumption
      have hge : ¬ bound + (bound.fdiv 8 + spare) ≤ d + (i : Int) := by assumption
      subst hov
      refine InvEndN.intro hF hN ⟨?tt, rfl, fun z hz => ?zz, ?gg⟩ rfl (fun _ hq => nomatch hq) (fun q hq => hq)
      case gg =>
        rw [hg, sub_step hi, gone, if_pos (by simp; omega)]
        congr 1
        push_cast
        omega
      case zz =>
        dsimp only
        by_cases q1 : z = Str.ofString "depth"
        · rw [if_pos q1, if_pos q1, show d + ((i + 1 : Nat) : Int) = d + (i : Int) + 1 from by push_cast; omega]
        · rw [if_neg q1, if_neg q1, if_neg hz, if_neg q1]
    · rename Fr _ _ _ _ => hF
      rename News _ _ _ _ => hN
      have hov : over = false := by assumption
      have hge : bound + 0 ≤ d + (i : Int) := by assumption
      subst hov
      (show R _ _)
      refine h _ _ (d + (i : Int)) true .full _ _ _ (G.ke0 hF) ?_ ⟨_, rfl⟩ (hN _ mm0).1 (G.new hN mm0 nm_nil)
      rw [hg, sub_step hi, gone, if_neg (by simp; omega)]
      rfl
    · rename Fr _ _ _ _ => hF
      rename News _ _ _ _ => hN
      have hov : over = false := by assumption
      have hge : ¬ bound + 0 ≤ d + (i : Int) := by assumption
      subst hov
      refine InvEndN.intro hF hN ⟨?tt2, rfl, fun z hz => ?zz2, ?gg2⟩ rfl (fun _ hq => nomatch hq) (fun q hq => hq)
      case gg2 =>
        rw [hg, sub_step hi, gone, if_pos (by simp; omega)]
        congr 1
        push_cast
        omega
      case zz2 =>
        dsimp only
        by_cases q1 : z = Str.ofString "depth"
        · rw [if_pos q1, if_pos q1, show d + ((i + 1 : Nat) : Int) = d + (i : Int) + 1 from by push_cast; omega]
        · rw [if_neg q1, if_neg q1, if_neg hz, if_neg q1]
  · rintro m₁ nx hp tk ⟨td, rfl, hm, hg⟩ F' N'
    rw [← done_none hm] at F'
    (repeat' ((fail_if_success (with_reducible show wpAny _ _ (pyIter _) _ _ _)); (fail_if_success (with_reducible show wpAny _ _ (call (Value.ref _) _) _ _ _)); (fail_if_success (with_reducible show wpAny _ _ (exec (Stmt.Raise _ _ _) _) _ _ _)); (fail_if_success (with_reducible show wpAny _ _ (exec (Stmt.While _ _ _ _) _) _ _ _)); (fail_if_success (with_reducible show wpAny _ _ (exec (Stmt.Try _ _ _ _ _) _) _ _ _)); (fail_if_success (with_reducible show wpAny _ _ (call (Value.builtin "min") _ _) _ _ _)); (fail_if_success (with_reducible show wpAny _ _ (call (Value.builtin "max") _ _) _ _ _)); (fail_if_success (with_reducible show wpAny _ _ (eval (Expr.Lambda _ _ _ _) _) _ _ _)); (fail_if_success (with_reducible show InvPostN _ _ _ _ _ _ _ _ _)); first | walk1 | (dsimp only; walk1)))
    rename Fr _ _ _ _ => hF
    rename News _ _ _ _ => hN
    (show R _ _)
    refine h _ _ _ over .none _ _ _ (G.ke0 hF) ?_ rfl (hN _ mm0).1 (G.new hN mm0 nm_nil)
    rw [hg, Nat.sub_self]
    rfl
end


end
theorem off_D3 : True := by
  w_top off
  exact True.intro
section
def resV (res : Res) (v : Value) (c : Int) : Prop := match res with
  | .nothing => v = .none ∧ c = 0
  | .err bs ih => (∃ t, v = .bytes bs t) ∧ c = (if ih then 5 else 2)
  | .num n => (∃ t, v = .int n t) ∧ c = 2
theorem fr_bytes {g h : Heap} {L : Addr} {m : Str → Option Value} (_F : Fr g L h m) (x : Str) (bs : Array UInt8) (e : ∃ t, m x = some (.bytes bs t)) : ∃ t, m x = some (.bytes bs t) := e
theorem gone_true {bound spare : Int} {n : Nat} {d : Int} {b : Bool} {z : Int} {c : Bool} {o : Out} (h : gone bound spare n d b = (z, c, o)) (ho : o ≠ .none) : c = true := by
  induction n generalizing d with
  | zero => rw [gone] at h; cases h; exact absurd rfl ho
  | succ n ih =>
    rw [gone] at h
    by_cases q : d < (if b then bound + Int.fdiv bound 8 + spare else bound)
    · rw [if_pos q] at h
      exact ih h
    · rw [if_neg q] at h
      cases h
      rfl
theorem ask_of {bound spare : Int} {ns : List Int} {z : Int} {b : Bool} {v : Array UInt8} {as : List (Array UInt8 × Int)} {n : Option Int} (h : told bound spare ns 2 [] v z b = (as, n)) :
    askOf bound spare (some ns) z b v = (as, match n with | some n => .num n | none => .err eieB true) := by
  unfold askOf
  simp only [h]
  cases n <;> rfl
theorem gone_ge {bound spare : Int} {n : Nat} {d : Int} {b : Bool} {z : Int} {c : Bool} {o : Out} (h : gone bound spare n d b = (z, c, o)) : d ≤ z := by
  induction n generalizing d with
  | zero => rw [gone] at h; cases h; omega
  | succ n ih =>
    rw [gone] at h
    by_cases q : d < (if b then bound + Int.fdiv bound 8 + spare else bound)
    · rw [if_pos q] at h
      have := ih h
      omega
    · rw [if_neg q] at h
      cases h
      omega
inductive DI (la pl : Addr) (raises over : Bool) (many spare bound : Int) (t1 t2 t3 : Tok) (g : Heap) (L : Addr) (s : Shared) (ns : List Int) (vb0 : Array UInt8) (z : Int) (b : Bool) (n : Nat) (s' : Shared) : Prop where
  | mk (h' : Heap) (tk : Nat) (tz tv : Tok) (u : Option Value) (tq : Addr) (oq : Obj) (av : Array Value) (as : List (Array UInt8 × Int)) (ka : Nat) (vb : Array UInt8) (z' : Int) (b' : Bool) (e : s' = { s with heap := h', toks := tk })
      (F : Fr g L h' (fun y => if y = Str.ofString "later" then u else List.lookup y [(Str.ofString "value", Value.bytes vb tv), (Str.ofString "is_full", .bool b'), (Str.ofString "depth", .int z' tz), (Str.ofString "asked", .ref la), (Str.ofString "plan", .ref pl), (Str.ofString "raises", .bool raises), (Str.ofString "many", .int many t3), (Str.ofString "spare", .int spare t2), (Str.ofString "bound", .int bound t1), (Str.ofString "is_over", .bool over)]))
      (N : News g L h' [(tq, oq), (la, listOf av ka)]) (one : One tq oq av.toList as) (hto : told bound spare ns 2 [] vb0 z b = told bound spare ns n as vb z' b') (hz : 0 ≤ z') (hz' : z' ≤ 200 + 100 * (as.length : Int)) (hn : n + as.length = 2) (hn0 : 0 < n) (hb : n = 1 → b' = true) : DI la pl raises over many spare bound t1 t2 t3 g L s ns vb0 z b n s'
theorem m1_of {m k : Nat} {b : Bool} (h : m + 1 + k = 2) (hb : m + 1 = 1 → b = true) (hbf : b = false) : m = 1 := by
  rcases Nat.eq_zero_or_pos m with q | q
  · rw [q] at hb; rw [hb rfl] at hbf; cases hbf
  · omega
theorem len00 {k : Nat} (h : 1 + 1 + k = 2) : k = 0 := by omega
theorem join6 {α1 α2 α3 α4 α5 α6 : Type} {P : α1 → α2 → α3 → α4 → α5 → α6 → Prop} {G : Prop} (use : (∀ a1 a2 a3 a4 a5 a6, P a1 a2 a3 a4 a5 a6) → G) (key : ∀ a1 a2 a3 a4 a5 a6, P a1 a2 a3 a4 a5 a6) : G := use key
theorem genTk {M : Model} {A : Around} {α : Type} {t : Sem α} {Q : α → Shared → Prop} {E : Value → Shared → Prop} {s : Shared} {h : Heap} {n : Nat} (c : ∀ tk, wpAny M A t Q E { s with heap := h, toks := tk }) : wpAny M A t Q E { s with heap := h, toks := n } := c n
theorem genOb {g h : Heap} {L tq : Addr} {oq : Obj} (d : h.get? tq = some oq ∧ tq ≠ L ∧ g.get? tq = none) (e : oq.cls = .type "tuple") {C : Prop} (c : ∀ tq oq, (h.get? tq = some oq ∧ tq ≠ L ∧ g.get? tq = none) → oq.cls = .type "tuple" → C) : C := c tq oq d e
inductive PlAt (h : Heap) (pv : Value) (plan : Option (List Int)) : Prop where
  | no (e1 : pv = .none) (e2 : plan = none) : PlAt h pv plan
  | yes (pl : Addr) (vs : List Value) (ns : List Int) (e1 : pv = .ref pl) (e2 : plan = some ns) (x : h.IsList pl vs.toArray) (i : IntsAre vs ns) (n : ns.length ≤ 9) (b : ∀ x ∈ ns, 0 ≤ x ∧ x ≤ 100) : PlAt h pv plan
section
variable {hn : Nat} {prog : Program} {w : World} {p : Program} {loose : List Str} {mean : ExcName → Option Value} {mg mb : Str → Option Value} {A : Around} {base : Heap} {l : List Env} {s : Shared} {R : Result → Shared → Prop} {Q : Value → Shared → Prop} {E : Value → Shared → Prop}
theorem due_spec (P : Pre (Mine.hd.heap_39 w.params) p loose mean mg mb A base l s.heap (hn + 2)) (hA : A.handled = none) {bound spare many : Int} {over raises : Bool} {t1 t2 t3 : Tok} {pv : Value} {plan : Option (List Int)}
    (hp : PlAt s.heap pv plan)
    (b1 : 0 ≤ bound ∧ bound ≤ 100) (b2 : 0 ≤ spare ∧ spare ≤ 100) (b3 : 0 ≤ many ∧ many ≤ 100)
    (h : ∀ h' r la av ka as res v c t tk, Kept [] [] s.heap h' → dueOf bound spare many.toNat raises plan 1 over = (as, res) → resV res v c → h'.get? r = some { cls := .type "tuple", data := .seq #[.ref la, v, .int c t] } → h'.get? la = some (listOf av ka) → AskedAre h' av.toList as → s.heap.get? r = none → s.heap.get? la = none → R (.ok (.ret (.ref r))) { s with heap := h', toks := tk }) :
    codeAny (model prog w) A (.call (.ref 167) ⟨[.bool over, .int bound t1, .int spare t2, .int many t3, .bool raises, pv], []⟩) R s := by
  refine' enter P [] [(Str.ofString "is_over", .bool over), (Str.ofString "bound", .int bound t1), (Str.ofString "spare", .int spare t2), (Str.ofString "many", .int many t3), (Str.ofString "raises", .bool raises), (Str.ofString "plan", pv)] (fun _ hm => nomatch hm) ?k6 ?k7 ?k9 ?kB ?_ ?c2 ?c3 ?c4 ?c5
  case k6 => k_is
  case k7 => k_is
  case k9 => exact BindsTo.of_eq rfl
  case kB => exact locs rfl
  case c2 => exact rfl
  case c3 => exact rfl
  case c4 => exact rfl
  case c5 => decide
  intro g L h₁ G F kp hL B D X T
  try dsimp only
  k_fold
  have N : News g L h₁ [] := News.nil
  clear kp
  (repeat' ((fail_if_success (with_reducible show wpAny _ _ (pyIter _) _ _ _)); (fail_if_success (with_reducible show wpAny _ _ (call (Value.ref _) _) _ _ _)); (fail_if_success (with_reducible show wpAny _ _ (exec (Stmt.Raise _ _ _) _) _ _ _)); (fail_if_success (with_reducible show wpAny _ _ (exec (Stmt.While _ _ _ _) _) _ _ _)); (fail_if_success (with_reducible show wpAny _ _ (exec (Stmt.Try _ _ _ _ _) _) _ _ _)); (fail_if_success (with_reducible show wpAny _ _ (call (Value.builtin "min") _ _) _ _ _)); (fail_if_success (with_reducible show wpAny _ _ (call (Value.builtin "max") _ _) _ _ _)); (fail_if_success (with_reducible show wpAny _ _ (eval (Expr.Lambda _ _ _ _) _) _ _ _)); (fail_if_success (with_reducible show InvPostN _ _ _ _ _ _ _ _ _)); first | walk1 | (dsimp only; walk1)))
  rename Addr => la
  rename Fr _ _ _ _ => F2
  rename News _ _ _ _ => N2
  refine wpAny_call (lawgone_spec (pre_call P B D F2 rfl rfl) hA (by decide) (wd b1) (wd b2) (wd b3) fun h3 r z b o v t tk3 kp3 hgo ho hr3 nr3 => ?_)
  have F3 := after_call0 F2 kp3 (fun _ hm => nomatch hm)
  have N3 := News.one (new_of0 F2 nr3 hr3) (News.kept0 N2 kp3 (fun _ _ => nm_nil))
  clear F2 N2 kp3
  try dsimp only
  (repeat' ((fail_if_success (with_reducible show wpAny _ _ (pyIter _) _ _ _)); (fail_if_success (with_reducible show wpAny _ _ (call (Value.ref _) _) _ _ _)); (fail_if_success (with_reducible show wpAny _ _ (exec (Stmt.Raise _ _ _) _) _ _ _)); (fail_if_success (with_reducible show wpAny _ _ (exec (Stmt.While _ _ _ _) _) _ _ _)); (fail_if_success (with_reducible show wpAny _ _ (exec (Stmt.Try _ _ _ _ _) _) _ _ _)); (fail_if_success (with_reducible show wpAny _ _ (call (Value.builtin "min") _ _) _ _ _)); (fail_if_success (with_reducible show wpAny _ _ (call (Value.builtin "max") _ _) _ _ _)); (fail_if_success (with_reducible show wpAny _ _ (eval (Expr.Lambda _ _ _ _) _) _ _ _)); (fail_if_success (with_reducible show InvPostN _ _ _ _ _ _ _ _ _)); first | walk1 | (dsimp only; walk1)))
  rename Fr _ _ _ _ => F4
  rename News _ _ _ _ => N4
  refine assign_TupleHN (.inl hA) F4 N4 (News.isTup N4 mm0) rfl rfl (fun h5 F5 N5 _ => ?_)
  clear F4 N4 hr3 nr3
  try dsimp only
  (repeat' ((fail_if_success (with_reducible show wpAny _ _ (pyIter _) _ _ _)); (fail_if_success (with_reducible show wpAny _ _ (call (Value.ref _) _) _ _ _)); (fail_if_success (with_reducible show wpAny _ _ (exec (Stmt.Raise _ _ _) _) _ _ _)); (fail_if_success (with_reducible show wpAny _ _ (exec (Stmt.While _ _ _ _) _) _ _ _)); (fail_if_success (with_reducible show wpAny _ _ (exec (Stmt.Try _ _ _ _ _) _) _ _ _)); (fail_if_success (with_reducible show wpAny _ _ (call (Value.builtin "min") _ _) _ _ _)); (fail_if_success (with_reducible show wpAny _ _ (call (Value.builtin "max") _ _) _ _ _)); (fail_if_success (with_reducible show wpAny _ _ (eval (Expr.Lambda _ _ _ _) _) _ _ _)); (fail_if_success (with_reducible show InvPostN _ _ _ _ _ _ _ _ _)); first | walk1 | (dsimp only; walk1)))
  rename Fr _ _ _ _ => F6
  rename News _ _ _ _ => N6
  try dsimp only
  refine assign_TupleHN (.inl hA) F6 N6 (News.isTup N6 mm1) rfl rfl (fun h7 F7 N7 _ => ?_)
  clear F6 N6
  try dsimp only
  have hz := gone_le hgo
  have hzb : 0 ≤ z ∧ z ≤ 200 := by
    have := gone_ge hgo
    omega
  have hplg : ∀ {pl vs}, s.heap.IsList pl vs → g.IsList pl vs := fun q => G.isList q nm_nil
  have lal : s.heap.get? la = none := G.new N7 mm2 nm_nil
  rcases hp with ⟨rfl, rfl⟩ | ⟨pl, vs, ns, rfl, rfl, hpl, hpi, hpn, hpx⟩
  · cases o with
    | none =>
      cases ho
      (repeat' ((fail_if_success (with_reducible show wpAny _ _ (pyIter _) _ _ _)); (fail_if_success (with_reducible show wpAny _ _ (call (Value.ref _) _) _ _ _)); (fail_if_success (with_reducible show wpAny _ _ (exec (Stmt.Raise _ _ _) _) _ _ _)); (fail_if_success (with_reducible show wpAny _ _ (exec (Stmt.While _ _ _ _) _) _ _ _)); (fail_if_success (with_reducible show wpAny _ _ (exec (Stmt.Try _ _ _ _ _) _) _ _ _)); (fail_if_success (with_reducible show wpAny _ _ (call (Value.builtin "min") _ _) _ _ _)); (fail_if_success (with_reducible show wpAny _ _ (call (Value.builtin "max") _ _) _ _ _)); (fail_if_success (with_reducible show wpAny _ _ (eval (Expr.Lambda _ _ _ _) _) _ _ _)); (fail_if_success (with_reducible show InvPostN _ _ _ _ _ _ _ _ _)); first | walk1 | (dsimp only; walk1)))
      · (show R _ _)
        rename Fr _ _ _ _ => hF
        rename News _ _ _ _ => hN
        have hrs : raises = true := by assumption
        refine h _ _ la _ _ _ _ _ _ _ (G.ke0 hF) ?_ (res := .err ownB false) ⟨⟨_, rfl⟩, rfl⟩ (hN _ mm0).1 (hN _ mm3).1 .nil (G.new hN mm0 nm_nil) lal
        unfold dueOf; rw [hgo, hrs]; rfl
      · (show R _ _)
        rename Fr _ _ _ _ => hF
        rename News _ _ _ _ => hN
        have hrs : raises = false := by assumption
        refine h _ _ la _ _ _ _ _ _ _ (G.ke0 hF) ?_ (res := .nothing) ⟨rfl, rfl⟩ (hN _ mm0).1 (hN _ mm3).1 .nil (G.new hN mm0 nm_nil) lal
        unfold dueOf; rw [hgo, hrs]; rfl
    | full =>
      obtain ⟨tb, rfl⟩ := ho
      (repeat' ((fail_if_success (with_reducible show wpAny _ _ (pyIter _) _ _ _)); (fail_if_success (with_reducible show wpAny _ _ (call (Value.ref _) _) _ _ _)); (fail_if_success (with_reducible show wpAny _ _ (exec (Stmt.Raise _ _ _) _) _ _ _)); (fail_if_success (with_reducible show wpAny _ _ (exec (Stmt.While _ _ _ _) _) _ _ _)); (fail_if_success (with_reducible show wpAny _ _ (exec (Stmt.Try _ _ _ _ _) _) _ _ _)); (fail_if_success (with_reducible show wpAny _ _ (call (Value.builtin "min") _ _) _ _ _)); (fail_if_success (with_reducible show wpAny _ _ (call (Value.builtin "max") _ _) _ _ _)); (fail_if_success (with_reducible show wpAny _ _ (eval (Expr.Lambda _ _ _ _) _) _ _ _)); (fail_if_success (with_reducible show InvPostN _ _ _ _ _ _ _ _ _)); first | walk1 | (dsimp only; walk1)))
      (show R _ _)
      rename Fr _ _ _ _ => hF
      rename News _ _ _ _ => hN
      refine h _ _ la _ _ _ _ _ _ _ (G.ke0 hF) ?_ (res := .err fullB false) ⟨⟨_, rfl⟩, rfl⟩ (hN _ mm0).1 (hN _ mm3).1 .nil (G.new hN mm0 nm_nil) lal
      unfold dueOf; rw [hgo]; try rfl
    | eie =>
      obtain ⟨tb, rfl⟩ := ho
      (repeat' ((fail_if_success (with_reducible show wpAny _ _ (pyIter _) _ _ _)); (fail_if_success (with_reducible show wpAny _ _ (call (Value.ref _) _) _ _ _)); (fail_if_success (with_reducible show wpAny _ _ (exec (Stmt.Raise _ _ _) _) _ _ _)); (fail_if_success (with_reducible show wpAny _ _ (exec (Stmt.While _ _ _ _) _) _ _ _)); (fail_if_success (with_reducible show wpAny _ _ (exec (Stmt.Try _ _ _ _ _) _) _ _ _)); (fail_if_success (with_reducible show wpAny _ _ (call (Value.builtin "min") _ _) _ _ _)); (fail_if_success (with_reducible show wpAny _ _ (call (Value.builtin "max") _ _) _ _ _)); (fail_if_success (with_reducible show wpAny _ _ (eval (Expr.Lambda _ _ _ _) _) _ _ _)); (fail_if_success (with_reducible show InvPostN _ _ _ _ _ _ _ _ _)); first | walk1 | (dsimp only; walk1)))
      (show R _ _)
      rename Fr _ _ _ _ => hF
      rename News _ _ _ _ => hN
      refine h _ _ la _ _ _ _ _ _ _ (G.ke0 hF) ?_ (res := .err eieB true) ⟨⟨_, rfl⟩, rfl⟩ (hN _ mm0).1 (hN _ mm3).1 .nil (G.new hN mm0 nm_nil) lal
      unfold dueOf; rw [hgo]; try rfl
  · revert o v
    refine' join6 (α1 := Heap) (α2 := Nat) (α3 := Array UInt8) (α4 := Tok) (α5 := Addr) (α6 := Obj) ?use ?key
    case use =>
      intro key o v hgo ho N7
      cases o
      case' eie =>
        obtain ⟨tb, rfl⟩ := ho
        (repeat' ((fail_if_success (with_reducible show wpAny _ _ (pyIter _) _ _ _)); (fail_if_success (with_reducible show wpAny _ _ (call (Value.ref _) _) _ _ _)); (fail_if_success (with_reducible show wpAny _ _ (exec (Stmt.Raise _ _ _) _) _ _ _)); (fail_if_success (with_reducible show wpAny _ _ (exec (Stmt.While _ _ _ _) _) _ _ _)); (fail_if_success (with_reducible show wpAny _ _ (exec (Stmt.Try _ _ _ _ _) _) _ _ _)); (fail_if_success (with_reducible show wpAny _ _ (call (Value.builtin "min") _ _) _ _ _)); (fail_if_success (with_reducible show wpAny _ _ (call (Value.builtin "max") _ _) _ _ _)); (fail_if_success (with_reducible show wpAny _ _ (eval (Expr.Lambda _ _ _ _) _) _ _ _)); (fail_if_success (with_reducible show InvPostN _ _ _ _ _ _ _ _ _)); first | walk1 | (dsimp only; walk1)))
        (show R _ _)
        rename Fr _ _ _ _ => hF
        rename News _ _ _ _ => hN
        refine h _ _ la _ _ _ _ _ _ _ (G.ke0 hF) ?_ (res := .err eieB true) ⟨⟨_, rfl⟩, rfl⟩ (hN _ mm0).1 (hN _ mm3).1 .nil (G.new hN mm0 nm_nil) lal
        unfold dueOf; rw [hgo]; try rfl
      case' none =>
        cases ho
        (repeat' ((fail_if_success (with_reducible show wpAny _ _ (pyIter _) _ _ _)); (fail_if_success (with_reducible show wpAny _ _ (call (Value.ref _) _) _ _ _)); (fail_if_success (with_reducible show wpAny _ _ (exec (Stmt.Raise _ _ _) _) _ _ _)); (fail_if_success (with_reducible show wpAny _ _ (exec (Stmt.While _ _ _ _) _) _ _ _)); (fail_if_success (with_reducible show wpAny _ _ (exec (Stmt.Try _ _ _ _ _) _) _ _ _)); (fail_if_success (with_reducible show wpAny _ _ (call (Value.builtin "min") _ _) _ _ _)); (fail_if_success (with_reducible show wpAny _ _ (call (Value.builtin "max") _ _) _ _ _)); (fail_if_success (with_reducible show wpAny _ _ (eval (Expr.Lambda _ _ _ _) _) _ _ _)); (fail_if_success (with_reducible show InvPostN _ _ _ _ _ _ _ _ _)); first | walk1 | (dsimp only; walk1)))
        rotate_left
        · (show R _ _)
          rename Fr _ _ _ _ => hF
          rename News _ _ _ _ => hN
          have hrs : raises = false := by assumption
          refine h _ _ la _ _ _ _ _ _ _ (G.ke0 hF) ?_ (res := .nothing) ⟨rfl, rfl⟩ (hN _ mm0).1 (hN _ mm3).1 .nil (G.new hN mm0 nm_nil) lal
          unfold dueOf; rw [hgo, hrs]; rfl
        have hrs : raises = true := by assumption
        obtain ⟨vb0, hvb, hdue⟩ : ∃ vb0, vb0 = ownB ∧ dueOf bound spare many.toNat raises (some ns) 1 over = askOf bound spare (some ns) z b vb0 := ⟨_, rfl, by unfold dueOf; rw [hgo, hrs]; rfl⟩
      case' full =>
        obtain ⟨tb, rfl⟩ := ho
        (repeat' ((fail_if_success (with_reducible show wpAny _ _ (pyIter _) _ _ _)); (fail_if_success (with_reducible show wpAny _ _ (call (Value.ref _) _) _ _ _)); (fail_if_success (with_reducible show wpAny _ _ (exec (Stmt.Raise _ _ _) _) _ _ _)); (fail_if_success (with_reducible show wpAny _ _ (exec (Stmt.While _ _ _ _) _) _ _ _)); (fail_if_success (with_reducible show wpAny _ _ (exec (Stmt.Try _ _ _ _ _) _) _ _ _)); (fail_if_success (with_reducible show wpAny _ _ (call (Value.builtin "min") _ _) _ _ _)); (fail_if_success (with_reducible show wpAny _ _ (call (Value.builtin "max") _ _) _ _ _)); (fail_if_success (with_reducible show wpAny _ _ (eval (Expr.Lambda _ _ _ _) _) _ _ _)); (fail_if_success (with_reducible show InvPostN _ _ _ _ _ _ _ _ _)); first | walk1 | (dsimp only; walk1)))
        obtain ⟨vb0, hvb, hdue⟩ : ∃ vb0, vb0 = fullB ∧ dueOf bound spare many.toNat raises (some ns) 1 over = askOf bound spare (some ns) z b vb0 := ⟨_, rfl, by unfold dueOf; rw [hgo]⟩
      all_goals (
        rename Fr _ _ _ _ => F8
        rename News _ _ _ _ => N8
        have d1 := N8 _ mm2
        obtain ⟨tv0, htv0⟩ := fr_bytes F8 (Str.ofString "value") vb0 (by rw [hvb]; exact ⟨_, rfl⟩)
        rename Heap => hX
        have F8' : Fr g L hX (fun y => if y = Str.ofString "later" then none else List.lookup y [(Str.ofString "value", Value.bytes vb0 tv0), (Str.ofString "is_full", .bool b), (Str.ofString "depth", .int z t), (Str.ofString "asked", .ref la), (Str.ofString "plan", .ref pl), (Str.ofString "raises", .bool raises), (Str.ofString "many", .int many t3), (Str.ofString "spare", .int spare t2), (Str.ofString "bound", .int bound t1), (Str.ofString "is_over", .bool over)]) := by
          refine cast (congrArg (Fr g L _) ?_) F8
          funext y
          by_cases q0 : y = Str.ofString "value"
          · rw [q0]; exact htv0
          by_cases q1 : y = Str.ofString "is_full"
          · rw [q1]; rfl
          by_cases q2 : y = Str.ofString "depth"
          · rw [q2]; rfl
          by_cases q3 : y = Str.ofString "asked"
          · rw [q3]; rfl
          by_cases q4 : y = Str.ofString "later"
          · rw [q4]; rfl
          simp only [if_neg q0, if_neg q1, if_neg q2, if_neg q3, if_neg q4, List.reverse_cons, List.reverse_nil, List.nil_append, List.cons_append, List.lookup_cons, beqF q0, beqF q1, beqF q2, beqF q3]
        refine genOb (N8 _ mm0) rfl fun tq oq d0 hq0 => ?_
        clear N8 F8 hvb htv0
        refine genTk fun tkX => ?_
        revert hdue; revert d1; revert hq0; revert d0; revert F8'
        exact key hX tkX vb0 tv0 tq oq)
    case key =>
      intro hX tkX vb0 tv0 tq0 oq0 F8 d0 hq0 d1 hdue
      refine while_opq (DI la pl raises over many spare bound t1 t2 t3 g L s ns vb0 z b) 2 ?_ ?_
      · exact ⟨_, _, t, tv0, none, _, _, #[], [], 0, vb0, z, b, rfl, F8, News.one d0 (News.one d1 News.nil), ⟨hq0, .inl ⟨rfl, rfl⟩⟩, rfl, hzb.1, by simpa using hzb.2, rfl, by decide, fun q => by cases q⟩
      · rintro n s' ⟨h', tk', tz, tv, u, tq, oq, av, as, ka, vb, z', b', rfl, F9, N9, one9, hto9, hz9, hz9', hn9, hn0, hb9⟩ QN hQN
        clear F8 d0 d1 hq0
        have hav : av.size ≤ 9 := by
          have := (One.at one9 (nGet N9 mm0)).length
          rw [Array.length_toList] at this
          rw [this]; exact hA0 hn9 hn0
        have tl : @Ne Nat tq la := ne_objc (nGet N9 mm0) (nGet N9 mm1) (by first | exact tupI one9.1 | exact tupD one9.1 | exact tupL one9.1 | exact tupT one9.1 | (rw [one9.1]; simp))
        have hpl' := hplg hpl
        (repeat' ((fail_if_success (with_reducible show wpAny _ _ (pyIter _) _ _ _)); (fail_if_success (with_reducible show wpAny _ _ (call (Value.ref _) _) _ _ _)); (fail_if_success (with_reducible show wpAny _ _ (exec (Stmt.Raise _ _ _) _) _ _ _)); (fail_if_success (with_reducible show wpAny _ _ (exec (Stmt.While _ _ _ _) _) _ _ _)); (fail_if_success (with_reducible show wpAny _ _ (exec (Stmt.Try _ _ _ _ _) _) _ _ _)); (fail_if_success (with_reducible show wpAny _ _ (call (Value.builtin "min") _ _) _ _ _)); (fail_if_success (with_reducible show wpAny _ _ (call (Value.builtin "max") _ _) _ _ _)); (fail_if_success (with_reducible show wpAny _ _ (eval (Expr.Lambda _ _ _ _) _) _ _ _)); (fail_if_success (with_reducible show InvPostN _ _ _ _ _ _ _ _ _)); first | walk1 | (dsimp only; walk1)))
        rename Fr _ _ _ _ => F10
        rename News _ _ _ _ => N10
        rename IntsAre _ (ns ++ [0]) => hI
        refine min_two_HN (.inl hA) F10 N10 (fun h11 tk11 t11 F11 N11 _ => ?_)
        clear F10 N10
        try dsimp only
        refine item_plan (News.isList N11 mm0) hI hpn hav (fun t12 => ?_)
        have hN12 : ∃ tu, News g L h11 [(tu, { cls := .type "tuple", data := .seq #[.bytes vb tv, .int z' tz] }), (tq, oq), (la, listOf (av.push (.ref tu)) (ka + 1))] := ⟨_, News.sub N11 (fun p hp => .tail _ (.tail _ hp))⟩
        clear N11
        obtain ⟨tu, N12⟩ := hN12
        try dsimp only
        (repeat' ((fail_if_success (with_reducible show wpAny _ _ (pyIter _) _ _ _)); (fail_if_success (with_reducible show wpAny _ _ (call (Value.ref _) _) _ _ _)); (fail_if_success (with_reducible show wpAny _ _ (exec (Stmt.Raise _ _ _) _) _ _ _)); (fail_if_success (with_reducible show wpAny _ _ (exec (Stmt.While _ _ _ _) _) _ _ _)); (fail_if_success (with_reducible show wpAny _ _ (exec (Stmt.Try _ _ _ _ _) _) _ _ _)); (fail_if_success (with_reducible show wpAny _ _ (call (Value.builtin "min") _ _) _ _ _)); (fail_if_success (with_reducible show wpAny _ _ (call (Value.builtin "max") _ _) _ _ _)); (fail_if_success (with_reducible show wpAny _ _ (eval (Expr.Lambda _ _ _ _) _) _ _ _)); (fail_if_success (with_reducible show InvPostN _ _ _ _ _ _ _ _ _)); first | walk1 | (dsimp only; walk1)))
        have hpa := planAt_leM (M := 100) (by decide) (fun x hx => hpx x hx) av.size
        refine wpAny_call (lawgone_spec (pre_call P B D F11 rfl rfl) hA (by omega) (wd b1) (wd b2) (wd hpa) fun h13 r2 z2 b2' o2 v2 t13 tk13 kp13 hgo13 ho13 hr13 nr13 => ?_)
        have F13 := after_call0 F11 kp13 (fun _ hm => nomatch hm)
        have N13 := News.one (new_of0 F11 nr13 hr13) (News.kept0 N12 kp13 (fun _ _ => nm_nil))
        clear F11 N12 kp13 hr13 nr13
        try dsimp only
        (repeat' ((fail_if_success (with_reducible show wpAny _ _ (pyIter _) _ _ _)); (fail_if_success (with_reducible show wpAny _ _ (call (Value.ref _) _) _ _ _)); (fail_if_success (with_reducible show wpAny _ _ (exec (Stmt.Raise _ _ _) _) _ _ _)); (fail_if_success (with_reducible show wpAny _ _ (exec (Stmt.While _ _ _ _) _) _ _ _)); (fail_if_success (with_reducible show wpAny _ _ (exec (Stmt.Try _ _ _ _ _) _) _ _ _)); (fail_if_success (with_reducible show wpAny _ _ (call (Value.builtin "min") _ _) _ _ _)); (fail_if_success (with_reducible show wpAny _ _ (call (Value.builtin "max") _ _) _ _ _)); (fail_if_success (with_reducible show wpAny _ _ (eval (Expr.Lambda _ _ _ _) _) _ _ _)); (fail_if_success (with_reducible show InvPostN _ _ _ _ _ _ _ _ _)); first | walk1 | (dsimp only; walk1)))
        refine assign_TupleHN (.inl hA) F13 N13 (News.isTup N13 mm0) rfl rfl (fun h14 F14 N14 _ => ?_)
        clear F13 N13
        try dsimp only
        have hlen : av.size = as.length := by
          have := (One.at one9 (nGet N14 mm2)).length
          rwa [Array.length_toList] at this
        rw [hlen] at hgo13
        have hge13 := gone_ge hgo13
        have hle13 := gone_le hgo13
        obtain ⟨m, rfl⟩ : ∃ m, n = m + 1 := pred_of hn0
        cases o2
        · cases ho13
          (repeat' ((fail_if_success (with_reducible show wpAny _ _ (pyIter _) _ _ _)); (fail_if_success (with_reducible show wpAny _ _ (call (Value.ref _) _) _ _ _)); (fail_if_success (with_reducible show wpAny _ _ (exec (Stmt.Raise _ _ _) _) _ _ _)); (fail_if_success (with_reducible show wpAny _ _ (exec (Stmt.While _ _ _ _) _) _ _ _)); (fail_if_success (with_reducible show wpAny _ _ (exec (Stmt.Try _ _ _ _ _) _) _ _ _)); (fail_if_success (with_reducible show wpAny _ _ (call (Value.builtin "min") _ _) _ _ _)); (fail_if_success (with_reducible show wpAny _ _ (call (Value.builtin "max") _ _) _ _ _)); (fail_if_success (with_reducible show wpAny _ _ (eval (Expr.Lambda _ _ _ _) _) _ _ _)); (fail_if_success (with_reducible show InvPostN _ _ _ _ _ _ _ _ _)); first | walk1 | (dsimp only; walk1)))
          refine hQN _ _ ?_
          (show R _ _)
          rename Fr _ _ _ _ => hF
          rename News _ _ _ _ => hN
          refine h _ _ la _ _ (as ++ [(vb, z')]) _ _ _ _ (G.ke0 hF) ?_ (res := .num ((as.length + 1 : Nat) : Int)) ⟨⟨_, by rw [hlen]; rfl⟩, rfl⟩ (hN _ mm0).1 (hN _ mm4).1 ?_ (G.new hN mm0 nm_nil) lal
          · rw [hdue]
            exact ask_of (n := some _) (by rw [hto9, told, hgo13])
          · rw [Array.toList_push]
            exact .snoc (One.at one9 (hN _ mm3).1) ⟨_, (hN _ mm2).1, rfl, _, rfl⟩
        · obtain ⟨tb2, rfl⟩ := ho13
          (repeat' ((fail_if_success (with_reducible show Exists _)); (fail_if_success (with_reducible show wpAny _ _ (pyIter _) _ _ _)); (fail_if_success (with_reducible show wpAny _ _ (call (Value.ref _) _) _ _ _)); (fail_if_success (with_reducible show wpAny _ _ (exec (Stmt.Raise _ _ _) _) _ _ _)); (fail_if_success (with_reducible show wpAny _ _ (exec (Stmt.While _ _ _ _) _) _ _ _)); (fail_if_success (with_reducible show wpAny _ _ (exec (Stmt.Try _ _ _ _ _) _) _ _ _)); (fail_if_success (with_reducible show wpAny _ _ (call (Value.builtin "min") _ _) _ _ _)); (fail_if_success (with_reducible show wpAny _ _ (call (Value.builtin "max") _ _) _ _ _)); (fail_if_success (with_reducible show wpAny _ _ (eval (Expr.Lambda _ _ _ _) _) _ _ _)); (fail_if_success (with_reducible show InvPostN _ _ _ _ _ _ _ _ _)); first | walk1 | (dsimp only; walk1)))
          rename Fr _ _ _ _ => hF
          rename News _ _ _ _ => hN
          obtain ⟨_, gf2, _⟩ := gone_full hgo13
          have hbf : b' = false := gf2 rfl
          have hm1 : m = 1 := m1_of hn9 hb9 hbf
          subst hm1
          obtain rfl : as = [] := List.length_eq_zero_iff.mp (len00 hn9)
          obtain rfl : av = #[] := Array.size_eq_zero_iff.mp hlen
          have hb2 : b2' = true := gone_true hgo13 nofun
          subst hb2
          refine hQN _ _ ?_
          show ∃ m, _ ∧ _
          refine ⟨1, by decide, _, _, t13, tb2, some (.int z2 t13), tu, _, #[.ref tu], [(vb, z')], ka + 1, fullB, z2, true, rfl, ?_, News.one (hN (_, _) mm1) (News.one (hN (_, _) mm3) News.nil), ⟨rfl, .inr ⟨vb, z', tv, tz, _, rfl, rfl, rfl⟩⟩, ?_, by omega, ?_, rfl, by decide, fun _ => rfl⟩
          · refine cast (congrArg (Fr g L _) ?_) hF
            funext y
            by_cases q0 : y = Str.ofString "depth"
            · rw [q0]; rfl
            by_cases q1 : y = Str.ofString "value"
            · rw [q1]; rfl
            by_cases q2 : y = Str.ofString "is_full"
            · rw [q2]; rfl
            by_cases q3 : y = Str.ofString "later"
            · rw [q3]; rfl
            simp only [if_neg q0, if_neg q1, if_neg q2, if_neg q3, List.lookup_cons, beqF q0, beqF q1, beqF q2]
          · rw [hto9, told, hgo13]
            rfl
          · simp only [List.length_singleton, List.length_nil] at hz9' hle13 hpa ⊢
            have hpa2 := (planAt_leM (M := 100) (by decide) (fun x hx => hpx x hx) 0).2
            omega
        · obtain ⟨tb2, rfl⟩ := ho13
          (repeat' ((fail_if_success (with_reducible show wpAny _ _ (pyIter _) _ _ _)); (fail_if_success (with_reducible show wpAny _ _ (call (Value.ref _) _) _ _ _)); (fail_if_success (with_reducible show wpAny _ _ (exec (Stmt.Raise _ _ _) _) _ _ _)); (fail_if_success (with_reducible show wpAny _ _ (exec (Stmt.While _ _ _ _) _) _ _ _)); (fail_if_success (with_reducible show wpAny _ _ (exec (Stmt.Try _ _ _ _ _) _) _ _ _)); (fail_if_success (with_reducible show wpAny _ _ (call (Value.builtin "min") _ _) _ _ _)); (fail_if_success (with_reducible show wpAny _ _ (call (Value.builtin "max") _ _) _ _ _)); (fail_if_success (with_reducible show wpAny _ _ (eval (Expr.Lambda _ _ _ _) _) _ _ _)); (fail_if_success (with_reducible show InvPostN _ _ _ _ _ _ _ _ _)); first | walk1 | (dsimp only; walk1)))
          refine hQN _ _ ?_
          (show R _ _)
          rename Fr _ _ _ _ => hF
          rename News _ _ _ _ => hN
          refine h _ _ la _ _ (as ++ [(vb, z')]) _ _ _ _ (G.ke0 hF) ?_ (res := .err eieB true) ⟨⟨_, rfl⟩, rfl⟩ (hN _ mm0).1 (hN _ mm4).1 ?_ (G.new hN mm0 nm_nil) lal
          · rw [hdue]
            exact ask_of (n := none) (by rw [hto9, told, hgo13])
          · rw [Array.toList_push]
            exact .snoc (One.at one9 (hN _ mm3).1) ⟨_, (hN _ mm2).1, rfl, _, rfl⟩
end


end
theorem off_U1 : True := by
  w_top off
  exact True.intro
section
section
variable {hn : Nat} {prog : Program} {w : World} {p : Program} {loose : List Str} {mean : ExcName → Option Value} {mg mb : Str → Option Value} {A : Around} {base : Heap} {l : List Env} {s : Shared} {R : Result → Shared → Prop} {Q : Value → Shared → Prop} {E : Value → Shared → Prop}
theorem unwound_spec (P : Pre (Mine.hd.heap_39 w.params) p loose mean mg mb A base l s.heap hn) {fl : Addr} {fr : Array Value} {k : Nat} {t1 : Tok} {pre ext : List Value} (hfl : s.heap.get? fl = some (listOf fr k)) (bfl : Loose base l s.heap fl) (hfr : fr.toList = pre ++ ext) (hsz : fr.size ≤ 1000)
    (h : ∀ h' fr' k' tk, Kept [fl] [] s.heap h' → h'.get? fl = some (listOf fr' k') → fr'.toList = pre → R (.ok (.ret .none)) { s with heap := h', toks := tk }) :
    codeAny (model prog w) A (.call (.ref 35) ⟨[.ref fl, .int (pre.length : Int) t1], []⟩) R s := by
  refine' enter P [fl] [(Str.ofString "frames", .ref fl), (Str.ofString "depth", .int (pre.length : Int) t1)] (loose1 bfl) ?k6 ?k7 ?k9 ?kB ?_ ?c2 ?c3 ?c4 ?c5
  case k6 => k_is
  case k7 => k_is
  case k9 => exact BindsTo.of_eq rfl
  case kB => exact locs rfl
  case c2 => exact rfl
  case c3 => exact rfl
  case c4 => exact rfl
  case c5 => decide
  intro g L h₁ G F kp hL B D X T
  try dsimp only
  k_fold
  have N := G.news1 kp hfl mm0 News.nil
  clear kp
  have hl : ext.length ≤ 1000 := by
    have := congrArg List.length hfr
    rw [List.length_append, Array.length_toList] at this
    omega
  have hpl : pre.length ≤ 1000 := by
    have := congrArg List.length hfr
    rw [List.length_append, Array.length_toList] at this
    omega
  (repeat' ((fail_if_success (with_reducible show wpAny _ _ (pyIter _) _ _ _)); (fail_if_success (with_reducible show wpAny _ _ (call (Value.ref _) _) _ _ _)); (fail_if_success (with_reducible show wpAny _ _ (exec (Stmt.Raise _ _ _) _) _ _ _)); (fail_if_success (with_reducible show wpAny _ _ (exec (Stmt.While _ _ _ _) _) _ _ _)); (fail_if_success (with_reducible show wpAny _ _ (exec (Stmt.Try _ _ _ _ _) _) _ _ _)); (fail_if_success (with_reducible show wpAny _ _ (call (Value.builtin "min") _ _) _ _ _)); (fail_if_success (with_reducible show wpAny _ _ (call (Value.builtin "max") _ _) _ _ _)); (fail_if_success (with_reducible show wpAny _ _ (eval (Expr.Lambda _ _ _ _) _) _ _ _)); (fail_if_success (with_reducible show InvPostN _ _ _ _ _ _ _ _ _)); first | walk1 | (dsimp only; walk1)))
  refine while_quiet (n₀ := ext.length) (fun n m₁ nx => ∃ fr' k' ext', m₁ = (fun y => List.lookup y [(Str.ofString "frames", Value.ref fl), (Str.ofString "depth", Value.int (pre.length : Int) t1)].reverse) ∧ nx = [(fl, listOf fr' k')] ∧ fr'.toList = pre ++ ext' ∧ ext'.length = n ∧ n ≤ 1000) F N ⟨fr, k, ext, rfl, rfl, hfr, rfl, hl⟩ ?_
  rintro n m₁ nx h7 tk7 F7 N7 ⟨fr7, k7, ext7, rfl, rfl, hext7, hn7, hle7⟩
  have hsz7 : fr7.size = pre.length + n := by
    have := congrArg List.length hext7
    simpa [hn7] using this
  have hsm7 : fr7.size ≤ 3000 := lw1 (by omega) hle7 hsz7
  clear F N
  (repeat' ((fail_if_success (with_reducible show wpAny _ _ (pyIter _) _ _ _)); (fail_if_success (with_reducible show wpAny _ _ (call (Value.ref _) _) _ _ _)); (fail_if_success (with_reducible show wpAny _ _ (exec (Stmt.Raise _ _ _) _) _ _ _)); (fail_if_success (with_reducible show wpAny _ _ (exec (Stmt.While _ _ _ _) _) _ _ _)); (fail_if_success (with_reducible show wpAny _ _ (exec (Stmt.Try _ _ _ _ _) _) _ _ _)); (fail_if_success (with_reducible show wpAny _ _ (call (Value.builtin "min") _ _) _ _ _)); (fail_if_success (with_reducible show wpAny _ _ (call (Value.builtin "max") _ _) _ _ _)); (fail_if_success (with_reducible show wpAny _ _ (eval (Expr.Lambda _ _ _ _) _) _ _ _)); (fail_if_success (with_reducible show InvPostN _ _ _ _ _ _ _ _ _)); first | walk1 | (dsimp only; walk1)))
  · have hpos : 0 < ext7.length := lw3 (by assumption) hn7
    obtain ⟨p7, y7, rfl⟩ : ∃ p y, ext7 = p ++ [y] := by
      rcases List.eq_nil_or_concat ext7 with rfl | ⟨p, y, rfl⟩
      · cases hpos
      · exact ⟨p, y, by simp⟩
    rename News _ _ _ _ => N7
    try dsimp only
    refine kl_pop F7 N7 (p := pre ++ p7) (y := y7) ?pe (.head all_nil) ?pz (fun h8 F8 N8 => ?_)
    case pe => rw [hext7, ← List.append_assoc]; exact kpa_last _ _
    case pz => rw [Array.length_toList, PySem.sizeLine_eq]; omega
    clear F7 N7
    try dsimp only
    (repeat' ((fail_if_success (with_reducible show wpAny _ _ (pyIter _) _ _ _)); (fail_if_success (with_reducible show wpAny _ _ (call (Value.ref _) _) _ _ _)); (fail_if_success (with_reducible show wpAny _ _ (exec (Stmt.Raise _ _ _) _) _ _ _)); (fail_if_success (with_reducible show wpAny _ _ (exec (Stmt.While _ _ _ _) _) _ _ _)); (fail_if_success (with_reducible show wpAny _ _ (exec (Stmt.Try _ _ _ _ _) _) _ _ _)); (fail_if_success (with_reducible show wpAny _ _ (call (Value.builtin "min") _ _) _ _ _)); (fail_if_success (with_reducible show wpAny _ _ (call (Value.builtin "max") _ _) _ _ _)); (fail_if_success (with_reducible show wpAny _ _ (eval (Expr.Lambda _ _ _ _) _) _ _ _)); (fail_if_success (with_reducible show InvPostN _ _ _ _ _ _ _ _ _)); first | walk1 | (dsimp only; walk1)))
    exact WhileStep.intro F8 N8 (n' := p7.length) (lw5 hn7) ⟨_, _, p7, rfl, rfl, by simp, rfl, lw4 hn7 hle7⟩
  · have hz7 : ext7 = [] := List.length_eq_zero_iff.mp (lw2 (by assumption) hn7)
    subst hz7
    rename News _ _ _ _ => N7
    (repeat' ((fail_if_success (with_reducible show wpAny _ _ (pyIter _) _ _ _)); (fail_if_success (with_reducible show wpAny _ _ (call (Value.ref _) _) _ _ _)); (fail_if_success (with_reducible show wpAny _ _ (exec (Stmt.Raise _ _ _) _) _ _ _)); (fail_if_success (with_reducible show wpAny _ _ (exec (Stmt.While _ _ _ _) _) _ _ _)); (fail_if_success (with_reducible show wpAny _ _ (exec (Stmt.Try _ _ _ _ _) _) _ _ _)); (fail_if_success (with_reducible show wpAny _ _ (call (Value.builtin "min") _ _) _ _ _)); (fail_if_success (with_reducible show wpAny _ _ (call (Value.builtin "max") _ _) _ _ _)); (fail_if_success (with_reducible show wpAny _ _ (eval (Expr.Lambda _ _ _ _) _) _ _ _)); (fail_if_success (with_reducible show InvPostN _ _ _ _ _ _ _ _ _)); first | walk1 | (dsimp only; walk1)))
    (show R _ _)
    rw [List.append_nil] at hext7
    exact h _ fr7 _ _ (G.ke0 F7) (nGet N7 mm0) hext7

theorem status_none (P : Pre (Mine.hd.heap_39 w.params) p loose mean mg mb A base l s.heap hn) (h : ∀ h' t tk, Kept [] [] s.heap h' → R (.ok (.ret (.int 0 t))) { s with heap := h', toks := tk }) :
    codeAny (model prog w) A (.call (.ref 104) ⟨[.none], []⟩) R s := by
  refine' enter P [] [(Str.ofString "error", .none)] (fun _ hm => nomatch hm) ?k6 ?k7 ?k9 ?kB ?_ ?c2 ?c3 ?c4 ?c5
  case k6 => k_is
  case k7 => k_is
  case k9 => exact BindsTo.of_eq rfl
  case kB => exact locs rfl
  case c2 => exact rfl
  case c3 => exact rfl
  case c4 => exact rfl
  case c5 => decide
  intro g L h₁ G F kp hL B D X T
  try dsimp only
  k_fold
  have N : News g L h₁ [] := News.nil
  clear kp
  (repeat' ((fail_if_success (with_reducible show wpAny _ _ (pyIter _) _ _ _)); (fail_if_success (with_reducible show wpAny _ _ (call (Value.ref _) _) _ _ _)); (fail_if_success (with_reducible show wpAny _ _ (exec (Stmt.Raise _ _ _) _) _ _ _)); (fail_if_success (with_reducible show wpAny _ _ (exec (Stmt.While _ _ _ _) _) _ _ _)); (fail_if_success (with_reducible show wpAny _ _ (exec (Stmt.Try _ _ _ _ _) _) _ _ _)); (fail_if_success (with_reducible show wpAny _ _ (call (Value.builtin "min") _ _) _ _ _)); (fail_if_success (with_reducible show wpAny _ _ (call (Value.builtin "max") _ _) _ _ _)); (fail_if_success (with_reducible show wpAny _ _ (eval (Expr.Lambda _ _ _ _) _) _ _ _)); (fail_if_success (with_reducible show InvPostN _ _ _ _ _ _ _ _ _)); first | walk1 | (dsimp only; walk1)))
  (show R _ _)
  rename Fr _ _ _ _ => hF
  exact h _ _ _ (G.ke0 hF)

theorem status_err (P : Pre (Mine.hd.heap_39 w.params) p loose mean mg mb A base l s.heap hn) {e d : Addr} {v : Value} {ih : Bool} (x : Err w e d v ih s.heap) (be : Loose base l s.heap e) (bd : Loose base l s.heap d) (h : ∀ h' t tk, Kept [] [] s.heap h' → R (.ok (.ret (.int (if ih then 5 else 2) t))) { s with heap := h', toks := tk }) :
    codeAny (model prog w) A (.call (.ref 104) ⟨[.ref e], []⟩) R s := by
  obtain ⟨⟨vs, sl, he, _⟩, tr, k1, k2, k3, hd⟩ := x
  refine' enter P [e, d] [(Str.ofString "error", .ref e)] (looseC be (loose1 bd)) ?k6 ?k7 ?k9 ?kB ?_ ?c2 ?c3 ?c4 ?c5
  case k6 => k_is
  case k7 => k_is
  case k9 => exact BindsTo.of_eq rfl
  case kB => exact locs rfl
  case c2 => exact rfl
  case c3 => exact rfl
  case c4 => exact rfl
  case c5 => decide
  intro g L h₁ G F kp hL B D X T
  try dsimp only
  k_fold
  have ed : @Ne Nat e d := ne_obj he hd (fun q => by cases q)
  have N := G.news1 kp he mm0 (G.news1 kp hd mm1 News.nil)
  clear kp
  cases ih
  · (repeat' ((fail_if_success (with_reducible show wpAny _ _ (pyIter _) _ _ _)); (fail_if_success (with_reducible show wpAny _ _ (call (Value.ref _) _) _ _ _)); (fail_if_success (with_reducible show wpAny _ _ (exec (Stmt.Raise _ _ _) _) _ _ _)); (fail_if_success (with_reducible show wpAny _ _ (exec (Stmt.While _ _ _ _) _) _ _ _)); (fail_if_success (with_reducible show wpAny _ _ (exec (Stmt.Try _ _ _ _ _) _) _ _ _)); (fail_if_success (with_reducible show wpAny _ _ (call (Value.builtin "min") _ _) _ _ _)); (fail_if_success (with_reducible show wpAny _ _ (call (Value.builtin "max") _ _) _ _ _)); (fail_if_success (with_reducible show wpAny _ _ (eval (Expr.Lambda _ _ _ _) _) _ _ _)); (fail_if_success (with_reducible show InvPostN _ _ _ _ _ _ _ _ _)); first | walk1 | (dsimp only; walk1)))
    (show R _ _)
    rename Fr _ _ _ _ => hF
    rename News _ _ _ _ => hN
    exact h _ _ _ ((G.ke0 hF).tight (tightC (.inr (tight_old he (hN _ mm0).1)) (tightC (.inr (tight_old hd (hN _ mm1).1)) tightN)))
  · (repeat' ((fail_if_success (with_reducible show wpAny _ _ (pyIter _) _ _ _)); (fail_if_success (with_reducible show wpAny _ _ (call (Value.ref _) _) _ _ _)); (fail_if_success (with_reducible show wpAny _ _ (exec (Stmt.Raise _ _ _) _) _ _ _)); (fail_if_success (with_reducible show wpAny _ _ (exec (Stmt.While _ _ _ _) _) _ _ _)); (fail_if_success (with_reducible show wpAny _ _ (exec (Stmt.Try _ _ _ _ _) _) _ _ _)); (fail_if_success (with_reducible show wpAny _ _ (call (Value.builtin "min") _ _) _ _ _)); (fail_if_success (with_reducible show wpAny _ _ (call (Value.builtin "max") _ _) _ _ _)); (fail_if_success (with_reducible show wpAny _ _ (eval (Expr.Lambda _ _ _ _) _) _ _ _)); (fail_if_success (with_reducible show InvPostN _ _ _ _ _ _ _ _ _)); first | walk1 | (dsimp only; walk1)))
    (show R _ _)
    rename Fr _ _ _ _ => hF
    rename News _ _ _ _ => hN
    exact h _ _ _ ((G.ke0 hF).tight (tightC (.inr (tight_old he (hN _ mm0).1)) (tightC (.inr (tight_old hd (hN _ mm1).1)) tightN)))
end


end
theorem off_U2 : True := by
  w_top off
  exact True.intro
section
section
variable {hn : Nat} {prog : Program} {w : World} {p : Program} {loose : List Str} {mean : ExcName → Option Value} {mg mb : Str → Option Value} {A : Around} {base : Heap} {l : List Env} {s : Shared} {R : Result → Shared → Prop} {Q : Value → Shared → Prop} {E : Value → Shared → Prop}
theorem closed_spec (P : Pre (Mine.hd.heap_39 w.params) p loose mean mg mb A base l s.heap hn) {x dx st ou fl : Addr} {kk : Nat → Tok} {ans : Value} {over : Bool} {cc hd tp lv : Int} {t1 t2 t3 t4 : Tok} {ko : Nat}
    (hx : s.heap.get? x = some (instObj 52 dx)) (hdx : s.heap.get? dx = some (dictOf (holdEs w kk st ou ans over fl cc hd tp t1 t2 t3) 8)) (hou : s.heap.get? ou = some (listOf #[] ko))
    (bx : Loose base l s.heap x) (bdx : Loose base l s.heap dx) (bou : Loose base l s.heap ou)
    (h : ∀ h' r kr tk, Kept [] [] s.heap h' → h'.get? r = some (listOf #[] kr) → s.heap.get? r = none → R (.ok (.ret (.ref r))) { s with heap := h', toks := tk }) :
    codeAny (model prog w) A (.call (.ref 63) ⟨[.ref x, .int lv t4], []⟩) R s := by
  refine' enter P [x, dx, ou] [(Str.ofString "owner", .ref x), (Str.ofString "level", .int lv t4)] (looseC bx (looseC bdx (loose1 bou))) ?k6 ?k7 ?k9 ?kB ?_ ?c2 ?c3 ?c4 ?c5
  case k6 => k_is
  case k7 => k_is
  case k9 => exact BindsTo.of_eq rfl
  case kB => exact locs rfl
  case c2 => exact rfl
  case c3 => exact rfl
  case c4 => exact rfl
  case c5 => decide
  intro g L h₁ G F kp hL B D X T
  try dsimp only
  k_fold
  have xd : @Ne Nat x dx := ne_objc hx hdx (by first | exact cID | exact cIL | exact cIT | exact cDL | exact cDT | exact cLT | simp)
  have xo : @Ne Nat x ou := ne_objc hx hou (by first | exact cID | exact cIL | exact cIT | exact cDL | exact cDT | exact cLT | simp)
  have dxo : @Ne Nat dx ou := ne_objc hdx hou (by first | exact cID | exact cIL | exact cIT | exact cDL | exact cDT | exact cLT | simp)
  have N := G.news1 kp hx mm0 (G.news1 kp hdx mm1 (G.news1 kp hou mm2 News.nil))
  clear kp
  (repeat' ((fail_if_success (with_reducible show wpAny _ _ (pyIter _) _ _ _)); (fail_if_success (with_reducible show wpAny _ _ (call (Value.ref _) _) _ _ _)); (fail_if_success (with_reducible show wpAny _ _ (exec (Stmt.Raise _ _ _) _) _ _ _)); (fail_if_success (with_reducible show wpAny _ _ (exec (Stmt.While _ _ _ _) _) _ _ _)); (fail_if_success (with_reducible show wpAny _ _ (exec (Stmt.Try _ _ _ _ _) _) _ _ _)); (fail_if_success (with_reducible show wpAny _ _ (call (Value.builtin "min") _ _) _ _ _)); (fail_if_success (with_reducible show wpAny _ _ (call (Value.builtin "max") _ _) _ _ _)); (fail_if_success (with_reducible show wpAny _ _ (eval (Expr.Lambda _ _ _ _) _) _ _ _)); (fail_if_success (with_reducible show InvPostN _ _ _ _ _ _ _ _ _)); first | walk1 | (dsimp only; walk1)))
  refine while_any (fun _ s' => s' = _) 1 rfl ?_
  rintro n s' rfl
  (repeat' ((fail_if_success (with_reducible show wpAny _ _ (pyIter _) _ _ _)); (fail_if_success (with_reducible show wpAny _ _ (call (Value.ref _) _) _ _ _)); (fail_if_success (with_reducible show wpAny _ _ (exec (Stmt.Raise _ _ _) _) _ _ _)); (fail_if_success (with_reducible show wpAny _ _ (exec (Stmt.While _ _ _ _) _) _ _ _)); (fail_if_success (with_reducible show wpAny _ _ (exec (Stmt.Try _ _ _ _ _) _) _ _ _)); (fail_if_success (with_reducible show wpAny _ _ (call (Value.builtin "min") _ _) _ _ _)); (fail_if_success (with_reducible show wpAny _ _ (call (Value.builtin "max") _ _) _ _ _)); (fail_if_success (with_reducible show wpAny _ _ (eval (Expr.Lambda _ _ _ _) _) _ _ _)); (fail_if_success (with_reducible show InvPostN _ _ _ _ _ _ _ _ _)); first | walk1 | (dsimp only; walk1)))
  (show R _ _)
  rename Fr _ _ _ _ => hF
  rename News _ _ _ _ => hN
  have KK := (G.ke0 hF).tight (M := []) (tightC (.inr (tight_old hx (hN _ mm1).1)) (tightC (.inr (tight_old hdx (hN _ mm2).1)) (tightC (.inr (tight_old hou (hN _ mm3).1)) tightN)))
  have q1 := hN _ mm0
  have q2 := hN _ mm1
  have q3 := hN _ mm2
  have q4 := hN _ mm3
  exact h _ _ _ _ KK q1.1 (G.new hN mm0 (nm_cons (ne_objc q1.1 q2.1 (by first | exact cID | exact cIL | exact cIT | exact cDL | exact cDT | exact cLT | simp)) (nm_cons (ne_objc q1.1 q3.1 (by first | exact cID | exact cIL | exact cIT | exact cDL | exact cDT | exact cLT | simp)) (nm_cons (Ne.symm (ne_led (by assumption) (by k_mem))) nm_nil))))
end


end
theorem off_U3 : True := by
  w_top off
  exact True.intro
section
section
variable {hn : Nat} {prog : Program} {w : World} {p : Program} {loose : List Str} {mean : ExcName → Option Value} {mg mb : Str → Option Value} {A : Around} {base : Heap} {l : List Env} {s : Shared} {R : Result → Shared → Prop} {Q : Value → Shared → Prop} {E : Value → Shared → Prop}
theorem back_spec (P : Pre (Mine.hd.heap_39 w.params) p loose mean mg mb A base l s.heap (hn + 2)) {x dx st ou fl : Addr} {kk : Nat → Tok} {ans : Value} {over : Bool} {cc hd tp : Int} {t1 t2 t3 u1 u2 u3 u4 : Tok} {ko k : Nat} {fr : Array Value} {v0 : Value} {ext : List Value}
    (hx : s.heap.get? x = some (instObj 52 dx)) (hdx : s.heap.get? dx = some (dictOf (holdEs w kk st ou ans over fl cc hd tp t1 t2 t3) 8)) (hou : s.heap.get? ou = some (listOf #[] ko)) (hfl : s.heap.get? fl = some (listOf fr k)) (hfo : @Ne Nat fl ou) (hfr : fr.toList = v0 :: ext) (hsz : fr.size ≤ 1000)
    (bx : Loose base l s.heap x) (bdx : Loose base l s.heap dx) (bou : Loose base l s.heap ou) (bfl : Loose base l s.heap fl)
    (h : ∀ h' r kr fr' k' t1' t2' t3' tk, Kept [dx, fl] [] s.heap h' → h'.get? r = some (listOf #[] kr) → s.heap.get? r = none → h'.get? dx = some (dictOf (holdEs w kk st ou ans over fl 0 0 0 t1' t2' t3') 8) → h'.get? fl = some (listOf fr' k') → fr'.toList = [v0] → R (.ok (.ret (.ref r))) { s with heap := h', toks := tk }) :
    codeAny (model prog w) A (.call (.ref 125) ⟨[.ref x, .int 1 u1, .int 0 u2, .int 0 u3, .int 0 u4], []⟩) R s := by
  refine' enter P [x, dx, ou, fl] [(Str.ofString "holder", .ref x), (Str.ofString "depth", .int 1 u1), (Str.ofString "ccalls", .int 0 u2), (Str.ofString "handling", .int 0 u3), (Str.ofString "top", .int 0 u4)] (looseC bx (looseC bdx (looseC bou (loose1 bfl)))) ?k6 ?k7 ?k9 ?kB ?_ ?c2 ?c3 ?c4 ?c5
  case k6 => k_is
  case k7 => k_is
  case k9 => exact BindsTo.of_eq rfl
  case kB => exact locs rfl
  case c2 => exact rfl
  case c3 => exact rfl
  case c4 => exact rfl
  case c5 => decide
  intro g L h₁ G F kp hL B D X T
  try dsimp only
  k_fold
  have xd : @Ne Nat x dx := ne_objc hx hdx (by first | exact cID | exact cIL | exact cIT | exact cDL | exact cDT | exact cLT | simp)
  have xo : @Ne Nat x ou := ne_objc hx hou (by first | exact cID | exact cIL | exact cIT | exact cDL | exact cDT | exact cLT | simp)
  have xf : @Ne Nat x fl := ne_objc hx hfl (by first | exact cID | exact cIL | exact cIT | exact cDL | exact cDT | exact cLT | simp)
  have dxo : @Ne Nat dx ou := ne_objc hdx hou (by first | exact cID | exact cIL | exact cIT | exact cDL | exact cDT | exact cLT | simp)
  have dxf : @Ne Nat dx fl := ne_objc hdx hfl (by first | exact cID | exact cIL | exact cIT | exact cDL | exact cDT | exact cLT | simp)
  have N := G.news1 kp hx mm0 (G.news1 kp hdx mm1 (G.news1 kp hou mm2 (G.news1 kp hfl mm3 News.nil)))
  clear kp
  (repeat' ((fail_if_success (with_reducible show wpAny _ _ (pyIter _) _ _ _)); (fail_if_success (with_reducible show wpAny _ _ (call (Value.ref _) _) _ _ _)); (fail_if_success (with_reducible show wpAny _ _ (exec (Stmt.Raise _ _ _) _) _ _ _)); (fail_if_success (with_reducible show wpAny _ _ (exec (Stmt.While _ _ _ _) _) _ _ _)); (fail_if_success (with_reducible show wpAny _ _ (exec (Stmt.Try _ _ _ _ _) _) _ _ _)); (fail_if_success (with_reducible show wpAny _ _ (call (Value.builtin "min") _ _) _ _ _)); (fail_if_success (with_reducible show wpAny _ _ (call (Value.builtin "max") _ _) _ _ _)); (fail_if_success (with_reducible show wpAny _ _ (eval (Expr.Lambda _ _ _ _) _) _ _ _)); (fail_if_success (with_reducible show InvPostN _ _ _ _ _ _ _ _ _)); first | walk1 | (dsimp only; walk1)))
  have m0 := N _ mm0
  have m1 := N _ mm1
  have m2 := N _ mm2
  have m3 := N _ mm3
  refine wpAny_call (closed_spec (pre_call P B D F rfl rfl) m0.1 m1.1 m2.1 (loose_of B rfl N mm0 rfl) (loose_of B rfl N mm1 rfl) (loose_of B rfl N mm2 rfl) fun h2 r kr tk2 kp2 hr2 nr2 => ?_)
  have F2 := after_call0 F kp2 (fun _ hm => nomatch hm)
  have N2 : News g L h2 [(x, instObj 52 dx), (dx, dictOf (holdEs w kk st ou ans over fl cc hd tp t1 t2 t3) 8), (ou, listOf #[] ko), (fl, listOf fr k), (r, listOf #[] kr)] := News.one (old_of0 N kp2 mm0 nm_nil) (News.one (old_of0 N kp2 mm1 nm_nil) (News.one (old_of0 N kp2 mm2 nm_nil) (News.one (old_of0 N kp2 mm3 nm_nil) (News.one (new_of0 F nr2 hr2) News.nil))))
  have rx : @Ne Nat x r := ne_new m0.1 nr2
  have rd : @Ne Nat dx r := ne_new m1.1 nr2
  have ro : @Ne Nat ou r := ne_new m2.1 nr2
  have rf : @Ne Nat fl r := ne_new m3.1 nr2
  clear F N m0 m1 m2 m3 kp2
  try dsimp only
  (repeat' ((fail_if_success (with_reducible show wpAny _ _ (pyIter _) _ _ _)); (fail_if_success (with_reducible show wpAny _ _ (call (Value.ref _) _) _ _ _)); (fail_if_success (with_reducible show wpAny _ _ (exec (Stmt.Raise _ _ _) _) _ _ _)); (fail_if_success (with_reducible show wpAny _ _ (exec (Stmt.While _ _ _ _) _) _ _ _)); (fail_if_success (with_reducible show wpAny _ _ (exec (Stmt.Try _ _ _ _ _) _) _ _ _)); (fail_if_success (with_reducible show wpAny _ _ (call (Value.builtin "min") _ _) _ _ _)); (fail_if_success (with_reducible show wpAny _ _ (call (Value.builtin "max") _ _) _ _ _)); (fail_if_success (with_reducible show wpAny _ _ (eval (Expr.Lambda _ _ _ _) _) _ _ _)); (fail_if_success (with_reducible show InvPostN _ _ _ _ _ _ _ _ _)); first | walk1 | (dsimp only; walk1)))
  rename Fr _ _ _ _ => F3
  rename News _ _ _ _ => N3
  refine wpAny_call (unwound_spec (pre := [v0]) (pre_call P B D F3 rfl rfl) (nGet N3 mm3) (loose_of B rfl N3 mm3 rfl) hfr hsz fun h4 fr4 k4 tk4 kp4 hfl4 hfr4 => ?_)
  have F4 := after_call0 F3 kp4 (forall_cons ⟨(nOff N3 mm3), (nNeL N3 mm3)⟩ forall_nil)
  have N4 := News.kept1 (own := [_, _, _]) N3 kp4 hfl4 (all_cons xf (all_cons dxf (all_cons hfo.symm all_nil))) (all_cons rf.symm all_nil)
  dsimp only [List.cons_append, List.nil_append] at N4
  clear F3 N3 kp4 hfl4
  try dsimp only
  (repeat' ((fail_if_success (with_reducible show wpAny _ _ (pyIter _) _ _ _)); (fail_if_success (with_reducible show wpAny _ _ (call (Value.ref _) _) _ _ _)); (fail_if_success (with_reducible show wpAny _ _ (exec (Stmt.Raise _ _ _) _) _ _ _)); (fail_if_success (with_reducible show wpAny _ _ (exec (Stmt.While _ _ _ _) _) _ _ _)); (fail_if_success (with_reducible show wpAny _ _ (exec (Stmt.Try _ _ _ _ _) _) _ _ _)); (fail_if_success (with_reducible show wpAny _ _ (call (Value.builtin "min") _ _) _ _ _)); (fail_if_success (with_reducible show wpAny _ _ (call (Value.builtin "max") _ _) _ _ _)); (fail_if_success (with_reducible show wpAny _ _ (eval (Expr.Lambda _ _ _ _) _) _ _ _)); (fail_if_success (with_reducible show InvPostN _ _ _ _ _ _ _ _ _)); first | walk1 | (dsimp only; walk1)))
  (show R _ _)
  rename Fr _ _ _ _ => hF
  rename News _ _ _ _ => hN
  have KK := (G.ke0 hF).tight (M := [dx, fl]) (tightC (.inr (tight_old hx (hN _ mm0).1)) (tightC (.inl mm0) (tightC (.inr (tight_old hou (hN _ mm2).1)) (tightC (.inl mm1) tightN))))
  exact h _ r _ fr4 _ _ _ _ _ KK (hN _ mm4).1 (G.new hN mm4 (nm_cons rx.symm (nm_cons rd.symm (nm_cons ro.symm (nm_cons rf.symm nm_nil))))) (hN _ mm1).1 (hN _ mm3).1 hfr4
end


end
section
open PySem.SeqAt
section
variable {A : Around} {s : Shared}
theorem eqAt_bytes (b : Array UInt8) (t u : Tok) : EqAt A s (.bytes b t) (.bytes b u) true := fun prog w E Q h => by
  unfold eqBool
  refine wpAny_holding ?_
  refine wpAny_ite_split (fun _ => ?_) (fun _ => ?_)
  · exact wpAny_bind (wpAny_rule (wpAny_pure h))
  · refine wpAny_bind (richCompare_gives (typeIs_bytes s b t) (typeIs_bytes s b u) FB.slot_bytes_eq FB.entry_bytes_eq (FB.args_bytes_eq_2 _ _) (gives_bytes_eq b b t u) (fun x => nomatch x) ?_)
    have e : (b.toList == b.toList) = true := by simp
    rw [e]
    exact wpAny_truthy_bool h
theorem all_true (n : Nat) : (List.range n).all (fun _ => true) = true := List.all_eq_true.mpr fun _ _ => rfl
theorem eqAt_int (d : Int) (t u : Tok) : EqAt A s (.int d t) (.int d u) true := by
  have := EqAt.int_int (A := A) (s := s) d t d u
  simpa using this
theorem eqAt_tup {p q : Addr} {x y : Array Value} (hp : s.heap.IsTuple p x) (hq : s.heap.IsTuple q y) (hsz : x.size = y.size) (hu : A.units < cLine) (he : ∀ j (h1 : j < x.size) (h2 : j < y.size), EqAt A.in1 s x[j] y[j] true) : EqAt A s (.ref p) (.ref q) true := by
  by_cases h : p = q
  · rw [h]; exact EqAt.same _
  · refine EqAt.of_refs h ?_
    have := RcAt.tuples (e := fun _ => true) hp hq hu he
    rw [all_true, hsz] at this
    simpa using this
theorem eqAt_list {p q : Addr} {x y : Array Value} (hp : s.heap.IsList p x) (hq : s.heap.IsList q y) (hsz : x.size = y.size) (hu : A.units < cLine) (he : ∀ j (h1 : j < x.size) (h2 : j < y.size), EqAt A.in1 s x[j] y[j] true) : EqAt A s (.ref p) (.ref q) true := by
  by_cases h : p = q
  · rw [h]; exact EqAt.same _
  · refine EqAt.of_refs h ?_
    have := RcAt.lists (e := fun _ => true) hp hq hsz hu he
    rw [all_true] at this
    exact this
theorem AskedAre.at {h : Heap} {vs : List Value} {as : List (Array UInt8 × Int)} (x : AskedAre h vs as) : vs.length = as.length ∧ ∀ j (h1 : j < vs.length) (h2 : j < as.length), ∃ tu tb t, vs[j] = .ref tu ∧ IsTup h tu #[.bytes as[j].1 tb, .int as[j].2 t] := by
  induction x with
  | nil => exact ⟨rfl, fun j h1 => nomatch h1⟩
  | @snoc vs as tu b d tb t r x ih =>
    refine ⟨by simp [ih.1], fun j h1 h2 => ?_⟩
    by_cases q : j < vs.length
    · have q' : j < as.length := by rw [← ih.1]; exact q
      rw [List.getElem_append_left q, List.getElem_append_left q']
      exact ih.2 j q q'
    · have e : j = vs.length := by simp at h1; omega
      subst e
      refine ⟨tu, tb, t, by simp, ?_⟩
      have : (as ++ [(b, d)])[vs.length] = (b, d) := by simp [ih.1]
      rw [this]
      exact x
theorem in1_units : (A.in1).units = A.units + 1 := rfl
end
section
variable {prog : Program} {w : World} {A : Around} {E : Value → Shared → Prop} {s : Shared} {Q : Value → Shared → Prop}
theorem ne_list {a b : Addr} {x y : Array Value} (ha : s.heap.IsList a x) (hb : s.heap.IsList b y) (hsz : x.size = y.size) (hu : A.units < cLine) (he : ∀ j (h1 : j < x.size) (h2 : j < y.size), EqAt A.in1 s x[j] y[j] true) (h : Q (.bool false) s) :
    wpAny (model prog w) A (compareOp .NotEq (.ref a) (.ref b)) Q E s := by
  have := RcNeAt.lists (A := A) (e := fun _ => true) ha hb hsz hu he
  rw [all_true] at this
  exact this prog w E Q h
theorem ul1 {A : Around} (h : A.units + 3 < cLine) : A.in1.units < cLine := Nat.lt_of_le_of_lt (Nat.add_le_add_left (by decide : 1 ≤ 3) _) h
theorem ul2 {A : Around} (h : A.units + 3 < cLine) : A.in1.in1.units < cLine := Nat.lt_of_le_of_lt (Nat.add_le_add_left (by decide : 1 + 1 ≤ 3) _) h
theorem no2 (j : Nat) : ¬ (j + 1 + 1 < 2) := fun h => Nat.not_lt_zero j (Nat.lt_of_succ_lt_succ (Nat.lt_of_succ_lt_succ h))
theorem no3 (j : Nat) : ¬ (j + 1 + 1 + 1 < 3) := fun h => no2 j (Nat.lt_of_succ_lt_succ h)
theorem ne_due {a b la lb : Addr} {v1 v2 : Value} {c : Int} {t u : Tok} {av av2 : Array Value} {as : List (Array UInt8 × Int)} (ha : s.heap.IsTuple a #[.ref la, v1, .int c t]) (hb : s.heap.IsTuple b #[.ref lb, v2, .int c u]) (hu : A.units + 3 < cLine)
    (hla : s.heap.IsList la av) (hlb : s.heap.IsList lb av2) (xa : AskedAre s.heap av.toList as) (xb : AskedAre s.heap av2.toList as) (hv : ∀ A, EqAt A s v1 v2 true) (h : Q (.bool false) s) :
    wpAny (model prog w) A (compareOp .NotEq (.ref a) (.ref b)) Q E s := by
  have ra := xa.at
  have rb := xb.at
  have hsz : av.size = av2.size := by
    have := ra.1.trans rb.1.symm
    simpa using this
  have u1 := in1_units (A := A)
  have u2 := in1_units (A := A.in1)
  have hl : EqAt A.in1 s (.ref la) (.ref lb) true := eqAt_list hla hlb hsz (ul1 hu) fun j h1 h2 => by
    obtain ⟨p, tb, t, e1, x1⟩ := ra.2 j (by simpa using h1) (by rw [← ra.1]; simpa using h1)
    obtain ⟨q, tb', t', e2, x2⟩ := rb.2 j (by simpa using h2) (by rw [← rb.1]; simpa using h2)
    rw [Array.getElem_toList] at e1 e2
    rw [e1, e2]
    refine eqAt_tup x1 x2 rfl (ul2 hu) fun j h1 h2 => ?_
    rcases j with _ | _ | j
    · exact eqAt_bytes _ _ _
    · exact eqAt_int _ _ _
    · exact absurd h1 (no2 j)
  have := RcNeAt.tuples (A := A) (e := fun _ => true) ha hb (Nat.lt_of_le_of_lt (Nat.le_add_right _ 3) hu) fun j h1 h2 => by
    rcases j with _ | _ | _ | j
    · exact hl
    · exact hv _
    · exact eqAt_int _ _ _
    · exact absurd h1 (no3 j)
  rw [all_true] at this
  exact this prog w E Q h
end

end
section
inductive FoundIs (w : World) (res : Res) (rv : Value) (qe : Addr) (oe : Obj) (qd : Addr) (od : Obj) : Prop where
  | no (e1 : rv = .none) (e2 : res = .nothing) : FoundIs w res rv qe oe qd od
  | err (vs : Array Value) (sl : Array (Option Value)) (ih : Bool) (tr : Addr) (k1 k2 k3 : Tok) (bs : Array UInt8) (t : Tok) (e1 : rv = .ref qe) (e2 : oe = excObj 80 (some qd) vs sl) (hc : isCodeO oe = false) (e3 : od = dictOf (luaEs w (.bytes bs t) tr ih k1 k2 k3) 3) (e4 : res = .err bs ih) : FoundIs w res rv qe oe qd od
  | num (vs : Array Value) (sl : Array (Option Value)) (tr : Addr) (k1 k2 k3 : Tok) (n : Int) (t : Tok) (e1 : rv = .ref qe) (e2 : oe = excObj 80 (some qd) vs sl) (hc : isCodeO oe = false) (e3 : od = dictOf (luaEs w (.int n t) tr false k1 k2 k3) 3) (e4 : res = .num n) : FoundIs w res rv qe oe qd od
theorem found_ground {w : World} {res : Res} {rv : Value} {h₀ h g : Heap} {L dq : Addr} {od : Obj} {m₀ : Str → Option Value} (x : Found w res rv h₀ h) (F₀ : Fr g L h₀ m₀) (hdq : h.get? dq = some od ∧ dq ≠ L ∧ g.get? dq = none) :
    ∃ qe oe qd od', (h.get? qe = some oe ∧ qe ≠ L ∧ g.get? qe = none) ∧ (h.get? qd = some od' ∧ qd ≠ L ∧ g.get? qd = none) ∧ FoundIs w res rv qe oe qd od' := by
  cases res with
  | nothing => exact ⟨dq, od, dq, od, hdq, hdq, .no x rfl⟩
  | err bs ih =>
    obtain ⟨e, d, tb, r, ⟨⟨vs, sl, he, hc⟩, tr, k1, k2, k3, hd⟩, ne, nd⟩ := x
    exact ⟨e, _, d, _, new_of F₀ ne he (KtsTurn.refl (fs := [])), new_of F₀ nd hd (KtsTurn.refl (fs := [])), .err vs sl ih tr k1 k2 k3 bs tb r rfl hc rfl rfl⟩
  | num n =>
    obtain ⟨e, d, tb, r, ⟨⟨vs, sl, he, hc⟩, tr, k1, k2, k3, hd⟩, ne, nd⟩ := x
    exact ⟨e, _, d, _, new_of F₀ ne he (KtsTurn.refl (fs := [])), new_of F₀ nd hd (KtsTurn.refl (fs := [])), .num vs sl tr k1 k2 k3 n tb r rfl hc rfl rfl⟩
theorem found_groundC {w : World} {res : Res} {rv : Value} {h₀ h g : Heap} {L dq : Addr} {od : Obj} {m₀ : Str → Option Value} (x : Found w res rv h₀ h) (F₀ : Fr g L h₀ m₀) (hdq : h.get? dq = some od ∧ dq ≠ L ∧ g.get? dq = none) {C : Prop}
    (c : ∀ qe oe qd od', (h.get? qe = some oe ∧ qe ≠ L ∧ g.get? qe = none) → (h.get? qd = some od' ∧ qd ≠ L ∧ g.get? qd = none) → FoundIs w res rv qe oe qd od' → C) : C := by
  obtain ⟨a, b, d, e, f, i, j⟩ := found_ground x F₀ hdq
  exact c a b d e f i j
theorem told_len2 {bound spare : Int} {many : Nat} {raises : Bool} {plan : Option (List Int)} {d : Int} {over : Bool} {as : List (Array UInt8 × Int)} {res : Res} (h : dueOf bound spare many raises plan d over = (as, res)) : as.length ≤ 2 := by
  have ask : ∀ {z b v as res}, askOf bound spare plan z b v = (as, res) → as.length ≤ 2 := by
    intro z b v as res h
    unfold askOf at h
    cases plan with
    | none => simp only at h; cases h; simp
    | some p =>
      simp only at h
      generalize q : told bound spare p 2 [] v z b = r at h
      obtain ⟨as2, n⟩ := r
      have := told_len q
      simp at this
      cases n <;> (simp only at h; cases h; exact this)
  unfold dueOf at h
  generalize gone bound spare many d over = r at h
  obtain ⟨z, b, o⟩ := r
  cases o with
  | none =>
    simp only at h
    split at h
    · exact ask h
    · cases h; simp
  | full => exact ask h
  | eie => simp only at h; cases h; simp


end
section
theorem cut_evalS {M : Model} {A : Around} {e : Expr} {env : Env} {s : Shared} {Q E : Value → Shared → Prop} (Mid : Shared → Value → Shared → Prop) (h1 : wpAny M A (eval e env) (Mid s) E s) (h2 : ∀ v s', Mid s v s' → Q v s') : wpAny M A (eval e env) Q E s :=
  wpAny_mono h1 h2 fun _ _ e => e
theorem cut_callS {M : Model} {A : Around} {f : Value} {args : List Value} {s : Shared} {Q E : Value → Shared → Prop} (Mid : Shared → Value → Shared → Prop) (h1 : wpAny M A (call f args) (Mid s) E s) (h2 : ∀ v s', Mid s v s' → Q v s') : wpAny M A (call f args) Q E s :=
  wpAny_mono h1 h2 fun _ _ e => e


end
section
def Apart (a b : Addr) : Prop := @Ne Nat a b
theorem Apart.ne {a b : Addr} (x : Apart a b) : @Ne Nat a b := x

section
variable {prog : Program} {w : World} {A : Around} {E : Value → Shared → Prop} {s : Shared} {env : Env} {h₀ : Heap} {x : Str} {body : List Stmt} {Q : Flow → Shared → Prop}
inductive TurnEnd (h₀ : Heap) (L : Addr) (Jn : List (Addr × Obj) → Prop) (I : Addr) (oI : Obj) (s₁ s₂ : Shared) : Prop where
  | mk (h' : Heap) (tk : Nat) (m' : Str → Option Value) (nx : List (Addr × Obj)) (e : s₂ = { s₁ with heap := h', toks := tk }) (F : Fr h₀ L h' m') (N : News h₀ L h' ((I, oI) :: nx)) (o : ∀ p ∈ nx, p.1 ≠ I) (j : Jn nx) : TurnEnd h₀ L Jn I oI s₁ s₂
def TurnPost (h₀ : Heap) (L : Addr) (Jn : List (Addr × Obj) → Prop) (I : Addr) (oI : Obj) (s₁ : Shared) (Q : Flow → Shared → Prop) (f : Flow) (s₂ : Shared) : Prop := match f with
  | .ret v => Q (.ret v) s₂
  | .brk => Q .next s₂
  | _ => TurnEnd h₀ L Jn I oI s₁ s₂

theorem iter_rangeJ {r : Addr} {a₀ b₀ : Int} {t₀ u₀ v₀ : Tok} {n : Nat} {m₀ : Str → Option Value} {news : List (Addr × Obj)} (J : Nat → List (Addr × Obj) → Prop)
    (hh : A.handled = none) (hr : IsRange s.heap r a₀ b₀ 1 t₀ u₀ v₀) (hsmall : Builtin.Range.small a₀ b₀ 1 = true) (hn : Builtin.Range.rangeSize a₀ b₀ 1 = (n : Int)) (F : Fr h₀ env.locals s.heap m₀) (N : News h₀ env.locals s.heap news) (hj : J 0 news)
    (turn : ∀ (i : Nat) (t : Tok) (m₁ : Str → Option Value) (nx : List (Addr × Obj)) (h : Heap) (tk : Nat) (I : Addr) (oI : Obj), i < n → (oI.cls = .type "range_iterator" ∧ isCodeO oI = false) → (∀ p ∈ nx, p.1 ≠ I) → J i nx → Fr h₀ env.locals h (fun y => if y = x then some (.int (a₀ + (i : Int)) t) else m₁ y) → News h₀ env.locals h ((I, oI) :: nx) →
      wpAny (model prog w) A (execs body env) (TurnPost h₀ env.locals (J (i + 1)) I oI { s with heap := h, toks := tk } Q) E { s with heap := h, toks := tk })
    (done : ∀ (m₁ : Str → Option Value) (nx : List (Addr × Obj)) (h : Heap) (tk : Nat), J n nx → Fr h₀ env.locals h m₁ → News h₀ env.locals h nx → Q .next { s with heap := h, toks := tk }) :
    wpAny (model prog w) A (pyIter (.ref r)) (fun it s₂ => LoopAtV prog w A h₀ env x body Q E it s₂) E s := by
  refine wpAny_pyIter_range hr hsmall ?_
  have W : Walks prog w A s.heap.objs.size [s.heap.objs.size] [s.heap.objs.size] n (fun i v => i < n ∧ ∃ t, v = .int (a₀ + i * 1) t)
      (fun i h => IsRangeIter h s.heap.objs.size (a₀ + (i : Nat) * 1) ((n : Int) - (i : Nat)) 1) := (Walks.range hh _ a₀ 1 n).bound
  refine ⟨_, _, _, n, _, _, m₀, news, fun i _ nx => J i nx, rfl, W, ?_, ?_, ?_, ?_, F.push _, fun p hp => ⟨Heap.get?_push_of_some _ (N p hp).1, (N p hp).2⟩, hj, ?_, ?_⟩
  · intro hm
    exact absurd F.ns.lt ((List.mem_singleton.mp hm) ▸ Nat.lt_irrefl _)
  · intro b hb
    rw [List.mem_singleton.mp hb]
    exact next_is_new F
  · intro p hp hI
    exact absurd (Heap.lt_size (N p hp).1) ((List.mem_singleton.mp hI) ▸ Nat.lt_irrefl _)
  · show IsRangeIter _ _ _ _ _
    rw [hn]; simpa using Heap.get?_push_size _ rfl
  · rintro i v m₁ nx s₁ own ⟨hh', tk', rfl⟩ hin ⟨_, t, rfl⟩ hJ hoff hown hlive hmem hst' F₁ N₁
    have e1 : a₀ + (i : Int) * 1 = a₀ + (i : Int) := by omega
    rw [e1] at F₁
    obtain ⟨oI, hst2, hoc⟩ : ∃ oI, hh'.get? s.heap.objs.size = some oI ∧ (oI.cls = .type "range_iterator" ∧ isCodeO oI = false) := ⟨_, hst', rfl, rfl⟩
    have hI := hmem _ mm0 (next_is_new F) _ hst2
    have hoff' : ∀ p ∈ nx, p.1 ≠ s.heap.objs.size := fun p hp q => hoff p hp (by rw [q]; exact .head _)
    refine wpAny_mono (turn i t m₁ nx hh' tk' s.heap.objs.size oI hin hoc hoff' hJ F₁ (fun p hp => ?_)) (fun f s₂ p => ?_) fun _ _ e => e
    · rcases List.mem_cons.mp hp with rfl | hp
      · exact N₁ _ (List.mem_append.mpr (.inl hI))
      · exact N₁ p (List.mem_append.mpr (.inr hp))
    · have fin : TurnEnd h₀ env.locals (J (i + 1)) s.heap.objs.size oI { s with heap := hh', toks := tk' } s₂ →
          LoopStepU h₀ env.locals [s.heap.objs.size] own (fun _ nx => J (i + 1) nx) { s with heap := hh', toks := tk' } .next s₂ := by
        rintro ⟨h', tk, m', nx', e, F', N', ha, hm⟩
        refine ⟨rfl, h', tk, m', nx', e, F', fun p hp => ?_, fun p hp hq => ha p hp (List.mem_singleton.mp hq), hm⟩
        rcases List.mem_append.mp hp with hp | hp
        · have q1 := List.mem_singleton.mp (hown p hp)
          have q2 := hlive p hp
          have q3 := hlive _ hI
          obtain ⟨pa, po⟩ := p
          dsimp only at q1 q2 q3
          subst q1
          rw [q3] at q2
          cases q2
          exact N' _ mm0
        · exact N' p (.tail _ hp)
      cases f with
      | ret v => exact .ret p
      | brk => exact .brk p
      | next => exact .next (fin p)
      | cont => exact .cont (fin p)
  · rintro h' tk m' news' F' N' _ hJ
    exact done m' news' h' tk hJ F' N'

theorem comp_inv {elt : Expr} {scope : Scope} {cl : List (Str × Addr)} {m : Str → Option Value} {L : Addr} {S : List (Addr × Obj) → Prop} {P : Nat → Value → Prop} {Fin : List Value → List (Addr × Obj) → Prop} (J : List Value → List (Addr × Obj) → Prop) {n : Nat}
    (turn : ∀ i v I oI C oC D ys news h tk (E' : Value → Shared → Prop), i < n → P i v → ys.length = i → J ys news → Fr h₀ L h m → News h₀ L h ((I, oI) :: (C, oC) :: (D, LCg.lst ys) :: news) → LCg.Off3 I C D news → ((@Ne Nat I C) ∧ (@Ne Nat I D) ∧ (@Ne Nat C D)) →
      wpAny (model prog w) A (eval elt (compEnvC scope cl C env)) (LCg.CompEnd h₀ L m { s with heap := h, toks := tk } I oI C oC D (LCg.lst ys) S (fun y news' => J (ys ++ [y]) news')) E' { s with heap := h, toks := tk })
    (fin : ∀ ys news, ys.length = n → J ys news → Fin ys news) : ∀ k i ys news, i + k = n → ys.length = i → J ys news → LCg.CompRest prog w A h₀ L m env elt x scope cl s S P Fin k i ys news := by
  intro k
  induction k with
  | zero => intro i ys news hi hy hj; exact LCg.CompRest.zero (fin ys news (hy.trans hi) hj)
  | succ k ih =>
    intro i ys news hi hy hj
    refine LCg.CompRest.succ ?_
    intro v I oI C oC D m₂ h tk E' hv hC hx F N off ne
    refine wpAny_mono (turn i v I oI C oC D ys news h tk E' (hi ▸ Nat.lt_add_of_pos_right (Nat.succ_pos k)) hv hy hj F N off ne) (fun y s₂ hq => ?_) fun _ _ e => e
    obtain ⟨h', tk', nw, e, F', N', off', hS, hn⟩ := hq
    exact ⟨h', tk', nw, e, F', N', off', hS, ih (i + 1) _ _ (by rw [← hi, Nat.add_assoc, Nat.add_comm 1 k]) (by simp [hy]) hn⟩
end
theorem isList_listOf {g h : Heap} {L a : Addr} {news : List (Addr × Obj)} {vs : Array Value} {k : Nat} (N : News g L h news) (hm : (a, listOf vs k) ∈ news) : h.IsList a vs := ⟨_, (N _ hm).1, rfl, k, rfl⟩
section
variable {hn : Nat} {prog : Program} {w : World} {p : Program} {loose : List Str} {mean : ExcName → Option Value} {mg mb : Str → Option Value} {A : Around} {base : Heap} {l : List Env} {s : Shared} {R : Result → Shared → Prop} {Q : Value → Shared → Prop} {E : Value → Shared → Prop}
theorem next_at {g base h₀ : Heap} {A₀ : Around} {env : Env} {l : List Env} {L rl sl : Addr} {m : Str → Option Value} {vs : List Value} {ns : List Int} {c many : Int} {tc tm : Tok} {k k' n : Nat} {pre rest : List (Addr × Obj)} {Q : Value → Shared → Prop}
    (P : Pre (Mine.hd.heap_39 w.params) p loose mean mg mb A₀ base l h₀ (n + 1)) (B : Below A₀ base l g) (D : KtsDicts (fsOf l) g) (F : Fr g L s.heap m) (N : News g L s.heap (pre ++ (rl, listOf #[.ref sl, .int c tc] k) :: rest)) (hf : env.frame = some L) (hk : env.scope.kind = .function)
    (hs : (sl, listOf vs.toArray k') ∈ rest) (hi : IntsAre vs ns) (hlen : ns.length ≤ 63) (h1 : ∀ p ∈ pre, p.1 ≠ rl) (h2 : ∀ p ∈ rest, p.1 ≠ rl)
    (hc : 0 ≤ c ∧ c ≤ 1000000) (hm : 0 < many ∧ many ≤ 1000)
    (h : ∀ h' r tr tc' tk, Fr g L h' m → News g L h' (pre ++ (rl, listOf #[.ref sl, .int (c + 1) tc'] k) :: rest) → 0 ≤ r → r < many → Q (.int r tr) { s with heap := h', toks := tk }) :
    wpAny (model prog w) (A₀.deeper env) (call (.ref 132) [.ref rl, .int many tm]) Q E s := by
  have hmr : (rl, listOf #[.ref sl, .int c tc] k) ∈ pre ++ (rl, listOf #[.ref sl, .int c tc] k) :: rest := List.mem_append.mpr (.inr mm0)
  refine wpAny_call (next_spec (pre_call P B D F hf hk) (N _ hmr).1 (isList_listOf N (List.mem_append.mpr (.inr (.tail _ hs)))) hi hlen (loose_of B hf N hmr rfl) (h2 _ hs) hc hm fun h' r tr tc' tk kp hr r0 r1 => ?_)
  exact h h' r tr tc' tk (after_call0 F kp fun b hb => by rw [List.mem_singleton.mp hb]; exact ⟨(N _ hmr).2.2, (N _ hmr).2.1⟩) (News.kept1 N kp hr h1 h2) r0 r1
end
theorem News.subl {g h : Heap} {L : Addr} {news news' : List (Addr × Obj)} (N : News g L h news) (x : List.Sublist news' news) : News g L h news' := News.sub N fun _ hp => x.subset hp
theorem hold_of {w : World} {st ou fl : Addr} {ans : Value} {over : Bool} {cc hd tp : Int} {t1 t2 t3 a0 a1 a2 a3 a4 a5 a6 a7 : Tok} :
    dictOf [⟨PyData.keyHash w.params (Str.ofString "stack"), .str (Str.ofString "stack") a0, .ref st⟩, ⟨PyData.keyHash w.params (Str.ofString "open_upvals"), .str (Str.ofString "open_upvals") a1, .ref ou⟩,
   ⟨PyData.keyHash w.params (Str.ofString "answers"), .str (Str.ofString "answers") a2, ans⟩, ⟨PyData.keyHash w.params (Str.ofString "is_over"), .str (Str.ofString "is_over") a3, .bool over⟩,
   ⟨PyData.keyHash w.params (Str.ofString "frames"), .str (Str.ofString "frames") a4, .ref fl⟩, ⟨PyData.keyHash w.params (Str.ofString "ccalls"), .str (Str.ofString "ccalls") a5, .int cc t1⟩,
   ⟨PyData.keyHash w.params (Str.ofString "handling"), .str (Str.ofString "handling") a6, .int hd t2⟩, ⟨PyData.keyHash w.params (Str.ofString "top"), .str (Str.ofString "top") a7, .int tp t3⟩] 8
    = dictOf (holdEs w (fun i => [a0, a1, a2, a3, a4, a5, a6, a7].getD i a0) st ou ans over fl cc hd tp t1 t2 t3) 8 := rfl
theorem News.repl {g h : Heap} {L : Addr} {pre rest : List (Addr × Obj)} {a b : Addr} {o o' : Obj} (N : News g L h (pre ++ (b, o') :: rest)) (x : h.get? a = some o ∧ a ≠ L ∧ g.get? a = none) : News g L h (pre ++ (a, o) :: rest) := fun p hp => by
  rcases List.mem_append.mp hp with q | q
  · exact N p (List.mem_append.mpr (.inl q))
  · rcases List.mem_cons.mp q with rfl | q
    · exact x
    · exact N p (List.mem_append.mpr (.inr (.tail _ q)))
theorem cut_eval {M : Model} {A : Around} {e : Expr} {env : Env} {s : Shared} {Q E : Value → Shared → Prop} (Mid : Env → Value → Shared → Prop) (h1 : wpAny M A (eval e env) (Mid env) E s) (h2 : ∀ v s', Mid env v s' → Q v s') : wpAny M A (eval e env) Q E s :=
  wpAny_mono h1 h2 fun _ _ e => e
abbrev ReplyOf {K : Frag} {p : Program} {loose : List Str} {mean : ExcName → Option Value} {mg mb : Str → Option Value} {A : Around} {base h : Heap} {l : List Env} {n : Nat} (_P : Pre K p loose mean mg mb A base l h n) (prog : Program) (w : World) (H : Hold) (ak f : Addr) (bound spare : Int) (plan : List Int) (fs : List Addr) (h₀ : Heap) : Prop :=
  Reply prog w p loose mean mg mb base H ak f bound spare plan fs h₀
end
set_option hygiene false
local macro_rules | `(tactic| walk_at "M.ap") => `(tactic| first | with_reducible exact Apart.ne (by assumption) | with_reducible exact (Apart.ne (by assumption)).symm | exact ne_led (by with_reducible assumption) (by walk_at "M.mem") | exact Ne.symm (ne_led (by with_reducible assumption) (by walk_at "M.mem")) | ((try dsimp only); omega))
set_option hygiene true
set_option hygiene false
local macro_rules | `(tactic| k_ne) => `(tactic| walk_at "M.ap")
set_option hygiene true
set_option hygiene false
local macro_rules | `(tactic| walk_at "M.offn") => `(tactic| first | exact nm_nil | (refine nm_cons ?_ ?_ <;> first | walk_at "M.ap" | walk_at "M.offn"))
set_option hygiene true
set_option hygiene false
local macro_rules | `(tactic| walk_at "M.offl") => `(tactic| first | exact forall_nil | (refine forall_cons ?_ ?_ <;> first | ((try dsimp only); walk_at "M.offn") | walk_at "M.offl"))
set_option hygiene true
theorem isCodeO_cell {o : Obj} {v : Option Value} (h : o.data = .cell v) : isCodeO o = false := by unfold isCodeO; rw [h]
theorem apart_tc {h g : Heap} {L : Addr} {news : List (Addr × Obj)} (N : News g L h news) {tc a D : Addr} {oc o od : Obj} (q : isCodeO oc = true ∨ (tc = D ∧ oc = od)) (ht : (tc, oc) ∈ news) (ha : (a, o) ∈ news) (c : isCodeO o = false) (n : @Ne Nat D a) : Apart tc a := by
  rcases q with q | ⟨q, _⟩
  · exact ne_obj (N _ ht).1 (N _ ha).1 fun e => by rw [show oc = o from e, c] at q; cases q
  · rw [q]; exact n
abbrev lawPos : Pos := ⟨136, 37, 136, 90⟩
abbrev lawQual : Str := (Str.ofString "law" ++ Str.ofString ".<locals>.") ++ Str.ofString "<lambda>"
theorem dup_D {h g : Heap} {L : Addr} {a d : Addr × Obj} {r : List (Addr × Obj)} (N : News g L h (a :: d :: r)) : News g L h (a :: d :: (r ++ [d, d, d])) := fun p hp => N p (by
  simp only [List.mem_cons, List.mem_append, List.not_mem_nil, or_false] at hp ⊢
  rcases hp with q | q | q | q | q | q
  · exact .inl q
  · exact .inr (.inl q)
  · exact .inr (.inr q)
  · exact .inr (.inl q)
  · exact .inr (.inl q)
  · exact .inr (.inl q))
theorem opaque_post {M : Model} {A : Around} {α : Type} {t : Sem α} {Q : α → Shared → Prop} {E : Value → Shared → Prop} {s : Shared} (h : ∀ (Q' : α → Shared → Prop) (E' : Value → Shared → Prop), (∀ f s, Q f s → Q' f s) → (∀ e s, E e s → E' e s) → wpAny M A t Q' E' s) : wpAny M A t Q E s := h Q E (fun _ _ x => x) fun _ _ x => x
theorem ap9 {a1 a2 a3 a4 a5 a6 a7 a8 a9 n : Addr} {o1 o2 o3 o4 o5 o6 o7 o8 o9 : Obj} {r : List (Addr × Obj)} {G : Prop} (h : ∀ p ∈ (a1, o1) :: (a2, o2) :: (a3, o3) :: (a4, o4) :: (a5, o5) :: (a6, o6) :: (a7, o7) :: (a8, o8) :: (a9, o9) :: r, p.1 < n) (k : Apart a1 n → Apart a2 n → Apart a3 n → Apart a4 n → Apart a5 n → Apart a6 n → Apart a7 n → Apart a8 n → Apart a9 n → G) : G := k (ne_led h mm0) (ne_led h mm1) (ne_led h mm2) (ne_led h mm3) (ne_led h mm4) (ne_led h mm5) (ne_led h mm6) (ne_led h mm7) (ne_led h mm8)
theorem ap10 {a1 a2 a3 a4 a5 a6 a7 a8 a9 a10 n : Addr} {o1 o2 o3 o4 o5 o6 o7 o8 o9 o10 : Obj} {r : List (Addr × Obj)} {G : Prop} (h : ∀ p ∈ (a1, o1) :: (a2, o2) :: (a3, o3) :: (a4, o4) :: (a5, o5) :: (a6, o6) :: (a7, o7) :: (a8, o8) :: (a9, o9) :: (a10, o10) :: r, p.1 < n) (k : Apart a1 n → Apart a2 n → Apart a3 n → Apart a4 n → Apart a5 n → Apart a6 n → Apart a7 n → Apart a8 n → Apart a9 n → Apart a10 n → G) : G := k (ne_led h mm0) (ne_led h mm1) (ne_led h mm2) (ne_led h mm3) (ne_led h mm4) (ne_led h mm5) (ne_led h mm6) (ne_led h mm7) (ne_led h mm8) (ne_led h mm9)
theorem ap16 {a1 a2 a3 a4 a5 a6 a7 a8 a9 a10 a11 a12 a13 a14 a15 a16 n : Addr} {o1 o2 o3 o4 o5 o6 o7 o8 o9 o10 o11 o12 o13 o14 o15 o16 : Obj} {r : List (Addr × Obj)} {G : Prop} (h : ∀ p ∈ (a1, o1) :: (a2, o2) :: (a3, o3) :: (a4, o4) :: (a5, o5) :: (a6, o6) :: (a7, o7) :: (a8, o8) :: (a9, o9) :: (a10, o10) :: (a11, o11) :: (a12, o12) :: (a13, o13) :: (a14, o14) :: (a15, o15) :: (a16, o16) :: r, p.1 < n) (k : Apart a1 n → Apart a2 n → Apart a3 n → Apart a4 n → Apart a5 n → Apart a6 n → Apart a7 n → Apart a8 n → Apart a9 n → Apart a10 n → Apart a11 n → Apart a12 n → Apart a13 n → Apart a14 n → Apart a15 n → Apart a16 n → G) : G := k (ne_led h mm0) (ne_led h mm1) (ne_led h mm2) (ne_led h mm3) (ne_led h mm4) (ne_led h mm5) (ne_led h mm6) (ne_led h mm7) (ne_led h mm8) (ne_led h mm9) (ne_led h mm10) (ne_led h mm11) (ne_led h mm12) (ne_led h mm13) (ne_led h mm14) (ne_led h mm15)
theorem ap18 {a1 a2 a3 a4 a5 a6 a7 a8 a9 a10 a11 a12 a13 a14 a15 a16 a17 a18 n : Addr} {o1 o2 o3 o4 o5 o6 o7 o8 o9 o10 o11 o12 o13 o14 o15 o16 o17 o18 : Obj} {r : List (Addr × Obj)} {G : Prop} (h : ∀ p ∈ (a1, o1) :: (a2, o2) :: (a3, o3) :: (a4, o4) :: (a5, o5) :: (a6, o6) :: (a7, o7) :: (a8, o8) :: (a9, o9) :: (a10, o10) :: (a11, o11) :: (a12, o12) :: (a13, o13) :: (a14, o14) :: (a15, o15) :: (a16, o16) :: (a17, o17) :: (a18, o18) :: r, p.1 < n) (k : Apart a1 n → Apart a2 n → Apart a3 n → Apart a4 n → Apart a5 n → Apart a6 n → Apart a7 n → Apart a8 n → Apart a9 n → Apart a10 n → Apart a11 n → Apart a12 n → Apart a13 n → Apart a14 n → Apart a15 n → Apart a16 n → Apart a17 n → Apart a18 n → G) : G := k (ne_led h mm0) (ne_led h mm1) (ne_led h mm2) (ne_led h mm3) (ne_led h mm4) (ne_led h mm5) (ne_led h mm6) (ne_led h mm7) (ne_led h mm8) (ne_led h mm9) (ne_led h mm10) (ne_led h mm11) (ne_led h mm12) (ne_led h mm13) (ne_led h mm14) (ne_led h mm15) (ne_led h mm16) (ne_led h mm17)
theorem apt18 {a1 a2 a3 a4 a5 a6 a7 a8 a9 a10 a11 a12 a13 a14 a15 a16 a17 a18 n m : Addr} {o1 o2 o3 o4 o5 o6 o7 o8 o9 o10 o11 o12 o13 o14 o15 o16 o17 o18 : Obj} {r : List (Addr × Obj)} {G : Prop} (h : ∀ p ∈ (a1, o1) :: (a2, o2) :: (a3, o3) :: (a4, o4) :: (a5, o5) :: (a6, o6) :: (a7, o7) :: (a8, o8) :: (a9, o9) :: (a10, o10) :: (a11, o11) :: (a12, o12) :: (a13, o13) :: (a14, o14) :: (a15, o15) :: (a16, o16) :: (a17, o17) :: (a18, o18) :: r, p.1 < n) (hm : Nat.lt n m) (k : Apart a1 m → Apart a2 m → Apart a3 m → Apart a4 m → Apart a5 m → Apart a6 m → Apart a7 m → Apart a8 m → Apart a9 m → Apart a10 m → Apart a11 m → Apart a12 m → Apart a13 m → Apart a14 m → Apart a15 m → Apart a16 m → Apart a17 m → Apart a18 m → G) : G := k (Nat.ne_of_lt (Nat.lt_trans (ltLed h mm0) hm)) (Nat.ne_of_lt (Nat.lt_trans (ltLed h mm1) hm)) (Nat.ne_of_lt (Nat.lt_trans (ltLed h mm2) hm)) (Nat.ne_of_lt (Nat.lt_trans (ltLed h mm3) hm)) (Nat.ne_of_lt (Nat.lt_trans (ltLed h mm4) hm)) (Nat.ne_of_lt (Nat.lt_trans (ltLed h mm5) hm)) (Nat.ne_of_lt (Nat.lt_trans (ltLed h mm6) hm)) (Nat.ne_of_lt (Nat.lt_trans (ltLed h mm7) hm)) (Nat.ne_of_lt (Nat.lt_trans (ltLed h mm8) hm)) (Nat.ne_of_lt (Nat.lt_trans (ltLed h mm9) hm)) (Nat.ne_of_lt (Nat.lt_trans (ltLed h mm10) hm)) (Nat.ne_of_lt (Nat.lt_trans (ltLed h mm11) hm)) (Nat.ne_of_lt (Nat.lt_trans (ltLed h mm12) hm)) (Nat.ne_of_lt (Nat.lt_trans (ltLed h mm13) hm)) (Nat.ne_of_lt (Nat.lt_trans (ltLed h mm14) hm)) (Nat.ne_of_lt (Nat.lt_trans (ltLed h mm15) hm)) (Nat.ne_of_lt (Nat.lt_trans (ltLed h mm16) hm)) (Nat.ne_of_lt (Nat.lt_trans (ltLed h mm17) hm))
theorem ap21 {a1 a2 a3 a4 a5 a6 a7 a8 a9 a10 a11 a12 a13 a14 a15 a16 a17 a18 a19 a20 a21 n : Addr} {o1 o2 o3 o4 o5 o6 o7 o8 o9 o10 o11 o12 o13 o14 o15 o16 o17 o18 o19 o20 o21 : Obj} {r : List (Addr × Obj)} {G : Prop} (h : ∀ p ∈ (a1, o1) :: (a2, o2) :: (a3, o3) :: (a4, o4) :: (a5, o5) :: (a6, o6) :: (a7, o7) :: (a8, o8) :: (a9, o9) :: (a10, o10) :: (a11, o11) :: (a12, o12) :: (a13, o13) :: (a14, o14) :: (a15, o15) :: (a16, o16) :: (a17, o17) :: (a18, o18) :: (a19, o19) :: (a20, o20) :: (a21, o21) :: r, p.1 < n) (k : Apart a1 n → Apart a2 n → Apart a3 n → Apart a4 n → Apart a5 n → Apart a6 n → Apart a7 n → Apart a8 n → Apart a9 n → Apart a10 n → Apart a11 n → Apart a12 n → Apart a13 n → Apart a14 n → Apart a15 n → Apart a16 n → Apart a17 n → Apart a18 n → Apart a19 n → Apart a20 n → Apart a21 n → G) : G := k (ne_led h mm0) (ne_led h mm1) (ne_led h mm2) (ne_led h mm3) (ne_led h mm4) (ne_led h mm5) (ne_led h mm6) (ne_led h mm7) (ne_led h mm8) (ne_led h mm9) (ne_led h mm10) (ne_led h mm11) (ne_led h mm12) (ne_led h mm13) (ne_led h mm14) (ne_led h mm15) (ne_led h mm16) (ne_led h mm17) (ne_led h mm18) (ne_led h mm19) (ne_led h mm20)
theorem ap22 {a1 a2 a3 a4 a5 a6 a7 a8 a9 a10 a11 a12 a13 a14 a15 a16 a17 a18 a19 a20 a21 a22 n : Addr} {o1 o2 o3 o4 o5 o6 o7 o8 o9 o10 o11 o12 o13 o14 o15 o16 o17 o18 o19 o20 o21 o22 : Obj} {r : List (Addr × Obj)} {G : Prop} (h : ∀ p ∈ (a1, o1) :: (a2, o2) :: (a3, o3) :: (a4, o4) :: (a5, o5) :: (a6, o6) :: (a7, o7) :: (a8, o8) :: (a9, o9) :: (a10, o10) :: (a11, o11) :: (a12, o12) :: (a13, o13) :: (a14, o14) :: (a15, o15) :: (a16, o16) :: (a17, o17) :: (a18, o18) :: (a19, o19) :: (a20, o20) :: (a21, o21) :: (a22, o22) :: r, p.1 < n) (k : Apart a1 n → Apart a2 n → Apart a3 n → Apart a4 n → Apart a5 n → Apart a6 n → Apart a7 n → Apart a8 n → Apart a9 n → Apart a10 n → Apart a11 n → Apart a12 n → Apart a13 n → Apart a14 n → Apart a15 n → Apart a16 n → Apart a17 n → Apart a18 n → Apart a19 n → Apart a20 n → Apart a21 n → Apart a22 n → G) : G := k (ne_led h mm0) (ne_led h mm1) (ne_led h mm2) (ne_led h mm3) (ne_led h mm4) (ne_led h mm5) (ne_led h mm6) (ne_led h mm7) (ne_led h mm8) (ne_led h mm9) (ne_led h mm10) (ne_led h mm11) (ne_led h mm12) (ne_led h mm13) (ne_led h mm14) (ne_led h mm15) (ne_led h mm16) (ne_led h mm17) (ne_led h mm18) (ne_led h mm19) (ne_led h mm20) (ne_led h mm21)
theorem rb {a r n m : Int} (h0 : 0 ≤ r) (h1 : r < n) (ha : 0 ≤ a) (hm : a + n ≤ m + 1) : 0 ≤ a + r ∧ a + r ≤ m := by omega
theorem rb0 {r n m : Int} (h0 : 0 ≤ r) (h1 : r < n) (hm : n ≤ m + 1) : 0 ≤ r ∧ r ≤ m := by omega
theorem cend {c c2 : Int} {n i : Nat} {r : Int} (h1 : c ≤ 100 * (i : Int)) (g0 : 0 ≤ r) (g : r < 4) (hy : n = r.toNat) (hc : c2 = c + 1 + 1 + 1 + 1 + 1 + (n : Int)) : c2 + 1 + 1 ≤ 100 * ((i + 1 : Nat) : Int) := by omega
theorem un33 {u n : Nat} (h : u + 4 * n ≤ 3000) : u + 3 + 3 < 9900 := by omega
theorem un3 {u n : Nat} (h : u + 4 * n ≤ 3000) : u + 3 < 9900 := by omega
theorem cb9 {c : Int} {i : Nat} (h : c ≤ 100 * (i : Int)) (hi : i < 3) : c ≤ 300 := by omega
theorem len63 {a n : Nat} (h : a = min 40 n) : a ≤ 63 := by omega
theorem cb0 {c : Int} (h : 0 ≤ c ∧ c ≤ 1000) : 0 ≤ c ∧ c ≤ 1000000 := by omega
theorem cb1 {c : Int} (h : 0 ≤ c ∧ c ≤ 1000) : 0 ≤ c + 1 ∧ c + 1 ≤ 1000000 := by omega
theorem cb2 {c : Int} (h : 0 ≤ c ∧ c ≤ 1000) : 0 ≤ c + 1 + 1 ∧ c + 1 + 1 ≤ 1000000 := by omega
theorem cb3 {c : Int} (h : 0 ≤ c ∧ c ≤ 1000) : 0 ≤ c + 1 + 1 + 1 ∧ c + 1 + 1 + 1 ≤ 1000000 := by omega
theorem cb4 {c : Int} (h : 0 ≤ c ∧ c ≤ 1000) : 0 ≤ c + 1 + 1 + 1 + 1 ∧ c + 1 + 1 + 1 + 1 ≤ 1000000 := by omega
theorem cbh {c : Int} (h0 : 0 ≤ c) (h : c ≤ 300) : 0 ≤ c ∧ c ≤ 1000 := by omega
theorem small_r {r : Int} (h0 : 0 ≤ r) (h1 : r < 4) : Builtin.Range.small 0 r 1 = true := small_one (by omega) (by omega) (by omega) (by omega)
theorem le_r {r : Int} (h1 : r < 4) : r.toNat ≤ 16777216 := by omega
theorem cbx {c c2 : Int} {n i : Nat} {r : Int} (hc : c2 = c + 1 + 1 + 1 + 1 + 1 + (n : Int)) (h : 0 ≤ c) (h' : c ≤ 300) (hn : n = i) (hi : i ≤ r.toNat) (h1 : r < 4) : 0 ≤ c2 ∧ c2 ≤ 1000 := by omega
theorem pr9 {n m : Nat} {r : Int} (h : m = n) (h1 : m = r.toNat) (h2 : r < 4) : n ≤ 9 := by omega
inductive LJ (G0 : Heap) (L D rl : Addr) (ws : List Value) (i : Nat) (nx : List (Addr × Obj)) : Prop where
  | mk (c : Int) (tc : Tok) (pA pB pC : Array Value) (tA : Addr) (oA : Obj) (tB : Addr) (oB : Obj) (tC : Addr) (oC o1 o2 o3 o4 o5 o6 : Obj) (v2 v3 v4 v5 v6 : Option Value)
    (e : nx = [(rl, listOf #[.ref D, .int c tc] 0), (D, listOf (List.toArray ws) 0), (L + 1 + 1 + 1 + 1 + 1 + 1, o6), (L + 1 + 1 + 1 + 1 + 1, o5), (L + 1 + 1 + 1 + 1, o4), (L + 1 + 1 + 1, o3), (L + 1 + 1, o2), (L + 1, o1), (148, tabObj pB), (134, tabObj pA), (169, tabObj pC), (tA, oA), (tB, oB), (tC, oC)])
    (d1 : o1.data = .cell (some (.ref rl))) (d2 : o2.data = .cell v2) (d3 : o3.data = .cell v3) (d4 : o4.data = .cell v4) (d5 : o5.data = .cell v5) (d6 : o6.data = .cell v6) (c0 : 0 ≤ c) (c1 : c ≤ 100 * (i : Int))
    (gA : TabG G0 tA oA lamPos lamQual pA) (gB : TabG G0 tB oB ansPos ansQual pB) (gC : TabG G0 tC oC lawPos lawQual pC)
    (qA : isCodeO oA = true ∨ (tA = D ∧ oA = listOf (List.toArray ws) 0)) (qB : isCodeO oB = true ∨ (tB = D ∧ oB = listOf (List.toArray ws) 0)) (qC : isCodeO oC = true ∨ (tC = D ∧ oC = listOf (List.toArray ws) 0)) : LJ G0 L D rl ws i nx
theorem turn_next {h₀ h' : Heap} {L I : Addr} {Jn : List (Addr × Obj) → Prop} {oI : Obj} {s₁ s₂ : Shared} {Q : Flow → Shared → Prop} {tk : Nat} {m' : Str → Option Value} {nx : List (Addr × Obj)} (hs : s₂ = { s₁ with heap := h', toks := tk }) (F : Fr h₀ L h' m') (N : News h₀ L h' ((I, oI) :: nx)) (o : ∀ p ∈ nx, p.1 ≠ I) (j : Jn nx) : TurnPost h₀ L Jn I oI s₁ Q .next s₂ := ⟨h', tk, m', nx, hs, F, N, o, j⟩
inductive CJ (I : Addr) (oI : Obj) (rl D : Addr) (c : Int) (tl : List (Addr × Obj)) (ys : List Value) (nx : List (Addr × Obj)) : Prop where
  | mk (c' : Int) (tc' : Tok) (ps : List Int) (e : nx = (I, oI) :: (rl, listOf #[.ref D, .int c' tc'] 0) :: tl) (hc : c' = c + 1 + 1 + 1 + 1 + 1 + (ys.length : Int)) (i : IntsAre ys ps) (hp : ∀ x ∈ ps, 0 ≤ x ∧ x ≤ 100) : CJ I oI rl D c tl ys nx
theorem cj_c {c c2 : Int} {ys : List Value} {v : Value} (h : c2 = c + 1 + 1 + 1 + 1 + 1 + (ys.length : Int)) : c2 + 1 = c + 1 + 1 + 1 + 1 + 1 + ((ys ++ [v]).length : Int) := by rw [List.length_append, List.length_singleton]; omega
theorem cj_b {ps : List Int} {r : Int} (h : ∀ x ∈ ps, 0 ≤ x ∧ x ≤ 100) (h0 : 0 ≤ r) (h1 : r < 12) : ∀ x ∈ ps ++ [r], 0 ≤ x ∧ x ≤ 100 := fun x hx => by
  rcases List.mem_append.mp hx with q | q
  · exact h x q
  · rw [List.mem_singleton.mp q]; omega
theorem off15 {D a1 a2 a3 a4 a5 a6 a7 a8 a9 a10 a11 a12 a13 a14 a15 : Addr} {o1 o2 o3 o4 o5 o6 o7 o8 o9 o10 o11 o12 o13 o14 o15 : Obj} {r : List (Addr × Obj)} {G : Prop} (h : LCg.Off1 D ((a1, o1) :: (a2, o2) :: (a3, o3) :: (a4, o4) :: (a5, o5) :: (a6, o6) :: (a7, o7) :: (a8, o8) :: (a9, o9) :: (a10, o10) :: (a11, o11) :: (a12, o12) :: (a13, o13) :: (a14, o14) :: (a15, o15) :: r)) (k : Apart D a1 → Apart D a2 → Apart D a3 → Apart D a4 → Apart D a5 → Apart D a6 → Apart D a7 → Apart D a8 → Apart D a9 → Apart D a10 → Apart D a11 → Apart D a12 → Apart D a13 → Apart D a14 → Apart D a15 → G) : G := k (Ne.symm h.1) (Ne.symm h.2.1) (Ne.symm h.2.2.1) (Ne.symm h.2.2.2.1) (Ne.symm h.2.2.2.2.1) (Ne.symm h.2.2.2.2.2.1) (Ne.symm h.2.2.2.2.2.2.1) (Ne.symm h.2.2.2.2.2.2.2.1) (Ne.symm h.2.2.2.2.2.2.2.2.1) (Ne.symm h.2.2.2.2.2.2.2.2.2.1) (Ne.symm h.2.2.2.2.2.2.2.2.2.2.1) (Ne.symm h.2.2.2.2.2.2.2.2.2.2.2.1) (Ne.symm h.2.2.2.2.2.2.2.2.2.2.2.2.1) (Ne.symm h.2.2.2.2.2.2.2.2.2.2.2.2.2.1) (Ne.symm h.2.2.2.2.2.2.2.2.2.2.2.2.2.2.1)
theorem kept_store {L x : Addr} {v : Value} {h h' : Heap} {g : Heap} {m : Str → Option Value} (F : Fr g L h m) (hs : ∀ b, b ≠ L → h'.get? b = h.get? b) : Kept [L] [] h h' := by
  obtain ⟨oL, es, ep, hoL, hd, _⟩ := F.ns
  exact ⟨fun b o e c => (hs b fun q => by rw [q, hoL] at e; cases e; rw [isCodeO_dict hd] at c; cases c).trans e, fun b o e nm _ => (hs b fun q => nm (by rw [q]; exact .head _)).trans e, fun _ _ _ m => nomatch m⟩
theorem after_callN {K : Frag} {p : Program} {loose : List Str} {mean : ExcName → Option Value} {mg mb : Str → Option Value} {A₀ : Around} {base h₀ g h h' : Heap} {n : Nat} {env : Env} {L : Addr} {m : Str → Option Value} {M' : List Addr} (P₀ : Pre K p loose mean mg mb A₀ base [] h₀ n) (B : Below A₀ base [] g) (D : KtsDicts (fsOf []) g) (F : Fr g L h m) (hf : env.frame = some L) (k : Kept M' (fsOf [env]) h h') (hM : ∀ b ∈ M', g.get? b = none ∧ b ≠ L) : Fr g L h' m := by
  refine after_callC P₀ B D F hf k hM fun g' T F' _ _ _ _ => ?_
  exact ⟨F'.ns, fun b o e => F'.keep b o (T.other b o e (fun q => nomatch q)), by rw [← T.size]; exact F'.above⟩
theorem News.keptL {h g h' : Heap} {L : Addr} {env : Env} {M' : List Addr} {A₀ : Around} {base : Heap} {news : List (Addr × Obj)} (N : News g L h news) (B : Below A₀ base [] g) (hf : env.frame = some L) (k : Kept M' (fsOf [env]) h h') (hM : ∀ p ∈ news, p.1 ∉ M') : News g L h' news := fun p hp => old_of B hf N k KtsTurn.refl hp (hM p hp)
theorem nfs1 {env : Env} {L b : Addr} (hf : env.frame = some L) (hb : b ≠ L) : b ∉ fsOf [env] := fun hm => by
  obtain ⟨e', he', hfe⟩ := List.mem_filterMap.mp hm
  rw [List.mem_singleton.mp he', hf] at hfe
  exact hb (Option.some.inj hfe).symm
theorem cell_ne {h : Heap} {a b : Addr} {o o' : Obj} {v : Option Value} (e : h.get? a = some o) (d : o.data = .cell v) (e' : h.get? b = some o') (n : ∀ v, o'.data ≠ .cell v) : Apart a b := ne_obj e e' fun q => n v (by rw [← q]; exact d)
theorem law_post (l : OpenLaw) (ds es : List WData) : (RowW.claim l.row.toRowW).post ds (.bool true) es = true := by
  simp only [RowW.claim, OpenLaw.row]
  simp [WShape.has, WShape.arms, WTm.holds, WTm.value]
  rw [show W.same (WData.bool true) (WData.bool true) = true by decide +kernel]
set_option maxHeartbeats 0 in
theorem law_walk : PySem.Challenge.rw_rh0157_01.Holds := Mine.hd (by
  k_go0
  (all_goals try k_fold)
  rename Below _ _ _ _ => B
  rename Fr _ _ _ _ => F
  rename News _ _ _ _ => N
  rename Top _ _ _ _ _ _ => T
  rename Frag.In _ _ => X
  rename CodeHd _ 138 134 => C1
  rename CodeHd _ 152 148 => C2
  rename CodeHd _ 171 169 => C3
  have P := Pre.mk (n := 20) (l := []) B (fun _ hb => nomatch hb) X T C1 C2 (by decide) (by decide)
  rename Shared => s1
  rename_i h0 tk0 o6 o5 o4 o3 o2 o1x d6 d5 d4 d3 d2 d1x X0 l0
  rename World => w
  have l148 : (148 : Nat) < (Array.size (Shared.heap s1).objs) := ltLed l0 mm0
  have l134 : (134 : Nat) < (Array.size (Shared.heap s1).objs) := ltLed l0 mm1
  have l169 : (169 : Nat) < (Array.size (Shared.heap s1).objs) := ltLed l0 mm2
  (repeat' ((fail_if_success (with_reducible show wpAny _ _ (pyIter _) _ _ _)); (fail_if_success (with_reducible show wpAny _ _ (call (Value.ref _) _) _ _ _)); (fail_if_success (with_reducible show wpAny _ _ (exec (Stmt.Raise _ _ _) _) _ _ _)); (fail_if_success (with_reducible show wpAny _ _ (exec (Stmt.While _ _ _ _) _) _ _ _)); (fail_if_success (with_reducible show wpAny _ _ (exec (Stmt.Try _ _ _ _ _) _) _ _ _)); (fail_if_success (with_reducible show wpAny _ _ (call (Value.builtin "min") _ _) _ _ _)); (fail_if_success (with_reducible show wpAny _ _ (call (Value.builtin "max") _ _) _ _ _)); (fail_if_success (with_reducible show wpAny _ _ (eval (Expr.Lambda _ _ _ _) _) _ _ _)); (fail_if_success (with_reducible show InvPostN _ _ _ _ _ _ _ _ _)); (fail_if_success (with_reducible show LCg.CompSrc _ _ _ _ _ _ _ _ _ _ _ _ _ _)); (fail_if_success (with_reducible show LCg.CompEnd _ _ _ _ _ _ _ _ _ _ _ _ _ _)); (fail_if_success (with_reducible show wpAny _ _ (eval (Expr.IfExp _ _ _ _) _) _ _ _)); (fail_if_success (with_reducible show TurnPost _ _ _ _ _ _ _ _ _)); (fail_if_success (with_reducible show wpAny _ _ (compareOp _ (Value.ref _) (Value.ref _)) _ _ _)); first | walk1 | (dsimp only; walk1)))
  rename IsRange _ _ _ _ _ _ _ _ => hR
  rename News _ _ _ _ => hN
  rename Fr _ _ _ _ => hF
  rename IntsAre _ (List.take _ _) => hI
  rename List Int => ns
  rename_i D ws hx1 lD hlC hlL rl hx2 lrl hx3 o1 hx4 hx5 d1 hx6 tkx t1 u1 v1 hkx
  clear hx4 hx5
  have hN2 := dup_D hN
  dsimp only [List.cons_append, List.nil_append] at hN2
  refine iter_rangeJ (n := 3) (LJ (ghostOf s1.heap [(152, 148), (138, 134), (171, 169)]) (Array.size (Shared.heap s1).objs) D rl ws) rfl hR (by decide) (by decide) hF
    hN2 ⟨0, _, #[], #[], #[], D, _, D, _, D, _, o1, o2, o3, o4, o5, o6, _, _, _, _, _, rfl, d1, d2, d3, d4, d5, d6, by decide, by decide, .inl rfl, .inl rfl, .inl rfl, .inr ⟨rfl, rfl⟩, .inr ⟨rfl, rfl⟩, .inr ⟨rfl, rfl⟩⟩ ?_ ?_
  · rintro i t m₁ nx h tk I oI hi hIc hoff ⟨c, tc, pA, pB, pC, tA, oA, tB, oB, tC, oC, o1, o2, o3, o4, o5, o6, v2, v3, v4, v5, v6, rfl, d1, d2, d3, d4, d5, d6, hc0, hc1, gA, gB, gC, qA, qB, qC⟩ F0 N0
    clear hN hN2 hF hR
    have aIrl : Apart (rl) I := hoff _ mm0
    have aIx6 : Apart ((Array.size (Shared.heap s1).objs) + 1 + 1 + 1 + 1 + 1 + 1) I := hoff _ mm2
    have aIx5 : Apart ((Array.size (Shared.heap s1).objs) + 1 + 1 + 1 + 1 + 1) I := hoff _ mm3
    have aIx4 : Apart ((Array.size (Shared.heap s1).objs) + 1 + 1 + 1 + 1) I := hoff _ mm4
    have aIx3 : Apart ((Array.size (Shared.heap s1).objs) + 1 + 1 + 1) I := hoff _ mm5
    have aIx2 : Apart ((Array.size (Shared.heap s1).objs) + 1 + 1) I := hoff _ mm6
    have aIx1 : Apart ((Array.size (Shared.heap s1).objs) + 1) I := hoff _ mm7
    have aIt148 : Apart (148) I := hoff _ mm8
    have aIt134 : Apart (134) I := hoff _ mm9
    have aIt169 : Apart (169) I := hoff _ mm10
    have eDI : Apart D I := hoff _ mm1
    refine ap9 lD fun eD6 eD5 eD4 eD3 eD2 eD1 eD148 eD134 eD169 => ?_
    refine ap10 lrl fun erD er6 er5 er4 er3 er2 er1 er148 er134 er169 => ?_
    have et148_1 : Apart 148 ((Array.size (Shared.heap s1).objs) + 1) := Nat.ne_of_lt (Nat.lt_succ_of_lt l148)
    have et148_2 : Apart 148 ((Array.size (Shared.heap s1).objs) + 1 + 1) := Nat.ne_of_lt (Nat.lt_succ_of_lt (Nat.lt_succ_of_lt l148))
    have et148_3 : Apart 148 ((Array.size (Shared.heap s1).objs) + 1 + 1 + 1) := Nat.ne_of_lt (Nat.lt_succ_of_lt (Nat.lt_succ_of_lt (Nat.lt_succ_of_lt l148)))
    have et148_4 : Apart 148 ((Array.size (Shared.heap s1).objs) + 1 + 1 + 1 + 1) := Nat.ne_of_lt (Nat.lt_succ_of_lt (Nat.lt_succ_of_lt (Nat.lt_succ_of_lt (Nat.lt_succ_of_lt l148))))
    have et148_5 : Apart 148 ((Array.size (Shared.heap s1).objs) + 1 + 1 + 1 + 1 + 1) := Nat.ne_of_lt (Nat.lt_succ_of_lt (Nat.lt_succ_of_lt (Nat.lt_succ_of_lt (Nat.lt_succ_of_lt (Nat.lt_succ_of_lt l148)))))
    have et148_6 : Apart 148 ((Array.size (Shared.heap s1).objs) + 1 + 1 + 1 + 1 + 1 + 1) := Nat.ne_of_lt (Nat.lt_succ_of_lt (Nat.lt_succ_of_lt (Nat.lt_succ_of_lt (Nat.lt_succ_of_lt (Nat.lt_succ_of_lt (Nat.lt_succ_of_lt l148))))))
    have et134_1 : Apart 134 ((Array.size (Shared.heap s1).objs) + 1) := Nat.ne_of_lt (Nat.lt_succ_of_lt l134)
    have et134_2 : Apart 134 ((Array.size (Shared.heap s1).objs) + 1 + 1) := Nat.ne_of_lt (Nat.lt_succ_of_lt (Nat.lt_succ_of_lt l134))
    have et134_3 : Apart 134 ((Array.size (Shared.heap s1).objs) + 1 + 1 + 1) := Nat.ne_of_lt (Nat.lt_succ_of_lt (Nat.lt_succ_of_lt (Nat.lt_succ_of_lt l134)))
    have et134_4 : Apart 134 ((Array.size (Shared.heap s1).objs) + 1 + 1 + 1 + 1) := Nat.ne_of_lt (Nat.lt_succ_of_lt (Nat.lt_succ_of_lt (Nat.lt_succ_of_lt (Nat.lt_succ_of_lt l134))))
    have et134_5 : Apart 134 ((Array.size (Shared.heap s1).objs) + 1 + 1 + 1 + 1 + 1) := Nat.ne_of_lt (Nat.lt_succ_of_lt (Nat.lt_succ_of_lt (Nat.lt_succ_of_lt (Nat.lt_succ_of_lt (Nat.lt_succ_of_lt l134)))))
    have et134_6 : Apart 134 ((Array.size (Shared.heap s1).objs) + 1 + 1 + 1 + 1 + 1 + 1) := Nat.ne_of_lt (Nat.lt_succ_of_lt (Nat.lt_succ_of_lt (Nat.lt_succ_of_lt (Nat.lt_succ_of_lt (Nat.lt_succ_of_lt (Nat.lt_succ_of_lt l134))))))
    have et169_1 : Apart 169 ((Array.size (Shared.heap s1).objs) + 1) := Nat.ne_of_lt (Nat.lt_succ_of_lt l169)
    have et169_2 : Apart 169 ((Array.size (Shared.heap s1).objs) + 1 + 1) := Nat.ne_of_lt (Nat.lt_succ_of_lt (Nat.lt_succ_of_lt l169))
    have et169_3 : Apart 169 ((Array.size (Shared.heap s1).objs) + 1 + 1 + 1) := Nat.ne_of_lt (Nat.lt_succ_of_lt (Nat.lt_succ_of_lt (Nat.lt_succ_of_lt l169)))
    have et169_4 : Apart 169 ((Array.size (Shared.heap s1).objs) + 1 + 1 + 1 + 1) := Nat.ne_of_lt (Nat.lt_succ_of_lt (Nat.lt_succ_of_lt (Nat.lt_succ_of_lt (Nat.lt_succ_of_lt l169))))
    have et169_5 : Apart 169 ((Array.size (Shared.heap s1).objs) + 1 + 1 + 1 + 1 + 1) := Nat.ne_of_lt (Nat.lt_succ_of_lt (Nat.lt_succ_of_lt (Nat.lt_succ_of_lt (Nat.lt_succ_of_lt (Nat.lt_succ_of_lt l169)))))
    have et169_6 : Apart 169 ((Array.size (Shared.heap s1).objs) + 1 + 1 + 1 + 1 + 1 + 1) := Nat.ne_of_lt (Nat.lt_succ_of_lt (Nat.lt_succ_of_lt (Nat.lt_succ_of_lt (Nat.lt_succ_of_lt (Nat.lt_succ_of_lt (Nat.lt_succ_of_lt l169))))))
    have ex12 : Apart ((Array.size (Shared.heap s1).objs) + 1) ((Array.size (Shared.heap s1).objs) + 1 + 1) := Nat.ne_of_lt (Nat.lt_succ_self _)
    have ex13 : Apart ((Array.size (Shared.heap s1).objs) + 1) ((Array.size (Shared.heap s1).objs) + 1 + 1 + 1) := Nat.ne_of_lt (Nat.lt_succ_of_lt (Nat.lt_succ_self _))
    have ex14 : Apart ((Array.size (Shared.heap s1).objs) + 1) ((Array.size (Shared.heap s1).objs) + 1 + 1 + 1 + 1) := Nat.ne_of_lt (Nat.lt_succ_of_lt (Nat.lt_succ_of_lt (Nat.lt_succ_self _)))
    have ex15 : Apart ((Array.size (Shared.heap s1).objs) + 1) ((Array.size (Shared.heap s1).objs) + 1 + 1 + 1 + 1 + 1) := Nat.ne_of_lt (Nat.lt_succ_of_lt (Nat.lt_succ_of_lt (Nat.lt_succ_of_lt (Nat.lt_succ_self _))))
    have ex16 : Apart ((Array.size (Shared.heap s1).objs) + 1) ((Array.size (Shared.heap s1).objs) + 1 + 1 + 1 + 1 + 1 + 1) := Nat.ne_of_lt (Nat.lt_succ_of_lt (Nat.lt_succ_of_lt (Nat.lt_succ_of_lt (Nat.lt_succ_of_lt (Nat.lt_succ_self _)))))
    have ex23 : Apart ((Array.size (Shared.heap s1).objs) + 1 + 1) ((Array.size (Shared.heap s1).objs) + 1 + 1 + 1) := Nat.ne_of_lt (Nat.lt_succ_self _)
    have ex24 : Apart ((Array.size (Shared.heap s1).objs) + 1 + 1) ((Array.size (Shared.heap s1).objs) + 1 + 1 + 1 + 1) := Nat.ne_of_lt (Nat.lt_succ_of_lt (Nat.lt_succ_self _))
    have ex25 : Apart ((Array.size (Shared.heap s1).objs) + 1 + 1) ((Array.size (Shared.heap s1).objs) + 1 + 1 + 1 + 1 + 1) := Nat.ne_of_lt (Nat.lt_succ_of_lt (Nat.lt_succ_of_lt (Nat.lt_succ_self _)))
    have ex26 : Apart ((Array.size (Shared.heap s1).objs) + 1 + 1) ((Array.size (Shared.heap s1).objs) + 1 + 1 + 1 + 1 + 1 + 1) := Nat.ne_of_lt (Nat.lt_succ_of_lt (Nat.lt_succ_of_lt (Nat.lt_succ_of_lt (Nat.lt_succ_self _))))
    have ex34 : Apart ((Array.size (Shared.heap s1).objs) + 1 + 1 + 1) ((Array.size (Shared.heap s1).objs) + 1 + 1 + 1 + 1) := Nat.ne_of_lt (Nat.lt_succ_self _)
    have ex35 : Apart ((Array.size (Shared.heap s1).objs) + 1 + 1 + 1) ((Array.size (Shared.heap s1).objs) + 1 + 1 + 1 + 1 + 1) := Nat.ne_of_lt (Nat.lt_succ_of_lt (Nat.lt_succ_self _))
    have ex36 : Apart ((Array.size (Shared.heap s1).objs) + 1 + 1 + 1) ((Array.size (Shared.heap s1).objs) + 1 + 1 + 1 + 1 + 1 + 1) := Nat.ne_of_lt (Nat.lt_succ_of_lt (Nat.lt_succ_of_lt (Nat.lt_succ_self _)))
    have ex45 : Apart ((Array.size (Shared.heap s1).objs) + 1 + 1 + 1 + 1) ((Array.size (Shared.heap s1).objs) + 1 + 1 + 1 + 1 + 1) := Nat.ne_of_lt (Nat.lt_succ_self _)
    have ex46 : Apart ((Array.size (Shared.heap s1).objs) + 1 + 1 + 1 + 1) ((Array.size (Shared.heap s1).objs) + 1 + 1 + 1 + 1 + 1 + 1) := Nat.ne_of_lt (Nat.lt_succ_of_lt (Nat.lt_succ_self _))
    have ex56 : Apart ((Array.size (Shared.heap s1).objs) + 1 + 1 + 1 + 1 + 1) ((Array.size (Shared.heap s1).objs) + 1 + 1 + 1 + 1 + 1 + 1) := Nat.ne_of_lt (Nat.lt_succ_self _)
    have e1 : Apart 148 134 := show (148 : Nat) ≠ 134 by decide
    have e2 : Apart 148 169 := show (148 : Nat) ≠ 169 by decide
    have e3 : Apart 134 169 := show (134 : Nat) ≠ 169 by decide
    have aArl : Apart tA (rl) := apart_tc N0 qA mm12 mm1 rfl (by walk_at "M.ap")
    have aAx6 : Apart tA ((Array.size (Shared.heap s1).objs) + 1 + 1 + 1 + 1 + 1 + 1) := apart_tc N0 qA mm12 mm3 (isCodeO_cell d6) (by walk_at "M.ap")
    have aAx5 : Apart tA ((Array.size (Shared.heap s1).objs) + 1 + 1 + 1 + 1 + 1) := apart_tc N0 qA mm12 mm4 (isCodeO_cell d5) (by walk_at "M.ap")
    have aAx4 : Apart tA ((Array.size (Shared.heap s1).objs) + 1 + 1 + 1 + 1) := apart_tc N0 qA mm12 mm5 (isCodeO_cell d4) (by walk_at "M.ap")
    have aAx3 : Apart tA ((Array.size (Shared.heap s1).objs) + 1 + 1 + 1) := apart_tc N0 qA mm12 mm6 (isCodeO_cell d3) (by walk_at "M.ap")
    have aAx2 : Apart tA ((Array.size (Shared.heap s1).objs) + 1 + 1) := apart_tc N0 qA mm12 mm7 (isCodeO_cell d2) (by walk_at "M.ap")
    have aAx1 : Apart tA ((Array.size (Shared.heap s1).objs) + 1) := apart_tc N0 qA mm12 mm8 (isCodeO_cell d1) (by walk_at "M.ap")
    have aAt148 : Apart tA (148) := apart_tc N0 qA mm12 mm9 gB.code (by walk_at "M.ap")
    have aAt134 : Apart tA (134) := apart_tc N0 qA mm12 mm10 gA.code (by walk_at "M.ap")
    have aAt169 : Apart tA (169) := apart_tc N0 qA mm12 mm11 gC.code (by walk_at "M.ap")
    have aBrl : Apart tB (rl) := apart_tc N0 qB mm13 mm1 rfl (by walk_at "M.ap")
    have aBx6 : Apart tB ((Array.size (Shared.heap s1).objs) + 1 + 1 + 1 + 1 + 1 + 1) := apart_tc N0 qB mm13 mm3 (isCodeO_cell d6) (by walk_at "M.ap")
    have aBx5 : Apart tB ((Array.size (Shared.heap s1).objs) + 1 + 1 + 1 + 1 + 1) := apart_tc N0 qB mm13 mm4 (isCodeO_cell d5) (by walk_at "M.ap")
    have aBx4 : Apart tB ((Array.size (Shared.heap s1).objs) + 1 + 1 + 1 + 1) := apart_tc N0 qB mm13 mm5 (isCodeO_cell d4) (by walk_at "M.ap")
    have aBx3 : Apart tB ((Array.size (Shared.heap s1).objs) + 1 + 1 + 1) := apart_tc N0 qB mm13 mm6 (isCodeO_cell d3) (by walk_at "M.ap")
    have aBx2 : Apart tB ((Array.size (Shared.heap s1).objs) + 1 + 1) := apart_tc N0 qB mm13 mm7 (isCodeO_cell d2) (by walk_at "M.ap")
    have aBx1 : Apart tB ((Array.size (Shared.heap s1).objs) + 1) := apart_tc N0 qB mm13 mm8 (isCodeO_cell d1) (by walk_at "M.ap")
    have aBt148 : Apart tB (148) := apart_tc N0 qB mm13 mm9 gB.code (by walk_at "M.ap")
    have aBt134 : Apart tB (134) := apart_tc N0 qB mm13 mm10 gA.code (by walk_at "M.ap")
    have aBt169 : Apart tB (169) := apart_tc N0 qB mm13 mm11 gC.code (by walk_at "M.ap")
    have aCrl : Apart tC (rl) := apart_tc N0 qC mm14 mm1 rfl (by walk_at "M.ap")
    have aCx6 : Apart tC ((Array.size (Shared.heap s1).objs) + 1 + 1 + 1 + 1 + 1 + 1) := apart_tc N0 qC mm14 mm3 (isCodeO_cell d6) (by walk_at "M.ap")
    have aCx5 : Apart tC ((Array.size (Shared.heap s1).objs) + 1 + 1 + 1 + 1 + 1) := apart_tc N0 qC mm14 mm4 (isCodeO_cell d5) (by walk_at "M.ap")
    have aCx4 : Apart tC ((Array.size (Shared.heap s1).objs) + 1 + 1 + 1 + 1) := apart_tc N0 qC mm14 mm5 (isCodeO_cell d4) (by walk_at "M.ap")
    have aCx3 : Apart tC ((Array.size (Shared.heap s1).objs) + 1 + 1 + 1) := apart_tc N0 qC mm14 mm6 (isCodeO_cell d3) (by walk_at "M.ap")
    have aCx2 : Apart tC ((Array.size (Shared.heap s1).objs) + 1 + 1) := apart_tc N0 qC mm14 mm7 (isCodeO_cell d2) (by walk_at "M.ap")
    have aCx1 : Apart tC ((Array.size (Shared.heap s1).objs) + 1) := apart_tc N0 qC mm14 mm8 (isCodeO_cell d1) (by walk_at "M.ap")
    have aCt148 : Apart tC (148) := apart_tc N0 qC mm14 mm9 gB.code (by walk_at "M.ap")
    have aCt134 : Apart tC (134) := apart_tc N0 qC mm14 mm10 gA.code (by walk_at "M.ap")
    have aCt169 : Apart tC (169) := apart_tc N0 qC mm14 mm11 gC.code (by walk_at "M.ap")
    have F1 : Fr _ (Array.size (Shared.heap s1).objs) h _ := F0
    have N1 : News _ (Array.size (Shared.heap s1).objs) h _ := N0
    have D0 : KtsDicts (fsOf []) (ghostOf s1.heap [(152, 148), (138, 134), (171, 169)]) := fun _ hb => nomatch hb
    have hlen : (List.take 40 ns).length ≤ 63 := len63 hlC
    have hc9 : c ≤ 300 := cb9 hc1 hi
    have hcB := cbh hc0 hc9
    clear F0 N0
    refine opaque_post fun QT ET hQT hET => ?_
    (repeat' ((fail_if_success (with_reducible show wpAny _ _ (pyIter _) _ _ _)); (fail_if_success (with_reducible show wpAny _ _ (call (Value.ref _) _) _ _ _)); (fail_if_success (with_reducible show wpAny _ _ (exec (Stmt.Raise _ _ _) _) _ _ _)); (fail_if_success (with_reducible show wpAny _ _ (exec (Stmt.While _ _ _ _) _) _ _ _)); (fail_if_success (with_reducible show wpAny _ _ (exec (Stmt.Try _ _ _ _ _) _) _ _ _)); (fail_if_success (with_reducible show wpAny _ _ (call (Value.builtin "min") _ _) _ _ _)); (fail_if_success (with_reducible show wpAny _ _ (call (Value.builtin "max") _ _) _ _ _)); (fail_if_success (with_reducible show wpAny _ _ (eval (Expr.Lambda _ _ _ _) _) _ _ _)); (fail_if_success (with_reducible show InvPostN _ _ _ _ _ _ _ _ _)); (fail_if_success (with_reducible show LCg.CompSrc _ _ _ _ _ _ _ _ _ _ _ _ _ _)); (fail_if_success (with_reducible show LCg.CompEnd _ _ _ _ _ _ _ _ _ _ _ _ _ _)); (fail_if_success (with_reducible show wpAny _ _ (eval (Expr.IfExp _ _ _ _) _) _ _ _)); (fail_if_success (with_reducible show TurnPost _ _ _ _ _ _ _ _ _)); (fail_if_success (with_reducible show wpAny _ _ (compareOp _ (Value.ref _) (Value.ref _)) _ _ _)); first | walk1 | (dsimp only; walk1)))
    refine next_at (pre := [(I, oI)]) P B D0 F1 N1 rfl rfl mm0 hI hlen (by walk_at "M.all") (by walk_at "M.all") (cb0 hcB) (by decide) (fun h2 r2 tr2 tc2 tk2 F2 N2 g2 g2' => ?_)
    clear F1 N1
    dsimp only [List.cons_append, List.nil_append] at N2
    (try dsimp only)
    (repeat' ((fail_if_success (with_reducible show wpAny _ _ (pyIter _) _ _ _)); (fail_if_success (with_reducible show wpAny _ _ (call (Value.ref _) _) _ _ _)); (fail_if_success (with_reducible show wpAny _ _ (exec (Stmt.Raise _ _ _) _) _ _ _)); (fail_if_success (with_reducible show wpAny _ _ (exec (Stmt.While _ _ _ _) _) _ _ _)); (fail_if_success (with_reducible show wpAny _ _ (exec (Stmt.Try _ _ _ _ _) _) _ _ _)); (fail_if_success (with_reducible show wpAny _ _ (call (Value.builtin "min") _ _) _ _ _)); (fail_if_success (with_reducible show wpAny _ _ (call (Value.builtin "max") _ _) _ _ _)); (fail_if_success (with_reducible show wpAny _ _ (eval (Expr.Lambda _ _ _ _) _) _ _ _)); (fail_if_success (with_reducible show InvPostN _ _ _ _ _ _ _ _ _)); (fail_if_success (with_reducible show LCg.CompSrc _ _ _ _ _ _ _ _ _ _ _ _ _ _)); (fail_if_success (with_reducible show LCg.CompEnd _ _ _ _ _ _ _ _ _ _ _ _ _ _)); (fail_if_success (with_reducible show wpAny _ _ (eval (Expr.IfExp _ _ _ _) _) _ _ _)); (fail_if_success (with_reducible show TurnPost _ _ _ _ _ _ _ _ _)); (fail_if_success (with_reducible show wpAny _ _ (compareOp _ (Value.ref _) (Value.ref _)) _ _ _)); first | walk1 | (dsimp only; walk1)))
    rename Fr _ _ _ _ => F3
    rename News _ _ _ _ => N3
    refine next_at (pre := [(I, oI)]) P B D0 F3 N3 rfl rfl mm0 hI hlen (by walk_at "M.all") (by walk_at "M.all") (cb1 hcB) (by decide) (fun h4 r4 tr4 tc4 tk4 F4 N4 g4 g4' => ?_)
    clear F3 N3
    dsimp only [List.cons_append, List.nil_append] at N4
    (try dsimp only)
    (repeat' ((fail_if_success (with_reducible show wpAny _ _ (pyIter _) _ _ _)); (fail_if_success (with_reducible show wpAny _ _ (call (Value.ref _) _) _ _ _)); (fail_if_success (with_reducible show wpAny _ _ (exec (Stmt.Raise _ _ _) _) _ _ _)); (fail_if_success (with_reducible show wpAny _ _ (exec (Stmt.While _ _ _ _) _) _ _ _)); (fail_if_success (with_reducible show wpAny _ _ (exec (Stmt.Try _ _ _ _ _) _) _ _ _)); (fail_if_success (with_reducible show wpAny _ _ (call (Value.builtin "min") _ _) _ _ _)); (fail_if_success (with_reducible show wpAny _ _ (call (Value.builtin "max") _ _) _ _ _)); (fail_if_success (with_reducible show wpAny _ _ (eval (Expr.Lambda _ _ _ _) _) _ _ _)); (fail_if_success (with_reducible show InvPostN _ _ _ _ _ _ _ _ _)); (fail_if_success (with_reducible show LCg.CompSrc _ _ _ _ _ _ _ _ _ _ _ _ _ _)); (fail_if_success (with_reducible show LCg.CompEnd _ _ _ _ _ _ _ _ _ _ _ _ _ _)); (fail_if_success (with_reducible show wpAny _ _ (eval (Expr.IfExp _ _ _ _) _) _ _ _)); (fail_if_success (with_reducible show TurnPost _ _ _ _ _ _ _ _ _)); (fail_if_success (with_reducible show wpAny _ _ (compareOp _ (Value.ref _) (Value.ref _)) _ _ _)); first | walk1 | (dsimp only; walk1)))
    rename Fr _ _ _ _ => F5
    rename News _ _ _ _ => N5
    refine next_at (pre := [(I, oI)]) P B D0 F5 N5 rfl rfl mm0 hI hlen (by walk_at "M.all") (by walk_at "M.all") (cb2 hcB) (by decide) (fun h6 r6 tr6 tc6 tk6 F6 N6 g6 g6' => ?_)
    clear F5 N5
    dsimp only [List.cons_append, List.nil_append] at N6
    (try dsimp only)
    (repeat' ((fail_if_success (with_reducible show wpAny _ _ (pyIter _) _ _ _)); (fail_if_success (with_reducible show wpAny _ _ (call (Value.ref _) _) _ _ _)); (fail_if_success (with_reducible show wpAny _ _ (exec (Stmt.Raise _ _ _) _) _ _ _)); (fail_if_success (with_reducible show wpAny _ _ (exec (Stmt.While _ _ _ _) _) _ _ _)); (fail_if_success (with_reducible show wpAny _ _ (exec (Stmt.Try _ _ _ _ _) _) _ _ _)); (fail_if_success (with_reducible show wpAny _ _ (call (Value.builtin "min") _ _) _ _ _)); (fail_if_success (with_reducible show wpAny _ _ (call (Value.builtin "max") _ _) _ _ _)); (fail_if_success (with_reducible show wpAny _ _ (eval (Expr.Lambda _ _ _ _) _) _ _ _)); (fail_if_success (with_reducible show InvPostN _ _ _ _ _ _ _ _ _)); (fail_if_success (with_reducible show LCg.CompSrc _ _ _ _ _ _ _ _ _ _ _ _ _ _)); (fail_if_success (with_reducible show LCg.CompEnd _ _ _ _ _ _ _ _ _ _ _ _ _ _)); (fail_if_success (with_reducible show wpAny _ _ (eval (Expr.IfExp _ _ _ _) _) _ _ _)); (fail_if_success (with_reducible show TurnPost _ _ _ _ _ _ _ _ _)); (fail_if_success (with_reducible show wpAny _ _ (compareOp _ (Value.ref _) (Value.ref _)) _ _ _)); first | walk1 | (dsimp only; walk1)))
    rename Fr _ _ _ _ => F7
    rename News _ _ _ _ => N7
    refine next_at (pre := [(I, oI)]) P B D0 F7 N7 rfl rfl mm0 hI hlen (by walk_at "M.all") (by walk_at "M.all") (cb3 hcB) (by decide) (fun h8 r8 tr8 tc8 tk8 F8 N8 g8 g8' => ?_)
    clear F7 N7
    dsimp only [List.cons_append, List.nil_append] at N8
    (try dsimp only)
    (repeat' ((fail_if_success (with_reducible show wpAny _ _ (pyIter _) _ _ _)); (fail_if_success (with_reducible show wpAny _ _ (call (Value.ref _) _) _ _ _)); (fail_if_success (with_reducible show wpAny _ _ (exec (Stmt.Raise _ _ _) _) _ _ _)); (fail_if_success (with_reducible show wpAny _ _ (exec (Stmt.While _ _ _ _) _) _ _ _)); (fail_if_success (with_reducible show wpAny _ _ (exec (Stmt.Try _ _ _ _ _) _) _ _ _)); (fail_if_success (with_reducible show wpAny _ _ (call (Value.builtin "min") _ _) _ _ _)); (fail_if_success (with_reducible show wpAny _ _ (call (Value.builtin "max") _ _) _ _ _)); (fail_if_success (with_reducible show wpAny _ _ (eval (Expr.Lambda _ _ _ _) _) _ _ _)); (fail_if_success (with_reducible show InvPostN _ _ _ _ _ _ _ _ _)); (fail_if_success (with_reducible show LCg.CompSrc _ _ _ _ _ _ _ _ _ _ _ _ _ _)); (fail_if_success (with_reducible show LCg.CompEnd _ _ _ _ _ _ _ _ _ _ _ _ _ _)); (fail_if_success (with_reducible show wpAny _ _ (eval (Expr.IfExp _ _ _ _) _) _ _ _)); (fail_if_success (with_reducible show TurnPost _ _ _ _ _ _ _ _ _)); (fail_if_success (with_reducible show wpAny _ _ (compareOp _ (Value.ref _) (Value.ref _)) _ _ _)); first | walk1 | (dsimp only; walk1)))
    rename News _ _ _ _ => N9
    rename Fr _ _ _ _ => F9
    replace N9 := News.sub (news' := [_, _, _, _, _, _, _, _, _, _, _, _, _, _, _]) N9 (fun p hp => .tail _ hp)
    rename_i D9 _ lD9 _ _ oBo dBo _ oSp dSp _ oMa dMa _ oRa dRa
    w_top off
    refine next_at (pre := [(I, oI)]) P B D0 F9 N9 rfl rfl mm0 hI hlen (by walk_at "M.all") (by walk_at "M.all") (cb4 hcB) (by decide) (fun h10 r10 tr10 tc10 tk10 F10 N10 g10 g10' => ?_)
    clear F9 N9
    dsimp only [List.cons_append, List.nil_append] at N10
    (try dsimp only)
    (repeat' ((fail_if_success (with_reducible show wpAny _ _ (pyIter _) _ _ _)); (fail_if_success (with_reducible show wpAny _ _ (call (Value.ref _) _) _ _ _)); (fail_if_success (with_reducible show wpAny _ _ (exec (Stmt.Raise _ _ _) _) _ _ _)); (fail_if_success (with_reducible show wpAny _ _ (exec (Stmt.While _ _ _ _) _) _ _ _)); (fail_if_success (with_reducible show wpAny _ _ (exec (Stmt.Try _ _ _ _ _) _) _ _ _)); (fail_if_success (with_reducible show wpAny _ _ (call (Value.builtin "min") _ _) _ _ _)); (fail_if_success (with_reducible show wpAny _ _ (call (Value.builtin "max") _ _) _ _ _)); (fail_if_success (with_reducible show wpAny _ _ (eval (Expr.Lambda _ _ _ _) _) _ _ _)); (fail_if_success (with_reducible show InvPostN _ _ _ _ _ _ _ _ _)); (fail_if_success (with_reducible show LCg.CompSrc _ _ _ _ _ _ _ _ _ _ _ _ _ _)); (fail_if_success (with_reducible show LCg.CompEnd _ _ _ _ _ _ _ _ _ _ _ _ _ _)); (fail_if_success (with_reducible show wpAny _ _ (eval (Expr.IfExp _ _ _ _) _) _ _ _)); (fail_if_success (with_reducible show TurnPost _ _ _ _ _ _ _ _ _)); (fail_if_success (with_reducible show wpAny _ _ (compareOp _ (Value.ref _) (Value.ref _)) _ _ _)); first | walk1 | (dsimp only; walk1)))
    rename IsRange _ _ _ _ _ _ _ _ => hR
    rename News _ _ _ _ => N11
    rename Fr _ _ _ _ => F11
    refine LCg.CompSrc.range (n := r10.toNat) rfl F11 N11 hR (small_r g10 g10') ((rangeSize_nat _ _).trans (by simp)) (show _ ≤ 16777216 from le_r g10') (fun hg => comp_inv (n := r10.toNat) (CJ I oI rl D c _) ?_ ?_ _ 0 [] _ (Nat.zero_add _) rfl ⟨_, _, [], rfl, (Int.add_zero _).symm, .nil, fun _ hm => nomatch hm⟩)
    · rintro i2 v2 I2 oI2 C2 oC2 D2 ys2 nx2 h12 tk12 E2 hi2 hv2 hy2 ⟨c2, tc2', ps2, rfl, hc2, hI2, hp2⟩ F12 N12 off2 ne2
      have z1 : Apart rl I2 := off2.2.1.1
      have z2 : Apart rl C2 := off2.2.1.2.1
      have z3 : Apart rl D2 := off2.2.1.2.2
      clear F11 N11 hR
      (repeat' ((fail_if_success (with_reducible show wpAny _ _ (pyIter _) _ _ _)); (fail_if_success (with_reducible show wpAny _ _ (call (Value.ref _) _) _ _ _)); (fail_if_success (with_reducible show wpAny _ _ (exec (Stmt.Raise _ _ _) _) _ _ _)); (fail_if_success (with_reducible show wpAny _ _ (exec (Stmt.While _ _ _ _) _) _ _ _)); (fail_if_success (with_reducible show wpAny _ _ (exec (Stmt.Try _ _ _ _ _) _) _ _ _)); (fail_if_success (with_reducible show wpAny _ _ (call (Value.builtin "min") _ _) _ _ _)); (fail_if_success (with_reducible show wpAny _ _ (call (Value.builtin "max") _ _) _ _ _)); (fail_if_success (with_reducible show wpAny _ _ (eval (Expr.Lambda _ _ _ _) _) _ _ _)); (fail_if_success (with_reducible show InvPostN _ _ _ _ _ _ _ _ _)); (fail_if_success (with_reducible show LCg.CompSrc _ _ _ _ _ _ _ _ _ _ _ _ _ _)); (fail_if_success (with_reducible show LCg.CompEnd _ _ _ _ _ _ _ _ _ _ _ _ _ _)); (fail_if_success (with_reducible show wpAny _ _ (eval (Expr.IfExp _ _ _ _) _) _ _ _)); (fail_if_success (with_reducible show TurnPost _ _ _ _ _ _ _ _ _)); (fail_if_success (with_reducible show wpAny _ _ (compareOp _ (Value.ref _) (Value.ref _)) _ _ _)); first | walk1 | (dsimp only; walk1)))
      refine next_at (pre := [(I2, oI2), (C2, oC2), (D2, LCg.lst ys2), (I, oI)]) P B D0 F12 N12 rfl rfl mm0 hI hlen (by walk_at "M.all") (by walk_at "M.all") (cb0 (cbx hc2 hc0 hc9 hy2 (Nat.le_of_lt hi2) g10')) (by decide) (fun h14 r14 tr14 tc14 tk14 F14 N14 g14 g14' => ?_)
      refine LCg.CompEnd.intro F14 N14 _ (fun p hp => hp) off2 True.intro ⟨_, _, ps2 ++ [r14], rfl, cj_c hc2, IntsAre.append hI2 (.cons r14 tr14 .nil), cj_b hp2 g14 g14'⟩
    · rintro ys2 nx2 hy2 ⟨c2, tc2', ps2, rfl, hc2, hI2, hp2⟩ pl h12 tk12 F12 N12 off2
      clear F11 N11 hR
      refine off15 off2 fun zI zr zD z6 z5 z4 z3 z2 z1 zB zA zC ztA ztB ztC => ?_
      clear off2
      have hc2' : 0 ≤ c2 ∧ c2 ≤ 1000 := cbx hc2 hc0 hc9 hy2 (Nat.le_refl _) g10'
      have hps : ps2.length ≤ 9 := pr9 hI2.length hy2 g10'
      (repeat' ((fail_if_success (with_reducible show wpAny _ _ (pyIter _) _ _ _)); (fail_if_success (with_reducible show wpAny _ _ (call (Value.ref _) _) _ _ _)); (fail_if_success (with_reducible show wpAny _ _ (exec (Stmt.Raise _ _ _) _) _ _ _)); (fail_if_success (with_reducible show wpAny _ _ (exec (Stmt.While _ _ _ _) _) _ _ _)); (fail_if_success (with_reducible show wpAny _ _ (exec (Stmt.Try _ _ _ _ _) _) _ _ _)); (fail_if_success (with_reducible show wpAny _ _ (call (Value.builtin "min") _ _) _ _ _)); (fail_if_success (with_reducible show wpAny _ _ (call (Value.builtin "max") _ _) _ _ _)); (fail_if_success (with_reducible show wpAny _ _ (eval (Expr.Lambda _ _ _ _) _) _ _ _)); (fail_if_success (with_reducible show InvPostN _ _ _ _ _ _ _ _ _)); (fail_if_success (with_reducible show LCg.CompSrc _ _ _ _ _ _ _ _ _ _ _ _ _ _)); (fail_if_success (with_reducible show LCg.CompEnd _ _ _ _ _ _ _ _ _ _ _ _ _ _)); (fail_if_success (with_reducible show wpAny _ _ (eval (Expr.IfExp _ _ _ _) _) _ _ _)); (fail_if_success (with_reducible show TurnPost _ _ _ _ _ _ _ _ _)); (fail_if_success (with_reducible show wpAny _ _ (compareOp _ (Value.ref _) (Value.ref _)) _ _ _)); first | walk1 | (dsimp only; walk1)))
      refine next_at (pre := [(pl, LCg.lst ys2), (I, oI)]) P B D0 F12 N12 rfl rfl mm0 hI hlen (by walk_at "M.all") (by walk_at "M.all") (cb0 hc2') (by decide) (fun h14 r14 tr14 tc14 tk14 F14 N14 g14 g14' => ?_)
      clear F12 N12
      dsimp only [List.cons_append, List.nil_append] at N14
      (try dsimp only)
      (repeat' ((fail_if_success (with_reducible show wpAny _ _ (pyIter _) _ _ _)); (fail_if_success (with_reducible show wpAny _ _ (call (Value.ref _) _) _ _ _)); (fail_if_success (with_reducible show wpAny _ _ (exec (Stmt.Raise _ _ _) _) _ _ _)); (fail_if_success (with_reducible show wpAny _ _ (exec (Stmt.While _ _ _ _) _) _ _ _)); (fail_if_success (with_reducible show wpAny _ _ (exec (Stmt.Try _ _ _ _ _) _) _ _ _)); (fail_if_success (with_reducible show wpAny _ _ (call (Value.builtin "min") _ _) _ _ _)); (fail_if_success (with_reducible show wpAny _ _ (call (Value.builtin "max") _ _) _ _ _)); (fail_if_success (with_reducible show wpAny _ _ (eval (Expr.Lambda _ _ _ _) _) _ _ _)); (fail_if_success (with_reducible show InvPostN _ _ _ _ _ _ _ _ _)); (fail_if_success (with_reducible show LCg.CompSrc _ _ _ _ _ _ _ _ _ _ _ _ _ _)); (fail_if_success (with_reducible show LCg.CompEnd _ _ _ _ _ _ _ _ _ _ _ _ _ _)); (fail_if_success (with_reducible show wpAny _ _ (eval (Expr.IfExp _ _ _ _) _) _ _ _)); (fail_if_success (with_reducible show TurnPost _ _ _ _ _ _ _ _ _)); (fail_if_success (with_reducible show wpAny _ _ (compareOp _ (Value.ref _) (Value.ref _)) _ _ _)); first | walk1 | (dsimp only; walk1)))
      rename Fr _ _ _ _ => F15
      rename News _ _ _ _ => N15
      rename_i la _ lla D15 _ lD15 _ _ _ _
      clear lD15
      replace N15 := News.subl N15 (.cons _ (.refl _))
      w_top off
      refine ap16 lla fun elP elI elr elD el6 el5 el4 el3 el2 el1 el148 el134 el169 elA elB elC => ?_
      refine next_at (pre := [(la, _), (pl, LCg.lst ys2), (I, oI)]) P B D0 F15 N15 rfl rfl mm0 hI hlen (by walk_at "M.all") (by walk_at "M.all") (cb1 hc2') (by decide) (fun h16 r16 tr16 tc16 tk16 F16 N16 g16 g16' => ?_)
      clear F15 N15
      dsimp only [List.cons_append, List.nil_append] at N16
      (try dsimp only)
      (repeat' ((fail_if_success (with_reducible show wpAny _ _ (pyIter _) _ _ _)); (fail_if_success (with_reducible show wpAny _ _ (call (Value.ref _) _) _ _ _)); (fail_if_success (with_reducible show wpAny _ _ (exec (Stmt.Raise _ _ _) _) _ _ _)); (fail_if_success (with_reducible show wpAny _ _ (exec (Stmt.While _ _ _ _) _) _ _ _)); (fail_if_success (with_reducible show wpAny _ _ (exec (Stmt.Try _ _ _ _ _) _) _ _ _)); (fail_if_success (with_reducible show wpAny _ _ (call (Value.builtin "min") _ _) _ _ _)); (fail_if_success (with_reducible show wpAny _ _ (call (Value.builtin "max") _ _) _ _ _)); (fail_if_success (with_reducible show wpAny _ _ (eval (Expr.Lambda _ _ _ _) _) _ _ _)); (fail_if_success (with_reducible show InvPostN _ _ _ _ _ _ _ _ _)); (fail_if_success (with_reducible show LCg.CompSrc _ _ _ _ _ _ _ _ _ _ _ _ _ _)); (fail_if_success (with_reducible show LCg.CompEnd _ _ _ _ _ _ _ _ _ _ _ _ _ _)); (fail_if_success (with_reducible show wpAny _ _ (eval (Expr.IfExp _ _ _ _) _) _ _ _)); (fail_if_success (with_reducible show TurnPost _ _ _ _ _ _ _ _ _)); (fail_if_success (with_reducible show wpAny _ _ (compareOp _ (Value.ref _) (Value.ref _)) _ _ _)); first | walk1 | (dsimp only; walk1)))
      rename_i lst _ _ _ llst
      w_top off
      walk1
      rename_i x dx _ _ _ ldx lx _ _ _ _ _ _ _ _ _
      refine ap18 ldx fun fd_S fd_A fd_P fd_I fd_R fd_D fd_6 fd_5 fd_4 fd_3 fd_2 fd_1 fd_148 fd_134 fd_169 fd_tA fd_tB fd_tC => ?_
      refine apt18 ldx lx fun fx_S fx_A fx_P fx_I fx_R fx_D fx_6 fx_5 fx_4 fx_3 fx_2 fx_1 fx_148 fx_134 fx_169 fx_tA fx_tB fx_tC => ?_
      have fxd : Apart dx x := Nat.ne_of_lt lx
      (repeat' ((fail_if_success (with_reducible show wpAny _ _ (pyIter _) _ _ _)); (fail_if_success (with_reducible show wpAny _ _ (call (Value.ref _) _) _ _ _)); (fail_if_success (with_reducible show wpAny _ _ (exec (Stmt.Raise _ _ _) _) _ _ _)); (fail_if_success (with_reducible show wpAny _ _ (exec (Stmt.While _ _ _ _) _) _ _ _)); (fail_if_success (with_reducible show wpAny _ _ (exec (Stmt.Try _ _ _ _ _) _) _ _ _)); (fail_if_success (with_reducible show wpAny _ _ (call (Value.builtin "min") _ _) _ _ _)); (fail_if_success (with_reducible show wpAny _ _ (call (Value.builtin "max") _ _) _ _ _)); (fail_if_success (with_reducible show wpAny _ _ (eval (Expr.Lambda _ _ _ _) _) _ _ _)); (fail_if_success (with_reducible show InvPostN _ _ _ _ _ _ _ _ _)); (fail_if_success (with_reducible show LCg.CompSrc _ _ _ _ _ _ _ _ _ _ _ _ _ _)); (fail_if_success (with_reducible show LCg.CompEnd _ _ _ _ _ _ _ _ _ _ _ _ _ _)); (fail_if_success (with_reducible show wpAny _ _ (eval (Expr.IfExp _ _ _ _) _) _ _ _)); (fail_if_success (with_reducible show TurnPost _ _ _ _ _ _ _ _ _)); (fail_if_success (with_reducible show wpAny _ _ (compareOp _ (Value.ref _) (Value.ref _)) _ _ _)); first | walk1 | (dsimp only; walk1)))
      rename_i gG LG hG BG XG TG stk _ _ lstk _ _ ou _ lou _ _ _ _ FG NG TcG kXG _ oHo dHo _ fl _ lfl tup _ ltup _ _ _ _ _ _ F18 N18
      clear qk ek BG XG TG FG NG TcG kXG ltup lifted
      rw [hold_of] at N18
      generalize (fun i => List.getD _ i _ : Nat → Tok) = kk at N18
      replace N18 := News.subl N18 (.cons _ (.cons₂ _ (.cons₂ _ (.cons _ (.cons₂ _ (.cons₂ _ (.cons _ (.refl _))))))))
      rename World => w
      have gen : ∀ C : Prop, (∀ kk u1 u2 u3 u7, News (ghostOf s1.heap [(152, 148), (138, 134), (171, 169)]) (Array.size (Shared.heap s1).objs) _ [(fl, listOf #[.int 7 u7] 0), (ou, listOf #[] 0), (x, instObj 52 dx), (dx, dictOf (holdEs w kk stk ou .none (r14 == 0) fl 0 0 0 u1 u2 u3) 8), (la, listOf #[] 0), (pl, LCg.lst ys2), (I, oI), (rl, listOf #[.ref D, .int (c2 + 1 + 1) tc16] 0), (D, listOf (List.toArray ws) 0),
          ((Array.size (Shared.heap s1).objs) + 1 + 1 + 1 + 1 + 1 + 1, oSp), ((Array.size (Shared.heap s1).objs) + 1 + 1 + 1 + 1 + 1, oRa), ((Array.size (Shared.heap s1).objs) + 1 + 1 + 1 + 1, oMa), ((Array.size (Shared.heap s1).objs) + 1 + 1 + 1, oHo), ((Array.size (Shared.heap s1).objs) + 1 + 1, oBo), ((Array.size (Shared.heap s1).objs) + 1, o1), (148, tabObj pB), (134, tabObj pA), (169, tabObj pC), (tA, oA), (tB, oB), (tC, oC)] → C) → C := fun C kC => kC kk _ _ _ _ N18
      refine gen _ fun kk u1 u2 u3 u7 N19 => ?_
      clear gen
      clear N18
      w_top off
      refine ap21 lou fun fo_K fo_X fo_Q fo_S fo_A fo_P fo_I fo_R fo_D fo_6 fo_5 fo_4 fo_3 fo_2 fo_1 fo_148 fo_134 fo_169 fo_tA fo_tB fo_tC => ?_
      refine ap22 lfl fun ff_O ff_K ff_X ff_Q ff_S ff_A ff_P ff_I ff_R ff_D ff_6 ff_5 ff_4 ff_3 ff_2 ff_1 ff_148 ff_134 ff_169 ff_tA ff_tB ff_tC => ?_
      obtain ⟨RP, hRP⟩ : ∃ RP : List Addr → Heap → Addr → Prop, ∀ fs h'' f, RP fs h'' f ↔ ReplyOf P (OpenLaw.row Challenge.rw_rh0157_01).prog w ⟨x, dx, stk, ou, fl, kk, 0, u3⟩ la f (3 + r2) (1 + r4) ps2 fs h'' := ⟨_, fun _ _ _ => Iff.rfl⟩
      refine cut_eval (fun env v s' => ∀ C : Prop, (∀ plan pB' tB' oB' h' tk, s' = { s1 with heap := h', toks := tk } → Fr (ghostOf s1.heap [(152, 148), (138, 134), (171, 169)]) (Array.size (Shared.heap s1).objs) h' (fun y =>
          if y = Str.ofString "asks_any" then some (Value.bool (decide (0 < r16))) else if y = Str.ofString "plan" then some (Value.ref pl) else if y = Str.ofString "is_over" then some (Value.bool (r14 == 0)) else if y = Str.ofString "asked" then some (Value.ref la) else if y = Str.ofString "turn" then some (Value.int (0 + (i : Int)) t) else m₁ y) →
          News (ghostOf s1.heap [(152, 148), (138, 134), (171, 169)]) (Array.size (Shared.heap s1).objs) h' [(fl, listOf #[.int 7 u7] 0), (ou, listOf #[] 0), (x, instObj 52 dx), (dx, dictOf (holdEs w kk stk ou .none (r14 == 0) fl 0 0 0 u1 u2 u3) 8), (la, listOf #[] 0), (pl, LCg.lst ys2), (I, oI), (rl, listOf #[.ref D, .int (c2 + 1 + 1) tc16] 0), (D, listOf (List.toArray ws) 0),
          ((Array.size (Shared.heap s1).objs) + 1 + 1 + 1 + 1 + 1 + 1, oSp), ((Array.size (Shared.heap s1).objs) + 1 + 1 + 1 + 1 + 1, oRa), ((Array.size (Shared.heap s1).objs) + 1 + 1 + 1 + 1, oMa), ((Array.size (Shared.heap s1).objs) + 1 + 1 + 1, oHo), ((Array.size (Shared.heap s1).objs) + 1 + 1, oBo), ((Array.size (Shared.heap s1).objs) + 1, o1), (148, tabObj pB'), (134, tabObj pA), (169, tabObj pC), (tA, oA), (tB', oB'), (tC, oC)] →
          TabG (ghostOf s1.heap [(152, 148), (138, 134), (171, 169)]) tB' oB' ansPos ansQual pB' → (isCodeO oB' = true ∨ (tB' = D ∧ oB' = listOf (List.toArray ws) 0)) →
          ((decide (0 < r16) = false ∧ v = .none ∧ plan = none) ∨ (decide (0 < r16) = true ∧ ∃ hg f t99, v = .ref hg ∧ plan = some ps2 ∧ IsTup h' hg #[.ref f, .int 99 t99] ∧ (ghostOf s1.heap [(152, 148), (138, 134), (171, 169)]).get? hg = none ∧ FnAt f h' ∧ f ∉ fsOf [env] ∧ ∀ h'', Kept (169 :: fsOf [env]) [] h' h'' → RP (fsOf [env]) h'' f)) → C) → C)
        ?_ ?_
      · w_top off
        walk1
        (repeat' ((fail_if_success (with_reducible show Exists _)); (fail_if_success (with_reducible show wpAny _ _ (pyIter _) _ _ _)); (fail_if_success (with_reducible show wpAny _ _ (call (Value.ref _) _) _ _ _)); (fail_if_success (with_reducible show wpAny _ _ (exec (Stmt.Raise _ _ _) _) _ _ _)); (fail_if_success (with_reducible show wpAny _ _ (exec (Stmt.While _ _ _ _) _) _ _ _)); (fail_if_success (with_reducible show wpAny _ _ (exec (Stmt.Try _ _ _ _ _) _) _ _ _)); (fail_if_success (with_reducible show wpAny _ _ (call (Value.builtin "min") _ _) _ _ _)); (fail_if_success (with_reducible show wpAny _ _ (call (Value.builtin "max") _ _) _ _ _)); (fail_if_success (with_reducible show wpAny _ _ (eval (Expr.Lambda _ _ _ _) _) _ _ _)); (fail_if_success (with_reducible show InvPostN _ _ _ _ _ _ _ _ _)); (fail_if_success (with_reducible show LCg.CompSrc _ _ _ _ _ _ _ _ _ _ _ _ _ _)); (fail_if_success (with_reducible show LCg.CompEnd _ _ _ _ _ _ _ _ _ _ _ _ _ _)); (fail_if_success (with_reducible show wpAny _ _ (eval (Expr.IfExp _ _ _ _) _) _ _ _)); (fail_if_success (with_reducible show TurnPost _ _ _ _ _ _ _ _ _)); (fail_if_success (with_reducible show wpAny _ _ (compareOp _ (Value.ref _) (Value.ref _)) _ _ _)); first | walk1 | (dsimp only; walk1)))
        · rename Fr _ _ _ _ => F20
          rename News _ _ _ _ => N20
          have px : @Ne Nat pl x := by walk_at "M.ap"
          have pd : @Ne Nat pl dx := by walk_at "M.ap"
          have pf : @Ne Nat pl fl := by walk_at "M.ap"
          have pa : @Ne Nat pl la := by walk_at "M.ap"
          have fa : @Ne Nat fl la := by walk_at "M.ap"
          have tb20 : TabAt 148 ansPos ansQual _ := gB.at F20.keep (nGet N20 mm15) (nGet N20 mm19)
          have hq : decide (0 < r16) = true := by first | assumption | (simp; omega)
          refine wpAny_call (answers_spec (H := ⟨x, dx, stk, ou, fl, kk, 0, u3⟩) (ak := la) (plan := ps2) (pv := ys2) (pre_call P B D0 F20 rfl rfl) ⟨_, (nGet N20 mm5), rfl, _, rfl⟩ hI2 ⟨hps, fun y hy => ⟨(hp2 y hy).1, Int.le_trans (hp2 y hy).2 (by decide)⟩⟩ tb20 (loose_of B rfl N20 mm15 gB.code) (loose_of B rfl N20 mm5 rfl) (rb g2 g2' (by decide) (by decide)) (rb g4 g4' (by decide) (by decide))
            (forall_cons ⟨px, _, (nGet N20 mm2)⟩ (forall_cons ⟨pd, _, (nGet N20 mm3)⟩ (forall_cons ⟨pf, _, (nGet N20 mm0)⟩ (forall_cons ⟨pa, _, (nGet N20 mm4)⟩ forall_nil))))
            zA.ne ⟨_, (nGet N20 mm16)⟩ zC.ne ⟨_, (nGet N20 mm17)⟩ fa (fun h21 f tk21 k21 tb21 hf21 hr21 => ?_))
          have F21 := after_call0 F20 k21 (forall_cons ⟨(nOff N20 mm15), (nNeL N20 mm15)⟩ forall_nil)
          have hD21 := old_of0 N20 k21 mm8 (nm_cons (show @Ne Nat D 148 by walk_at "M.ap") nm_nil)
          refine TabAt.groundC tb21 F21 hD21 fun pB' tB' oB' hps21 tg21 htc21 hoc21 => ?_
          have N21 := News.kept1 (own := [_, _, _, _, _, _, _, _, _, _, _, _, _, _, _]) N20 k21 hps21 (by walk_at "M.all") (by walk_at "M.all")
          dsimp only [List.cons_append, List.nil_append] at N21
          replace N21 := News.repl (pre := [_, _, _, _, _, _, _, _, _, _, _, _, _, _, _, _, _, _, _]) N21 htc21
          dsimp only [List.cons_append, List.nil_append] at N21
          have fL : ∀ env : Env, env.frame = some (Array.size (Shared.heap s1).objs) → f ∉ fsOf [env] := fun env he hm => by
            obtain ⟨oL, es, ep, hoL, hLd, _⟩ := F21.ns
            obtain ⟨e', he', hfe⟩ := List.mem_filterMap.mp hm
            rw [List.mem_singleton.mp he', he] at hfe
            cases hfe
            exact FnAt.ne hf21.1 hoL (fun _ q => by rw [hLd] at q; cases q) rfl
          clear F20 N20 tb20 k21
          (try dsimp only)
          walk1
          walk1
          walk1
          refine wpAny_newTuple ?_
          refine fun C kC => kC (some ps2) pB' tB' oB' _ _ rfl (F21.push _) (fun p hp => ⟨Heap.get?_push_of_some _ (N21 p hp).1, (N21 p hp).2⟩) tg21 hoc21 (.inr ⟨hq, _, f, _, rfl, rfl, ⟨_, Heap.get?_push_size _ rfl, rfl, _, rfl⟩, kts_none F21.keep (Heap.get?_none_of_le (Nat.le_refl _)), FnAt.up hf21.1 (fun _ _ e => Heap.get?_push_of_some _ e), fL _ rfl, fun h'' k'' => ?_⟩)
          exact (hRP _ _ _).mpr (hr21 h'' ((Kept.of_keeps (M := 169 :: _) (fs := []) fun _ _ e => Heap.get?_push_of_some _ e).trans k'' (fun b q => .inl q) (fun _ q => nomatch q) fun _ q => nomatch q))
        · rename Fr _ _ _ _ => F20
          rename News _ _ _ _ => N20
          rename_i kC
          exact kC none pB tB oB _ _ rfl F20 N20 gB qB (.inl ⟨by first | assumption | (simp; omega), rfl, rfl⟩)
      · intro v s' hC
        refine hC _ fun plan pB' tB' oB' h20 tk20 e20 F20 N20 gB' qB' hans => ?_
        clear hC
        subst e20
        clear F18 N19 gB qB aBrl aBx6 aBx5 aBx4 aBx3 aBx2 aBx1 aBt148 aBt134 aBt169
        have aBrl : Apart tB' (rl) := apart_tc N20 qB' mm19 mm7 rfl (by walk_at "M.ap")
        have aBx6 : Apart tB' ((Array.size (Shared.heap s1).objs) + 1 + 1 + 1 + 1 + 1 + 1) := apart_tc N20 qB' mm19 mm9 (isCodeO_cell dSp) (by walk_at "M.ap")
        have aBx5 : Apart tB' ((Array.size (Shared.heap s1).objs) + 1 + 1 + 1 + 1 + 1) := apart_tc N20 qB' mm19 mm10 (isCodeO_cell dRa) (by walk_at "M.ap")
        have aBx4 : Apart tB' ((Array.size (Shared.heap s1).objs) + 1 + 1 + 1 + 1) := apart_tc N20 qB' mm19 mm11 (isCodeO_cell dMa) (by walk_at "M.ap")
        have aBx3 : Apart tB' ((Array.size (Shared.heap s1).objs) + 1 + 1 + 1) := apart_tc N20 qB' mm19 mm12 (isCodeO_cell dHo) (by walk_at "M.ap")
        have aBx2 : Apart tB' ((Array.size (Shared.heap s1).objs) + 1 + 1) := apart_tc N20 qB' mm19 mm13 (isCodeO_cell dBo) (by walk_at "M.ap")
        have aBx1 : Apart tB' ((Array.size (Shared.heap s1).objs) + 1) := apart_tc N20 qB' mm19 mm14 (isCodeO_cell d1) (by walk_at "M.ap")
        have aBt148 : Apart tB' (148) := apart_tc N20 qB' mm19 mm15 gB'.code (by walk_at "M.ap")
        have aBt134 : Apart tB' (134) := apart_tc N20 qB' mm19 mm16 gA.code (by walk_at "M.ap")
        have aBt169 : Apart tB' (169) := apart_tc N20 qB' mm19 mm17 gC.code (by walk_at "M.ap")
        (try dsimp only)
        w_top off
        refine wpAny_storeName_local rfl F20.ns (fun h21 hn21 hs21 => ?_)
        have F21 := F20.set hn21 hs21
        have N21 := N20.set hs21
        have k21 : Kept [(Array.size (Shared.heap s1).objs)] [] h20 h21 := kept_store (x := 0) (v := .none) F20 hs21.2
        have h169 := (nGet N20 mm17)
        obtain ⟨oL20, es20, ep20, hoL20, hLd20, _⟩ := id F20.ns
        clear F20 hn21 N20
        (try dsimp only)
        (repeat' ((fail_if_success (with_reducible show wpAny _ _ (pyIter _) _ _ _)); (fail_if_success (with_reducible show wpAny _ _ (call (Value.ref _) _) _ _ _)); (fail_if_success (with_reducible show wpAny _ _ (exec (Stmt.Raise _ _ _) _) _ _ _)); (fail_if_success (with_reducible show wpAny _ _ (exec (Stmt.While _ _ _ _) _) _ _ _)); (fail_if_success (with_reducible show wpAny _ _ (exec (Stmt.Try _ _ _ _ _) _) _ _ _)); (fail_if_success (with_reducible show wpAny _ _ (call (Value.builtin "min") _ _) _ _ _)); (fail_if_success (with_reducible show wpAny _ _ (call (Value.builtin "max") _ _) _ _ _)); (fail_if_success (with_reducible show wpAny _ _ (eval (Expr.Lambda _ _ _ _) _) _ _ _)); (fail_if_success (with_reducible show InvPostN _ _ _ _ _ _ _ _ _)); (fail_if_success (with_reducible show LCg.CompSrc _ _ _ _ _ _ _ _ _ _ _ _ _ _)); (fail_if_success (with_reducible show LCg.CompEnd _ _ _ _ _ _ _ _ _ _ _ _ _ _)); (fail_if_success (with_reducible show wpAny _ _ (eval (Expr.IfExp _ _ _ _) _) _ _ _)); (fail_if_success (with_reducible show TurnPost _ _ _ _ _ _ _ _ _)); (fail_if_success (with_reducible show wpAny _ _ (compareOp _ (Value.ref _) (Value.ref _)) _ _ _)); first | walk1 | (dsimp only; walk1)))
        have tb21 : TabAt 169 lawPos lawQual h21 := gC.at F21.keep (nGet N21 mm17) (nGet N21 mm20)
        k_dflt (refine' lam_make (P := 169) (c := 171) F21 T C3 ?e1 (nOff N21 mm17) (nNeL N21 mm17) tb21 ?e2 ?e3 ?_)
        case e1 => exact rfl
        case e2 => exact rfl
        case e3 => exact rfl
        intro wf wc pmw ctvw h22 tk22 F22 k22 tb22 nwf hwf hwc
        have tb22' : TabAt 169 lawPos lawQual h22 := tb22
        obtain ⟨qn, hwf, hwc⟩ : ∃ qn, h22.get? wf = some (kla_obj "<lambda>" qn _ _ _ _ _ _ _) ∧ h22.CodeRec (.ref wc) qn := ⟨_, hwf, hwc⟩
        have hD22 := old_of0 N21 k22 mm8 (nm_cons (show @Ne Nat D 169 by walk_at "M.ap") nm_nil)
        refine TabAt.groundC tb22' F22 hD22 fun pC' tC' oC' hps22 tg22 htc22 hoc22 => ?_
        have N22 := News.kept1 (own := [_, _, _, _, _, _, _, _, _, _, _, _, _, _, _, _, _]) N21 k22 hps22 (by walk_at "M.all") (by walk_at "M.all")
        dsimp only [List.cons_append, List.nil_append] at N22
        replace N22 := News.repl (pre := [_, _, _, _, _, _, _, _, _, _, _, _, _, _, _, _, _, _, _, _]) N22 htc22
        dsimp only [List.cons_append, List.nil_append] at N22
        have k20 : Kept [169, (Array.size (Shared.heap s1).objs)] [] h20 h22 := (k21.mono (M' := [169, (Array.size (Shared.heap s1).objs)]) (fs' := []) (fun b q => .inl (.tail _ q)) (fun _ q => nomatch q) (fun _ q => nomatch q)).trans k22 (fun b q => .inl (by rw [List.mem_singleton.mp q]; exact .head _)) (fun _ q => nomatch q) (fun _ q => nomatch q)
        clear F21 N21 k21 tb21 tb22 tb22' hs21 k22 hD22
        clear nwf gC qC aCrl aCx6 aCx5 aCx4 aCx3 aCx2 aCx1 aCt148 aCt134 aCt169
        have aCrl : Apart tC' (rl) := apart_tc N22 hoc22 mm20 mm7 rfl (by walk_at "M.ap")
        have aCx6 : Apart tC' ((Array.size (Shared.heap s1).objs) + 1 + 1 + 1 + 1 + 1 + 1) := apart_tc N22 hoc22 mm20 mm9 (isCodeO_cell dSp) (by walk_at "M.ap")
        have aCx5 : Apart tC' ((Array.size (Shared.heap s1).objs) + 1 + 1 + 1 + 1 + 1) := apart_tc N22 hoc22 mm20 mm10 (isCodeO_cell dRa) (by walk_at "M.ap")
        have aCx4 : Apart tC' ((Array.size (Shared.heap s1).objs) + 1 + 1 + 1 + 1) := apart_tc N22 hoc22 mm20 mm11 (isCodeO_cell dMa) (by walk_at "M.ap")
        have aCx3 : Apart tC' ((Array.size (Shared.heap s1).objs) + 1 + 1 + 1) := apart_tc N22 hoc22 mm20 mm12 (isCodeO_cell dHo) (by walk_at "M.ap")
        have aCx2 : Apart tC' ((Array.size (Shared.heap s1).objs) + 1 + 1) := apart_tc N22 hoc22 mm20 mm13 (isCodeO_cell dBo) (by walk_at "M.ap")
        have aCx1 : Apart tC' ((Array.size (Shared.heap s1).objs) + 1) := apart_tc N22 hoc22 mm20 mm14 (isCodeO_cell d1) (by walk_at "M.ap")
        have aCt148 : Apart tC' (148) := apart_tc N22 hoc22 mm20 mm15 gB'.code (by walk_at "M.ap")
        have aCt134 : Apart tC' (134) := apart_tc N22 hoc22 mm20 mm16 gA.code (by walk_at "M.ap")
        have aCt169 : Apart tC' (169) := apart_tc N22 hoc22 mm20 mm17 tg22.code (by walk_at "M.ap")
        (try dsimp only)
        (repeat' ((fail_if_success (with_reducible show wpAny _ _ (pyIter _) _ _ _)); (fail_if_success (with_reducible show wpAny _ _ (call (Value.ref _) _) _ _ _)); (fail_if_success (with_reducible show wpAny _ _ (exec (Stmt.Raise _ _ _) _) _ _ _)); (fail_if_success (with_reducible show wpAny _ _ (exec (Stmt.While _ _ _ _) _) _ _ _)); (fail_if_success (with_reducible show wpAny _ _ (exec (Stmt.Try _ _ _ _ _) _) _ _ _)); (fail_if_success (with_reducible show wpAny _ _ (call (Value.builtin "min") _ _) _ _ _)); (fail_if_success (with_reducible show wpAny _ _ (call (Value.builtin "max") _ _) _ _ _)); (fail_if_success (with_reducible show wpAny _ _ (eval (Expr.Lambda _ _ _ _) _) _ _ _)); (fail_if_success (with_reducible show InvPostN _ _ _ _ _ _ _ _ _)); (fail_if_success (with_reducible show LCg.CompSrc _ _ _ _ _ _ _ _ _ _ _ _ _ _)); (fail_if_success (with_reducible show LCg.CompEnd _ _ _ _ _ _ _ _ _ _ _ _ _ _)); (fail_if_success (with_reducible show wpAny _ _ (eval (Expr.IfExp _ _ _ _) _) _ _ _)); (fail_if_success (with_reducible show TurnPost _ _ _ _ _ _ _ _ _)); (fail_if_success (with_reducible show wpAny _ _ (compareOp _ (Value.ref _) (Value.ref _)) _ _ _)); first | walk1 | (dsimp only; walk1)))
        w_top off
        refine wpAny_call (guarded_spec (H := ⟨x, dx, stk, ou, fl, kk, 0, u3⟩) (ak := la) (plan := plan) (bound := 3 + r2) (spare := 1 + r4) (many := r6) (raises := r8 == 1) (pre_call P B D0 F22 rfl rfl) ⟨(nGet N22 mm2), (nGet N22 mm3), (nGet N22 mm0)⟩ (nGet N22 mm4) (gA.at F22.keep (nGet N22 mm16) (nGet N22 mm18)) rfl ⟨_, _, _, _, hwf⟩ ?bwf ?hwk ?hdl (loose_of B rfl N22 mm2 rfl) (loose_of B rfl N22 mm3 rfl) (loose_of B rfl N22 mm0 rfl) (loose_of B rfl N22 mm4 rfl) (loose_of B rfl N22 mm16 gA.code) ?hfa (rb g2 g2' (by decide) (by decide)) (rb g4 g4' (by decide) (by decide)) (rb0 g6 g6' (by decide)) (show 1 ≤ 100 by decide) ?fin)
        case bwf =>
          intro hm
          obtain ⟨oL, es, ep, hoL, hLd, _⟩ := F22.ns
          obtain ⟨e', he', hfe⟩ := List.mem_filterMap.mp hm
          rw [List.mem_singleton.mp he'] at hfe
          cases hfe
          rw [hwf] at hoL; cases hoL; cases hLd
        case hfa =>
          show @Ne Nat fl la
          walk_at "M.ap"
        case hwk =>
          w_top off
          intro hn' A' l' s' R' ans over cc hd t1 t2 fr k P' kp' HA ht' bx bdx bfl bt' hH hHn hfr ok er
          have cellat : ∀ {b : Addr} {o : Obj} {v : Option Value}, (h22.get? b = some o ∧ b ≠ (Array.size (Shared.heap s1).objs) ∧ (ghostOf s1.heap [(152, 148), (138, 134), (171, 169)]).get? b = none) → o.data = .cell v → s'.heap.get? b = some o ∧ Loose (ghostOf s1.heap [(152, 148), (138, 134), (171, 169)]) l' s'.heap b := fun {b o v} hb hd => by
            have e := kp'.same b o hb.1 (nm_cons (cell_ne hb.1 hd (nGet N22 mm3) fun _ q => by cases q) nm_nil) (nfs1 rfl hb.2.1)
            refine ⟨e, hb.2.2, fun hm => ?_, NotCode.of e (by unfold isCodeO; rw [hd])⟩
            obtain ⟨o', es, n, e', hd'⟩ := P'.D b hm
            rw [e'] at e; cases e; rw [hd] at hd'; cases hd'
          have hwL : wf ≠ (Array.size (Shared.heap s1).objs) := by
            obtain ⟨oL, es, ep, hoL, hLd, _⟩ := F22.ns
            exact FnAt.ne ⟨_, _, _, _, hwf⟩ hoL (fun _ q => by rw [hLd] at q; cases q)
          have hwf' := kp'.same wf _ hwf (nm_cons (FnAt.ne ⟨_, _, _, _, hwf⟩ (nGet N22 mm3) fun _ q => by cases q) nm_nil) (nfs1 rfl hwL)
          have hwc' := codeRec_kept hwc kp'
          have cSp : s'.heap.get? ((Array.size (Shared.heap s1).objs) + 1 + 1 + 1 + 1 + 1 + 1) = some oSp := (cellat (N22 _ mm9) dSp).1
          have lSp : Loose (ghostOf s1.heap [(152, 148), (138, 134), (171, 169)]) l' s'.heap ((Array.size (Shared.heap s1).objs) + 1 + 1 + 1 + 1 + 1 + 1) := (cellat (N22 _ mm9) dSp).2
          have cRa : s'.heap.get? ((Array.size (Shared.heap s1).objs) + 1 + 1 + 1 + 1 + 1) = some oRa := (cellat (N22 _ mm10) dRa).1
          have lRa : Loose (ghostOf s1.heap [(152, 148), (138, 134), (171, 169)]) l' s'.heap ((Array.size (Shared.heap s1).objs) + 1 + 1 + 1 + 1 + 1) := (cellat (N22 _ mm10) dRa).2
          have cMa : s'.heap.get? ((Array.size (Shared.heap s1).objs) + 1 + 1 + 1 + 1) = some oMa := (cellat (N22 _ mm11) dMa).1
          have lMa : Loose (ghostOf s1.heap [(152, 148), (138, 134), (171, 169)]) l' s'.heap ((Array.size (Shared.heap s1).objs) + 1 + 1 + 1 + 1) := (cellat (N22 _ mm11) dMa).2
          have cHo : s'.heap.get? ((Array.size (Shared.heap s1).objs) + 1 + 1 + 1) = some oHo := (cellat (N22 _ mm12) dHo).1
          have lHo : Loose (ghostOf s1.heap [(152, 148), (138, 134), (171, 169)]) l' s'.heap ((Array.size (Shared.heap s1).objs) + 1 + 1 + 1) := (cellat (N22 _ mm12) dHo).2
          have cBo : s'.heap.get? ((Array.size (Shared.heap s1).objs) + 1 + 1) = some oBo := (cellat (N22 _ mm13) dBo).1
          have lBo : Loose (ghostOf s1.heap [(152, 148), (138, 134), (171, 169)]) l' s'.heap ((Array.size (Shared.heap s1).objs) + 1 + 1) := (cellat (N22 _ mm13) dBo).2
          clear cellat hwL hwf hwc N22 F22 kp' k20 hans
          refine' enterE P' [x, dx, fl, 134, (Array.size (Shared.heap s1).objs) + 1 + 1 + 1 + 1 + 1 + 1, (Array.size (Shared.heap s1).objs) + 1 + 1 + 1 + 1 + 1, (Array.size (Shared.heap s1).objs) + 1 + 1 + 1 + 1, (Array.size (Shared.heap s1).objs) + 1 + 1 + 1, (Array.size (Shared.heap s1).objs) + 1 + 1] [] (looseC bx (looseC bdx (looseC bfl (looseC bt' (looseC lSp (looseC lRa (looseC lMa (looseC lHo (loose1 lBo))))))))) hwf' hwc' ?hb10 ?lc10 ?_
          case hb10 => rfl
          case lc10 => exact fun _ hm => nomatch hm
          intro g' L' h1' G' F' kpp hL' B' D' X' T'
          try dsimp only
          k_fold
          refine exEl2 ht'.obj fun ps' hps' hpc' => ?_
          obtain ⟨hx, hdx, hfl⟩ := HA
          try dsimp only at hx hdx hfl
          have xd : @Ne Nat x dx := ne_objc hx hdx (by first | exact cID | exact cIL | exact cIT | exact cDL | exact cDT | exact cLT | simp)
          have xf : @Ne Nat x fl := ne_objc hx hfl (by first | exact cID | exact cIL | exact cIT | exact cDL | exact cDT | exact cLT | simp)
          have df : @Ne Nat dx fl := ne_objc hdx hfl (by first | exact cID | exact cIL | exact cIT | exact cDL | exact cDT | exact cLT | simp)
          have xt : @Ne Nat x 134 := ne_objc hx hps' (by first | exact cID | exact cIL | exact cIT | exact cDL | exact cDT | exact cLT | simp)
          have dt : @Ne Nat dx 134 := ne_objc hdx hps' (by first | exact cID | exact cIL | exact cIT | exact cDL | exact cDT | exact cLT | simp)
          have ft : @Ne Nat fl 134 := ne_objc hfl hps' (by first | exact cID | exact cIL | exact cIT | exact cDL | exact cDT | exact cLT | simp)
          have fSp : Apart ((Array.size (Shared.heap s1).objs) + 1 + 1 + 1 + 1 + 1 + 1) fl := cell_ne cSp dSp hfl fun _ q => by cases q
          have dSp' : Apart ((Array.size (Shared.heap s1).objs) + 1 + 1 + 1 + 1 + 1 + 1) dx := cell_ne cSp dSp hdx fun _ q => by cases q
          have tSp : Apart ((Array.size (Shared.heap s1).objs) + 1 + 1 + 1 + 1 + 1 + 1) 134 := cell_ne cSp dSp hps' fun _ q => by cases q
          have fRa : Apart ((Array.size (Shared.heap s1).objs) + 1 + 1 + 1 + 1 + 1) fl := cell_ne cRa dRa hfl fun _ q => by cases q
          have dRa' : Apart ((Array.size (Shared.heap s1).objs) + 1 + 1 + 1 + 1 + 1) dx := cell_ne cRa dRa hdx fun _ q => by cases q
          have tRa : Apart ((Array.size (Shared.heap s1).objs) + 1 + 1 + 1 + 1 + 1) 134 := cell_ne cRa dRa hps' fun _ q => by cases q
          have fMa : Apart ((Array.size (Shared.heap s1).objs) + 1 + 1 + 1 + 1) fl := cell_ne cMa dMa hfl fun _ q => by cases q
          have dMa' : Apart ((Array.size (Shared.heap s1).objs) + 1 + 1 + 1 + 1) dx := cell_ne cMa dMa hdx fun _ q => by cases q
          have tMa : Apart ((Array.size (Shared.heap s1).objs) + 1 + 1 + 1 + 1) 134 := cell_ne cMa dMa hps' fun _ q => by cases q
          have fHo : Apart ((Array.size (Shared.heap s1).objs) + 1 + 1 + 1) fl := cell_ne cHo dHo hfl fun _ q => by cases q
          have dHo' : Apart ((Array.size (Shared.heap s1).objs) + 1 + 1 + 1) dx := cell_ne cHo dHo hdx fun _ q => by cases q
          have tHo : Apart ((Array.size (Shared.heap s1).objs) + 1 + 1 + 1) 134 := cell_ne cHo dHo hps' fun _ q => by cases q
          have fBo : Apart ((Array.size (Shared.heap s1).objs) + 1 + 1) fl := cell_ne cBo dBo hfl fun _ q => by cases q
          have dBo' : Apart ((Array.size (Shared.heap s1).objs) + 1 + 1) dx := cell_ne cBo dBo hdx fun _ q => by cases q
          have tBo : Apart ((Array.size (Shared.heap s1).objs) + 1 + 1) 134 := cell_ne cBo dBo hps' fun _ q => by cases q
          have N' : News g' L' h1' [(x, instObj 52 dx), (dx, dictOf (holdEs w kk stk ou ans over fl cc hd 0 t1 t2 u3) 8), (fl, listOf fr k), (134, tabObj ps'), ((Array.size (Shared.heap s1).objs) + 1 + 1 + 1 + 1 + 1 + 1, oSp), ((Array.size (Shared.heap s1).objs) + 1 + 1 + 1 + 1 + 1, oRa), ((Array.size (Shared.heap s1).objs) + 1 + 1 + 1 + 1, oMa), ((Array.size (Shared.heap s1).objs) + 1 + 1 + 1, oHo), ((Array.size (Shared.heap s1).objs) + 1 + 1, oBo)] := G'.news1 kpp hx (by k_mem) (G'.news1 kpp hdx (by k_mem) (G'.news1 kpp hfl (by k_mem) (G'.news1 kpp hps' (by k_mem) (G'.news1 kpp cSp (by k_mem) (G'.news1 kpp cRa (by k_mem) (G'.news1 kpp cMa (by k_mem) (G'.news1 kpp cHo (by k_mem) (G'.news1 kpp cBo (by k_mem) News.nil))))))))
          have ht1 : TabAt 134 lamPos lamQual h1' := ht'.same ((kpp hps').1.trans hps'.symm) (Kept.of_keeps (M := []) (fs := []) fun b o e => (kpp e).1)
          have hH1 : Hd A' h1' := hH.keeps fun b o e _ _ => (kpp e).1
          clear kpp
          (repeat' ((fail_if_success (with_reducible show wpAny _ _ (pyIter _) _ _ _)); (fail_if_success (with_reducible show wpAny _ _ (call (Value.ref _) _) _ _ _)); (fail_if_success (with_reducible show wpAny _ _ (exec (Stmt.Raise _ _ _) _) _ _ _)); (fail_if_success (with_reducible show wpAny _ _ (exec (Stmt.While _ _ _ _) _) _ _ _)); (fail_if_success (with_reducible show wpAny _ _ (exec (Stmt.Try _ _ _ _ _) _) _ _ _)); (fail_if_success (with_reducible show wpAny _ _ (call (Value.builtin "min") _ _) _ _ _)); (fail_if_success (with_reducible show wpAny _ _ (call (Value.builtin "max") _ _) _ _ _)); (fail_if_success (with_reducible show wpAny _ _ (eval (Expr.Lambda _ _ _ _) _) _ _ _)); (fail_if_success (with_reducible show InvPostN _ _ _ _ _ _ _ _ _)); (fail_if_success (with_reducible show LCg.CompSrc _ _ _ _ _ _ _ _ _ _ _ _ _ _)); (fail_if_success (with_reducible show LCg.CompEnd _ _ _ _ _ _ _ _ _ _ _ _ _ _)); (fail_if_success (with_reducible show wpAny _ _ (eval (Expr.IfExp _ _ _ _) _) _ _ _)); (fail_if_success (with_reducible show TurnPost _ _ _ _ _ _ _ _ _)); (fail_if_success (with_reducible show wpAny _ _ (compareOp _ (Value.ref _) (Value.ref _)) _ _ _)); first | walk1 | (dsimp only; walk1)))
          rename News _ _ _ _ => N'
          rename Fr _ _ _ _ => F'
          w_top off
          have lx : ∀ env : Env, env.frame = some L' → Loose _ (env :: l') h1' x := fun _ he => loose_of B' he N' mm0 rfl
          have ldx : ∀ env : Env, env.frame = some L' → Loose _ (env :: l') h1' dx := fun _ he => loose_of B' he N' mm1 rfl
          have lfl : ∀ env : Env, env.frame = some L' → Loose _ (env :: l') h1' fl := fun _ he => loose_of B' he N' mm2 rfl
          have lt : ∀ env : Env, env.frame = some L' → Loose _ (env :: l') h1' 134 := fun _ he => loose_of B' he N' mm3 hpc'
          have m0 := (N' _ mm0)
          have m1 := (N' _ mm1)
          have m2 := (N' _ mm2)
          have m3 := (N' _ mm3)
          have mSp : h1'.get? ((Array.size (Shared.heap s1).objs) + 1 + 1 + 1 + 1 + 1 + 1) = some oSp ∧ _ ∧ _ := (N' _ mm4)
          have kSp : ∀ env : Env, env.frame = some L' → Loose _ (env :: l') h1' ((Array.size (Shared.heap s1).objs) + 1 + 1 + 1 + 1 + 1 + 1) := fun _ he => loose_of B' he N' mm4 (isCodeO_cell dSp)
          have mRa : h1'.get? ((Array.size (Shared.heap s1).objs) + 1 + 1 + 1 + 1 + 1) = some oRa ∧ _ ∧ _ := (N' _ mm5)
          have kRa : ∀ env : Env, env.frame = some L' → Loose _ (env :: l') h1' ((Array.size (Shared.heap s1).objs) + 1 + 1 + 1 + 1 + 1) := fun _ he => loose_of B' he N' mm5 (isCodeO_cell dRa)
          have mMa : h1'.get? ((Array.size (Shared.heap s1).objs) + 1 + 1 + 1 + 1) = some oMa ∧ _ ∧ _ := (N' _ mm6)
          have kMa : ∀ env : Env, env.frame = some L' → Loose _ (env :: l') h1' ((Array.size (Shared.heap s1).objs) + 1 + 1 + 1 + 1) := fun _ he => loose_of B' he N' mm6 (isCodeO_cell dMa)
          have mHo : h1'.get? ((Array.size (Shared.heap s1).objs) + 1 + 1 + 1) = some oHo ∧ _ ∧ _ := (N' _ mm7)
          have kHo : ∀ env : Env, env.frame = some L' → Loose _ (env :: l') h1' ((Array.size (Shared.heap s1).objs) + 1 + 1 + 1) := fun _ he => loose_of B' he N' mm7 (isCodeO_cell dHo)
          have mBo : h1'.get? ((Array.size (Shared.heap s1).objs) + 1 + 1) = some oBo ∧ _ ∧ _ := (N' _ mm8)
          have kBo : ∀ env : Env, env.frame = some L' → Loose _ (env :: l') h1' ((Array.size (Shared.heap s1).objs) + 1 + 1) := fun _ he => loose_of B' he N' mm8 (isCodeO_cell dBo)
          refine wpAny_call (work_spec (pre_call P' B' D' F' rfl rfl) m0.1 m1.1 m2.1 ht1 (lx _ rfl) (ldx _ rfl) (lfl _ rfl) (lt _ rfl) hH1 hHn (rb g2 g2' (by decide) (by decide)) (rb g4 g4' (by decide) (by decide)) (rb0 g6 g6' (by decide)) (Nat.le_trans hfr (by decide)) (fun h2 fr2 ext k2 tk2' kp2 hfl2 hext hrs hgo => ?_) (fun h2 fr2 ext k2 e T d bs tv b ih o tk2' tr q1 q2 q3 kp2 hdx2 hfl2 hext tb2 fl2 hd2 hE hgo ne nd nT => ?_))
          · have F2 := after_call0 F' kp2 (forall_cons ⟨m2.2.2, m2.2.1⟩ forall_nil)
            have o0 := old_of0 N' kp2 mm0 (nm_cons xf nm_nil)
            have o1 := old_of0 N' kp2 mm1 (nm_cons df nm_nil)
            have o3 := old_of0 N' kp2 mm3 (nm_cons ft.symm nm_nil)
            have pSp : h2.get? ((Array.size (Shared.heap s1).objs) + 1 + 1 + 1 + 1 + 1 + 1) = some oSp ∧ _ ∧ _ := old_of0 N' kp2 mm4 (nm_cons fSp.ne nm_nil)
            have pRa : h2.get? ((Array.size (Shared.heap s1).objs) + 1 + 1 + 1 + 1 + 1) = some oRa ∧ _ ∧ _ := old_of0 N' kp2 mm5 (nm_cons fRa.ne nm_nil)
            have pMa : h2.get? ((Array.size (Shared.heap s1).objs) + 1 + 1 + 1 + 1) = some oMa ∧ _ ∧ _ := old_of0 N' kp2 mm6 (nm_cons fMa.ne nm_nil)
            have pHo : h2.get? ((Array.size (Shared.heap s1).objs) + 1 + 1 + 1) = some oHo ∧ _ ∧ _ := old_of0 N' kp2 mm7 (nm_cons fHo.ne nm_nil)
            have pBo : h2.get? ((Array.size (Shared.heap s1).objs) + 1 + 1) = some oBo ∧ _ ∧ _ := old_of0 N' kp2 mm8 (nm_cons fBo.ne nm_nil)
            (show R' _ _)
            have K0 := (G'.ke0 F2).tight (M := [fl]) (tightC (.inr (tight_old hx o0.1)) (tightC (.inr (tight_old hdx o1.1)) (tightC (.inl mm0) (tightC (.inr (tight_old hps' o3.1)) (tightC (.inr (tight_old cSp pSp.1)) (tightC (.inr (tight_old cRa pRa.1)) (tightC (.inr (tight_old cMa pMa.1)) (tightC (.inr (tight_old cHo pHo.1)) (tightC (.inr (tight_old cBo pBo.1)) tightN)))))))))
            exact ok _ fr2 ext k2 _ K0 hfl2 hext hrs hgo
          · refine after_callC P' B' D' F' rfl kp2 (forall_cons ⟨m1.2.2, m1.2.1⟩ (forall_cons ⟨m2.2.2, m2.2.1⟩ (forall_cons ⟨m3.2.2, m3.2.1⟩ (forall_nil)))) fun g2 Tg F2 B2 D2 X2 T2 => ?_
            show wpAny _ _ (leaving _ (.ref e)) _ _ _
            refine leave_next (pre_call P' B2 D2 F2 rfl rfl).B rfl fl2 fun h8 T8 k8 hT8 fl8 => ?_
            (show R' _ _)
            obtain ⟨de, dT⟩ := fl2.ne_dict hd2 (fun _ q => by cases q)
            refine exEl2 tb2.obj fun ps2 hps2 hpc2 => ?_
            have gx2 := kp2.same _ _ m0.1 (nm_cons xd (nm_cons xf (nm_cons xt nm_nil))) (lx _ rfl).2.1
            have gx8 := k8.same _ _ gx2 (nm_cons (ne_new m0.1 ne) (nm_cons (ne_new m0.1 nT) nm_nil)) (lx _ rfl).2.1
            have gdx8 := k8.same _ _ hdx2 (nm_cons (ne_new m1.1 ne) (nm_cons (ne_new m1.1 nT) nm_nil)) (ldx _ rfl).2.1
            have gfl8 := k8.same _ _ hfl2 (nm_cons (ne_new m2.1 ne) (nm_cons (ne_new m2.1 nT) nm_nil)) (lfl _ rfl).2.1
            have gd8 := k8.same _ _ hd2 (nm_cons de (nm_cons dT nm_nil)) ((pre_call P' B' D' F' rfl rfl).fresh nd).2
            have tb8 := tb2.kept k8 (nm_cons (ne_new m3.1 ne) (nm_cons (ne_new m3.1 nT) nm_nil)) (lt _ rfl).2.1
            have xSp2 := kp2.same _ _ mSp.1 (nm_cons dSp'.ne (nm_cons fSp.ne (nm_cons tSp.ne nm_nil))) (kSp _ rfl).2.1
            have xSp8 := k8.same _ _ xSp2 (nm_cons (ne_new mSp.1 ne) (nm_cons (ne_new mSp.1 nT) nm_nil)) (kSp _ rfl).2.1
            have xRa2 := kp2.same _ _ mRa.1 (nm_cons dRa'.ne (nm_cons fRa.ne (nm_cons tRa.ne nm_nil))) (kRa _ rfl).2.1
            have xRa8 := k8.same _ _ xRa2 (nm_cons (ne_new mRa.1 ne) (nm_cons (ne_new mRa.1 nT) nm_nil)) (kRa _ rfl).2.1
            have xMa2 := kp2.same _ _ mMa.1 (nm_cons dMa'.ne (nm_cons fMa.ne (nm_cons tMa.ne nm_nil))) (kMa _ rfl).2.1
            have xMa8 := k8.same _ _ xMa2 (nm_cons (ne_new mMa.1 ne) (nm_cons (ne_new mMa.1 nT) nm_nil)) (kMa _ rfl).2.1
            have xHo2 := kp2.same _ _ mHo.1 (nm_cons dHo'.ne (nm_cons fHo.ne (nm_cons tHo.ne nm_nil))) (kHo _ rfl).2.1
            have xHo8 := k8.same _ _ xHo2 (nm_cons (ne_new mHo.1 ne) (nm_cons (ne_new mHo.1 nT) nm_nil)) (kHo _ rfl).2.1
            have xBo2 := kp2.same _ _ mBo.1 (nm_cons dBo'.ne (nm_cons fBo.ne (nm_cons tBo.ne nm_nil))) (kBo _ rfl).2.1
            have xBo8 := k8.same _ _ xBo2 (nm_cons (ne_new mBo.1 ne) (nm_cons (ne_new mBo.1 nT) nm_nil)) (kBo _ rfl).2.1
            have ex1 := exC m0.1 (exC m1.1 (exC m2.1 (exC m3.1 (exC mSp.1 (exC mRa.1 (exC mMa.1 (exC mHo.1 (exC mBo.1 exN))))))))
            have ex2 := exC gx2 (exC hdx2 (exC hfl2 (exC hps2 (exC xSp2 (exC xRa2 (exC xMa2 (exC xHo2 (exC xBo2 exN))))))))
            have se := G'.none_up F' ex1 ne
            have sd := G'.none_up F' ex1 nd
            have sT := G'.none_up F' ex1 nT
            have sT8 := G'.none_upT Tg F2 ex2 hT8
            have KK := (raise_exit G' Tg F2 hL' rfl k8 (fun b hb => by
              simp only [List.mem_cons, List.not_mem_nil, or_false] at hb
              rcases hb with q | q <;> rw [q] <;> assumption) (frames_there P'.B)).tight (M := [dx, fl, 134])
              (tightC (.inr (tight_old hx gx8)) (tightC (.inl mm0) (tightC (.inl mm1) (tightC (.inl mm2) (tightC (.inr (tight_old cSp xSp8)) (tightC (.inr (tight_old cRa xRa8)) (tightC (.inr (tight_old cMa xMa8)) (tightC (.inr (tight_old cHo xHo8)) (tightC (.inr (tight_old cBo xBo8)) tightN)))))))))
            exact er h8 fr2 ext k2 e T8 d bs tv b ih o _ tr q1 q2 q3 KK ⟨gx8, gdx8, gfl8⟩ hext tb8 fl8 gd8 hE hgo se sd sT8
        case hdl =>
          w_top off
          rcases hans with ⟨_, rfl, rfl⟩ | ⟨_, hg, f, t99, rfl, rfl, htup, ghg, hff, bff, hrep⟩
          · exact .no rfl rfl
          · have hfM : f ∉ [169, (Array.size (Shared.heap s1).objs)] := nm_cons (FnAt.ne hff h169 fun _ q => by cases q) (nm_cons (FnAt.ne hff hoL20 fun _ q => by rw [hLd20] at q; cases q) nm_nil)
            refine .yes hg f ps2 t99 rfl rfl ?_ ghg (FnAt.kept hff k20 hfM (fun q => nomatch q)) bff ((hRP _ _ _).mp (hrep _ k20)) hps hp2
            obtain ⟨o, e, c, n, hd⟩ := htup
            exact ⟨o, k20.same _ _ e (nm_cons (ne_objc e h169 (by first | exact tupI c | exact tupD c | exact tupL c | exact tupT c | (rw [c]; simp))) (nm_cons (ne_obj e hoL20 fun q => by rw [← q, hd] at hLd20; cases hLd20) nm_nil)) (fun q => nomatch q), c, n, hd⟩
        case fin =>
          intro h23 rv res as av fr23 ext23 cc23 hd23 t1 t2 k23 ka23 tk23 K23 HA23 hfr23 hak23 hask tb23 hdue hfound
          try dsimp only at K23 hak23
          have hx23 : h23.get? x = some (instObj 52 dx) := HA23.hx
          have hdx23 : h23.get? dx = some (dictOf (holdEs w kk stk ou .none (r14 == 0) fl cc23 hd23 0 t1 t2 u3) 8) := HA23.hdx
          have hfl23 : h23.get? fl = some (listOf fr23 k23) := HA23.hfl
          clear HA23
          obtain ⟨hfr23, hsz23⟩ := hfr23
          have F23 := after_callN P B D0 F22 rfl K23 (forall_cons ⟨(nOff N22 mm3), (nNeL N22 mm3)⟩ (forall_cons ⟨(nOff N22 mm0), (nNeL N22 mm0)⟩ (forall_cons ⟨(nOff N22 mm4), (nNeL N22 mm4)⟩ (forall_cons ⟨(nOff N22 mm16), (nNeL N22 mm16)⟩ (forall_nil)))))
          have bBd : Apart tB' dx := apart_tc N22 qB' mm19 mm3 rfl (by walk_at "M.ap")
          have bBf : Apart tB' fl := apart_tc N22 qB' mm19 mm0 rfl (by walk_at "M.ap")
          have bBl : Apart tB' la := apart_tc N22 qB' mm19 mm4 rfl (by walk_at "M.ap")
          have bCd : Apart tC' dx := apart_tc N22 hoc22 mm20 mm3 rfl (by walk_at "M.ap")
          have bCf : Apart tC' fl := apart_tc N22 hoc22 mm20 mm0 rfl (by walk_at "M.ap")
          have bCl : Apart tC' la := apart_tc N22 hoc22 mm20 mm4 rfl (by walk_at "M.ap")
          have hD23 := old_of B rfl N22 K23 KtsTurn.refl mm8 (by walk_at "M.offn")
          refine TabAt.groundC tb23 F23 hD23 fun pA' tA' oA' hps23 tg23 htc23 hoc23 => ?_
          have NO := News.keptL (News.subl N22 (.cons _ (.cons₂ _ (.cons₂ _ (.cons _ (.cons _ (.cons₂ _ (.cons₂ _ (.cons₂ _ (.cons₂ _ (.cons₂ _ (.cons₂ _ (.cons₂ _ (.cons₂ _ (.cons₂ _ (.cons₂ _ (.cons₂ _ (.cons _ (.cons₂ _ (.cons _ (.refl _))))))))))))))))))))) B rfl K23 (by walk_at "M.offl")
          have N23 := News.one ⟨hfl23, (N22 _ mm0).2⟩ (News.one ⟨hdx23, (N22 _ mm3).2⟩ (News.one ⟨hak23, (N22 _ mm4).2⟩ (News.one ⟨hps23, (N22 _ mm16).2⟩ (News.one htc23 NO))))
          have bAd : Apart tA' dx := apart_tc N23 hoc23 mm4 mm1 rfl (by walk_at "M.ap")
          have bAf : Apart tA' fl := apart_tc N23 hoc23 mm4 mm0 rfl (by walk_at "M.ap")
          clear NO
          w_top off
          have hl2 := told_len2 hdue
          refine AskedAre.groundC hask F23 hl2 (N23 _ mm10) fun q1 ob1 q2 ob2 x1 x2 _ _ hasA => ?_
          refine found_groundC hfound F22 (N23 _ mm10) fun qe oe qd od xe xd hfo => ?_
          have N24 := News.one x1 (News.one x2 (News.one xe (News.one xd N23)))
          have aA9rl : Apart tA' (rl) := apart_tc N23 hoc23 mm4 mm9 rfl (by walk_at "M.ap")
          have aA9x6 : Apart tA' ((Array.size (Shared.heap s1).objs) + 1 + 1 + 1 + 1 + 1 + 1) := apart_tc N23 hoc23 mm4 mm11 (isCodeO_cell dSp) (by walk_at "M.ap")
          have aA9x5 : Apart tA' ((Array.size (Shared.heap s1).objs) + 1 + 1 + 1 + 1 + 1) := apart_tc N23 hoc23 mm4 mm12 (isCodeO_cell dRa) (by walk_at "M.ap")
          have aA9x4 : Apart tA' ((Array.size (Shared.heap s1).objs) + 1 + 1 + 1 + 1) := apart_tc N23 hoc23 mm4 mm13 (isCodeO_cell dMa) (by walk_at "M.ap")
          have aA9x3 : Apart tA' ((Array.size (Shared.heap s1).objs) + 1 + 1 + 1) := apart_tc N23 hoc23 mm4 mm14 (isCodeO_cell dHo) (by walk_at "M.ap")
          have aA9x2 : Apart tA' ((Array.size (Shared.heap s1).objs) + 1 + 1) := apart_tc N23 hoc23 mm4 mm15 (isCodeO_cell dBo) (by walk_at "M.ap")
          have aA9x1 : Apart tA' ((Array.size (Shared.heap s1).objs) + 1) := apart_tc N23 hoc23 mm4 mm16 (isCodeO_cell d1) (by walk_at "M.ap")
          have aA9t148 : Apart tA' (148) := apart_tc N23 hoc23 mm4 mm17 gB'.code (by walk_at "M.ap")
          have aA9t134 : Apart tA' (134) := apart_tc N23 hoc23 mm4 mm3 tg23.code (by walk_at "M.ap")
          have aA9t169 : Apart tA' (169) := apart_tc N23 hoc23 mm4 mm18 tg22.code (by walk_at "M.ap")
          clear x1 x2 xe xd hfound hask N23 N22 F22 hwf hwc k20 hps22 htc22 tb23 K23 hx23 hdx23 hfl23 hak23 hps23 htc23 gA qA
          clear aArl aAx6 aAx5 aAx4 aAx3 aAx2 aAx1 aAt148 aAt134 aAt169
          (try dsimp only)
          (repeat' ((fail_if_success (with_reducible show wpAny _ _ (pyIter _) _ _ _)); (fail_if_success (with_reducible show wpAny _ _ (call (Value.ref _) _) _ _ _)); (fail_if_success (with_reducible show wpAny _ _ (exec (Stmt.Raise _ _ _) _) _ _ _)); (fail_if_success (with_reducible show wpAny _ _ (exec (Stmt.While _ _ _ _) _) _ _ _)); (fail_if_success (with_reducible show wpAny _ _ (exec (Stmt.Try _ _ _ _ _) _) _ _ _)); (fail_if_success (with_reducible show wpAny _ _ (call (Value.builtin "min") _ _) _ _ _)); (fail_if_success (with_reducible show wpAny _ _ (call (Value.builtin "max") _ _) _ _ _)); (fail_if_success (with_reducible show wpAny _ _ (eval (Expr.Lambda _ _ _ _) _) _ _ _)); (fail_if_success (with_reducible show InvPostN _ _ _ _ _ _ _ _ _)); (fail_if_success (with_reducible show LCg.CompSrc _ _ _ _ _ _ _ _ _ _ _ _ _ _)); (fail_if_success (with_reducible show LCg.CompEnd _ _ _ _ _ _ _ _ _ _ _ _ _ _)); (fail_if_success (with_reducible show wpAny _ _ (eval (Expr.IfExp _ _ _ _) _) _ _ _)); (fail_if_success (with_reducible show TurnPost _ _ _ _ _ _ _ _ _)); (fail_if_success (with_reducible show wpAny _ _ (compareOp _ (Value.ref _) (Value.ref _)) _ _ _)); first | walk1 | (dsimp only; walk1)))
          rename Fr _ _ _ _ => F25
          rename News _ _ _ _ => N25
          refine cut_evalS (fun s v s' => ∃ tk, s' = { s with toks := tk } ∧ ((v = .none ∧ plan = none) ∨ (v = .ref pl ∧ plan = some ps2))) ?_ ?_
          · walk1
            (repeat' ((fail_if_success (with_reducible show Exists _)); (fail_if_success (with_reducible show wpAny _ _ (pyIter _) _ _ _)); (fail_if_success (with_reducible show wpAny _ _ (call (Value.ref _) _) _ _ _)); (fail_if_success (with_reducible show wpAny _ _ (exec (Stmt.Raise _ _ _) _) _ _ _)); (fail_if_success (with_reducible show wpAny _ _ (exec (Stmt.While _ _ _ _) _) _ _ _)); (fail_if_success (with_reducible show wpAny _ _ (exec (Stmt.Try _ _ _ _ _) _) _ _ _)); (fail_if_success (with_reducible show wpAny _ _ (call (Value.builtin "min") _ _) _ _ _)); (fail_if_success (with_reducible show wpAny _ _ (call (Value.builtin "max") _ _) _ _ _)); (fail_if_success (with_reducible show wpAny _ _ (eval (Expr.Lambda _ _ _ _) _) _ _ _)); (fail_if_success (with_reducible show InvPostN _ _ _ _ _ _ _ _ _)); (fail_if_success (with_reducible show LCg.CompSrc _ _ _ _ _ _ _ _ _ _ _ _ _ _)); (fail_if_success (with_reducible show LCg.CompEnd _ _ _ _ _ _ _ _ _ _ _ _ _ _)); (fail_if_success (with_reducible show wpAny _ _ (eval (Expr.IfExp _ _ _ _) _) _ _ _)); (fail_if_success (with_reducible show TurnPost _ _ _ _ _ _ _ _ _)); (fail_if_success (with_reducible show wpAny _ _ (compareOp _ (Value.ref _) (Value.ref _)) _ _ _)); first | walk1 | (dsimp only; walk1)))
            · have hq : decide (0 < r16) = true := by first | assumption | (simp; omega)
              rcases hans with ⟨q, _⟩ | ⟨_, _, _, _, _, hpl, _⟩
              · rw [hq] at q; cases q
              · exact ⟨_, rfl, .inr ⟨rfl, hpl⟩⟩
            · have hq : decide (0 < r16) = false := by first | assumption | (simp; omega)
              rcases hans with ⟨_, _, hpl⟩ | ⟨q, _⟩
              · exact ⟨_, rfl, .inl ⟨rfl, hpl⟩⟩
              · rw [hq] at q; cases q
          · rintro pv s' ⟨tk25, rfl, hpv⟩
            clear hans
            (try dsimp only)
            (repeat' ((fail_if_success (with_reducible show wpAny _ _ (pyIter _) _ _ _)); (fail_if_success (with_reducible show wpAny _ _ (call (Value.ref _) _) _ _ _)); (fail_if_success (with_reducible show wpAny _ _ (exec (Stmt.Raise _ _ _) _) _ _ _)); (fail_if_success (with_reducible show wpAny _ _ (exec (Stmt.While _ _ _ _) _) _ _ _)); (fail_if_success (with_reducible show wpAny _ _ (exec (Stmt.Try _ _ _ _ _) _) _ _ _)); (fail_if_success (with_reducible show wpAny _ _ (call (Value.builtin "min") _ _) _ _ _)); (fail_if_success (with_reducible show wpAny _ _ (call (Value.builtin "max") _ _) _ _ _)); (fail_if_success (with_reducible show wpAny _ _ (eval (Expr.Lambda _ _ _ _) _) _ _ _)); (fail_if_success (with_reducible show InvPostN _ _ _ _ _ _ _ _ _)); (fail_if_success (with_reducible show LCg.CompSrc _ _ _ _ _ _ _ _ _ _ _ _ _ _)); (fail_if_success (with_reducible show LCg.CompEnd _ _ _ _ _ _ _ _ _ _ _ _ _ _)); (fail_if_success (with_reducible show wpAny _ _ (eval (Expr.IfExp _ _ _ _) _) _ _ _)); (fail_if_success (with_reducible show TurnPost _ _ _ _ _ _ _ _ _)); (fail_if_success (with_reducible show wpAny _ _ (compareOp _ (Value.ref _) (Value.ref _)) _ _ _)); first | walk1 | (dsimp only; walk1)))
            w_top off
            refine wpAny_call (due_spec (pre_call P B D0 F25 rfl rfl) rfl (plan := plan) ?hp (rb g2 g2' (by decide) (by decide)) (rb g4 g4' (by decide) (by decide)) (rb0 g6 g6' (by decide)) (fun h26 rd la2 av2 ka2 as2 res2 v2 c26 t26 tk26 K26 hdue2 hres2 hr2 hla2 hask2 nr2 nla2 => ?_))
            case hp =>
              rcases hpv with ⟨rfl, rfl⟩ | ⟨rfl, rfl⟩
              · exact .no rfl rfl
              · exact .yes pl ys2 ps2 rfl rfl ⟨_, (nGet N25 mm11), rfl, _, rfl⟩ hI2 hps hp2
            have F26 := after_call0 F25 K26 (fun _ hm => nomatch hm)
            have hD26 := old_of0 N25 K26 mm14 nm_nil
            refine AskedAre.groundC hask2 F26 (told_len2 hdue2) hD26 fun q3 ob3 q4 ob4 x3 x4 _ _ hasB => ?_
            have N26 := News.one x3 (News.one x4 (News.one (new_of0 F25 nr2 hr2) (News.one (new_of0 F25 nla2 hla2) (News.kept0 N25 K26 (fun _ _ => nm_nil)))))
            have hq : (as, res) = (as2, res2) := hdue.symm.trans hdue2
            cases hq
            clear F25 N25 K26 hr2 hla2 hask2 nr2 nla2 hdue hdue2 hD26 x3 x4 hpv
            (try dsimp only)
            (repeat' ((fail_if_success (with_reducible show wpAny _ _ (pyIter _) _ _ _)); (fail_if_success (with_reducible show wpAny _ _ (call (Value.ref _) _) _ _ _)); (fail_if_success (with_reducible show wpAny _ _ (exec (Stmt.Raise _ _ _) _) _ _ _)); (fail_if_success (with_reducible show wpAny _ _ (exec (Stmt.While _ _ _ _) _) _ _ _)); (fail_if_success (with_reducible show wpAny _ _ (exec (Stmt.Try _ _ _ _ _) _) _ _ _)); (fail_if_success (with_reducible show wpAny _ _ (call (Value.builtin "min") _ _) _ _ _)); (fail_if_success (with_reducible show wpAny _ _ (call (Value.builtin "max") _ _) _ _ _)); (fail_if_success (with_reducible show wpAny _ _ (eval (Expr.Lambda _ _ _ _) _) _ _ _)); (fail_if_success (with_reducible show InvPostN _ _ _ _ _ _ _ _ _)); (fail_if_success (with_reducible show LCg.CompSrc _ _ _ _ _ _ _ _ _ _ _ _ _ _)); (fail_if_success (with_reducible show LCg.CompEnd _ _ _ _ _ _ _ _ _ _ _ _ _ _)); (fail_if_success (with_reducible show wpAny _ _ (eval (Expr.IfExp _ _ _ _) _) _ _ _)); (fail_if_success (with_reducible show TurnPost _ _ _ _ _ _ _ _ _)); (fail_if_success (with_reducible show wpAny _ _ (compareOp _ (Value.ref _) (Value.ref _)) _ _ _)); first | walk1 | (dsimp only; walk1)))
            rename Fr _ _ _ _ => F27
            rename News _ _ _ _ => N27
            w_top off
            refine cut_evalS (fun s v s' => ∃ tk, s' = { s with toks := tk } ∧ ∀ A s, PySem.SeqAt.EqAt A s v v2 true) ?_ ?_
            · replace N27 := News.sub (news' := [(qe, oe), (qd, od)]) N27 (forall_cons mm6 (forall_cons mm7 forall_nil))
              rcases hfo with ⟨rfl, rfl⟩ | ⟨vs, sl, ih, tr, k1, k2, k3, bs, tb, rfl, rfl, hcode, rfl, rfl⟩ | ⟨vs, sl, tr, k1, k2, k3, n, tn, rfl, rfl, hcode, rfl, rfl⟩
              · walk1
                (repeat' ((fail_if_success (with_reducible show Exists _)); (fail_if_success (with_reducible show wpAny _ _ (pyIter _) _ _ _)); (fail_if_success (with_reducible show wpAny _ _ (call (Value.ref _) _) _ _ _)); (fail_if_success (with_reducible show wpAny _ _ (exec (Stmt.Raise _ _ _) _) _ _ _)); (fail_if_success (with_reducible show wpAny _ _ (exec (Stmt.While _ _ _ _) _) _ _ _)); (fail_if_success (with_reducible show wpAny _ _ (exec (Stmt.Try _ _ _ _ _) _) _ _ _)); (fail_if_success (with_reducible show wpAny _ _ (call (Value.builtin "min") _ _) _ _ _)); (fail_if_success (with_reducible show wpAny _ _ (call (Value.builtin "max") _ _) _ _ _)); (fail_if_success (with_reducible show wpAny _ _ (eval (Expr.Lambda _ _ _ _) _) _ _ _)); (fail_if_success (with_reducible show InvPostN _ _ _ _ _ _ _ _ _)); (fail_if_success (with_reducible show LCg.CompSrc _ _ _ _ _ _ _ _ _ _ _ _ _ _)); (fail_if_success (with_reducible show LCg.CompEnd _ _ _ _ _ _ _ _ _ _ _ _ _ _)); (fail_if_success (with_reducible show wpAny _ _ (eval (Expr.IfExp _ _ _ _) _) _ _ _)); (fail_if_success (with_reducible show TurnPost _ _ _ _ _ _ _ _ _)); (fail_if_success (with_reducible show wpAny _ _ (compareOp _ (Value.ref _) (Value.ref _)) _ _ _)); first | walk1 | (dsimp only; walk1)))
                obtain ⟨rfl, _⟩ := hres2
                exact ⟨_, rfl, fun _ _ => PySem.SeqAt.EqAt.same _⟩
              · walk1
                (repeat' ((fail_if_success (with_reducible show Exists _)); (fail_if_success (with_reducible show wpAny _ _ (pyIter _) _ _ _)); (fail_if_success (with_reducible show wpAny _ _ (call (Value.ref _) _) _ _ _)); (fail_if_success (with_reducible show wpAny _ _ (exec (Stmt.Raise _ _ _) _) _ _ _)); (fail_if_success (with_reducible show wpAny _ _ (exec (Stmt.While _ _ _ _) _) _ _ _)); (fail_if_success (with_reducible show wpAny _ _ (exec (Stmt.Try _ _ _ _ _) _) _ _ _)); (fail_if_success (with_reducible show wpAny _ _ (call (Value.builtin "min") _ _) _ _ _)); (fail_if_success (with_reducible show wpAny _ _ (call (Value.builtin "max") _ _) _ _ _)); (fail_if_success (with_reducible show wpAny _ _ (eval (Expr.Lambda _ _ _ _) _) _ _ _)); (fail_if_success (with_reducible show InvPostN _ _ _ _ _ _ _ _ _)); (fail_if_success (with_reducible show LCg.CompSrc _ _ _ _ _ _ _ _ _ _ _ _ _ _)); (fail_if_success (with_reducible show LCg.CompEnd _ _ _ _ _ _ _ _ _ _ _ _ _ _)); (fail_if_success (with_reducible show wpAny _ _ (eval (Expr.IfExp _ _ _ _) _) _ _ _)); (fail_if_success (with_reducible show TurnPost _ _ _ _ _ _ _ _ _)); (fail_if_success (with_reducible show wpAny _ _ (compareOp _ (Value.ref _) (Value.ref _)) _ _ _)); first | walk1 | (dsimp only; walk1)))
                obtain ⟨⟨t, rfl⟩, _⟩ := hres2
                exact ⟨_, rfl, fun _ _ => eqAt_bytes _ _ _⟩
              · walk1
                (repeat' ((fail_if_success (with_reducible show Exists _)); (fail_if_success (with_reducible show wpAny _ _ (pyIter _) _ _ _)); (fail_if_success (with_reducible show wpAny _ _ (call (Value.ref _) _) _ _ _)); (fail_if_success (with_reducible show wpAny _ _ (exec (Stmt.Raise _ _ _) _) _ _ _)); (fail_if_success (with_reducible show wpAny _ _ (exec (Stmt.While _ _ _ _) _) _ _ _)); (fail_if_success (with_reducible show wpAny _ _ (exec (Stmt.Try _ _ _ _ _) _) _ _ _)); (fail_if_success (with_reducible show wpAny _ _ (call (Value.builtin "min") _ _) _ _ _)); (fail_if_success (with_reducible show wpAny _ _ (call (Value.builtin "max") _ _) _ _ _)); (fail_if_success (with_reducible show wpAny _ _ (eval (Expr.Lambda _ _ _ _) _) _ _ _)); (fail_if_success (with_reducible show InvPostN _ _ _ _ _ _ _ _ _)); (fail_if_success (with_reducible show LCg.CompSrc _ _ _ _ _ _ _ _ _ _ _ _ _ _)); (fail_if_success (with_reducible show LCg.CompEnd _ _ _ _ _ _ _ _ _ _ _ _ _ _)); (fail_if_success (with_reducible show wpAny _ _ (eval (Expr.IfExp _ _ _ _) _) _ _ _)); (fail_if_success (with_reducible show TurnPost _ _ _ _ _ _ _ _ _)); (fail_if_success (with_reducible show wpAny _ _ (compareOp _ (Value.ref _) (Value.ref _)) _ _ _)); first | walk1 | (dsimp only; walk1)))
                obtain ⟨⟨t, rfl⟩, _⟩ := hres2
                exact ⟨_, rfl, fun _ _ => eqAt_int _ _ _⟩
            · rintro fv s' ⟨tk28, rfl, hfv⟩
              (try dsimp only)
              (repeat' ((fail_if_success (with_reducible show wpAny _ _ (pyIter _) _ _ _)); (fail_if_success (with_reducible show wpAny _ _ (call (Value.ref _) _) _ _ _)); (fail_if_success (with_reducible show wpAny _ _ (exec (Stmt.Raise _ _ _) _) _ _ _)); (fail_if_success (with_reducible show wpAny _ _ (exec (Stmt.While _ _ _ _) _) _ _ _)); (fail_if_success (with_reducible show wpAny _ _ (exec (Stmt.Try _ _ _ _ _) _) _ _ _)); (fail_if_success (with_reducible show wpAny _ _ (call (Value.builtin "min") _ _) _ _ _)); (fail_if_success (with_reducible show wpAny _ _ (call (Value.builtin "max") _ _) _ _ _)); (fail_if_success (with_reducible show wpAny _ _ (eval (Expr.Lambda _ _ _ _) _) _ _ _)); (fail_if_success (with_reducible show InvPostN _ _ _ _ _ _ _ _ _)); (fail_if_success (with_reducible show LCg.CompSrc _ _ _ _ _ _ _ _ _ _ _ _ _ _)); (fail_if_success (with_reducible show LCg.CompEnd _ _ _ _ _ _ _ _ _ _ _ _ _ _)); (fail_if_success (with_reducible show wpAny _ _ (eval (Expr.IfExp _ _ _ _) _) _ _ _)); (fail_if_success (with_reducible show TurnPost _ _ _ _ _ _ _ _ _)); (fail_if_success (with_reducible show wpAny _ _ (compareOp _ (Value.ref _) (Value.ref _)) _ _ _)); first | walk1 | (dsimp only; walk1)))
              w_top off
              rename Fr _ _ _ _ => F28
              rename News _ _ _ _ => N28
              refine cut_callS (fun s v s' => ∃ h' tk t, s' = { s with heap := h', toks := tk } ∧ Kept [] [] s.heap h' ∧ v = .int c26 t) ?_ ?_
              · replace N28 := News.sub (news' := [(qe, oe), (qd, od)]) N28 (forall_cons mm6 (forall_cons mm7 forall_nil))
                rcases hfo with ⟨rfl, rfl⟩ | ⟨vs, sl, ih, tr, k1, k2, k3, bs, tb, rfl, rfl, hcode, rfl, rfl⟩ | ⟨vs, sl, tr, k1, k2, k3, n, tn, rfl, rfl, hcode, rfl, rfl⟩
                · exact wpAny_call (status_none (pre_call P B D0 F28 rfl rfl) (fun h' t tk k => ⟨h', tk, t, rfl, k, by rw [hres2.2]⟩))
                · exact wpAny_call (status_err (e := qe) (d := qd) (pre_call P B D0 F28 rfl rfl) ⟨⟨vs, sl, (nGet N28 mm0), hcode⟩, tr, k1, k2, k3, (nGet N28 mm1)⟩ (loose_of B rfl N28 mm0 hcode) (loose_of B rfl N28 mm1 rfl) (fun h' t tk k => ⟨h', tk, t, rfl, k, by rw [hres2.2]⟩))
                · exact wpAny_call (status_err (e := qe) (d := qd) (pre_call P B D0 F28 rfl rfl) ⟨⟨vs, sl, (nGet N28 mm0), hcode⟩, tr, k1, k2, k3, (nGet N28 mm1)⟩ (loose_of B rfl N28 mm0 hcode) (loose_of B rfl N28 mm1 rfl) (fun h' t tk k => ⟨h', tk, t, rfl, k, by rw [hres2.2]; rfl⟩))
              · rintro sv s' ⟨h29, tk29, t29, rfl, k29, rfl⟩
                have F29 := after_call0 F28 k29 (fun _ hm => nomatch hm)
                have N29 := News.kept0 N28 k29 (fun _ _ => nm_nil)
                clear F28 N28 k29
                (try dsimp only)
                (repeat' ((fail_if_success (with_reducible show wpAny _ _ (pyIter _) _ _ _)); (fail_if_success (with_reducible show wpAny _ _ (call (Value.ref _) _) _ _ _)); (fail_if_success (with_reducible show wpAny _ _ (exec (Stmt.Raise _ _ _) _) _ _ _)); (fail_if_success (with_reducible show wpAny _ _ (exec (Stmt.While _ _ _ _) _) _ _ _)); (fail_if_success (with_reducible show wpAny _ _ (exec (Stmt.Try _ _ _ _ _) _) _ _ _)); (fail_if_success (with_reducible show wpAny _ _ (call (Value.builtin "min") _ _) _ _ _)); (fail_if_success (with_reducible show wpAny _ _ (call (Value.builtin "max") _ _) _ _ _)); (fail_if_success (with_reducible show wpAny _ _ (eval (Expr.Lambda _ _ _ _) _) _ _ _)); (fail_if_success (with_reducible show InvPostN _ _ _ _ _ _ _ _ _)); (fail_if_success (with_reducible show LCg.CompSrc _ _ _ _ _ _ _ _ _ _ _ _ _ _)); (fail_if_success (with_reducible show LCg.CompEnd _ _ _ _ _ _ _ _ _ _ _ _ _ _)); (fail_if_success (with_reducible show wpAny _ _ (eval (Expr.IfExp _ _ _ _) _) _ _ _)); (fail_if_success (with_reducible show TurnPost _ _ _ _ _ _ _ _ _)); (fail_if_success (with_reducible show wpAny _ _ (compareOp _ (Value.ref _) (Value.ref _)) _ _ _)); first | walk1 | (dsimp only; walk1)))
                rename Fr _ _ _ _ => F30
                rename News _ _ _ _ => N30
                refine ne_due (News.isTup N30 mm0) (News.isTup N30 mm3) ?u ⟨_, (nGet N30 mm11), rfl, _, rfl⟩ ⟨_, (nGet N30 mm4), rfl, _, rfl⟩ (hasA _ F30.keep (nGet N30 mm5) (nGet N30 mm6)) (hasB _ F30.keep (nGet N30 mm1) (nGet N30 mm2)) (fun A => hfv A _) ?_
                case u => exact (un33 P.un : callerA.units + 3 + 3 < 9900)
                replace N30 := News.subl N30 (.cons _ (.cons _ (.cons _ (.cons _ (.cons _ (.cons _ (.cons _ (.cons _ (.cons _ (.refl _))))))))))
                clear hasA hasB hfv hres2
                (try dsimp only)
                w_top off
                have hrv : rv = .none ∨ rv = .ref qe := by
                  cases hfo with
                  | no q _ => exact .inl q
                  | err _ _ _ _ _ _ _ _ _ q _ _ _ _ => exact .inr q
                  | num _ _ _ _ _ _ _ _ q _ _ _ _ => exact .inr q
                clear hfo
                rcases hrv with rfl | rfl
                · (repeat' ((fail_if_success (with_reducible show wpAny _ _ (pyIter _) _ _ _)); (fail_if_success (with_reducible show wpAny _ _ (call (Value.ref _) _) _ _ _)); (fail_if_success (with_reducible show wpAny _ _ (exec (Stmt.Raise _ _ _) _) _ _ _)); (fail_if_success (with_reducible show wpAny _ _ (exec (Stmt.While _ _ _ _) _) _ _ _)); (fail_if_success (with_reducible show wpAny _ _ (exec (Stmt.Try _ _ _ _ _) _) _ _ _)); (fail_if_success (with_reducible show wpAny _ _ (call (Value.builtin "min") _ _) _ _ _)); (fail_if_success (with_reducible show wpAny _ _ (call (Value.builtin "max") _ _) _ _ _)); (fail_if_success (with_reducible show wpAny _ _ (eval (Expr.Lambda _ _ _ _) _) _ _ _)); (fail_if_success (with_reducible show InvPostN _ _ _ _ _ _ _ _ _)); (fail_if_success (with_reducible show LCg.CompSrc _ _ _ _ _ _ _ _ _ _ _ _ _ _)); (fail_if_success (with_reducible show LCg.CompEnd _ _ _ _ _ _ _ _ _ _ _ _ _ _)); (fail_if_success (with_reducible show wpAny _ _ (eval (Expr.IfExp _ _ _ _) _) _ _ _)); (fail_if_success (with_reducible show TurnPost _ _ _ _ _ _ _ _ _)); (fail_if_success (with_reducible show wpAny _ _ (compareOp _ (Value.ref _) (Value.ref _)) _ _ _)); first | walk1 | (dsimp only; walk1)))
                  · have hbad : ((r14 == 0) != (r14 == 0)) = true := by assumption
                    simp at hbad
                  · rename Fr _ _ _ _ => F31
                    rename News _ _ _ _ => N31
                    w_top off
                    have eA : Apart tA' I := apart_tc N31 hoc23 mm4 mm8 hIc.2 (hoff _ mm1)
                    have eB : Apart tB' I := apart_tc N31 qB' mm19 mm8 hIc.2 (hoff _ mm1)
                    have eC : Apart tC' I := apart_tc N31 hoc22 mm20 mm8 hIc.2 (hoff _ mm1)
                    have eD : Apart D I := hoff _ mm1
                    refine hQT _ _ ?_
                    refine turn_next (nx := [(rl, listOf #[.ref D, .int (c2 + 1 + 1) tc16] 0), (D, listOf (List.toArray ws) 0), ((Array.size (Shared.heap s1).objs) + 1 + 1 + 1 + 1 + 1 + 1, oSp), ((Array.size (Shared.heap s1).objs) + 1 + 1 + 1 + 1 + 1, oRa), ((Array.size (Shared.heap s1).objs) + 1 + 1 + 1 + 1, oMa), ((Array.size (Shared.heap s1).objs) + 1 + 1 + 1, oHo), ((Array.size (Shared.heap s1).objs) + 1 + 1, oBo), ((Array.size (Shared.heap s1).objs) + 1, o1), (148, tabObj pB'), (134, tabObj pA'), (169, tabObj pC'), (tA', oA'), (tB', oB'), (tC', oC')]) rfl F31 (forall_cons (N31 _ mm8) (forall_cons (N31 _ mm9) (forall_cons (N31 _ mm10) (forall_cons (N31 _ mm11) (forall_cons (N31 _ mm12) (forall_cons (N31 _ mm13) (forall_cons (N31 _ mm14) (forall_cons (N31 _ mm15) (forall_cons (N31 _ mm16) (forall_cons (N31 _ mm17) (forall_cons (N31 _ mm3) (forall_cons (N31 _ mm18) (forall_cons (N31 _ mm4) (forall_cons (N31 _ mm19) (forall_cons (N31 _ mm20) forall_nil))))))))))))))) (by walk_at "M.all") ⟨c2 + 1 + 1, tc16, pA', pB', pC', tA', oA', tB', oB', tC', oC', o1, oBo, oHo, oMa, oRa, oSp, _, _, _, _, _, rfl, d1, dBo, dHo, dMa, dRa, dSp, (cb2 hc2').1, cend hc1 g10 g10' hy2 hc2, tg23, gB', tg22, hoc23, qB', hoc22⟩
                · (repeat' ((fail_if_success (with_reducible show wpAny _ _ (pyIter _) _ _ _)); (fail_if_success (with_reducible show wpAny _ _ (call (Value.ref _) _) _ _ _)); (fail_if_success (with_reducible show wpAny _ _ (exec (Stmt.Raise _ _ _) _) _ _ _)); (fail_if_success (with_reducible show wpAny _ _ (exec (Stmt.While _ _ _ _) _) _ _ _)); (fail_if_success (with_reducible show wpAny _ _ (exec (Stmt.Try _ _ _ _ _) _) _ _ _)); (fail_if_success (with_reducible show wpAny _ _ (call (Value.builtin "min") _ _) _ _ _)); (fail_if_success (with_reducible show wpAny _ _ (call (Value.builtin "max") _ _) _ _ _)); (fail_if_success (with_reducible show wpAny _ _ (eval (Expr.Lambda _ _ _ _) _) _ _ _)); (fail_if_success (with_reducible show InvPostN _ _ _ _ _ _ _ _ _)); (fail_if_success (with_reducible show LCg.CompSrc _ _ _ _ _ _ _ _ _ _ _ _ _ _)); (fail_if_success (with_reducible show LCg.CompEnd _ _ _ _ _ _ _ _ _ _ _ _ _ _)); (fail_if_success (with_reducible show wpAny _ _ (eval (Expr.IfExp _ _ _ _) _) _ _ _)); (fail_if_success (with_reducible show TurnPost _ _ _ _ _ _ _ _ _)); (fail_if_success (with_reducible show wpAny _ _ (compareOp _ (Value.ref _) (Value.ref _)) _ _ _)); first | walk1 | (dsimp only; walk1)))
                  · have hbad : ((r14 == 0) != (r14 == 0)) = true := by assumption
                    simp at hbad
                  · rename Fr _ _ _ _ => F31
                    rename News _ _ _ _ => N31
                    w_top off
                    have hfo : @Ne Nat fl ou := by walk_at "M.ap"
                    refine wpAny_call (back_spec (v0 := .int 7 u7) (ext := ext23) (pre_call P B D0 F31 rfl rfl) (nGet N31 mm6) (nGet N31 mm1) (nGet N31 mm5) (nGet N31 mm0) hfo hfr23 (Nat.le_trans hsz23 (by decide)) (loose_of B rfl N31 mm6 rfl) (loose_of B rfl N31 mm1 rfl) (loose_of B rfl N31 mm5 rfl) (loose_of B rfl N31 mm0 rfl) (fun h32 r32 kr32 fr32 k32 a1 a2 a3 tk32 K32 hr32 nr32 hdx32 hfl32 hfr32 => ?_))
                    have F32 := after_call0 F31 K32 (forall_cons ⟨(nOff N31 mm1), (nNeL N31 mm1)⟩ (forall_cons ⟨(nOff N31 mm0), (nNeL N31 mm0)⟩ (forall_nil)))
                    obtain rfl : fr32 = #[.int 7 u7] := Array.toList_inj.mp hfr32
                    have NO := News.kept0 (News.subl N31 (.cons _ (.cons _ (.refl _)))) K32 (by walk_at "M.offl")
                    have N32 := News.one (new_of0 F31 nr32 hr32) (News.one ⟨hfl32, (N31 _ mm0).2⟩ (News.one ⟨hdx32, (N31 _ mm1).2⟩ NO))
                    clear NO F31 N31 K32 hr32 nr32 hdx32 hfl32
                    (try dsimp only)
                    (repeat' ((fail_if_success (with_reducible show wpAny _ _ (pyIter _) _ _ _)); (fail_if_success (with_reducible show wpAny _ _ (call (Value.ref _) _) _ _ _)); (fail_if_success (with_reducible show wpAny _ _ (exec (Stmt.Raise _ _ _) _) _ _ _)); (fail_if_success (with_reducible show wpAny _ _ (exec (Stmt.While _ _ _ _) _) _ _ _)); (fail_if_success (with_reducible show wpAny _ _ (exec (Stmt.Try _ _ _ _ _) _) _ _ _)); (fail_if_success (with_reducible show wpAny _ _ (call (Value.builtin "min") _ _) _ _ _)); (fail_if_success (with_reducible show wpAny _ _ (call (Value.builtin "max") _ _) _ _ _)); (fail_if_success (with_reducible show wpAny _ _ (eval (Expr.Lambda _ _ _ _) _) _ _ _)); (fail_if_success (with_reducible show InvPostN _ _ _ _ _ _ _ _ _)); (fail_if_success (with_reducible show LCg.CompSrc _ _ _ _ _ _ _ _ _ _ _ _ _ _)); (fail_if_success (with_reducible show LCg.CompEnd _ _ _ _ _ _ _ _ _ _ _ _ _ _)); (fail_if_success (with_reducible show wpAny _ _ (eval (Expr.IfExp _ _ _ _) _) _ _ _)); (fail_if_success (with_reducible show TurnPost _ _ _ _ _ _ _ _ _)); (fail_if_success (with_reducible show wpAny _ _ (compareOp _ (Value.ref _) (Value.ref _)) _ _ _)); first | walk1 | (dsimp only; walk1)))
                    w_top off
                    rename Fr _ _ _ _ => F33
                    rename News _ _ _ _ => N33
                    have hu9 : callerA.units + 3 < 9900 := un3 P.un
                    refine ne_list ⟨_, (nGet N33 mm1), rfl, _, rfl⟩ ⟨_, (nGet N33 mm0), rfl, _, rfl⟩ rfl hu9 (fun j h1 _ => absurd h1 (Nat.not_lt_zero _)) ?_
                    replace N33 := News.subl N33 (.cons _ (.cons _ (.refl _)))
                    (try dsimp only)
                    (repeat' ((fail_if_success (with_reducible show wpAny _ _ (pyIter _) _ _ _)); (fail_if_success (with_reducible show wpAny _ _ (call (Value.ref _) _) _ _ _)); (fail_if_success (with_reducible show wpAny _ _ (exec (Stmt.Raise _ _ _) _) _ _ _)); (fail_if_success (with_reducible show wpAny _ _ (exec (Stmt.While _ _ _ _) _) _ _ _)); (fail_if_success (with_reducible show wpAny _ _ (exec (Stmt.Try _ _ _ _ _) _) _ _ _)); (fail_if_success (with_reducible show wpAny _ _ (call (Value.builtin "min") _ _) _ _ _)); (fail_if_success (with_reducible show wpAny _ _ (call (Value.builtin "max") _ _) _ _ _)); (fail_if_success (with_reducible show wpAny _ _ (eval (Expr.Lambda _ _ _ _) _) _ _ _)); (fail_if_success (with_reducible show InvPostN _ _ _ _ _ _ _ _ _)); (fail_if_success (with_reducible show LCg.CompSrc _ _ _ _ _ _ _ _ _ _ _ _ _ _)); (fail_if_success (with_reducible show LCg.CompEnd _ _ _ _ _ _ _ _ _ _ _ _ _ _)); (fail_if_success (with_reducible show wpAny _ _ (eval (Expr.IfExp _ _ _ _) _) _ _ _)); (fail_if_success (with_reducible show TurnPost _ _ _ _ _ _ _ _ _)); (fail_if_success (with_reducible show wpAny _ _ (compareOp _ (Value.ref _) (Value.ref _)) _ _ _)); first | walk1 | (dsimp only; walk1)))
                    rename Fr _ _ _ _ => F34
                    rename News _ _ _ _ => N34
                    refine ne_list ⟨_, (nGet N34 mm1), rfl, _, rfl⟩ ⟨_, (nGet N34 mm0), rfl, _, rfl⟩ rfl hu9 (fun j h1 _ => match j, h1 with | 0, _ => eqAt_int _ _ _) ?_
                    replace N34 := News.subl N34 (.cons _ (.refl _))
                    (try dsimp only)
                    (repeat' ((fail_if_success (with_reducible show wpAny _ _ (pyIter _) _ _ _)); (fail_if_success (with_reducible show wpAny _ _ (call (Value.ref _) _) _ _ _)); (fail_if_success (with_reducible show wpAny _ _ (exec (Stmt.Raise _ _ _) _) _ _ _)); (fail_if_success (with_reducible show wpAny _ _ (exec (Stmt.While _ _ _ _) _) _ _ _)); (fail_if_success (with_reducible show wpAny _ _ (exec (Stmt.Try _ _ _ _ _) _) _ _ _)); (fail_if_success (with_reducible show wpAny _ _ (call (Value.builtin "min") _ _) _ _ _)); (fail_if_success (with_reducible show wpAny _ _ (call (Value.builtin "max") _ _) _ _ _)); (fail_if_success (with_reducible show wpAny _ _ (eval (Expr.Lambda _ _ _ _) _) _ _ _)); (fail_if_success (with_reducible show InvPostN _ _ _ _ _ _ _ _ _)); (fail_if_success (with_reducible show LCg.CompSrc _ _ _ _ _ _ _ _ _ _ _ _ _ _)); (fail_if_success (with_reducible show LCg.CompEnd _ _ _ _ _ _ _ _ _ _ _ _ _ _)); (fail_if_success (with_reducible show wpAny _ _ (eval (Expr.IfExp _ _ _ _) _) _ _ _)); (fail_if_success (with_reducible show TurnPost _ _ _ _ _ _ _ _ _)); (fail_if_success (with_reducible show wpAny _ _ (compareOp _ (Value.ref _) (Value.ref _)) _ _ _)); first | walk1 | (dsimp only; walk1)))
                    rename Fr _ _ _ _ => F31
                    rename News _ _ _ _ => N31
                    have eA : Apart tA' I := apart_tc N31 hoc23 mm4 mm8 hIc.2 (hoff _ mm1)
                    have eB : Apart tB' I := apart_tc N31 qB' mm19 mm8 hIc.2 (hoff _ mm1)
                    have eC : Apart tC' I := apart_tc N31 hoc22 mm20 mm8 hIc.2 (hoff _ mm1)
                    have eD : Apart D I := hoff _ mm1
                    refine hQT _ _ ?_
                    refine turn_next (nx := [(rl, listOf #[.ref D, .int (c2 + 1 + 1) tc16] 0), (D, listOf (List.toArray ws) 0), ((Array.size (Shared.heap s1).objs) + 1 + 1 + 1 + 1 + 1 + 1, oSp), ((Array.size (Shared.heap s1).objs) + 1 + 1 + 1 + 1 + 1, oRa), ((Array.size (Shared.heap s1).objs) + 1 + 1 + 1 + 1, oMa), ((Array.size (Shared.heap s1).objs) + 1 + 1 + 1, oHo), ((Array.size (Shared.heap s1).objs) + 1 + 1, oBo), ((Array.size (Shared.heap s1).objs) + 1, o1), (148, tabObj pB'), (134, tabObj pA'), (169, tabObj pC'), (tA', oA'), (tB', oB'), (tC', oC')]) rfl F31 (forall_cons (N31 _ mm8) (forall_cons (N31 _ mm9) (forall_cons (N31 _ mm10) (forall_cons (N31 _ mm11) (forall_cons (N31 _ mm12) (forall_cons (N31 _ mm13) (forall_cons (N31 _ mm14) (forall_cons (N31 _ mm15) (forall_cons (N31 _ mm16) (forall_cons (N31 _ mm17) (forall_cons (N31 _ mm3) (forall_cons (N31 _ mm18) (forall_cons (N31 _ mm4) (forall_cons (N31 _ mm19) (forall_cons (N31 _ mm20) forall_nil))))))))))))))) (by walk_at "M.all") ⟨c2 + 1 + 1, tc16, pA', pB', pC', tA', oA', tB', oB', tC', oC', o1, oBo, oHo, oMa, oRa, oSp, _, _, _, _, _, rfl, d1, dBo, dHo, dMa, dRa, dSp, (cb2 hc2').1, cend hc1 g10 g10' hy2 hc2, tg23, gB', tg22, hoc23, qB', hoc22⟩
  · w_top off
    intro mz nz hz tkz _ _ _
    rename Fr _ _ _ _ => Fz
    rename News _ _ _ _ => Nz
    (try dsimp only)
    walk1
    walk1
    walk1
    dsimp only
    rename s1.gens = #[] => hgens
    rename LJ _ _ _ _ _ _ _ => hJz
    obtain ⟨c, tc, pA, pB, pC, tA, oA, tB, oB, tC, oC, o1, o2, o3, o4, o5, o6, v2, v3, v4, v5, v6, rfl, _, _, _, _, _, _, _, _, _, _, _, _, _, _⟩ := hJz
    refine ⟨⟨.inl ⟨_, .bool true, [], rfl, fun _ => rfl, ?r, ?pp, fun _ => ⟨.nil, fun _ h => nomatch h⟩⟩, fun b o e => Fz.keep b o e, rfl, hgens⟩, ⟨_, (nGet Nz mm8)⟩, ⟨_, (nGet Nz mm9)⟩, ⟨_, (nGet Nz mm10)⟩, True.intro⟩
    case r => exact .bool true
    case pp => exact law_post _ _ _)
end
end Mine
set_option maxRecDepth 100000 in
set_option maxHeartbeats 8000000 in
theorem PySem.Challenge.cw_rh0157_01_holds : PySem.Challenge.rw_rh0157_01.Holds :=
  Mine.law_walk
