import PyProof.Rows.All
import Wide.All
import OpenK.AllK
import Wide.FinOn
import PySem.Challenge.RW_nt0098_01
open PySem PySem.W PyProof.Rows
set_option Elab.async false
set_option maxRecDepth 100000
set_option compiler.extract_closed false
namespace Mine
section
open PySem.Sem (wp)
/-! the clean contexts: no frame of a builtin that holds a buffer -/
noncomputable def holdIds : List String := ["bytearray.__contains__", "bytearray.__mod__", "bytearray.__rmod__", "_struct.pack_into.held", "bytearray.find.held"] ++ Builtin.Bytes.decodersThatHold
noncomputable def holds : Code → Bool
  | .builtin id _ => holdIds.contains id
  | _ => false
noncomputable def Free (l : List (Code × Pos)) : Prop := ∀ x ∈ l, holds x.1 = false
noncomputable def wpC {α : Type} (M : Model) (A : Around) (t : Sem α) (Q : α → Shared → Prop) (s : Shared) : Prop :=
  ∀ Γ p, Γ.In A → holds Γ.code = false → Free Γ.below → wp M Γ t (fun a _ s' => Q a s') (fun _ _ _ => False) p s
/-! a call looked at ahead: in a context that is not clean it answers True at once -/
noncomputable def clean (st : List (Code × Pos)) : Bool := st.all fun x => !holds x.1
noncomputable def inClean {α : Type} (m d : Sem α) : Sem α := .stack fun st => if clean st = true then m else d
theorem clean_free {c : Code} {p : Pos} {l : List (Code × Pos)} (h : clean ((c, p) :: l) = true) : holds c = false ∧ Free l := by
  simp only [clean, List.all_cons, Bool.and_eq_true, Bool.not_eq_true', List.all_eq_true] at h
  exact ⟨h.1, h.2⟩
/-- of the clean contexts alone -/
theorem any_inClean {α : Type} {M : Model} {A : Around} {m d : Sem α} {Q : α → Shared → Prop} {E : Value → Shared → Prop} {s : Shared} (h : wpC M A m Q s) (hd : wpAny M A d Q E s) : wpAny M A (inClean m d) Q E s := fun Γ p hΓ => by
  show wp M Γ (if clean ((Γ.code, p) :: Γ.below) = true then m else d) _ _ p s
  by_cases hc : clean ((Γ.code, p) :: Γ.below) = true
  · rw [if_pos hc]
    have hf := clean_free hc
    exact Sem.wp_mono M Γ m (fun _ _ _ x => x) (fun _ _ _ x => x.elim) p s (h Γ p hΓ hf.1 hf.2)
  · rw [if_neg hc]
    exact hd Γ p hΓ
theorem inClean_bind {M : Model} {A : Around} {name : Str} {mg : Str → Option Value} {f : Value} {m : Value → Sem Value} {d : Value} {none' : Sem Fin} {Q : Fin → Shared → Prop} {E : Value → Shared → Prop} {s : Shared} (hg : s.heap.Ns mainGlobals mg) (hf : mg name = some f)
    (h : wpAny M A (inClean (m f) (pure d)) (fun v s' => Q (.done (.ret v)) s') E s) :
    wpAny M A (inClean (do match ← nsGet mainNs name with | some f => do ret (← m f) | none => none') (ret d)) Q E s := fun Γ p hΓ => by
  show wp M Γ (if clean ((Γ.code, p) :: Γ.below) = true then _ else _) _ _ p s
  have hp : ∀ p', clean ((Γ.code, p') :: Γ.below) = clean ((Γ.code, p) :: Γ.below) := fun _ => rfl
  by_cases hc : clean ((Γ.code, p) :: Γ.below) = true
  · rw [if_pos hc]
    have h1 : ∀ p', wp M Γ (m f) (fun v _ s' => Q (.done (.ret v)) s') (fun e _ s' => E e s') p' s := fun p' => by
      have := h Γ p' hΓ
      have e : wp M Γ (if clean ((Γ.code, p') :: Γ.below) = true then m f else pure d) (fun v _ s' => Q (.done (.ret v)) s') (fun e _ s' => E e s') p' s := this
      rwa [if_pos ((hp p').trans hc)] at e
    rw [Sem.wp_bind']
    refine Sem.wp_mono M Γ _ (fun r p' s' hr => ?_) (fun _ _ _ x => x) p s ((wpAny_nsGet (M := M) (A := A) (E := E) (Q := fun r s' => r = some f ∧ s' = s) hg ⟨hf, rfl⟩) Γ p hΓ)
    obtain ⟨rfl, rfl⟩ := hr
    show wp M Γ (m f >>= fun v => ret v) _ _ p' s'
    rw [Sem.wp_bind']
    exact Sem.wp_mono M Γ _ (fun v p' s' hv => hv) (fun _ _ _ x => x) p' s' (h1 p')
  · rw [if_neg hc]
    have e : wp M Γ (if clean ((Γ.code, p) :: Γ.below) = true then m f else pure d) (fun v _ s' => Q (.done (.ret v)) s') (fun e _ s' => E e s') p s := h Γ p hΓ
    rw [if_neg hc] at e
    exact e
/-- a look at the stack is one step -/
theorem sched_look {den : Code → Sem Fin} {prog : Program} {w : World} {s s' : Shared} {m d : Sem Fin} {c : Code} {p : Pos} {n : Nat} {o : Outcome} (hc : holds c = false) (hz : s.asleep)
    (h : schedN den prog w n (.single s ⟨inClean m d, c, p, []⟩) = .halted o s') : ∃ n', schedN den prog w n' (.single s ⟨m, c, p, []⟩) = .halted o s' := by
  have hst : step den prog w s ⟨inClean m d, c, p, []⟩ = .go s ⟨m, c, p, []⟩ := by
    have e : clean [(c, p)] = true := by simp [clean, hc]
    show Step.go _ (Thread.mk (if clean ((c, p) :: []) = true then m else d) c p []) = _
    rw [if_pos e]
  cases n with
  | zero => cases h
  | succ n =>
    refine ⟨n, ?_⟩
    simp only [schedN] at h
    rcases sstep_single den prog w s ⟨inClean m d, c, p, []⟩ rfl hz with e | e
    · rw [e, hst] at h
      exact h
    · rw [hst] at e
      cases e
/-- a claim of one stub is a claim of another that halts as it does -/
theorem holds_as {c : ClaimW} {stub stub' : List Value → Thread} {defs keeps : List Str} {writes : Bool}
    (h : ∀ (w : World) vs s n o s', s.asleep → schedN (denote table) c.prog w n (.single s (stub' vs)) = .halted o s' → ∃ n', schedN (denote table) c.prog w n' (.single s (stub vs)) = .halted o s')
    (H : c.HoldsOpenBy stub' defs keeps writes) : c.HoldsOpenBy stub defs keeps writes := by
  obtain ⟨h1, h2, h3⟩ := H
  refine ⟨h1, h2, fun w => ⟨(h3 w).1, fun s hs => ?_⟩⟩
  obtain ⟨s₀, hf, hg, s₁, hT, hd, hr1, hr2, hc⟩ := (h3 w).2 s hs
  refine ⟨s₀, hf, hg, s₁, hT, hd, hr1, hr2, fun args a1 a2 ord a3 => ?_⟩
  obtain ⟨vs, s₂, hl, n, o, s', hrun, hx⟩ := hc args a1 a2 ord a3
  have z0 : s₀.asleep := Shared.asleep_of_life (fence_lifeW hf) (AfterImport.life hs)
  have z1 : s₁.asleep := Shared.asleep_of_life hT.2.1 z0
  have z2 : s₂.asleep := Shared.asleep_of_life (layAllW_rest _ _ _ hl).2.2.2 z1
  obtain ⟨n', hn'⟩ := h w vs s₂ n o s' z2 hrun
  exact ⟨vs, s₂, hl, n', o, s', hn', hx⟩
/-- a head that asks of the clean contexts alone -/
theorem holds_clean {r : OpenRow} {q : Program} {loose : List Str} {Xt : Shared → Bool} {XP : (Str → Option Value) → Heap → Prop} {α : Type} {Yf : Shared → α} {Ya : World → α} {YP : World → Heap → Prop} {d : DefRec} {kwd : List (Str × Expr)} {N : Nat}
    (left : LeftO r.prog q loose Xt Yf Ya N) (hY : ∀ w s, Yf s = Ya w → YP w s.heap) (hYk : ∀ w h h', YP w h → (∀ b o, h.get? b = some o → h'.get? b = some o) → YP w h')
    (hX : ∀ s, Xt s = true → XP (s.heap.nsMap mainGlobals) s.heap) (hXk : ∀ mg h h', XP mg h → (∀ b o, h.get? b = some o → h'.get? b = some o) → XP mg h')
    (hdef : defOf q r.name = some (d, kwd)) (hp : r.prog.theDef r.name = some (d.params, d.body, d.scope)) (hk : kwWritten? d.params.kwonlyargs d.params.kw_defaults = some kwd) (hRf : ∀ s, Xt s = true → RecFacts r.records s.heap) (hwr : (!r.writes || r.records.isEmpty) = true)
    (k1 : r.wellSaid = true) (ok : (chainsOk q && opensWell r.prog && (frees r.toRowW && r.within.isEmpty)) = true) (hb : r.prog.bare) (hw : r.toRowW.promised)
    (call : WalkO q loose XP YP r.toRowW d kwd fun f vs => inClean (PySem.call f vs) (pure (.bool true))) : r.Holds := by
  refine ⟨k1, hw, holds_as (stub' := fun vs => ⟨inClean (do match ← nsGet mainNs r.name with
      | some f => do ret (← PySem.call f vs)
      | none => unsupported "claim.caller:no-such-global") (ret (.bool true)), .builtin "claim.caller" {}, default, []⟩) (fun w vs s n o s' hz h => sched_look (by decide +kernel) hz h) ?_⟩
  refine open_anyG (r := r.toRowW) (run := fun f vs => inClean (PySem.call f vs) (pure (.bool true))) (tree := fun vs => inClean (do match ← nsGet mainNs r.name with
      | some f => do ret (← PySem.call f vs)
      | none => unsupported "claim.caller:no-such-global") (ret (.bool true))) left hY hYk hX hXk hRf hwr ok hb hw
    (fun vs w s mg f Q E hg hf h => inClean_bind (m := fun f => PySem.call f vs) hg hf h) (fun w s hg G n hn => ?_) fun w s₀ s₁ mg mb G Y args vs as hpre hlay L low => ?_
  · obtain rfl : n = r.name := by split at hn <;> simp_all
    exact pinned_of_view hg G hdef hp hk
  · obtain ⟨a, o, pm, cd, doc, dV, kV, h1, h2, h3, h4, h5⟩ := G.fn hdef
    exact ⟨.ref a, h1, call w s₀ s₁ mg mb G Y a o pm cd doc dV kV h2 h3 h4 h5 (defOf_name hdef ▸ h1) L.gens args vs as hpre hlay L.reads L.well (L.low low)⟩
end
section
noncomputable abbrev PROG : Program := PySem.Challenge.rw_nt0098_01.row.prog
noncomputable def isFn (n : Str) : Stmt → Bool
  | .FunctionDef m .. => m == n
  | _ => false
noncomputable def isCl (n : Str) : Stmt → Bool
  | .ClassDef m .. => m == n
  | _ => false
noncomputable def fnd (l : List Stmt) (n : Str) : Stmt := (l.find? (isFn n)).getD (.Pass default)
noncomputable def cld (l : List Stmt) (n : Str) : List Stmt := match l.find? (isCl n) with
  | some (.ClassDef _ _ _ b ..) => b
  | _ => []
noncomputable def hd.heap_39 : Params → Frag := fun P => (fun
    (a0 : Arguments) (b0 : List Stmt) (s0 : Scope) (x0 : Str × List Expr × Option Expr × List TypeParam × Option Scope × Str × Pos) (_ : fnd (cld PROG.main.body (Str.ofString "PagebaseError")) (Str.ofString "__init__") = .FunctionDef x0.1 a0 b0 x0.2.1 x0.2.2.1 x0.2.2.2.1 s0 x0.2.2.2.2.1 x0.2.2.2.2.2.1 x0.2.2.2.2.2.2)
    (a1 : Arguments) (b1 : List Stmt) (s1 : Scope) (x1 : Str × List Expr × Option Expr × List TypeParam × Option Scope × Str × Pos) (_ : fnd PROG.main.body (Str.ofString "utf8") = .FunctionDef x1.1 a1 b1 x1.2.1 x1.2.2.1 x1.2.2.2.1 s1 x1.2.2.2.2.1 x1.2.2.2.2.2.1 x1.2.2.2.2.2.2)
    (a2 : Arguments) (b2 : List Stmt) (s2 : Scope) (x2 : Str × List Expr × Option Expr × List TypeParam × Option Scope × Str × Pos) (_ : fnd PROG.main.body (Str.ofString "fold_ascii") = .FunctionDef x2.1 a2 b2 x2.2.1 x2.2.2.1 x2.2.2.2.1 s2 x2.2.2.2.2.1 x2.2.2.2.2.2.1 x2.2.2.2.2.2.2)
    (a3 : Arguments) (b3 : List Stmt) (s3 : Scope) (x3 : Str × List Expr × Option Expr × List TypeParam × Option Scope × Str × Pos) (_ : fnd PROG.main.body (Str.ofString "storage_class") = .FunctionDef x3.1 a3 b3 x3.2.1 x3.2.2.1 x3.2.2.2.1 s3 x3.2.2.2.2.1 x3.2.2.2.2.2.1 x3.2.2.2.2.2.2)
    (a4 : Arguments) (b4 : List Stmt) (s4 : Scope) (x4 : Str × List Expr × Option Expr × List TypeParam × Option Scope × Str × Pos) (_ : fnd PROG.main.body (Str.ofString "is_in_range") = .FunctionDef x4.1 a4 b4 x4.2.1 x4.2.2.1 x4.2.2.2.1 s4 x4.2.2.2.2.1 x4.2.2.2.2.2.1 x4.2.2.2.2.2.2)
    (a5 : Arguments) (b5 : List Stmt) (s5 : Scope) (x5 : Str × List Expr × Option Expr × List TypeParam × Option Scope × Str × Pos) (_ : fnd PROG.main.body (Str.ofString "collate") = .FunctionDef x5.1 a5 b5 x5.2.1 x5.2.2.1 x5.2.2.2.1 s5 x5.2.2.2.2.1 x5.2.2.2.2.2.1 x5.2.2.2.2.2.2)
    (a6 : Arguments) (b6 : List Stmt) (s6 : Scope) (x6 : Str × List Expr × Option Expr × List TypeParam × Option Scope × Str × Pos) (_ : fnd PROG.main.body (Str.ofString "sign_of") = .FunctionDef x6.1 a6 b6 x6.2.1 x6.2.2.1 x6.2.2.2.1 s6 x6.2.2.2.2.1 x6.2.2.2.2.2.1 x6.2.2.2.2.2.2)
    (a7 : Arguments) (b7 : List Stmt) (s7 : Scope) (x7 : Str × List Expr × Option Expr × List TypeParam × Option Scope × Str × Pos) (_ : fnd PROG.main.body (Str.ofString "compare_values") = .FunctionDef x7.1 a7 b7 x7.2.1 x7.2.2.1 x7.2.2.2.1 s7 x7.2.2.2.2.1 x7.2.2.2.2.2.1 x7.2.2.2.2.2.2)
    (a8 : Arguments) (b8 : List Stmt) (s8 : Scope) (x8 : Str × List Expr × Option Expr × List TypeParam × Option Scope × Str × Pos) (_ : fnd PROG.main.body (Str.ofString "put_fixed") = .FunctionDef x8.1 a8 b8 x8.2.1 x8.2.2.1 x8.2.2.2.1 s8 x8.2.2.2.2.1 x8.2.2.2.2.2.1 x8.2.2.2.2.2.2)
    (a9 : Arguments) (b9 : List Stmt) (s9 : Scope) (x9 : Str × List Expr × Option Expr × List TypeParam × Option Scope × Str × Pos) (_ : fnd (cld PROG.main.body (Str.ofString "KeyInfo")) (Str.ofString "__init__") = .FunctionDef x9.1 a9 b9 x9.2.1 x9.2.2.1 x9.2.2.2.1 s9 x9.2.2.2.2.1 x9.2.2.2.2.2.1 x9.2.2.2.2.2.2)
    (a10 : Arguments) (b10 : List Stmt) (s10 : Scope) (x10 : Str × List Expr × Option Expr × List TypeParam × Option Scope × Str × Pos) (_ : fnd (cld PROG.main.body (Str.ofString "KeyInfo")) (Str.ofString "count") = .FunctionDef x10.1 a10 b10 x10.2.1 x10.2.2.1 x10.2.2.2.1 s10 x10.2.2.2.2.1 x10.2.2.2.2.2.1 x10.2.2.2.2.2.2)
    (a11 : Arguments) (b11 : List Stmt) (s11 : Scope) (x11 : Str × List Expr × Option Expr × List TypeParam × Option Scope × Str × Pos) (_ : fnd (cld PROG.main.body (Str.ofString "KeyInfo")) (Str.ofString "collation") = .FunctionDef x11.1 a11 b11 x11.2.1 x11.2.2.1 x11.2.2.2.1 s11 x11.2.2.2.2.1 x11.2.2.2.2.2.1 x11.2.2.2.2.2.2)
    (a12 : Arguments) (b12 : List Stmt) (s12 : Scope) (x12 : Str × List Expr × Option Expr × List TypeParam × Option Scope × Str × Pos) (_ : fnd (cld PROG.main.body (Str.ofString "KeyInfo")) (Str.ofString "is_descending") = .FunctionDef x12.1 a12 b12 x12.2.1 x12.2.2.1 x12.2.2.2.1 s12 x12.2.2.2.2.1 x12.2.2.2.2.2.1 x12.2.2.2.2.2.2)
    (a13 : Arguments) (b13 : List Stmt) (s13 : Scope) (x13 : Str × List Expr × Option Expr × List TypeParam × Option Scope × Str × Pos) (_ : fnd PROG.main.body (Str.ofString "compare_keys") = .FunctionDef x13.1 a13 b13 x13.2.1 x13.2.2.1 x13.2.2.2.1 s13 x13.2.2.2.2.1 x13.2.2.2.2.2.1 x13.2.2.2.2.2.2)
    (a14 : Arguments) (b14 : List Stmt) (s14 : Scope) (x14 : Str × List Expr × Option Expr × List TypeParam × Option Scope × Str × Pos) (_ : fnd PROG.main.body (Str.ofString "put_ended") = .FunctionDef x14.1 a14 b14 x14.2.1 x14.2.2.1 x14.2.2.2.1 s14 x14.2.2.2.2.1 x14.2.2.2.2.2.1 x14.2.2.2.2.2.2)
    (a15 : Arguments) (b15 : List Stmt) (s15 : Scope) (x15 : Str × List Expr × Option Expr × List TypeParam × Option Scope × Str × Pos) (_ : fnd PROG.main.body (Str.ofString "sort_part") = .FunctionDef x15.1 a15 b15 x15.2.1 x15.2.2.1 x15.2.2.2.1 s15 x15.2.2.2.2.1 x15.2.2.2.2.2.1 x15.2.2.2.2.2.2)
    (a16 : Arguments) (b16 : List Stmt) (s16 : Scope) (x16 : Str × List Expr × Option Expr × List TypeParam × Option Scope × Str × Pos) (_ : fnd PROG.main.body (Str.ofString "sort_octets") = .FunctionDef x16.1 a16 b16 x16.2.1 x16.2.2.1 x16.2.2.2.1 s16 x16.2.2.2.2.1 x16.2.2.2.2.2.1 x16.2.2.2.2.2.2)
    (a17 : Arguments) (b17 : List Stmt) (s17 : Scope) (x17 : Str × List Expr × Option Expr × List TypeParam × Option Scope × Str × Pos) (_ : fnd PROG.main.body (Str.ofString "_law_pool") = .FunctionDef x17.1 a17 b17 x17.2.1 x17.2.2.1 x17.2.2.2.1 s17 x17.2.2.2.2.1 x17.2.2.2.2.2.1 x17.2.2.2.2.2.2)
    (a18 : Arguments) (b18 : List Stmt) (s18 : Scope) (x18 : Str × List Expr × Option Expr × List TypeParam × Option Scope × Str × Pos) (_ : fnd PROG.main.body (Str.ofString "_law_take") = .FunctionDef x18.1 a18 b18 x18.2.1 x18.2.2.1 x18.2.2.2.1 s18 x18.2.2.2.2.1 x18.2.2.2.2.2.1 x18.2.2.2.2.2.2)
    (a19 : Arguments) (b19 : List Stmt) (s19 : Scope) (x19 : Str × List Expr × Option Expr × List TypeParam × Option Scope × Str × Pos) (_ : fnd PROG.main.body (Str.ofString "_law_one") = .FunctionDef x19.1 a19 b19 x19.2.1 x19.2.2.1 x19.2.2.2.1 s19 x19.2.2.2.2.1 x19.2.2.2.2.2.1 x19.2.2.2.2.2.2)
    (a20 : Arguments) (b20 : List Stmt) (s20 : Scope) (x20 : Str × List Expr × Option Expr × List TypeParam × Option Scope × Str × Pos) (_ : fnd PROG.main.body (Str.ofString "_law_rank") = .FunctionDef x20.1 a20 b20 x20.2.1 x20.2.2.1 x20.2.2.2.1 s20 x20.2.2.2.2.1 x20.2.2.2.2.2.1 x20.2.2.2.2.2.2)
    (a21 : Arguments) (b21 : List Stmt) (s21 : Scope) (x21 : Str × List Expr × Option Expr × List TypeParam × Option Scope × Str × Pos) (_ : fnd PROG.main.body (Str.ofString "_law_folded") = .FunctionDef x21.1 a21 b21 x21.2.1 x21.2.2.1 x21.2.2.2.1 s21 x21.2.2.2.2.1 x21.2.2.2.2.2.1 x21.2.2.2.2.2.2)
    (a22 : Arguments) (b22 : List Stmt) (s22 : Scope) (x22 : Str × List Expr × Option Expr × List TypeParam × Option Scope × Str × Pos) (_ : fnd PROG.main.body (Str.ofString "_law_order") = .FunctionDef x22.1 a22 b22 x22.2.1 x22.2.2.1 x22.2.2.2.1 s22 x22.2.2.2.2.1 x22.2.2.2.2.2.1 x22.2.2.2.2.2.2)
    (a23 : Arguments) (b23 : List Stmt) (s23 : Scope) (x23 : Str × List Expr × Option Expr × List TypeParam × Option Scope × Str × Pos) (_ : fnd PROG.main.body (Str.ofString "_law_keys_order") = .FunctionDef x23.1 a23 b23 x23.2.1 x23.2.2.1 x23.2.2.2.1 s23 x23.2.2.2.2.1 x23.2.2.2.2.2.1 x23.2.2.2.2.2.2)
    (a24 : Arguments) (b24 : List Stmt) (s24 : Scope) (x24 : Str × List Expr × Option Expr × List TypeParam × Option Scope × Str × Pos) (_ : fnd PROG.main.body (Str.ofString "_law_number") = .FunctionDef x24.1 a24 b24 x24.2.1 x24.2.2.1 x24.2.2.2.1 s24 x24.2.2.2.2.1 x24.2.2.2.2.2.1 x24.2.2.2.2.2.2)
    (a25 : Arguments) (b25 : List Stmt) (s25 : Scope) (x25 : Str × List Expr × Option Expr × List TypeParam × Option Scope × Str × Pos) (_ : fnd PROG.main.body (Str.ofString "_law_value") = .FunctionDef x25.1 a25 b25 x25.2.1 x25.2.2.1 x25.2.2.2.1 s25 x25.2.2.2.2.1 x25.2.2.2.2.2.1 x25.2.2.2.2.2.2)
    (a26 : Arguments) (b26 : List Stmt) (s26 : Scope) (x26 : Str × List Expr × Option Expr × List TypeParam × Option Scope × Str × Pos) (_ : fnd PROG.main.body (Str.ofString "_law_near") = .FunctionDef x26.1 a26 b26 x26.2.1 x26.2.2.1 x26.2.2.2.1 s26 x26.2.2.2.2.1 x26.2.2.2.2.2.1 x26.2.2.2.2.2.2)
    (a27 : Arguments) (b27 : List Stmt) (s27 : Scope) (x27 : Str × List Expr × Option Expr × List TypeParam × Option Scope × Str × Pos) (_ : fnd PROG.main.body (Str.ofString "_law_rows") = .FunctionDef x27.1 a27 b27 x27.2.1 x27.2.2.1 x27.2.2.2.1 s27 x27.2.2.2.2.1 x27.2.2.2.2.2.1 x27.2.2.2.2.2.2)
    (a28 : Arguments) (b28 : List Stmt) (s28 : Scope) (x28 : Str × List Expr × Option Expr × List TypeParam × Option Scope × Str × Pos) (_ : fnd PROG.main.body (Str.ofString "_law_values_right") = .FunctionDef x28.1 a28 b28 x28.2.1 x28.2.2.1 x28.2.2.2.1 s28 x28.2.2.2.2.1 x28.2.2.2.2.2.1 x28.2.2.2.2.2.2)
    (a29 : Arguments) (b29 : List Stmt) (s29 : Scope) (x29 : Str × List Expr × Option Expr × List TypeParam × Option Scope × Str × Pos) (_ : fnd PROG.main.body (Str.ofString "_law_pair_right") = .FunctionDef x29.1 a29 b29 x29.2.1 x29.2.2.1 x29.2.2.2.1 s29 x29.2.2.2.2.1 x29.2.2.2.2.2.1 x29.2.2.2.2.2.2)
    (a30 : Arguments) (b30 : List Stmt) (s30 : Scope) (x30 : Str × List Expr × Option Expr × List TypeParam × Option Scope × Str × Pos) (_ : fnd PROG.main.body (Str.ofString "law") = .FunctionDef x30.1 a30 b30 x30.2.1 x30.2.2.1 x30.2.2.2.1 s30 x30.2.2.2.2.1 x30.2.2.2.2.2.1 x30.2.2.2.2.2.2)
    => ((nat_lit 2 : Nat), ({ cls := Value.none, data := Data.dict #[{ hash := PyData.keyHash P (Str.ofString "type.__subclasses__.Exception.0"), key := Value.str (Str.ofString "type.__subclasses__.Exception.0") 214, val := Value.int 31 0 }, { hash := PyData.keyHash P (Str.ofString "type.__subclasses__.Exception.n"), key := Value.str (Str.ofString "type.__subclasses__.Exception.n") 215, val := Value.int 1 0 }] 2 } : Obj)) ::
      ((nat_lit 3 : Nat), ({ cls := Value.type "dict", data := Data.dict #[{ hash := PyData.keyHash P (Str.ofString "__name__"), key := Value.str (Str.ofString "__name__") 165, val := Value.str (Str.ofString "law_nt0098_01") 461 }, { hash := PyData.keyHash P (Str.ofString "__doc__"), key := Value.str (Str.ofString "__doc__") 166, val := Value.none }, { hash := PyData.keyHash P (Str.ofString "__package__"), key := Value.str (Str.ofString "__package__") 167, val := Value.none }, { hash := PyData.keyHash P (Str.ofString "__loader__"), key := Value.str (Str.ofString "__loader__") 168, val := Value.builtin "__main__.__loader__#opaque" }, { hash := PyData.keyHash P (Str.ofString "__spec__"), key := Value.str (Str.ofString "__spec__") 169, val := Value.none }, { hash := PyData.keyHash P (Str.ofString "__annotations__"), key := Value.str (Str.ofString "__annotations__") 170, val := Value.ref 6 }, { hash := PyData.keyHash P (Str.ofString "__builtins__"), key := Value.str (Str.ofString "__builtins__") 171, val := Value.ref 4 }, { hash := PyData.keyHash P (Str.ofString "__file__"), key := Value.str (Str.ofString "__file__") 173, val := Value.str (Str.ofString "/claim/cut.py") 172 }, { hash := PyData.keyHash P (Str.ofString "__cached__"), key := Value.str (Str.ofString "__cached__") 174, val := Value.none }, { hash := PyData.keyHash P (Str.ofString "PagebaseError"), key := Value.str (Str.ofString "PagebaseError") 217, val := Value.ref 31 }, { hash := PyData.keyHash P (Str.ofString "SqlError"), key := Value.str (Str.ofString "SqlError") 233, val := Value.ref 44 }, { hash := PyData.keyHash P (Str.ofString "MisuseError"), key := Value.str (Str.ofString "MisuseError") 249, val := Value.ref 56 }, { hash := PyData.keyHash P (Str.ofString "MIN_INT"), key := Value.str (Str.ofString "MIN_INT") 256, val := Value.int (-9223372036854775808) 255 }, { hash := PyData.keyHash P (Str.ofString "MAX_INT"), key := Value.str (Str.ofString "MAX_INT") 262, val := Value.int 9223372036854775807 261 }, { hash := PyData.keyHash P (Str.ofString "WORD"), key := Value.str (Str.ofString "WORD") 266, val := Value.int 18446744073709551616 265 }, { hash := PyData.keyHash P (Str.ofString "STORAGE_RANKS"), key := Value.str (Str.ofString "STORAGE_RANKS") 279, val := Value.ref 59 }, { hash := PyData.keyHash P (Str.ofString "utf8"), key := Value.str (Str.ofString "utf8") 289, val := Value.ref 66 }, { hash := PyData.keyHash P (Str.ofString "fold_ascii"), key := Value.str (Str.ofString "fold_ascii") 298, val := Value.ref 73 }, { hash := PyData.keyHash P (Str.ofString "storage_class"), key := Value.str (Str.ofString "storage_class") 305, val := Value.ref 80 }, { hash := PyData.keyHash P (Str.ofString "is_in_range"), key := Value.str (Str.ofString "is_in_range") 312, val := Value.ref 87 }, { hash := PyData.keyHash P (Str.ofString "collate"), key := Value.str (Str.ofString "collate") 321, val := Value.ref 94 }, { hash := PyData.keyHash P (Str.ofString "sign_of"), key := Value.str (Str.ofString "sign_of") 329, val := Value.ref 101 }, { hash := PyData.keyHash P (Str.ofString "compare_values"), key := Value.str (Str.ofString "compare_values") 341, val := Value.ref 109 }, { hash := PyData.keyHash P (Str.ofString "NULL_TAG"), key := Value.str (Str.ofString "NULL_TAG") 345, val := Value.int 1 344 }, { hash := PyData.keyHash P (Str.ofString "NUMBER_TAG"), key := Value.str (Str.ofString "NUMBER_TAG") 347, val := Value.int 2 346 }, { hash := PyData.keyHash P (Str.ofString "TEXT_TAG"), key := Value.str (Str.ofString "TEXT_TAG") 349, val := Value.int 3 348 }, { hash := PyData.keyHash P (Str.ofString "BLOB_TAG"), key := Value.str (Str.ofString "BLOB_TAG") 351, val := Value.int 4 350 }, { hash := PyData.keyHash P (Str.ofString "put_fixed"), key := Value.str (Str.ofString "put_fixed") 362, val := Value.ref 116 }, { hash := PyData.keyHash P (Str.ofString "KeyInfo"), key := Value.str (Str.ofString "KeyInfo") 416, val := Value.ref 154 }, { hash := PyData.keyHash P (Str.ofString "compare_keys"), key := Value.str (Str.ofString "compare_keys") 429, val := Value.ref 166 }, { hash := PyData.keyHash P (Str.ofString "put_ended"), key := Value.str (Str.ofString "put_ended") 438, val := Value.ref 173 }, { hash := PyData.keyHash P (Str.ofString "sort_part"), key := Value.str (Str.ofString "sort_part") 448, val := Value.ref 180 }, { hash := PyData.keyHash P (Str.ofString "sort_octets"), key := Value.str (Str.ofString "sort_octets") 460, val := Value.ref 187 }, { hash := PyData.keyHash P (Str.ofString "_law_pool"), key := Value.str (Str.ofString "_law_pool") 473, val := Value.ref 194 }, { hash := PyData.keyHash P (Str.ofString "_law_take"), key := Value.str (Str.ofString "_law_take") 482, val := Value.ref 201 }, { hash := PyData.keyHash P (Str.ofString "_law_one"), key := Value.str (Str.ofString "_law_one") 490, val := Value.ref 208 }, { hash := PyData.keyHash P (Str.ofString "_law_rank"), key := Value.str (Str.ofString "_law_rank") 497, val := Value.ref 215 }, { hash := PyData.keyHash P (Str.ofString "_law_folded"), key := Value.str (Str.ofString "_law_folded") 503, val := Value.ref 220 }, { hash := PyData.keyHash P (Str.ofString "_law_order"), key := Value.str (Str.ofString "_law_order") 512, val := Value.ref 227 }, { hash := PyData.keyHash P (Str.ofString "_law_keys_order"), key := Value.str (Str.ofString "_law_keys_order") 525, val := Value.ref 234 }, { hash := PyData.keyHash P (Str.ofString "_law_number"), key := Value.str (Str.ofString "_law_number") 534, val := Value.ref 241 }, { hash := PyData.keyHash P (Str.ofString "_law_value"), key := Value.str (Str.ofString "_law_value") 540, val := Value.ref 246 }, { hash := PyData.keyHash P (Str.ofString "_law_near"), key := Value.str (Str.ofString "_law_near") 549, val := Value.ref 253 }, { hash := PyData.keyHash P (Str.ofString "_law_rows"), key := Value.str (Str.ofString "_law_rows") 555, val := Value.ref 258 }, { hash := PyData.keyHash P (Str.ofString "_law_values_right"), key := Value.str (Str.ofString "_law_values_right") 566, val := Value.ref 265 }, { hash := PyData.keyHash P (Str.ofString "_law_pair_right"), key := Value.str (Str.ofString "_law_pair_right") 583, val := Value.ref 272 }, { hash := PyData.keyHash P (Str.ofString "law"), key := Value.str (Str.ofString "law") 589, val := Value.ref 277 }] 47 } : Obj)) ::
      ((nat_lit 15 : Nat), ({ cls := Value.type "tuple", data := Data.seq #[Value.type "Exception"] } : Obj)) ::
      ((nat_lit 22 : Nat), ({ cls := Value.type "tuple", data := Data.seq #[] } : Obj)) ::
      ((nat_lit 24 : Nat), ({ cls := Value.type "tuple", data := Data.seq #[Value.str (Str.ofString "self") 204, Value.str (Str.ofString "message") 205] } : Obj)) ::
      ((nat_lit 25 : Nat), ({ cls := Value.type "tuple", data := Data.seq #[] } : Obj)) ::
      ((nat_lit 27 : Nat), ({ cls := Value.type "code", data := Data.fields #[Value.str (Str.ofString "__init__") 201, Value.str (Str.ofString "PagebaseError.__init__") 202, Value.str (Str.ofString "/claim/cut.py") 203, Value.int 4 0, Value.int 2 0, Value.int 0 0, Value.int 0 0, Value.int 3 0, Value.ref 22, Value.bool true, Value.int 181 0, Value.ref 23, Value.none, Value.ref 24, Value.ref 25, Value.ref 26, Value.int 206 0, Value.int 4 0, Value.str (Str.ofString "/claim/cut.py") 207] } : Obj)) ::
      ((nat_lit 28 : Nat), ({ cls := Value.type "function", data := Data.func { name := Str.ofString "__init__", qualname := Str.ofString "PagebaseError.__init__", params := a0, body := FuncBody.stmts b0, scope := s0, globals := 3, closure := [], defaults := Value.none, kwdefaults := Value.none, pyModule := Value.str (Str.ofString "pagebase.errors") 187, code := Value.ref 27 } } : Obj)) ::
      ((nat_lit 29 : Nat), ({ cls := Value.type "tuple", data := Data.seq #[Value.str (Str.ofString "message") 209] } : Obj)) ::
      ((nat_lit 30 : Nat), ({ cls := Value.type "dict", data := Data.dict #[{ hash := PyData.keyHash P (Str.ofString "__module__"), key := Value.str (Str.ofString "__module__") 196, val := Value.str (Str.ofString "pagebase.errors") 187 }, { hash := PyData.keyHash P (Str.ofString "__firstlineno__"), key := Value.str (Str.ofString "__firstlineno__") 200, val := Value.int 2 199 }, { hash := PyData.keyHash P (Str.ofString "__init__"), key := Value.str (Str.ofString "__init__") 208, val := Value.ref 28 }, { hash := PyData.keyHash P (Str.ofString "__static_attributes__"), key := Value.str (Str.ofString "__static_attributes__") 210, val := Value.ref 29 }, { hash := PyData.keyHash P (Str.ofString "__weakref__"), key := Value.str (Str.ofString "__weakref__") 212, val := Value.ref 32 }, { hash := PyData.keyHash P (Str.ofString "__doc__"), key := Value.str (Str.ofString "__doc__") 213, val := Value.none }] 3 } : Obj)) ::
      ((nat_lit 31 : Nat), ({ cls := Value.type "type", data := Data.cls { name := Str.ofString "PagebaseError", bases := [Value.type "Exception"], mro := [Value.ref 31, Value.type "Exception", Value.type "BaseException", Value.type "object"], ns := 30, qualname := Str.ofString "PagebaseError", subclasses := [Value.ref 44, Value.ref 56] }, slots := #[some (Value.ref 15), none, some (Value.str (Str.ofString "PagebaseError") 189), some (Value.str (Str.ofString "PagebaseError") 197), some (Value.builtin "Exception.__new__"), some (Value.bool true)] } : Obj)) ::
      ((nat_lit 32 : Nat), ({ cls := Value.type "getset_descriptor", data := Data.fields #[Value.str (Str.ofString "__weakref__") 211, Value.ref 31, Value.builtin "ExceptionGroup.__weakref__", Value.none] } : Obj)) ::
      ((nat_lit 35 : Nat), ({ cls := Value.type "tuple", data := Data.seq #[Value.ref 31] } : Obj)) ::
      ((nat_lit 42 : Nat), ({ cls := Value.type "tuple", data := Data.seq #[] } : Obj)) ::
      ((nat_lit 43 : Nat), ({ cls := Value.type "dict", data := Data.dict #[{ hash := PyData.keyHash P (Str.ofString "__module__"), key := Value.str (Str.ofString "__module__") 225, val := Value.str (Str.ofString "pagebase.errors") 187 }, { hash := PyData.keyHash P (Str.ofString "__firstlineno__"), key := Value.str (Str.ofString "__firstlineno__") 229, val := Value.int 6 228 }, { hash := PyData.keyHash P (Str.ofString "__static_attributes__"), key := Value.str (Str.ofString "__static_attributes__") 230, val := Value.ref 42 }, { hash := PyData.keyHash P (Str.ofString "__doc__"), key := Value.str (Str.ofString "__doc__") 231, val := Value.none }] 2 } : Obj)) ::
      ((nat_lit 44 : Nat), ({ cls := Value.type "type", data := Data.cls { name := Str.ofString "SqlError", bases := [Value.ref 31], mro := [Value.ref 44, Value.ref 31, Value.type "Exception", Value.type "BaseException", Value.type "object"], ns := 43, qualname := Str.ofString "SqlError" }, slots := #[some (Value.ref 35), none, some (Value.str (Str.ofString "SqlError") 218), some (Value.str (Str.ofString "SqlError") 226), some (Value.builtin "Exception.__new__"), some (Value.bool true)] } : Obj)) ::
      ((nat_lit 47 : Nat), ({ cls := Value.type "tuple", data := Data.seq #[Value.ref 31] } : Obj)) ::
      ((nat_lit 54 : Nat), ({ cls := Value.type "tuple", data := Data.seq #[] } : Obj)) ::
      ((nat_lit 55 : Nat), ({ cls := Value.type "dict", data := Data.dict #[{ hash := PyData.keyHash P (Str.ofString "__module__"), key := Value.str (Str.ofString "__module__") 241, val := Value.str (Str.ofString "pagebase.errors") 187 }, { hash := PyData.keyHash P (Str.ofString "__firstlineno__"), key := Value.str (Str.ofString "__firstlineno__") 245, val := Value.int 8 244 }, { hash := PyData.keyHash P (Str.ofString "__static_attributes__"), key := Value.str (Str.ofString "__static_attributes__") 246, val := Value.ref 54 }, { hash := PyData.keyHash P (Str.ofString "__doc__"), key := Value.str (Str.ofString "__doc__") 247, val := Value.none }] 2 } : Obj)) ::
      ((nat_lit 56 : Nat), ({ cls := Value.type "type", data := Data.cls { name := Str.ofString "MisuseError", bases := [Value.ref 31], mro := [Value.ref 56, Value.ref 31, Value.type "Exception", Value.type "BaseException", Value.type "object"], ns := 55, qualname := Str.ofString "MisuseError" }, slots := #[some (Value.ref 47), none, some (Value.str (Str.ofString "MisuseError") 234), some (Value.str (Str.ofString "MisuseError") 242), some (Value.builtin "Exception.__new__"), some (Value.bool true)] } : Obj)) ::
      ((nat_lit 59 : Nat), ({ cls := Value.type "dict", data := Data.dict #[{ hash := PyData.keyHash P (Str.ofString "null"), key := Value.str (Str.ofString "null") 267, val := Value.int 0 268 }, { hash := PyData.keyHash P (Str.ofString "integer"), key := Value.str (Str.ofString "integer") 269, val := Value.int 1 270 }, { hash := PyData.keyHash P (Str.ofString "text"), key := Value.str (Str.ofString "text") 271, val := Value.int 2 272 }, { hash := PyData.keyHash P (Str.ofString "blob"), key := Value.str (Str.ofString "blob") 273, val := Value.int 3 274 }] 4 } : Obj)) ::
      ((nat_lit 60 : Nat), ({ cls := Value.type "tuple", data := Data.seq #[] } : Obj)) ::
      ((nat_lit 62 : Nat), ({ cls := Value.type "tuple", data := Data.seq #[Value.str (Str.ofString "text") 283, Value.str (Str.ofString "found") 284, Value.str (Str.ofString "sign") 285, Value.str (Str.ofString "code") 286] } : Obj)) ::
      ((nat_lit 63 : Nat), ({ cls := Value.type "tuple", data := Data.seq #[] } : Obj)) ::
      ((nat_lit 65 : Nat), ({ cls := Value.type "code", data := Data.fields #[Value.str (Str.ofString "utf8") 280, Value.str (Str.ofString "utf8") 281, Value.str (Str.ofString "/claim/cut.py") 282, Value.int 15 0, Value.int 1 0, Value.int 0 0, Value.int 0 0, Value.int 3 0, Value.ref 60, Value.bool true, Value.int 181 0, Value.ref 61, Value.none, Value.ref 62, Value.ref 63, Value.ref 64, Value.int 287 0, Value.int 15 0, Value.str (Str.ofString "/claim/cut.py") 288] } : Obj)) ::
      ((nat_lit 66 : Nat), ({ cls := Value.type "function", data := Data.func { name := Str.ofString "utf8", qualname := Str.ofString "utf8", params := a1, body := FuncBody.stmts b1, scope := s1, globals := 3, closure := [], defaults := Value.none, kwdefaults := Value.none, pyModule := Value.str (Str.ofString "pagebase.values") 250, code := Value.ref 65 } } : Obj)) ::
      ((nat_lit 67 : Nat), ({ cls := Value.type "tuple", data := Data.seq #[] } : Obj)) ::
      ((nat_lit 69 : Nat), ({ cls := Value.type "tuple", data := Data.seq #[Value.str (Str.ofString "text") 293, Value.str (Str.ofString "signs") 294, Value.str (Str.ofString "sign") 295] } : Obj)) ::
      ((nat_lit 70 : Nat), ({ cls := Value.type "tuple", data := Data.seq #[] } : Obj)) ::
      ((nat_lit 72 : Nat), ({ cls := Value.type "code", data := Data.fields #[Value.str (Str.ofString "fold_ascii") 290, Value.str (Str.ofString "fold_ascii") 291, Value.str (Str.ofString "/claim/cut.py") 292, Value.int 34 0, Value.int 1 0, Value.int 0 0, Value.int 0 0, Value.int 3 0, Value.ref 67, Value.bool true, Value.int 181 0, Value.ref 68, Value.none, Value.ref 69, Value.ref 70, Value.ref 71, Value.int 296 0, Value.int 34 0, Value.str (Str.ofString "/claim/cut.py") 297] } : Obj)) ::
      ((nat_lit 73 : Nat), ({ cls := Value.type "function", data := Data.func { name := Str.ofString "fold_ascii", qualname := Str.ofString "fold_ascii", params := a2, body := FuncBody.stmts b2, scope := s2, globals := 3, closure := [], defaults := Value.none, kwdefaults := Value.none, pyModule := Value.str (Str.ofString "pagebase.values") 250, code := Value.ref 72 } } : Obj)) ::
      ((nat_lit 74 : Nat), ({ cls := Value.type "tuple", data := Data.seq #[] } : Obj)) ::
      ((nat_lit 76 : Nat), ({ cls := Value.type "tuple", data := Data.seq #[Value.str (Str.ofString "v") 302] } : Obj)) ::
      ((nat_lit 77 : Nat), ({ cls := Value.type "tuple", data := Data.seq #[] } : Obj)) ::
      ((nat_lit 79 : Nat), ({ cls := Value.type "code", data := Data.fields #[Value.str (Str.ofString "storage_class") 299, Value.str (Str.ofString "storage_class") 300, Value.str (Str.ofString "/claim/cut.py") 301, Value.int 42 0, Value.int 1 0, Value.int 0 0, Value.int 0 0, Value.int 3 0, Value.ref 74, Value.bool true, Value.int 181 0, Value.ref 75, Value.none, Value.ref 76, Value.ref 77, Value.ref 78, Value.int 303 0, Value.int 42 0, Value.str (Str.ofString "/claim/cut.py") 304] } : Obj)) ::
      ((nat_lit 80 : Nat), ({ cls := Value.type "function", data := Data.func { name := Str.ofString "storage_class", qualname := Str.ofString "storage_class", params := a3, body := FuncBody.stmts b3, scope := s3, globals := 3, closure := [], defaults := Value.none, kwdefaults := Value.none, pyModule := Value.str (Str.ofString "pagebase.values") 250, code := Value.ref 79 } } : Obj)) ::
      ((nat_lit 81 : Nat), ({ cls := Value.type "tuple", data := Data.seq #[] } : Obj)) ::
      ((nat_lit 83 : Nat), ({ cls := Value.type "tuple", data := Data.seq #[Value.str (Str.ofString "n") 309] } : Obj)) ::
      ((nat_lit 84 : Nat), ({ cls := Value.type "tuple", data := Data.seq #[] } : Obj)) ::
      ((nat_lit 86 : Nat), ({ cls := Value.type "code", data := Data.fields #[Value.str (Str.ofString "is_in_range") 306, Value.str (Str.ofString "is_in_range") 307, Value.str (Str.ofString "/claim/cut.py") 308, Value.int 52 0, Value.int 1 0, Value.int 0 0, Value.int 0 0, Value.int 3 0, Value.ref 81, Value.bool true, Value.int 181 0, Value.ref 82, Value.none, Value.ref 83, Value.ref 84, Value.ref 85, Value.int 310 0, Value.int 52 0, Value.str (Str.ofString "/claim/cut.py") 311] } : Obj)) ::
      ((nat_lit 87 : Nat), ({ cls := Value.type "function", data := Data.func { name := Str.ofString "is_in_range", qualname := Str.ofString "is_in_range", params := a4, body := FuncBody.stmts b4, scope := s4, globals := 3, closure := [], defaults := Value.none, kwdefaults := Value.none, pyModule := Value.str (Str.ofString "pagebase.values") 250, code := Value.ref 86 } } : Obj)) ::
      ((nat_lit 88 : Nat), ({ cls := Value.type "tuple", data := Data.seq #[] } : Obj)) ::
      ((nat_lit 90 : Nat), ({ cls := Value.type "tuple", data := Data.seq #[Value.str (Str.ofString "text") 316, Value.str (Str.ofString "collation") 317, Value.str (Str.ofString "end") 318] } : Obj)) ::
      ((nat_lit 91 : Nat), ({ cls := Value.type "tuple", data := Data.seq #[] } : Obj)) ::
      ((nat_lit 93 : Nat), ({ cls := Value.type "code", data := Data.fields #[Value.str (Str.ofString "collate") 313, Value.str (Str.ofString "collate") 314, Value.str (Str.ofString "/claim/cut.py") 315, Value.int 54 0, Value.int 2 0, Value.int 0 0, Value.int 0 0, Value.int 3 0, Value.ref 88, Value.bool true, Value.int 181 0, Value.ref 89, Value.none, Value.ref 90, Value.ref 91, Value.ref 92, Value.int 319 0, Value.int 54 0, Value.str (Str.ofString "/claim/cut.py") 320] } : Obj)) ::
      ((nat_lit 94 : Nat), ({ cls := Value.type "function", data := Data.func { name := Str.ofString "collate", qualname := Str.ofString "collate", params := a5, body := FuncBody.stmts b5, scope := s5, globals := 3, closure := [], defaults := Value.none, kwdefaults := Value.none, pyModule := Value.str (Str.ofString "pagebase.values") 250, code := Value.ref 93 } } : Obj)) ::
      ((nat_lit 95 : Nat), ({ cls := Value.type "tuple", data := Data.seq #[] } : Obj)) ::
      ((nat_lit 97 : Nat), ({ cls := Value.type "tuple", data := Data.seq #[Value.str (Str.ofString "one") 325, Value.str (Str.ofString "other") 326] } : Obj)) ::
      ((nat_lit 98 : Nat), ({ cls := Value.type "tuple", data := Data.seq #[] } : Obj)) ::
      ((nat_lit 100 : Nat), ({ cls := Value.type "code", data := Data.fields #[Value.str (Str.ofString "sign_of") 322, Value.str (Str.ofString "sign_of") 323, Value.str (Str.ofString "/claim/cut.py") 324, Value.int 65 0, Value.int 2 0, Value.int 0 0, Value.int 0 0, Value.int 3 0, Value.ref 95, Value.bool true, Value.int 181 0, Value.ref 96, Value.none, Value.ref 97, Value.ref 98, Value.ref 99, Value.int 327 0, Value.int 65 0, Value.str (Str.ofString "/claim/cut.py") 328] } : Obj)) ::
      ((nat_lit 101 : Nat), ({ cls := Value.type "function", data := Data.func { name := Str.ofString "sign_of", qualname := Str.ofString "sign_of", params := a6, body := FuncBody.stmts b6, scope := s6, globals := 3, closure := [], defaults := Value.none, kwdefaults := Value.none, pyModule := Value.str (Str.ofString "pagebase.values") 250, code := Value.ref 100 } } : Obj)) ::
      ((nat_lit 102 : Nat), ({ cls := Value.type "tuple", data := Data.seq #[Value.str (Str.ofString "binary") 330] } : Obj)) ::
      ((nat_lit 103 : Nat), ({ cls := Value.type "tuple", data := Data.seq #[] } : Obj)) ::
      ((nat_lit 105 : Nat), ({ cls := Value.type "tuple", data := Data.seq #[Value.str (Str.ofString "a") 334, Value.str (Str.ofString "b") 335, Value.str (Str.ofString "collation") 336, Value.str (Str.ofString "one") 337, Value.str (Str.ofString "other") 338] } : Obj)) ::
      ((nat_lit 106 : Nat), ({ cls := Value.type "tuple", data := Data.seq #[] } : Obj)) ::
      ((nat_lit 108 : Nat), ({ cls := Value.type "code", data := Data.fields #[Value.str (Str.ofString "compare_values") 331, Value.str (Str.ofString "compare_values") 332, Value.str (Str.ofString "/claim/cut.py") 333, Value.int 71 0, Value.int 3 0, Value.int 0 0, Value.int 0 0, Value.int 3 0, Value.ref 103, Value.bool true, Value.int 181 0, Value.ref 104, Value.none, Value.ref 105, Value.ref 106, Value.ref 107, Value.int 339 0, Value.int 71 0, Value.str (Str.ofString "/claim/cut.py") 340] } : Obj)) ::
      ((nat_lit 109 : Nat), ({ cls := Value.type "function", data := Data.func { name := Str.ofString "compare_values", qualname := Str.ofString "compare_values", params := a7, body := FuncBody.stmts b7, scope := s7, globals := 3, closure := [], defaults := Value.ref 102, kwdefaults := Value.none, pyModule := Value.str (Str.ofString "pagebase.values") 250, code := Value.ref 108 } } : Obj)) ::
      ((nat_lit 110 : Nat), ({ cls := Value.type "tuple", data := Data.seq #[] } : Obj)) ::
      ((nat_lit 112 : Nat), ({ cls := Value.type "tuple", data := Data.seq #[Value.str (Str.ofString "n") 355, Value.str (Str.ofString "size") 356, Value.str (Str.ofString "rest") 357, Value.str (Str.ofString "found") 358, Value.str (Str.ofString "turn") 359] } : Obj)) ::
      ((nat_lit 113 : Nat), ({ cls := Value.type "tuple", data := Data.seq #[] } : Obj)) ::
      ((nat_lit 115 : Nat), ({ cls := Value.type "code", data := Data.fields #[Value.str (Str.ofString "put_fixed") 352, Value.str (Str.ofString "put_fixed") 353, Value.str (Str.ofString "/claim/cut.py") 354, Value.int 86 0, Value.int 2 0, Value.int 0 0, Value.int 0 0, Value.int 3 0, Value.ref 110, Value.bool true, Value.int 181 0, Value.ref 111, Value.none, Value.ref 112, Value.ref 113, Value.ref 114, Value.int 360 0, Value.int 86 0, Value.str (Str.ofString "/claim/cut.py") 361] } : Obj)) ::
      ((nat_lit 116 : Nat), ({ cls := Value.type "function", data := Data.func { name := Str.ofString "put_fixed", qualname := Str.ofString "put_fixed", params := a8, body := FuncBody.stmts b8, scope := s8, globals := 3, closure := [], defaults := Value.none, kwdefaults := Value.none, pyModule := Value.str (Str.ofString "pagebase.records") 342, code := Value.ref 115 } } : Obj)) ::
      ((nat_lit 124 : Nat), ({ cls := Value.type "tuple", data := Data.seq #[] } : Obj)) ::
      ((nat_lit 126 : Nat), ({ cls := Value.type "tuple", data := Data.seq #[Value.str (Str.ofString "self") 378, Value.str (Str.ofString "collations") 379, Value.str (Str.ofString "descending") 380] } : Obj)) ::
      ((nat_lit 127 : Nat), ({ cls := Value.type "tuple", data := Data.seq #[] } : Obj)) ::
      ((nat_lit 129 : Nat), ({ cls := Value.type "code", data := Data.fields #[Value.str (Str.ofString "__init__") 375, Value.str (Str.ofString "KeyInfo.__init__") 376, Value.str (Str.ofString "/claim/cut.py") 377, Value.int 96 0, Value.int 3 0, Value.int 0 0, Value.int 0 0, Value.int 3 0, Value.ref 124, Value.bool true, Value.int 181 0, Value.ref 125, Value.none, Value.ref 126, Value.ref 127, Value.ref 128, Value.int 381 0, Value.int 96 0, Value.str (Str.ofString "/claim/cut.py") 382] } : Obj)) ::
      ((nat_lit 130 : Nat), ({ cls := Value.type "function", data := Data.func { name := Str.ofString "__init__", qualname := Str.ofString "KeyInfo.__init__", params := a9, body := FuncBody.stmts b9, scope := s9, globals := 3, closure := [], defaults := Value.none, kwdefaults := Value.none, pyModule := Value.str (Str.ofString "pagebase.records") 342, code := Value.ref 129 } } : Obj)) ::
      ((nat_lit 131 : Nat), ({ cls := Value.type "tuple", data := Data.seq #[] } : Obj)) ::
      ((nat_lit 133 : Nat), ({ cls := Value.type "tuple", data := Data.seq #[Value.str (Str.ofString "self") 387] } : Obj)) ::
      ((nat_lit 134 : Nat), ({ cls := Value.type "tuple", data := Data.seq #[] } : Obj)) ::
      ((nat_lit 136 : Nat), ({ cls := Value.type "code", data := Data.fields #[Value.str (Str.ofString "count") 384, Value.str (Str.ofString "KeyInfo.count") 385, Value.str (Str.ofString "/claim/cut.py") 386, Value.int 102 0, Value.int 1 0, Value.int 0 0, Value.int 0 0, Value.int 3 0, Value.ref 131, Value.bool true, Value.int 181 0, Value.ref 132, Value.none, Value.ref 133, Value.ref 134, Value.ref 135, Value.int 388 0, Value.int 102 0, Value.str (Str.ofString "/claim/cut.py") 389] } : Obj)) ::
      ((nat_lit 137 : Nat), ({ cls := Value.type "function", data := Data.func { name := Str.ofString "count", qualname := Str.ofString "KeyInfo.count", params := a10, body := FuncBody.stmts b10, scope := s10, globals := 3, closure := [], defaults := Value.none, kwdefaults := Value.none, pyModule := Value.str (Str.ofString "pagebase.records") 342, code := Value.ref 136 } } : Obj)) ::
      ((nat_lit 138 : Nat), ({ cls := Value.type "tuple", data := Data.seq #[] } : Obj)) ::
      ((nat_lit 140 : Nat), ({ cls := Value.type "tuple", data := Data.seq #[Value.str (Str.ofString "self") 394, Value.str (Str.ofString "place") 395] } : Obj)) ::
      ((nat_lit 141 : Nat), ({ cls := Value.type "tuple", data := Data.seq #[] } : Obj)) ::
      ((nat_lit 143 : Nat), ({ cls := Value.type "code", data := Data.fields #[Value.str (Str.ofString "collation") 391, Value.str (Str.ofString "KeyInfo.collation") 392, Value.str (Str.ofString "/claim/cut.py") 393, Value.int 105 0, Value.int 2 0, Value.int 0 0, Value.int 0 0, Value.int 3 0, Value.ref 138, Value.bool true, Value.int 181 0, Value.ref 139, Value.none, Value.ref 140, Value.ref 141, Value.ref 142, Value.int 396 0, Value.int 105 0, Value.str (Str.ofString "/claim/cut.py") 397] } : Obj)) ::
      ((nat_lit 144 : Nat), ({ cls := Value.type "function", data := Data.func { name := Str.ofString "collation", qualname := Str.ofString "KeyInfo.collation", params := a11, body := FuncBody.stmts b11, scope := s11, globals := 3, closure := [], defaults := Value.none, kwdefaults := Value.none, pyModule := Value.str (Str.ofString "pagebase.records") 342, code := Value.ref 143 } } : Obj)) ::
      ((nat_lit 145 : Nat), ({ cls := Value.type "tuple", data := Data.seq #[] } : Obj)) ::
      ((nat_lit 147 : Nat), ({ cls := Value.type "tuple", data := Data.seq #[Value.str (Str.ofString "self") 402, Value.str (Str.ofString "place") 403] } : Obj)) ::
      ((nat_lit 148 : Nat), ({ cls := Value.type "tuple", data := Data.seq #[] } : Obj)) ::
      ((nat_lit 150 : Nat), ({ cls := Value.type "code", data := Data.fields #[Value.str (Str.ofString "is_descending") 399, Value.str (Str.ofString "KeyInfo.is_descending") 400, Value.str (Str.ofString "/claim/cut.py") 401, Value.int 110 0, Value.int 2 0, Value.int 0 0, Value.int 0 0, Value.int 3 0, Value.ref 145, Value.bool true, Value.int 181 0, Value.ref 146, Value.none, Value.ref 147, Value.ref 148, Value.ref 149, Value.int 404 0, Value.int 110 0, Value.str (Str.ofString "/claim/cut.py") 405] } : Obj)) ::
      ((nat_lit 151 : Nat), ({ cls := Value.type "function", data := Data.func { name := Str.ofString "is_descending", qualname := Str.ofString "KeyInfo.is_descending", params := a12, body := FuncBody.stmts b12, scope := s12, globals := 3, closure := [], defaults := Value.none, kwdefaults := Value.none, pyModule := Value.str (Str.ofString "pagebase.records") 342, code := Value.ref 150 } } : Obj)) ::
      ((nat_lit 152 : Nat), ({ cls := Value.type "tuple", data := Data.seq #[Value.str (Str.ofString "collations") 407, Value.str (Str.ofString "descending") 408] } : Obj)) ::
      ((nat_lit 153 : Nat), ({ cls := Value.type "dict", data := Data.dict #[{ hash := PyData.keyHash P (Str.ofString "__module__"), key := Value.str (Str.ofString "__module__") 370, val := Value.str (Str.ofString "pagebase.records") 342 }, { hash := PyData.keyHash P (Str.ofString "__firstlineno__"), key := Value.str (Str.ofString "__firstlineno__") 374, val := Value.int 94 373 }, { hash := PyData.keyHash P (Str.ofString "__init__"), key := Value.str (Str.ofString "__init__") 383, val := Value.ref 130 }, { hash := PyData.keyHash P (Str.ofString "count"), key := Value.str (Str.ofString "count") 390, val := Value.ref 137 }, { hash := PyData.keyHash P (Str.ofString "collation"), key := Value.str (Str.ofString "collation") 398, val := Value.ref 144 }, { hash := PyData.keyHash P (Str.ofString "is_descending"), key := Value.str (Str.ofString "is_descending") 406, val := Value.ref 151 }, { hash := PyData.keyHash P (Str.ofString "__static_attributes__"), key := Value.str (Str.ofString "__static_attributes__") 409, val := Value.ref 152 }, { hash := PyData.keyHash P (Str.ofString "__dict__"), key := Value.str (Str.ofString "__dict__") 411, val := Value.ref 155 }, { hash := PyData.keyHash P (Str.ofString "__weakref__"), key := Value.str (Str.ofString "__weakref__") 413, val := Value.ref 156 }, { hash := PyData.keyHash P (Str.ofString "__doc__"), key := Value.str (Str.ofString "__doc__") 414, val := Value.none }] 4 } : Obj)) ::
      ((nat_lit 154 : Nat), ({ cls := Value.type "type", data := Data.cls { name := Str.ofString "KeyInfo", bases := [Value.type "object"], mro := [Value.ref 154, Value.type "object"], ns := 153, qualname := Str.ofString "KeyInfo" }, slots := #[none, none, some (Value.str (Str.ofString "KeyInfo") 363), some (Value.str (Str.ofString "KeyInfo") 371), some (Value.builtin "object.__new__"), some (Value.bool true)] } : Obj)) ::
      ((nat_lit 155 : Nat), ({ cls := Value.type "getset_descriptor", data := Data.fields #[Value.str (Str.ofString "__dict__") 410, Value.ref 154, Value.builtin "function.__dict__", Value.builtin "function.__dict__#set"] } : Obj)) ::
      ((nat_lit 156 : Nat), ({ cls := Value.type "getset_descriptor", data := Data.fields #[Value.str (Str.ofString "__weakref__") 412, Value.ref 154, Value.builtin "ExceptionGroup.__weakref__", Value.none] } : Obj)) ::
      ((nat_lit 159 : Nat), ({ cls := Value.type "tuple", data := Data.seq #[Value.none] } : Obj)) ::
      ((nat_lit 160 : Nat), ({ cls := Value.type "tuple", data := Data.seq #[] } : Obj)) ::
      ((nat_lit 162 : Nat), ({ cls := Value.type "tuple", data := Data.seq #[Value.str (Str.ofString "values") 420, Value.str (Str.ofString "others") 421, Value.str (Str.ofString "info") 422, Value.str (Str.ofString "upto") 423, Value.str (Str.ofString "many") 424, Value.str (Str.ofString "place") 425, Value.str (Str.ofString "sign") 426] } : Obj)) ::
      ((nat_lit 163 : Nat), ({ cls := Value.type "tuple", data := Data.seq #[] } : Obj)) ::
      ((nat_lit 165 : Nat), ({ cls := Value.type "code", data := Data.fields #[Value.str (Str.ofString "compare_keys") 417, Value.str (Str.ofString "compare_keys") 418, Value.str (Str.ofString "/claim/cut.py") 419, Value.int 112 0, Value.int 4 0, Value.int 0 0, Value.int 0 0, Value.int 3 0, Value.ref 160, Value.bool true, Value.int 181 0, Value.ref 161, Value.none, Value.ref 162, Value.ref 163, Value.ref 164, Value.int 427 0, Value.int 112 0, Value.str (Str.ofString "/claim/cut.py") 428] } : Obj)) ::
      ((nat_lit 166 : Nat), ({ cls := Value.type "function", data := Data.func { name := Str.ofString "compare_keys", qualname := Str.ofString "compare_keys", params := a13, body := FuncBody.stmts b13, scope := s13, globals := 3, closure := [], defaults := Value.ref 159, kwdefaults := Value.none, pyModule := Value.str (Str.ofString "pagebase.records") 342, code := Value.ref 165 } } : Obj)) ::
      ((nat_lit 167 : Nat), ({ cls := Value.type "tuple", data := Data.seq #[] } : Obj)) ::
      ((nat_lit 169 : Nat), ({ cls := Value.type "tuple", data := Data.seq #[Value.str (Str.ofString "octets") 433, Value.str (Str.ofString "found") 434, Value.str (Str.ofString "octet") 435] } : Obj)) ::
      ((nat_lit 170 : Nat), ({ cls := Value.type "tuple", data := Data.seq #[] } : Obj)) ::
      ((nat_lit 172 : Nat), ({ cls := Value.type "code", data := Data.fields #[Value.str (Str.ofString "put_ended") 430, Value.str (Str.ofString "put_ended") 431, Value.str (Str.ofString "/claim/cut.py") 432, Value.int 123 0, Value.int 1 0, Value.int 0 0, Value.int 0 0, Value.int 3 0, Value.ref 167, Value.bool true, Value.int 181 0, Value.ref 168, Value.none, Value.ref 169, Value.ref 170, Value.ref 171, Value.int 436 0, Value.int 123 0, Value.str (Str.ofString "/claim/cut.py") 437] } : Obj)) ::
      ((nat_lit 173 : Nat), ({ cls := Value.type "function", data := Data.func { name := Str.ofString "put_ended", qualname := Str.ofString "put_ended", params := a14, body := FuncBody.stmts b14, scope := s14, globals := 3, closure := [], defaults := Value.none, kwdefaults := Value.none, pyModule := Value.str (Str.ofString "pagebase.records") 342, code := Value.ref 172 } } : Obj)) ::
      ((nat_lit 174 : Nat), ({ cls := Value.type "tuple", data := Data.seq #[] } : Obj)) ::
      ((nat_lit 176 : Nat), ({ cls := Value.type "tuple", data := Data.seq #[Value.str (Str.ofString "v") 442, Value.str (Str.ofString "collation") 443, Value.str (Str.ofString "kind") 444, Value.str (Str.ofString "found") 445] } : Obj)) ::
      ((nat_lit 177 : Nat), ({ cls := Value.type "tuple", data := Data.seq #[] } : Obj)) ::
      ((nat_lit 179 : Nat), ({ cls := Value.type "code", data := Data.fields #[Value.str (Str.ofString "sort_part") 439, Value.str (Str.ofString "sort_part") 440, Value.str (Str.ofString "/claim/cut.py") 441, Value.int 132 0, Value.int 2 0, Value.int 0 0, Value.int 0 0, Value.int 3 0, Value.ref 174, Value.bool true, Value.int 181 0, Value.ref 175, Value.none, Value.ref 176, Value.ref 177, Value.ref 178, Value.int 446 0, Value.int 132 0, Value.str (Str.ofString "/claim/cut.py") 447] } : Obj)) ::
      ((nat_lit 180 : Nat), ({ cls := Value.type "function", data := Data.func { name := Str.ofString "sort_part", qualname := Str.ofString "sort_part", params := a15, body := FuncBody.stmts b15, scope := s15, globals := 3, closure := [], defaults := Value.none, kwdefaults := Value.none, pyModule := Value.str (Str.ofString "pagebase.records") 342, code := Value.ref 179 } } : Obj)) ::
      ((nat_lit 181 : Nat), ({ cls := Value.type "tuple", data := Data.seq #[] } : Obj)) ::
      ((nat_lit 183 : Nat), ({ cls := Value.type "tuple", data := Data.seq #[Value.str (Str.ofString "values") 452, Value.str (Str.ofString "info") 453, Value.str (Str.ofString "found") 454, Value.str (Str.ofString "place") 455, Value.str (Str.ofString "part") 456, Value.str (Str.ofString "octet") 457] } : Obj)) ::
      ((nat_lit 184 : Nat), ({ cls := Value.type "tuple", data := Data.seq #[] } : Obj)) ::
      ((nat_lit 186 : Nat), ({ cls := Value.type "code", data := Data.fields #[Value.str (Str.ofString "sort_octets") 449, Value.str (Str.ofString "sort_octets") 450, Value.str (Str.ofString "/claim/cut.py") 451, Value.int 149 0, Value.int 2 0, Value.int 0 0, Value.int 0 0, Value.int 3 0, Value.ref 181, Value.bool true, Value.int 181 0, Value.ref 182, Value.none, Value.ref 183, Value.ref 184, Value.ref 185, Value.int 458 0, Value.int 149 0, Value.str (Str.ofString "/claim/cut.py") 459] } : Obj)) ::
      ((nat_lit 187 : Nat), ({ cls := Value.type "function", data := Data.func { name := Str.ofString "sort_octets", qualname := Str.ofString "sort_octets", params := a16, body := FuncBody.stmts b16, scope := s16, globals := 3, closure := [], defaults := Value.none, kwdefaults := Value.none, pyModule := Value.str (Str.ofString "pagebase.records") 342, code := Value.ref 186 } } : Obj)) ::
      ((nat_lit 188 : Nat), ({ cls := Value.type "tuple", data := Data.seq #[] } : Obj)) ::
      ((nat_lit 190 : Nat), ({ cls := Value.type "tuple", data := Data.seq #[Value.str (Str.ofString "script") 466, Value.str (Str.ofString "k") 467, Value.str (Str.ofString "cell") 468, Value.str (Str.ofString "big") 469, Value.str (Str.ofString "mixed") 470] } : Obj)) ::
      ((nat_lit 191 : Nat), ({ cls := Value.type "tuple", data := Data.seq #[] } : Obj)) ::
      ((nat_lit 193 : Nat), ({ cls := Value.type "code", data := Data.fields #[Value.str (Str.ofString "_law_pool") 463, Value.str (Str.ofString "_law_pool") 464, Value.str (Str.ofString "/claim/cut.py") 465, Value.int 160 0, Value.int 2 0, Value.int 0 0, Value.int 0 0, Value.int 3 0, Value.ref 188, Value.bool true, Value.int 181 0, Value.ref 189, Value.none, Value.ref 190, Value.ref 191, Value.ref 192, Value.int 471 0, Value.int 160 0, Value.str (Str.ofString "/claim/cut.py") 472] } : Obj)) ::
      ((nat_lit 194 : Nat), ({ cls := Value.type "function", data := Data.func { name := Str.ofString "_law_pool", qualname := Str.ofString "_law_pool", params := a17, body := FuncBody.stmts b17, scope := s17, globals := 3, closure := [], defaults := Value.none, kwdefaults := Value.none, pyModule := Value.str (Str.ofString "law_nt0098_01") 461, code := Value.ref 193 } } : Obj)) ::
      ((nat_lit 195 : Nat), ({ cls := Value.type "tuple", data := Data.seq #[] } : Obj)) ::
      ((nat_lit 197 : Nat), ({ cls := Value.type "tuple", data := Data.seq #[Value.str (Str.ofString "source") 477, Value.str (Str.ofString "top") 478, Value.str (Str.ofString "drawn") 479] } : Obj)) ::
      ((nat_lit 198 : Nat), ({ cls := Value.type "tuple", data := Data.seq #[] } : Obj)) ::
      ((nat_lit 200 : Nat), ({ cls := Value.type "code", data := Data.fields #[Value.str (Str.ofString "_law_take") 474, Value.str (Str.ofString "_law_take") 475, Value.str (Str.ofString "/claim/cut.py") 476, Value.int 167 0, Value.int 2 0, Value.int 0 0, Value.int 0 0, Value.int 3 0, Value.ref 195, Value.bool true, Value.int 181 0, Value.ref 196, Value.none, Value.ref 197, Value.ref 198, Value.ref 199, Value.int 480 0, Value.int 167 0, Value.str (Str.ofString "/claim/cut.py") 481] } : Obj)) ::
      ((nat_lit 201 : Nat), ({ cls := Value.type "function", data := Data.func { name := Str.ofString "_law_take", qualname := Str.ofString "_law_take", params := a18, body := FuncBody.stmts b18, scope := s18, globals := 3, closure := [], defaults := Value.none, kwdefaults := Value.none, pyModule := Value.str (Str.ofString "law_nt0098_01") 461, code := Value.ref 200 } } : Obj)) ::
      ((nat_lit 202 : Nat), ({ cls := Value.type "tuple", data := Data.seq #[] } : Obj)) ::
      ((nat_lit 204 : Nat), ({ cls := Value.type "tuple", data := Data.seq #[Value.str (Str.ofString "source") 486, Value.str (Str.ofString "things") 487] } : Obj)) ::
      ((nat_lit 205 : Nat), ({ cls := Value.type "tuple", data := Data.seq #[] } : Obj)) ::
      ((nat_lit 207 : Nat), ({ cls := Value.type "code", data := Data.fields #[Value.str (Str.ofString "_law_one") 483, Value.str (Str.ofString "_law_one") 484, Value.str (Str.ofString "/claim/cut.py") 485, Value.int 174 0, Value.int 2 0, Value.int 0 0, Value.int 0 0, Value.int 3 0, Value.ref 202, Value.bool true, Value.int 181 0, Value.ref 203, Value.none, Value.ref 204, Value.ref 205, Value.ref 206, Value.int 488 0, Value.int 174 0, Value.str (Str.ofString "/claim/cut.py") 489] } : Obj)) ::
      ((nat_lit 208 : Nat), ({ cls := Value.type "function", data := Data.func { name := Str.ofString "_law_one", qualname := Str.ofString "_law_one", params := a19, body := FuncBody.stmts b19, scope := s19, globals := 3, closure := [], defaults := Value.none, kwdefaults := Value.none, pyModule := Value.str (Str.ofString "law_nt0098_01") 461, code := Value.ref 207 } } : Obj)) ::
      ((nat_lit 209 : Nat), ({ cls := Value.type "tuple", data := Data.seq #[] } : Obj)) ::
      ((nat_lit 211 : Nat), ({ cls := Value.type "tuple", data := Data.seq #[Value.str (Str.ofString "value") 494] } : Obj)) ::
      ((nat_lit 212 : Nat), ({ cls := Value.type "tuple", data := Data.seq #[] } : Obj)) ::
      ((nat_lit 214 : Nat), ({ cls := Value.type "code", data := Data.fields #[Value.str (Str.ofString "_law_rank") 491, Value.str (Str.ofString "_law_rank") 492, Value.str (Str.ofString "/claim/cut.py") 493, Value.int 176 0, Value.int 1 0, Value.int 0 0, Value.int 0 0, Value.int 3 0, Value.ref 209, Value.bool true, Value.int 181 0, Value.ref 210, Value.none, Value.ref 211, Value.ref 212, Value.ref 213, Value.int 495 0, Value.int 176 0, Value.str (Str.ofString "/claim/cut.py") 496] } : Obj)) ::
      ((nat_lit 215 : Nat), ({ cls := Value.type "function", data := Data.func { name := Str.ofString "_law_rank", qualname := Str.ofString "_law_rank", params := a20, body := FuncBody.stmts b20, scope := s20, globals := 3, closure := [], defaults := Value.none, kwdefaults := Value.none, pyModule := Value.str (Str.ofString "law_nt0098_01") 461, code := Value.ref 214 } } : Obj)) ::
      ((nat_lit 216 : Nat), ({ cls := Value.type "tuple", data := Data.seq #[] } : Obj)) ::
      ((nat_lit 219 : Nat), ({ cls := Value.type "code", data := Data.fields #[Value.str (Str.ofString "_law_folded") 498, Value.str (Str.ofString "_law_folded") 499, Value.str (Str.ofString "/claim/cut.py") 500, Value.int 182 0, Value.int 2 0, Value.int 0 0, Value.int 0 0, Value.int 3 0, Value.ref 216, Value.bool true, Value.int 181 0, Value.ref 217, Value.none, Value.none, Value.none, Value.ref 218, Value.int 501 0, Value.int 182 0, Value.str (Str.ofString "/claim/cut.py") 502] } : Obj)) ::
      ((nat_lit 220 : Nat), ({ cls := Value.type "function", data := Data.func { name := Str.ofString "_law_folded", qualname := Str.ofString "_law_folded", params := a21, body := FuncBody.stmts b21, scope := s21, globals := 3, closure := [], defaults := Value.none, kwdefaults := Value.none, pyModule := Value.str (Str.ofString "law_nt0098_01") 461, code := Value.ref 219 } } : Obj)) ::
      ((nat_lit 221 : Nat), ({ cls := Value.type "tuple", data := Data.seq #[] } : Obj)) ::
      ((nat_lit 223 : Nat), ({ cls := Value.type "tuple", data := Data.seq #[Value.str (Str.ofString "one") 507, Value.str (Str.ofString "other") 508, Value.str (Str.ofString "collation") 509] } : Obj)) ::
      ((nat_lit 224 : Nat), ({ cls := Value.type "tuple", data := Data.seq #[] } : Obj)) ::
      ((nat_lit 226 : Nat), ({ cls := Value.type "code", data := Data.fields #[Value.str (Str.ofString "_law_order") 504, Value.str (Str.ofString "_law_order") 505, Value.str (Str.ofString "/claim/cut.py") 506, Value.int 190 0, Value.int 3 0, Value.int 0 0, Value.int 0 0, Value.int 3 0, Value.ref 221, Value.bool true, Value.int 181 0, Value.ref 222, Value.none, Value.ref 223, Value.ref 224, Value.ref 225, Value.int 510 0, Value.int 190 0, Value.str (Str.ofString "/claim/cut.py") 511] } : Obj)) ::
      ((nat_lit 227 : Nat), ({ cls := Value.type "function", data := Data.func { name := Str.ofString "_law_order", qualname := Str.ofString "_law_order", params := a22, body := FuncBody.stmts b22, scope := s22, globals := 3, closure := [], defaults := Value.none, kwdefaults := Value.none, pyModule := Value.str (Str.ofString "law_nt0098_01") 461, code := Value.ref 226 } } : Obj)) ::
      ((nat_lit 228 : Nat), ({ cls := Value.type "tuple", data := Data.seq #[] } : Obj)) ::
      ((nat_lit 230 : Nat), ({ cls := Value.type "tuple", data := Data.seq #[Value.str (Str.ofString "row") 516, Value.str (Str.ofString "beside") 517, Value.str (Str.ofString "collations") 518, Value.str (Str.ofString "turned") 519, Value.str (Str.ofString "many") 520, Value.str (Str.ofString "at") 521, Value.str (Str.ofString "order") 522] } : Obj)) ::
      ((nat_lit 231 : Nat), ({ cls := Value.type "tuple", data := Data.seq #[] } : Obj)) ::
      ((nat_lit 233 : Nat), ({ cls := Value.type "code", data := Data.fields #[Value.str (Str.ofString "_law_keys_order") 513, Value.str (Str.ofString "_law_keys_order") 514, Value.str (Str.ofString "/claim/cut.py") 515, Value.int 200 0, Value.int 5 0, Value.int 0 0, Value.int 0 0, Value.int 3 0, Value.ref 228, Value.bool true, Value.int 181 0, Value.ref 229, Value.none, Value.ref 230, Value.ref 231, Value.ref 232, Value.int 523 0, Value.int 200 0, Value.str (Str.ofString "/claim/cut.py") 524] } : Obj)) ::
      ((nat_lit 234 : Nat), ({ cls := Value.type "function", data := Data.func { name := Str.ofString "_law_keys_order", qualname := Str.ofString "_law_keys_order", params := a23, body := FuncBody.stmts b23, scope := s23, globals := 3, closure := [], defaults := Value.none, kwdefaults := Value.none, pyModule := Value.str (Str.ofString "law_nt0098_01") 461, code := Value.ref 233 } } : Obj)) ::
      ((nat_lit 235 : Nat), ({ cls := Value.type "tuple", data := Data.seq #[] } : Obj)) ::
      ((nat_lit 237 : Nat), ({ cls := Value.type "tuple", data := Data.seq #[Value.str (Str.ofString "source") 529, Value.str (Str.ofString "power") 530, Value.str (Str.ofString "near") 531] } : Obj)) ::
      ((nat_lit 238 : Nat), ({ cls := Value.type "tuple", data := Data.seq #[] } : Obj)) ::
      ((nat_lit 240 : Nat), ({ cls := Value.type "code", data := Data.fields #[Value.str (Str.ofString "_law_number") 526, Value.str (Str.ofString "_law_number") 527, Value.str (Str.ofString "/claim/cut.py") 528, Value.int 206 0, Value.int 1 0, Value.int 0 0, Value.int 0 0, Value.int 3 0, Value.ref 235, Value.bool true, Value.int 181 0, Value.ref 236, Value.none, Value.ref 237, Value.ref 238, Value.ref 239, Value.int 532 0, Value.int 206 0, Value.str (Str.ofString "/claim/cut.py") 533] } : Obj)) ::
      ((nat_lit 241 : Nat), ({ cls := Value.type "function", data := Data.func { name := Str.ofString "_law_number", qualname := Str.ofString "_law_number", params := a24, body := FuncBody.stmts b24, scope := s24, globals := 3, closure := [], defaults := Value.none, kwdefaults := Value.none, pyModule := Value.str (Str.ofString "law_nt0098_01") 461, code := Value.ref 240 } } : Obj)) ::
      ((nat_lit 242 : Nat), ({ cls := Value.type "tuple", data := Data.seq #[] } : Obj)) ::
      ((nat_lit 245 : Nat), ({ cls := Value.type "code", data := Data.fields #[Value.str (Str.ofString "_law_value") 535, Value.str (Str.ofString "_law_value") 536, Value.str (Str.ofString "/claim/cut.py") 537, Value.int 211 0, Value.int 1 0, Value.int 0 0, Value.int 0 0, Value.int 3 0, Value.ref 242, Value.bool true, Value.int 181 0, Value.ref 243, Value.none, Value.none, Value.none, Value.ref 244, Value.int 538 0, Value.int 211 0, Value.str (Str.ofString "/claim/cut.py") 539] } : Obj)) ::
      ((nat_lit 246 : Nat), ({ cls := Value.type "function", data := Data.func { name := Str.ofString "_law_value", qualname := Str.ofString "_law_value", params := a25, body := FuncBody.stmts b25, scope := s25, globals := 3, closure := [], defaults := Value.none, kwdefaults := Value.none, pyModule := Value.str (Str.ofString "law_nt0098_01") 461, code := Value.ref 245 } } : Obj)) ::
      ((nat_lit 247 : Nat), ({ cls := Value.type "tuple", data := Data.seq #[] } : Obj)) ::
      ((nat_lit 249 : Nat), ({ cls := Value.type "tuple", data := Data.seq #[Value.str (Str.ofString "source") 544, Value.str (Str.ofString "value") 545, Value.str (Str.ofString "lower") 546] } : Obj)) ::
      ((nat_lit 250 : Nat), ({ cls := Value.type "tuple", data := Data.seq #[] } : Obj)) ::
      ((nat_lit 252 : Nat), ({ cls := Value.type "code", data := Data.fields #[Value.str (Str.ofString "_law_near") 541, Value.str (Str.ofString "_law_near") 542, Value.str (Str.ofString "/claim/cut.py") 543, Value.int 224 0, Value.int 2 0, Value.int 0 0, Value.int 0 0, Value.int 3 0, Value.ref 247, Value.bool true, Value.int 181 0, Value.ref 248, Value.none, Value.ref 249, Value.ref 250, Value.ref 251, Value.int 547 0, Value.int 224 0, Value.str (Str.ofString "/claim/cut.py") 548] } : Obj)) ::
      ((nat_lit 253 : Nat), ({ cls := Value.type "function", data := Data.func { name := Str.ofString "_law_near", qualname := Str.ofString "_law_near", params := a26, body := FuncBody.stmts b26, scope := s26, globals := 3, closure := [], defaults := Value.none, kwdefaults := Value.none, pyModule := Value.str (Str.ofString "law_nt0098_01") 461, code := Value.ref 252 } } : Obj)) ::
      ((nat_lit 254 : Nat), ({ cls := Value.type "tuple", data := Data.seq #[] } : Obj)) ::
      ((nat_lit 257 : Nat), ({ cls := Value.type "code", data := Data.fields #[Value.str (Str.ofString "_law_rows") 550, Value.str (Str.ofString "_law_rows") 551, Value.str (Str.ofString "/claim/cut.py") 552, Value.int 233 0, Value.int 2 0, Value.int 0 0, Value.int 0 0, Value.int 3 0, Value.ref 254, Value.bool true, Value.int 181 0, Value.ref 255, Value.none, Value.none, Value.none, Value.ref 256, Value.int 553 0, Value.int 233 0, Value.str (Str.ofString "/claim/cut.py") 554] } : Obj)) ::
      ((nat_lit 258 : Nat), ({ cls := Value.type "function", data := Data.func { name := Str.ofString "_law_rows", qualname := Str.ofString "_law_rows", params := a27, body := FuncBody.stmts b27, scope := s27, globals := 3, closure := [], defaults := Value.none, kwdefaults := Value.none, pyModule := Value.str (Str.ofString "law_nt0098_01") 461, code := Value.ref 257 } } : Obj)) ::
      ((nat_lit 259 : Nat), ({ cls := Value.type "tuple", data := Data.seq #[] } : Obj)) ::
      ((nat_lit 261 : Nat), ({ cls := Value.type "tuple", data := Data.seq #[Value.str (Str.ofString "one") 559, Value.str (Str.ofString "other") 560, Value.str (Str.ofString "collations") 561, Value.str (Str.ofString "collation") 562, Value.str (Str.ofString "due") 563] } : Obj)) ::
      ((nat_lit 262 : Nat), ({ cls := Value.type "tuple", data := Data.seq #[] } : Obj)) ::
      ((nat_lit 264 : Nat), ({ cls := Value.type "code", data := Data.fields #[Value.str (Str.ofString "_law_values_right") 556, Value.str (Str.ofString "_law_values_right") 557, Value.str (Str.ofString "/claim/cut.py") 558, Value.int 243 0, Value.int 3 0, Value.int 0 0, Value.int 0 0, Value.int 3 0, Value.ref 259, Value.bool true, Value.int 181 0, Value.ref 260, Value.none, Value.ref 261, Value.ref 262, Value.ref 263, Value.int 564 0, Value.int 243 0, Value.str (Str.ofString "/claim/cut.py") 565] } : Obj)) ::
      ((nat_lit 265 : Nat), ({ cls := Value.type "function", data := Data.func { name := Str.ofString "_law_values_right", qualname := Str.ofString "_law_values_right", params := a28, body := FuncBody.stmts b28, scope := s28, globals := 3, closure := [], defaults := Value.none, kwdefaults := Value.none, pyModule := Value.str (Str.ofString "law_nt0098_01") 461, code := Value.ref 264 } } : Obj)) ::
      ((nat_lit 266 : Nat), ({ cls := Value.type "tuple", data := Data.seq #[] } : Obj)) ::
      ((nat_lit 268 : Nat), ({ cls := Value.type "tuple", data := Data.seq #[Value.str (Str.ofString "source") 570, Value.str (Str.ofString "row") 571, Value.str (Str.ofString "beside") 572, Value.str (Str.ofString "info") 573, Value.str (Str.ofString "collations") 574, Value.str (Str.ofString "turned") 575, Value.str (Str.ofString "many") 576, Value.str (Str.ofString "due") 577, Value.str (Str.ofString "upto") 578, Value.str (Str.ofString "one") 579, Value.str (Str.ofString "other") 580] } : Obj)) ::
      ((nat_lit 269 : Nat), ({ cls := Value.type "tuple", data := Data.seq #[] } : Obj)) ::
      ((nat_lit 271 : Nat), ({ cls := Value.type "code", data := Data.fields #[Value.str (Str.ofString "_law_pair_right") 567, Value.str (Str.ofString "_law_pair_right") 568, Value.str (Str.ofString "/claim/cut.py") 569, Value.int 252 0, Value.int 6 0, Value.int 0 0, Value.int 0 0, Value.int 3 0, Value.ref 266, Value.bool true, Value.int 181 0, Value.ref 267, Value.none, Value.ref 268, Value.ref 269, Value.ref 270, Value.int 581 0, Value.int 252 0, Value.str (Str.ofString "/claim/cut.py") 582] } : Obj)) ::
      ((nat_lit 272 : Nat), ({ cls := Value.type "function", data := Data.func { name := Str.ofString "_law_pair_right", qualname := Str.ofString "_law_pair_right", params := a29, body := FuncBody.stmts b29, scope := s29, globals := 3, closure := [], defaults := Value.none, kwdefaults := Value.none, pyModule := Value.str (Str.ofString "law_nt0098_01") 461, code := Value.ref 271 } } : Obj)) ::
      ((nat_lit 273 : Nat), ({ cls := Value.type "tuple", data := Data.seq #[] } : Obj)) ::
      ((nat_lit 276 : Nat), ({ cls := Value.type "code", data := Data.fields #[Value.str (Str.ofString "law") 584, Value.str (Str.ofString "law") 585, Value.str (Str.ofString "/claim/cut.py") 586, Value.int 264 0, Value.int 1 0, Value.int 0 0, Value.int 0 0, Value.int 3 0, Value.ref 273, Value.bool true, Value.int 181 0, Value.ref 274, Value.none, Value.none, Value.none, Value.ref 275, Value.int 587 0, Value.int 264 0, Value.str (Str.ofString "/claim/cut.py") 588] } : Obj)) ::
      ((nat_lit 277 : Nat), ({ cls := Value.type "function", data := Data.func { name := Str.ofString "law", qualname := Str.ofString "law", params := a30, body := FuncBody.stmts b30, scope := s30, globals := 3, closure := [], defaults := Value.none, kwdefaults := Value.none, pyModule := Value.str (Str.ofString "law_nt0098_01") 461, code := Value.ref 276 } } : Obj)) :: [])
   _ _ _ (_, _, _, _, _, _, _) rfl _ _ _ (_, _, _, _, _, _, _) rfl _ _ _ (_, _, _, _, _, _, _) rfl _ _ _ (_, _, _, _, _, _, _) rfl _ _ _ (_, _, _, _, _, _, _) rfl _ _ _ (_, _, _, _, _, _, _) rfl _ _ _ (_, _, _, _, _, _, _) rfl _ _ _ (_, _, _, _, _, _, _) rfl _ _ _ (_, _, _, _, _, _, _) rfl _ _ _ (_, _, _, _, _, _, _) rfl _ _ _ (_, _, _, _, _, _, _) rfl _ _ _ (_, _, _, _, _, _, _) rfl _ _ _ (_, _, _, _, _, _, _) rfl _ _ _ (_, _, _, _, _, _, _) rfl _ _ _ (_, _, _, _, _, _, _) rfl _ _ _ (_, _, _, _, _, _, _) rfl _ _ _ (_, _, _, _, _, _, _) rfl _ _ _ (_, _, _, _, _, _, _) rfl _ _ _ (_, _, _, _, _, _, _) rfl _ _ _ (_, _, _, _, _, _, _) rfl _ _ _ (_, _, _, _, _, _, _) rfl _ _ _ (_, _, _, _, _, _, _) rfl _ _ _ (_, _, _, _, _, _, _) rfl _ _ _ (_, _, _, _, _, _, _) rfl _ _ _ (_, _, _, _, _, _, _) rfl _ _ _ (_, _, _, _, _, _, _) rfl _ _ _ (_, _, _, _, _, _, _) rfl _ _ _ (_, _, _, _, _, _, _) rfl _ _ _ (_, _, _, _, _, _, _) rfl _ _ _ (_, _, _, _, _, _, _) rfl _ _ _ (_, _, _, _, _, _, _) rfl
noncomputable def loosed (n : Str) : Bool := [Str.ofString "MIN_INT", Str.ofString "MAX_INT", Str.ofString "WORD", Str.ofString "STORAGE_RANKS", Str.ofString "compare_values", Str.ofString "compare_keys"].contains n
noncomputable def kept : Stmt → Bool
  | .Assign [.Name n _] _ _ => !loosed n
  | .FunctionDef n .. => !loosed n
  | _ => true
noncomputable def hd.view_39 : Program := { PROG with main := { PROG.main with body := PROG.main.body.filter kept } }
noncomputable def LVS : List (Str × WData) := [(Str.ofString "MIN_INT", WData.int (-9223372036854775808)), (Str.ofString "MAX_INT", WData.int 9223372036854775807), (Str.ofString "WORD", WData.int 18446744073709551616)]
noncomputable def LOOSE : List Str := [Str.ofString "MIN_INT", Str.ofString "MAX_INT", Str.ofString "WORD", Str.ofString "STORAGE_RANKS", Str.ofString "compare_values", Str.ofString "compare_keys"]
noncomputable abbrev XT (s : Shared) : Bool := xlAt hd.view_39 LVS s && recOk (RowW.records PySem.Challenge.rw_nt0098_01.row.toRowW) s
noncomputable def AS : List Addr := [2, 3, 15, 22, 24, 25, 27, 28, 29, 30, 31, 32, 35, 42, 43, 44, 47, 54, 55, 56, 59, 60, 62, 63, 65, 66, 67, 69, 70, 72, 73, 74, 76, 77, 79, 80, 81, 83, 84, 86, 87, 88, 90, 91, 93, 94, 95, 97, 98, 100, 101, 102, 103, 105, 106, 108, 109, 110, 112, 113, 115, 116, 124, 126, 127, 129, 130, 131, 133, 134, 136, 137, 138, 140, 141, 143, 144, 145, 147, 148, 150, 151, 152, 153, 154, 155, 156, 159, 160, 162, 163, 165, 166, 167, 169, 170, 172, 173, 174, 176, 177, 179, 180, 181, 183, 184, 186, 187, 188, 190, 191, 193, 194, 195, 197, 198, 200, 201, 202, 204, 205, 207, 208, 209, 211, 212, 214, 215, 216, 219, 220, 221, 223, 224, 226, 227, 228, 230, 231, 233, 234, 235, 237, 238, 240, 241, 242, 245, 246, 247, 249, 250, 252, 253, 254, 257, 258, 259, 261, 262, 264, 265, 266, 268, 269, 271, 272, 273, 276, 277]
theorem AS_eq (P : Params) : AS = (hd.heap_39 P).map (·.1) := by kernel_rfl
theorem left_of {p q : Program} {loose : List Str} {Xt : Shared → Bool} {α : Type} {Yf : Shared → α} {Ya : World → α} {N : Nat} (row : String)
    (h : ∀ (w : World) (b : Bool), (fencedOpening treeTable p w N).map (fun s₀ => (topFrom treeTable p (w.withFollow row b) N s₀).map (fun s => (openSeen q loose (importedModules p.main.body) Xt true s, Yf s))) = some (some (openGood q loose, Ya (w.withFollow row b)))) : LeftO p q loose Xt Yf Ya N :=
  LeftO.of_split row fun w => by
    have a := h w false
    have b := h w true
    cases e : fencedOpening treeTable p w N with
    | none => rw [e] at a; cases a
    | some s₀ =>
      rw [e] at a b
      simp only [Option.map_some, Option.some.injEq] at a b ⊢
      rw [a, b]
noncomputable abbrev HK : Hook := kHook hd.heap_39 AS AS_eq
/-- both looks at the laid state, one after the other -/
theorem both {α β : Type} {x : Option Shared} {g : Shared → Option Shared} {f : Shared → α} {o : Shared → β} {a : α} {b : β} (h1 : x.map (fun s₀ => (g s₀).map f) = some (some a)) (h2 : x.map (fun s₀ => (g s₀).map o) = some (some b)) :
    x.map (fun s₀ => (g s₀).map fun s => (f s, o s)) = some (some (a, b)) := by
  cases x with
  | none => cases h1
  | some s₀ =>
    simp only [Option.map_some, Option.some.injEq] at h1 h2 ⊢
    cases e : g s₀ with
    | none => rw [e] at h1; cases h1
    | some s =>
      rw [e] at h1 h2
      simp only [Option.map_some, Option.some.injEq] at h1 h2 ⊢
      rw [h1, h2]
theorem seenF (w : World) : (fencedOpening treeTable PROG w 4088).map (fun s₀ => (topFrom treeTable PROG (w.withFollow "special-get-raises" false) 4088 s₀).map (fun s => openSeen hd.view_39 LOOSE (importedModules PROG.main.body) XT true s)) = some (some (openGood hd.view_39 LOOSE)) := by
  delta fencedOpening topFrom
  rw [Fast.te14082659384304107361, Fast.te14364793385576792824, Fast.te10274390034422433532, Fast.te1435165496053646825, Fast.te14289696077712309145]
  rw [Fast.te4187177175401517315]
  kernel_rfl
theorem obsF (w : World) : (fencedOpening treeTable PROG w 4088).map (fun s₀ => (topFrom treeTable PROG (w.withFollow "special-get-raises" false) 4088 s₀).map (fun s => Hook.obs HK s)) = some (some (Hook.val HK (w.withFollow "special-get-raises" false))) := by
  delta fencedOpening topFrom
  rw [Fast.te14082659384304107361, Fast.te14364793385576792824, Fast.te10274390034422433532, Fast.te1435165496053646825, Fast.te14289696077712309145]
  kernel_rfl
theorem seenT (w : World) : (fencedOpening treeTable PROG w 4088).map (fun s₀ => (topFrom treeTable PROG (w.withFollow "special-get-raises" true) 4088 s₀).map (fun s => openSeen hd.view_39 LOOSE (importedModules PROG.main.body) XT true s)) = some (some (openGood hd.view_39 LOOSE)) := by
  delta fencedOpening topFrom
  rw [Fast.te14082659384304107361, Fast.te14364793385576792824, Fast.te10274390034422433532, Fast.te1435165496053646825, Fast.te14289696077712309145]
  rw [Fast.te4187177175401517315]
  kernel_rfl
theorem obsT (w : World) : (fencedOpening treeTable PROG w 4088).map (fun s₀ => (topFrom treeTable PROG (w.withFollow "special-get-raises" true) 4088 s₀).map (fun s => Hook.obs HK s)) = some (some (Hook.val HK (w.withFollow "special-get-raises" true))) := by
  delta fencedOpening topFrom
  rw [Fast.te14082659384304107361, Fast.te14364793385576792824, Fast.te10274390034422433532, Fast.te1435165496053646825, Fast.te14289696077712309145]
  kernel_rfl
theorem left : LeftO PROG hd.view_39 LOOSE XT (Hook.obs HK) (Hook.val HK) 4088 := left_of "special-get-raises" fun w b => by
  cases b
  · exact both (seenF w) (obsF w)
  · exact both (seenT w) (obsT w)
end
section
theorem said0 : PySem.Challenge.rw_nt0098_01.wellSaid = true := by kernel_rfl
theorem ok0 : (chainsOk hd.view_39 && opensWell PySem.Challenge.rw_nt0098_01.row.prog && (frees PySem.Challenge.rw_nt0098_01.row.toRowW && PySem.Challenge.rw_nt0098_01.row.within.isEmpty)) = true := by decide +kernel
end
section
noncomputable abbrev Led := List (Addr × Obj)

/-- what a call of the def at `f` with `vs` does: any frame, any ledger `news` -/
noncomputable abbrev Does (w : World) (loose : List Str) (mean : ExcName → Option Value) (mg mb : Str → Option Value) (f : Addr) (n : Nat) (vs : List Value) (news : Led) (R : Value → Led → Prop) : Prop :=
  ∀ (dp un : Nat) (gd : Option (List Code)) (cn : Str) (cs : Scope) (a : Addr) (ccd : Value) (cl : List (Str × Addr)) (outer : List Env) (A₀ : Around) (base h₀ : Heap) (L : Addr) (m : Str → Option Value) (s : Shared) (Q E : Value → Shared → Prop),
    Below A₀ base outer h₀ → Fr h₀ L s.heap m → (hd.heap_39 w.params).In h₀ → News h₀ L s.heap news → Top hd.view_39 loose mean mg mb h₀ → cs.kind = .function → dp + n < recursionLimit → un + 8 * n < cLine →
    (∀ r news' h' tk', R r news' → Fr h₀ L h' m → News h₀ L h' news' → Q r { s with heap := h', toks := tk' }) →
    wpAny (model PROG w) (ktrTop dp un gd cn cs L a ccd cl outer) (call (.ref f) vs) Q E s

noncomputable def Stop (P : Prop) : Prop := P
theorem stop {P : Prop} (h : Stop P) : P := h
theorem unstop {P : Prop} (h : P) : Stop P := h
noncomputable def Hold (P : Prop) : Prop := P
theorem hold_out {P : Prop} (h : Hold P) : P := h
theorem hold_in {P : Prop} (h : P) : Hold P := h
theorem of_prop {P : Prop} (h : P) : P := h

/-- a scalar back, the ledger as it was -/
inductive RInt (x : Int) (news : Led) : Value → Led → Prop
  | mk (t : Tok) : RInt x news (.int x t) news
inductive RStr (x : Str) (news : Led) : Value → Led → Prop
  | mk (t : Tok) : RStr x news (.str x t) news
inductive RBytes (x : Array UInt8) (news : Led) : Value → Led → Prop
  | mk (t : Tok) : RBytes x news (.bytes x t) news
inductive RBool (x : Bool) (news : Led) : Value → Led → Prop
  | mk : RBool x news (.bool x) news
theorem RInt.of {x y : Int} {news : Led} {t : Tok} (h : y = x) : RInt x news (.int y t) news := h ▸ .mk t
theorem RStr.of {x y : Str} {news : Led} {t : Tok} (h : y = x) : RStr x news (.str y t) news := h ▸ .mk t
theorem RBytes.of {x y : Array UInt8} {news : Led} {t : Tok} (h : y = x) : RBytes x news (.bytes y t) news := h ▸ .mk t
theorem RBool.of {x y : Bool} {news : Led} (h : y = x) : RBool x news (.bool y) news := h ▸ .mk

noncomputable def Off (a : Addr) (l : Led) : Prop := ∀ p ∈ l, p.1 ≠ a
theorem Off.nil {a : Addr} : Off a [] := fun _ h => nomatch h
theorem Off.cons {a : Addr} {p : Addr × Obj} {l : Led} (h : p.1 ≠ a) (r : Off a l) : Off a (p :: l) := fun q hq => by
  rcases List.mem_cons.mp hq with rfl | hq
  · exact h
  · exact r q hq
theorem Off.of_lt {a : Addr} {l : Led} (h : ∀ p ∈ l, p.1 < a) : Off a l := fun p hp => Nat.ne_of_lt (h p hp)

/-- one entry brought to the front -/
inductive Pull (x : Addr × Obj) : Led → Led → Prop
  | head {r} : Pull x (x :: r) r
  | tail {y r r'} : Pull x r r' → Pull x (y :: r) (y :: r')
theorem Pull.sub {x : Addr × Obj} {l r : Led} (h : Pull x l r) : ∀ p ∈ x :: r, p ∈ l := by
  induction h with
  | head => exact fun p hp => hp
  | tail _ ih =>
    intro p hp
    rcases List.mem_cons.mp hp with rfl | hp
    · exact .tail _ (ih _ (.head _))
    · rcases List.mem_cons.mp hp with rfl | hp
      · exact .head _
      · exact .tail _ (ih _ (.tail _ hp))
theorem news_pull {h₀ h : Heap} {L : Addr} {x : Addr × Obj} {l r : Led} (N : News h₀ L h l) (P : Pull x l r) : News h₀ L h (x :: r) := fun p hp => N p (P.sub p hp)
theorem news_sub {h₀ h : Heap} {L : Addr} {l r : Led} (N : News h₀ L h l) (P : ∀ p ∈ r, p ∈ l) : News h₀ L h r := fun p hp => N p (P p hp)

section
variable {prog : Program} {w : World} {A : Around} {E : Value → Shared → Prop} {s : Shared} {h₀ : Heap} {L D : Addr} {m : Str → Option Value} {rest : Led}
theorem src_set0 {a b v : Value} {n : Nat} {t : Tok} {Q : Unit → Shared → Prop} (F : Fr h₀ L s.heap m) (N : News h₀ L s.heap ((D, W.listOf #[a, b] n) :: rest)) (off : Off D rest)
    (h : ∀ h', Fr h₀ L h' m → News h₀ L h' ((D, W.listOf #[v, b] n) :: rest) → Q () { s with heap := h' }) : wpAny (model prog w) A (setItem (.ref D) (.int 0 t) v) Q E s := by
  have z := N (D, W.listOf #[a, b] n) (.head _)
  exact ki_setAt z.1 (by decide) (by decide) (by simp) (h _ (F.change (Heap.SameBut.update ..) z.2.1 z.2.2) (ki_turn (pre := []) _ N (fun _ h => nomatch h) off (by simp) (by simp)))
theorem src_set1 {a b v : Value} {n : Nat} {t : Tok} {Q : Unit → Shared → Prop} (F : Fr h₀ L s.heap m) (N : News h₀ L s.heap ((D, W.listOf #[a, b] n) :: rest)) (off : Off D rest)
    (h : ∀ h', Fr h₀ L h' m → News h₀ L h' ((D, W.listOf #[a, v] n) :: rest) → Q () { s with heap := h' }) : wpAny (model prog w) A (setItem (.ref D) (.int 1 t) v) Q E s := by
  have z := N (D, W.listOf #[a, b] n) (.head _)
  exact ki_setAt z.1 (by decide) (by decide) (by simp) (h _ (F.change (Heap.SameBut.update ..) z.2.1 z.2.2) (ki_turn (pre := []) _ N (fun _ h => nomatch h) off (by simp) (by simp)))
end

section
variable {prog : Program} {w : World} {A : Around} {E : Value → Shared → Prop} {s : Shared} {h₀ : Heap} {L l : Addr} {news : Led} {vs : List Value} {n : Nat}
theorem len_L {Q : Value → Shared → Prop} (N : News h₀ L s.heap news) (hm : (l, W.listOf vs.toArray n) ∈ news) (hfit : vs.length < 2 ^ 62)
    (h : Q (.int vs.length (s.toks + 1)) { s with toks := s.toks + 1 + 1 }) : wpAny (model prog w) A (call (.builtin "len") [.ref l]) Q E s :=
  len_list (PySem.IsL.isList (n := n) (N _ hm).1) (by rw [List.size_toArray]; omega) (by rw [List.size_toArray]; exact h)
theorem item_L {value slice : Expr} {k : Int} {u : Tok} {Q : Value → Shared → Prop} (N : News h₀ L s.heap news) (hm : (l, W.listOf vs.toArray n) ∈ news) (hfit : vs.length < 2 ^ 62) (h0 : 0 ≤ k) (h1 : k < vs.length)
    (h : ∀ v, vs[k.toNat]? = some v → Q v s)
    (hs : subscripted slice false (.ref l) (.int k u) = operate [.ref l, .int k u] (getItem (.ref l) (.int k u)) := by with_unfolding_all rfl) (hg : ∀ r, letTemporaryGo value (.ref l) r = pure () := by intro _; with_unfolding_all rfl) :
    wpAny (model prog w) A (subscriptTail value slice (.ref l) (.int k u)) Q E s := by
  have hk : k.toNat < vs.length := by omega
  exact item_list (x := vs[k.toNat]) (PySem.IsL.isList (n := n) (N _ hm).1) h0 (by omega) (by simp [hk]) (h _ (by simp [hk])) hs hg
end
theorem off_of_allLt {a : Addr} {l : Led} (h : AllLt a l) : Off a l := by
  induction l with
  | nil => exact Off.nil
  | cons p r ih => exact Off.cons (Nat.ne_of_lt h.1) (ih h.2)

/-- a draw: below top, the source goes on -/
inductive RTake (top : Int) (src : Addr) (rest : Led) : Value → Led → Prop
  | mk (d : Int) (t ta tb : Tok) (n : Nat) (a b : Int) (h0 : 0 ≤ d) (h1 : d < top) (b0 : 0 ≤ b) (b1 : b < 2147483647) : RTake top src rest (.int d t) ((src, W.listOf #[.int a ta, .int b tb] n) :: rest)


noncomputable def foldC (c : Nat) : Nat := if 65 ≤ c ∧ c ≤ 90 then c + 32 else c
noncomputable def foldS (x : Str) : Str := ⟨x.cps.map foldC⟩
/-- one-sign texts -/
noncomputable def ones (l : List Nat) : List Str := l.map fun c => ⟨#[c]⟩
theorem strs_snoc {vs : List Value} {ys : List Str} (h : StrsAre vs ys) (y : Str) (t : Tok) : StrsAre (vs ++ [.str y t]) (ys ++ [y]) := by
  induction h with
  | nil => exact .cons y t .nil
  | cons z u _ ih => exact .cons z u ih
theorem strs_len {vs : List Value} {ys : List Str} (h : StrsAre vs ys) : vs.length = ys.length := by
  induction h with
  | nil => rfl
  | cons _ _ _ ih => simp [ih]
theorem take_snoc {α : Type} {l : List α} {i : Nat} {a : α} (h : l[i]? = some a) : l.take (i + 1) = l.take i ++ [a] := by
  rw [List.take_add_one, h]; rfl
theorem join_ones : ∀ l : List Nat, Str.join Str.empty (ones l) = ⟨l.toArray⟩
  | [] => rfl
  | [c] => rfl
  | c :: d :: r => by
    have ih := join_ones (d :: r)
    show (⟨#[c]⟩ : Str) ++ Str.empty ++ Str.join Str.empty (ones (d :: r)) = _
    rw [ih]
    apply Str.ext'
    apply Array.toList_inj.mp
    simp [Str.cps_append, Str.empty]

theorem lt_A {d : Nat} : (⟨#[d]⟩ : Str).cps.toList < (Str.ofString "A").cps.toList ↔ d < 65 := by
  show [d] < [65] ↔ _
  simp [List.cons_lt_cons_iff]
theorem lt_Z {d : Nat} : (Str.ofString "Z").cps.toList < (⟨#[d]⟩ : Str).cps.toList ↔ 90 < d := by
  show [90] < [d] ↔ _
  simp [List.cons_lt_cons_iff]
theorem lt_A' {d : Nat} : [d] < (Str.ofString "A").cps.toList ↔ d < 65 := lt_A
theorem lt_Z' {d : Nat} : (Str.ofString "Z").cps.toList < [d] ↔ 90 < d := lt_Z
theorem le_Z {d : Nat} (h : ¬ (Str.ofString "Z").cps.toList < (⟨#[d]⟩ : Str).cps.toList) : d ≤ 90 := by
  rw [lt_Z] at h; omega
theorem join_L {prog : Program} {w : World} {A : Around} {E : Value → Shared → Prop} {s : Shared} {h₀ : Heap} {L l : Addr} {news : Led} {vs : List Value} {n : Nat} {ys : List Str} {t : Tok} {Q : Value → Shared → Prop} (N : News h₀ L s.heap news) (hm : (l, W.listOf vs.toArray n) ∈ news) (hi : StrsAre vs ys)
    (hw : (ys.map (·.length)).sum + ys.length ≤ 1048576) (h : ∀ t' k, Q (.str (Str.join Str.empty ys) t') { s with toks := k }) : wpAny (model prog w) A (call (.builtin "str.join") [.str (Str.ofString "") t, .ref l]) Q E s :=
  join_listW (PySem.IsL.isList (n := n) (N _ hm).1) (by simpa using hi) (by decide) hw fun t' k => by
    have e : Txt.join (Str.ofString "") ys = Str.join Str.empty ys := by
      have e0 : (Str.ofString "") = Str.empty := by decide
      rw [e0]
      exact StrLaws.glued_eq_join _ _
    rw [e]
    exact h t' k
theorem ones_w {l : List Nat} : ((ones l).map (·.length)).sum + (ones l).length = 2 * l.length := by
  induction l with
  | nil => rfl
  | cons c r ih =>
    simp only [ones, List.map_cons, List.sum_cons, List.length_cons, Str.length] at ih ⊢
    simp at ih ⊢
    omega

/-- the blanks behind cut off -/
noncomputable def rtL (l : List Nat) : List Nat := (l.reverse.dropWhile (· == 32)).reverse
theorem rtL_snoc (l : List Nat) (c : Nat) : rtL (l ++ [c]) = if c = 32 then rtL l else l ++ [c] := by
  unfold rtL
  rw [List.reverse_append, List.reverse_singleton, List.singleton_append, List.dropWhile_cons]
  by_cases h : c = 32
  · simp [h]
  · simp [h]
theorem rtL_nil : rtL [] = [] := rfl
noncomputable def collS (c x : Str) : Str := if c = Str.ofString "nocase" then foldS x else if c = Str.ofString "rtrim" then ⟨(rtL x.cps.toList).toArray⟩ else x

/-- a loop's state between the turns: the names stored, what the turned objects are -/
noncomputable def Upto (st : List Str) (m₀ m : Str → Option Value) : Prop := ∀ y, st.contains y = false → m y = m₀ y
theorem Upto.refl {st : List Str} {m : Str → Option Value} : Upto st m m := fun _ _ => rfl
theorem Upto.eq {st : List Str} {m₀ m : Str → Option Value} (h : Upto st m₀ m) : m = fun y => if st.contains y = true then m y else m₀ y := by
  funext y
  cases e : st.contains y with
  | true => simp
  | false => simp only [Bool.false_eq_true, if_false]; exact h y e
noncomputable def TPost (h₀ : Heap) (L : Addr) (K : (Str → Option Value) → Led → Prop) (s₁ : Shared) (Q : Flow → Shared → Prop) (f : Flow) (s₂ : Shared) : Prop :=
  match f with
  | .ret v => Q (.ret v) s₂
  | .brk => Q .next s₂
  | _ => ∃ h' tk m' news', s₂ = { s₁ with heap := h', toks := tk } ∧ Fr h₀ L h' m' ∧ News h₀ L h' news' ∧ K m' news'
section
variable {prog : Program} {w : World} {A : Around} {E : Value → Shared → Prop} {s : Shared} {env : Env} {h₀ : Heap} {x : Str} {body : List Stmt} {Q : Flow → Shared → Prop}
theorem loop_S {σ : Type} {I : Addr} {fp wr : List Addr} {n : Nat} {P : Nat → Value → Prop} {St : Nat → Heap → Prop} {m₀ : Str → Option Value} {news0 : Led} (led : σ → Led) (st : List Str) (Inv : Nat → σ → (Str → Option Value) → Prop) (c₀ : σ)
    (W : Walks prog w A I fp wr n P St) (hLf : env.locals ∉ fp) (hwr : ∀ b ∈ wr, h₀.get? b = none) (hnw : ∀ p ∈ led c₀ ++ news0, p.1 ∉ wr) (hfp : ∀ q ∈ led c₀ ++ news0, q.1 ∉ fp) (hst : St 0 s.heap) (F : Fr h₀ env.locals s.heap m₀) (N : News h₀ env.locals s.heap (led c₀ ++ news0))
    (hadr : ∀ c, (led c).map (·.1) = (led c₀).map (·.1)) (hj : Inv 0 c₀ m₀)
    (turn : ∀ i v c m₁ h tk rest, i < n → P i v → Inv i c m₁ → Upto st m₀ m₁ → (∀ p ∈ news0, p ∈ rest) → (∀ a ∈ (led c₀).map (·.1), Off a news0 → Off a rest) → Fr h₀ env.locals h (fun y => if y = x then some v else if st.contains y = true then m₁ y else m₀ y) → News h₀ env.locals h (led c ++ rest) →
      wpAny (model prog w) A (execs body env) (TPost h₀ env.locals (fun m' news' => ∃ c', news' = led c' ++ rest ∧ Inv (i + 1) c' m' ∧ Upto st m₀ m') { s with heap := h, toks := tk } Q) E { s with heap := h, toks := tk })
    (done : ∀ c m₁ h tk, Inv n c m₁ → Upto st m₀ m₁ → Fr h₀ env.locals h (fun y => if st.contains y = true then m₁ y else m₀ y) → News h₀ env.locals h (led c ++ news0) → Q .next { s with heap := h, toks := tk }) :
    LoopAtV prog w A h₀ env x body Q E (.ref I) s := by
  refine loop_invN (fun i m nx => ∃ c, nx = led c ++ news0 ∧ Inv i c m ∧ Upto st m₀ m) W hLf hwr hnw hfp hst F N ⟨c₀, rfl, hj, Upto.refl⟩ ?_ ?_
  · rintro i v m₁ nx h tk own hi hP _ hoff ⟨c, rfl, hI, hu⟩ F₁ N₁
    rw [hu.eq] at F₁
    refine wpAny_mono (turn i v c m₁ h tk (news0 ++ own) hi hP hI hu (fun p hp => List.mem_append_left _ hp) (fun a ha h1 p hp => ?_) F₁ (by rw [List.append_assoc] at N₁; exact N₁)) (fun f s₂ p => ?_) fun _ _ e => e
    · rcases List.mem_append.mp hp with hp | hp
      · exact h1 p hp
      · exact hoff p hp a (by rw [List.map_append]; exact List.mem_append_left _ ha)
    · cases f with
      | ret v => exact p
      | brk => exact p
      | next =>
        obtain ⟨h', tk', m', news', e, F', N', c', rfl, hI', hu'⟩ := p
        exact ⟨h', tk', m', _, led c' ++ news0, e, F', N', (fun q hq => by rcases List.mem_append.mp hq with hq | hq; exact List.mem_append_left _ hq; exact List.mem_append_right _ (List.mem_append_left _ hq)),
          (fun q hq => List.mem_append_right _ (List.mem_append_right _ hq)), (by rw [List.map_append, List.map_append, hadr c']), c', rfl, hI', hu'⟩
      | cont =>
        obtain ⟨h', tk', m', news', e, F', N', c', rfl, hI', hu'⟩ := p
        exact ⟨h', tk', m', _, led c' ++ news0, e, F', N', (fun q hq => by rcases List.mem_append.mp hq with hq | hq; exact List.mem_append_left _ hq; exact List.mem_append_right _ (List.mem_append_left _ hq)),
          (fun q hq => List.mem_append_right _ (List.mem_append_right _ hq)), (by rw [List.map_append, List.map_append, hadr c']), c', rfl, hI', hu'⟩
  · rintro m₁ nx h tk ⟨c, rfl, hI, hu⟩ F₁ N₁
    exact done c m₁ h tk hI hu (by rw [← hu.eq]; exact F₁) N₁

/-- over the signs of a text -/
theorem for_str {σ : Type} {xt : Str} {tx : Tok} {m₀ : Str → Option Value} {news0 : Led} (led : σ → Led) (st : List Str) (Inv : Nat → σ → (Str → Option Value) → Prop) (c₀ : σ)
    (hh : A.handled = none) (F : Fr h₀ env.locals s.heap m₀) (N : News h₀ env.locals s.heap (led c₀ ++ news0)) (hadr : ∀ c, (led c).map (·.1) = (led c₀).map (·.1)) (hj : Inv 0 c₀ m₀)
    (turn : ∀ i d u c m₁ h tk rest, xt.cps[i]? = some d → Inv i c m₁ → Upto st m₀ m₁ → (∀ p ∈ news0, p ∈ rest) → (∀ a ∈ (led c₀).map (·.1), Off a news0 → Off a rest) → Fr h₀ env.locals h (fun y => if y = x then some (.str ⟨#[d]⟩ u) else if st.contains y = true then m₁ y else m₀ y) → News h₀ env.locals h (led c ++ rest) →
      wpAny (model prog w) A (execs body env) (TPost h₀ env.locals (fun m' news' => ∃ c', news' = led c' ++ rest ∧ Inv (i + 1) c' m' ∧ Upto st m₀ m') { s with heap := h, toks := tk } Q) E { s with heap := h, toks := tk })
    (done : ∀ c m₁ h tk, Inv xt.cps.size c m₁ → Upto st m₀ m₁ → Fr h₀ env.locals h (fun y => if st.contains y = true then m₁ y else m₀ y) → News h₀ env.locals h (led c ++ news0) → Q .next { s with heap := h, toks := tk }) :
    wpAny (model prog w) A (pyIter (.str xt tx)) (fun it s₂ => LoopAtV prog w A h₀ env x body Q E it s₂) E s := by
  refine wpAny_pyIter_str fun o St W hst => ?_
  refine loop_S led st Inv c₀ (W A hh) ?_ ?_ ?_ ?_ hst (F.push _) (fun p hp => ⟨Heap.get?_push_of_some _ (N p hp).1, (N p hp).2⟩) hadr hj ?_ ?_
  · exact fun hm => absurd F.ns.lt ((List.mem_singleton.mp hm) ▸ Nat.lt_irrefl _)
  · exact fun b hb => by rw [List.mem_singleton.mp hb]; exact next_is_new F
  · exact fun p hp hI => absurd (Heap.lt_size (N p hp).1) ((List.mem_singleton.mp hI) ▸ Nat.lt_irrefl _)
  · exact fun p hp hI => absurd (Heap.lt_size (N p hp).1) ((List.mem_singleton.mp hI) ▸ Nat.lt_irrefl _)
  · rintro i v c m₁ h tk rest hi ⟨d, u, hd, rfl⟩ hI hu hsub hoff F₁ N₁
    exact turn i d u c m₁ h tk rest hd hI hu hsub hoff F₁ N₁
  · exact done

noncomputable def put : List (Str × Value) → (Str → Option Value) → (Str → Option Value)
  | [], m => m
  | (n, v) :: r, m => fun y => if y = n then some v else put r m y
theorem put_again {n : Str} {u v : Value} {r : List (Str × Value)} {m : Str → Option Value} : (fun y => if y = n then some v else put ((n, u) :: r) m y) = put ((n, v) :: r) m := by
  funext y
  by_cases h : y = n <;> simp [put, h]
noncomputable def WPost {σ : Type} (h₀ : Heap) (L : Addr) (mp : σ → (Str → Option Value)) (led : σ → Led) (news0 : Led) (Inv : σ → Prop) (μ : σ → Nat) (c : σ) (s : Shared) (Q : Flow → Shared → Prop) (f : Flow) (s₂ : Shared) : Prop :=
  match f with
  | .ret v => Q (.ret v) s₂
  | .brk => Q .next s₂
  | _ => ∃ h' tk' c', s₂ = { s with heap := h', toks := tk' } ∧ Fr h₀ L h' (mp c') ∧ News h₀ L h' (led c' ++ news0) ∧ Inv c' ∧ μ c' < μ c
/-- a while whose state is told whole -/
theorem while_M {σ : Type} {test : Expr} {orelse : List Stmt} {pos : Pos} {news0 : Led} {m₀ : Str → Option Value} (ps : σ → List (Str × Value)) (led : σ → Led) (Inv : σ → Prop) (μ : σ → Nat) (c₀ : σ)
    (hE : PassesOwn (model prog w) A env E) (F : Fr h₀ env.locals s.heap (put (ps c₀) m₀)) (N : News h₀ env.locals s.heap (led c₀ ++ news0)) (hI : Inv c₀)
    (turn : ∀ c h tk, Inv c → Fr h₀ env.locals h (put (ps c) m₀) → News h₀ env.locals h (led c ++ news0) →
      wpAny (model prog w) A (isTrue test env (eval test env)) (fun b s₂ => WhlIf b (wpAny (model prog w) A (execs body env) (WPost h₀ env.locals (fun c => put (ps c) m₀) led news0 Inv μ c s Q) E s₂) (wpAny (model prog w) A (execs orelse env) Q E s₂)) E { s with heap := h, toks := tk }) :
    wpAny (model prog w) A (exec (.While test body orelse pos) env) Q E s := by
  have all : ∀ n, ∀ c h tk, μ c < n → Inv c → Fr h₀ env.locals h (put (ps c) m₀) → News h₀ env.locals h (led c ++ news0) → WhlRest prog w A E env test body orelse Q 0 { s with heap := h, toks := tk } := by
    intro n
    induction n with
    | zero => exact fun _ _ _ h => absurd h (Nat.not_lt_zero _)
    | succ n ih =>
      intro c h tk hlt hI F N
      refine whl_turn (k := 0) hE (wpAny_mono (turn c h tk hI F N) (fun b s₂ hb => ?_) fun _ _ e => e)
      cases b with
      | false => exact hb
      | true =>
        refine WhlIf.yes rfl (wpAny_mono hb (fun f s₃ hf => ?_) fun _ _ e => e)
        cases f with
        | ret v => exact hf
        | brk => exact hf
        | next => obtain ⟨h', tk', c', rfl, F', N', hI', hm⟩ := hf; exact ih c' h' tk' (by omega) hI' F' N'
        | cont => obtain ⟨h', tk', c', rfl, F', N', hI', hm⟩ := hf; exact ih c' h' tk' (by omega) hI' F' N'
  exact whl_start 0 (all (μ c₀ + 1) c₀ s.heap s.toks (Nat.lt_succ_self _) hI F N)

/-- over a range from a₀ by ones -/
theorem for_range {σ : Type} {r : Addr} {a₀ b₀ : Int} {t₀ u₀ v₀ : Tok} {n : Nat} {m₀ : Str → Option Value} {news0 : Led} (led : σ → Led) (st : List Str) (Inv : Nat → σ → (Str → Option Value) → Prop) (c₀ : σ)
    (hh : A.handled = none) (hr : IsRange s.heap r a₀ b₀ 1 t₀ u₀ v₀) (hsmall : Builtin.Range.small a₀ b₀ 1 = true) (hn : Builtin.Range.rangeSize a₀ b₀ 1 = (n : Int)) (F : Fr h₀ env.locals s.heap m₀) (N : News h₀ env.locals s.heap (led c₀ ++ news0)) (hadr : ∀ c, (led c).map (·.1) = (led c₀).map (·.1)) (hj : Inv 0 c₀ m₀)
    (turn : ∀ (i : Nat) u c m₁ h tk rest, i < n → Inv i c m₁ → Upto st m₀ m₁ → (∀ p ∈ news0, p ∈ rest) → (∀ a ∈ (led c₀).map (·.1), Off a news0 → Off a rest) → Fr h₀ env.locals h (fun y => if y = x then some (.int (a₀ + (i : Int)) u) else if st.contains y = true then m₁ y else m₀ y) → News h₀ env.locals h (led c ++ rest) →
      wpAny (model prog w) A (execs body env) (TPost h₀ env.locals (fun m' news' => ∃ c', news' = led c' ++ rest ∧ Inv (i + 1) c' m' ∧ Upto st m₀ m') { s with heap := h, toks := tk } Q) E { s with heap := h, toks := tk })
    (done : ∀ c m₁ h tk, Inv n c m₁ → Upto st m₀ m₁ → Fr h₀ env.locals h (fun y => if st.contains y = true then m₁ y else m₀ y) → News h₀ env.locals h (led c ++ news0) → Q .next { s with heap := h, toks := tk }) :
    wpAny (model prog w) A (pyIter (.ref r)) (fun it s₂ => LoopAtV prog w A h₀ env x body Q E it s₂) E s := by
  refine wpAny_pyIter_range hr hsmall ?_
  have W : Walks prog w A s.heap.objs.size [s.heap.objs.size] [s.heap.objs.size] n (fun i v => ∃ t, v = .int (a₀ + i * 1) t)
      (fun i h => IsRangeIter h s.heap.objs.size (a₀ + (i : Nat) * 1) ((n : Int) - (i : Nat)) 1) := Walks.range hh _ a₀ 1 n
  refine loop_S led st Inv c₀ W ?_ ?_ ?_ ?_ (by show IsRangeIter _ _ _ _ _; rw [hn]; simpa using Heap.get?_push_size _ rfl) (F.push _) (fun p hp => ⟨Heap.get?_push_of_some _ (N p hp).1, (N p hp).2⟩) hadr hj ?_ ?_
  · exact fun hm => absurd F.ns.lt ((List.mem_singleton.mp hm) ▸ Nat.lt_irrefl _)
  · exact fun b hb => by rw [List.mem_singleton.mp hb]; exact next_is_new F
  · exact fun p hp hI => absurd (Heap.lt_size (N p hp).1) ((List.mem_singleton.mp hI) ▸ Nat.lt_irrefl _)
  · exact fun p hp hI => absurd (Heap.lt_size (N p hp).1) ((List.mem_singleton.mp hI) ▸ Nat.lt_irrefl _)
  · rintro i v c m₁ h tk rest hi ⟨u, rfl⟩ hI hu hsub hoff F₁ N₁
    rw [Int.mul_one] at F₁
    exact turn i u c m₁ h tk rest hi hI hu hsub hoff F₁ N₁
  · exact done
end
theorem append_L {prog : Program} {w : World} {A : Around} {E : Value → Shared → Prop} {s : Shared} {h₀ : Heap} {L D : Addr} {m : Str → Option Value} {news rest : Led} {vs : List Value} {n : Nat} {x : Value} {Q : Value → Shared → Prop} (F : Fr h₀ L s.heap m) (N : News h₀ L s.heap news) (P : Pull (D, W.listOf vs.toArray n) news rest) (hd : Off D rest) (hsz : vs.length ≤ sizeLine)
    (h : ∀ h', Fr h₀ L h' m → News h₀ L h' ((D, W.listOf (vs ++ [x]).toArray (n + 1)) :: rest) → Q .none { s with heap := h' }) : wpAny (model prog w) A (call (.builtin "list.append") [.ref D, x]) Q E s :=
  append_K (news := (D, W.listOf vs.toArray n) :: rest) (news' := (D, W.listOf (vs.toArray.push x) (n + 1)) :: rest) F (news_pull N P) (.head hd) (fun h' F' N' => h h' F' (by simpa using N')) (by rw [List.size_toArray]; exact hsz)

noncomputable def sgnI (x y : Int) : Int := if x < y then -1 else if y < x then 1 else 0
noncomputable def stcls : Value → Str
  | .none => Str.ofString "null"
  | .int _ _ => Str.ofString "integer"
  | .str _ _ => Str.ofString "text"
  | _ => Str.ofString "blob"
noncomputable def rank : Value → Int
  | .none => 0
  | .int _ _ => 1
  | .str _ _ => 2
  | _ => 3
/-- the values of a row: of at most k signs or octets -/
inductive Good (k : Nat) : Value → Prop
  | none : Good k .none
  | int {i : Int} {t : Tok} (h0 : -9223372036854775808 ≤ i) (h1 : i ≤ 9223372036854775807) : Good k (.int i t)
  | str {x : Str} {t : Tok} (hs : x.cps.size ≤ k) (hc : ∀ c ∈ x.cps.toList, c < 1114112) : Good k (.str x t)
  | bytes {x : Array UInt8} {t : Tok} (hs : x.size ≤ k) : Good k (.bytes x t)

/-- one item of a list, drawn -/
inductive ROne (vs : List Value) (src : Addr) (rest : Led) : Value → Led → Prop
  | mk (v : Value) (ta tb : Tok) (n : Nat) (a b : Int) (hv : v ∈ vs) (b0 : 0 ≤ b) (b1 : b < 2147483647) : ROne vs src rest v ((src, W.listOf #[.int a ta, .int b tb] n) :: rest)

theorem use_RInt {w : World} {loose : List Str} {mean : ExcName → Option Value} {mg mb : Str → Option Value} {f : Addr} {N : Nat} {us : List Value} {news : Led} {x : Int} {led : Led} {dp un : Nat} {gd : Option (List Code)} {cn : Str} {cs : Scope} {z : Addr} {ccd : Value} {cl : List (Str × Addr)} {outer : List Env} {A₀ : Around} {base h₀ h : Heap} {L : Addr} {m : Str → Option Value} {ge : Array GenState} {dr : Drawn} {tk : Nat} {os : OsState} {Q E : Value → Shared → Prop}
    (lem : Does w loose mean mg mb f N us news (RInt x led)) (k1 : Below A₀ base outer h₀) (k2 : Fr h₀ L h m) (k3 : (hd.heap_39 w.params).In h₀) (k4 : News h₀ L h news) (k5 : Top hd.view_39 loose mean mg mb h₀) (kK : cs.kind = .function) (kd : dp + N < recursionLimit) (ku : un + 8 * N < cLine)
    (k : ∀ (h9 : Heap) (tk9 : Nat), Fr h₀ L h9 m → ∀ (t : Tok), News h₀ L h9 led → Q (.int x t) ⟨h9, ge, dr, tk9, os⟩) : wpAny (model PROG w) (ktrTop dp un gd cn cs L z ccd cl outer) (call (.ref f) us) Q E ⟨h, ge, dr, tk, os⟩ :=
  lem dp un gd cn cs z ccd cl outer A₀ base h₀ L m ⟨h, ge, dr, tk, os⟩ Q E k1 k2 k3 k4 k5 kK kd ku fun _ _ h9 tk9 hR F N => by
    cases hR
    exact k h9 tk9 F _ N
theorem use_RStr {w : World} {loose : List Str} {mean : ExcName → Option Value} {mg mb : Str → Option Value} {f : Addr} {N : Nat} {us : List Value} {news : Led} {x : Str} {led : Led} {dp un : Nat} {gd : Option (List Code)} {cn : Str} {cs : Scope} {z : Addr} {ccd : Value} {cl : List (Str × Addr)} {outer : List Env} {A₀ : Around} {base h₀ h : Heap} {L : Addr} {m : Str → Option Value} {ge : Array GenState} {dr : Drawn} {tk : Nat} {os : OsState} {Q E : Value → Shared → Prop}
    (lem : Does w loose mean mg mb f N us news (RStr x led)) (k1 : Below A₀ base outer h₀) (k2 : Fr h₀ L h m) (k3 : (hd.heap_39 w.params).In h₀) (k4 : News h₀ L h news) (k5 : Top hd.view_39 loose mean mg mb h₀) (kK : cs.kind = .function) (kd : dp + N < recursionLimit) (ku : un + 8 * N < cLine)
    (k : ∀ (h9 : Heap) (tk9 : Nat), Fr h₀ L h9 m → ∀ (t : Tok), News h₀ L h9 led → Q (.str x t) ⟨h9, ge, dr, tk9, os⟩) : wpAny (model PROG w) (ktrTop dp un gd cn cs L z ccd cl outer) (call (.ref f) us) Q E ⟨h, ge, dr, tk, os⟩ :=
  lem dp un gd cn cs z ccd cl outer A₀ base h₀ L m ⟨h, ge, dr, tk, os⟩ Q E k1 k2 k3 k4 k5 kK kd ku fun _ _ h9 tk9 hR F N => by
    cases hR
    exact k h9 tk9 F _ N
theorem use_RBytes {w : World} {loose : List Str} {mean : ExcName → Option Value} {mg mb : Str → Option Value} {f : Addr} {N : Nat} {us : List Value} {news : Led} {x : Array UInt8} {led : Led} {dp un : Nat} {gd : Option (List Code)} {cn : Str} {cs : Scope} {z : Addr} {ccd : Value} {cl : List (Str × Addr)} {outer : List Env} {A₀ : Around} {base h₀ h : Heap} {L : Addr} {m : Str → Option Value} {ge : Array GenState} {dr : Drawn} {tk : Nat} {os : OsState} {Q E : Value → Shared → Prop}
    (lem : Does w loose mean mg mb f N us news (RBytes x led)) (k1 : Below A₀ base outer h₀) (k2 : Fr h₀ L h m) (k3 : (hd.heap_39 w.params).In h₀) (k4 : News h₀ L h news) (k5 : Top hd.view_39 loose mean mg mb h₀) (kK : cs.kind = .function) (kd : dp + N < recursionLimit) (ku : un + 8 * N < cLine)
    (k : ∀ (h9 : Heap) (tk9 : Nat), Fr h₀ L h9 m → ∀ (t : Tok), News h₀ L h9 led → Q (.bytes x t) ⟨h9, ge, dr, tk9, os⟩) : wpAny (model PROG w) (ktrTop dp un gd cn cs L z ccd cl outer) (call (.ref f) us) Q E ⟨h, ge, dr, tk, os⟩ :=
  lem dp un gd cn cs z ccd cl outer A₀ base h₀ L m ⟨h, ge, dr, tk, os⟩ Q E k1 k2 k3 k4 k5 kK kd ku fun _ _ h9 tk9 hR F N => by
    cases hR
    exact k h9 tk9 F _ N
theorem use_RBool {w : World} {loose : List Str} {mean : ExcName → Option Value} {mg mb : Str → Option Value} {f : Addr} {N : Nat} {us : List Value} {news : Led} {x : Bool} {led : Led} {dp un : Nat} {gd : Option (List Code)} {cn : Str} {cs : Scope} {z : Addr} {ccd : Value} {cl : List (Str × Addr)} {outer : List Env} {A₀ : Around} {base h₀ h : Heap} {L : Addr} {m : Str → Option Value} {ge : Array GenState} {dr : Drawn} {tk : Nat} {os : OsState} {Q E : Value → Shared → Prop}
    (lem : Does w loose mean mg mb f N us news (RBool x led)) (k1 : Below A₀ base outer h₀) (k2 : Fr h₀ L h m) (k3 : (hd.heap_39 w.params).In h₀) (k4 : News h₀ L h news) (k5 : Top hd.view_39 loose mean mg mb h₀) (kK : cs.kind = .function) (kd : dp + N < recursionLimit) (ku : un + 8 * N < cLine)
    (k : ∀ (h9 : Heap) (tk9 : Nat), Fr h₀ L h9 m → News h₀ L h9 led → Q (.bool x) ⟨h9, ge, dr, tk9, os⟩) : wpAny (model PROG w) (ktrTop dp un gd cn cs L z ccd cl outer) (call (.ref f) us) Q E ⟨h, ge, dr, tk, os⟩ :=
  lem dp un gd cn cs z ccd cl outer A₀ base h₀ L m ⟨h, ge, dr, tk, os⟩ Q E k1 k2 k3 k4 k5 kK kd ku fun _ _ h9 tk9 hR F N => by
    cases hR
    exact k h9 tk9 F  N
theorem use_RTake {w : World} {loose : List Str} {mean : ExcName → Option Value} {mg mb : Str → Option Value} {f : Addr} {N : Nat} {us : List Value} {news : Led} {top : Int} {src : Addr} {rest : Led} {dp un : Nat} {gd : Option (List Code)} {cn : Str} {cs : Scope} {z : Addr} {ccd : Value} {cl : List (Str × Addr)} {outer : List Env} {A₀ : Around} {base h₀ h : Heap} {L : Addr} {m : Str → Option Value} {ge : Array GenState} {dr : Drawn} {tk : Nat} {os : OsState} {Q E : Value → Shared → Prop}
    (lem : Does w loose mean mg mb f N us news (RTake top src rest)) (k1 : Below A₀ base outer h₀) (k2 : Fr h₀ L h m) (k3 : (hd.heap_39 w.params).In h₀) (k4 : News h₀ L h news) (k5 : Top hd.view_39 loose mean mg mb h₀) (kK : cs.kind = .function) (kd : dp + N < recursionLimit) (ku : un + 8 * N < cLine)
    (k : ∀ (h9 : Heap) (tk9 : Nat), Fr h₀ L h9 m → ∀ (d : Int) (t ta tb : Tok) (n : Nat) (a b : Int) (h0 : 0 ≤ d) (h1 : d < top) (b0 : 0 ≤ b) (b1 : b < 2147483647), News h₀ L h9 ((src, W.listOf #[.int a ta, .int b tb] n) :: rest) → Q (.int d t) ⟨h9, ge, dr, tk9, os⟩) : wpAny (model PROG w) (ktrTop dp un gd cn cs L z ccd cl outer) (call (.ref f) us) Q E ⟨h, ge, dr, tk, os⟩ :=
  lem dp un gd cn cs z ccd cl outer A₀ base h₀ L m ⟨h, ge, dr, tk, os⟩ Q E k1 k2 k3 k4 k5 kK kd ku fun _ _ h9 tk9 hR F N => by
    cases hR
    exact k h9 tk9 F _ _ _ _ _ _ _ (by assumption) (by assumption) (by assumption) (by assumption) N
theorem use_ROne {w : World} {loose : List Str} {mean : ExcName → Option Value} {mg mb : Str → Option Value} {f : Addr} {N : Nat} {us : List Value} {news : Led} {vt : List Value} {src : Addr} {rest : Led} {dp un : Nat} {gd : Option (List Code)} {cn : Str} {cs : Scope} {z : Addr} {ccd : Value} {cl : List (Str × Addr)} {outer : List Env} {A₀ : Around} {base h₀ h : Heap} {L : Addr} {m : Str → Option Value} {ge : Array GenState} {dr : Drawn} {tk : Nat} {os : OsState} {Q E : Value → Shared → Prop}
    (lem : Does w loose mean mg mb f N us news (ROne vt src rest)) (k1 : Below A₀ base outer h₀) (k2 : Fr h₀ L h m) (k3 : (hd.heap_39 w.params).In h₀) (k4 : News h₀ L h news) (k5 : Top hd.view_39 loose mean mg mb h₀) (kK : cs.kind = .function) (kd : dp + N < recursionLimit) (ku : un + 8 * N < cLine)
    (k : ∀ (h9 : Heap) (tk9 : Nat), Fr h₀ L h9 m → ∀ (v : Value) (ta tb : Tok) (n : Nat) (a b : Int) (hv : v ∈ vt) (b0 : 0 ≤ b) (b1 : b < 2147483647), News h₀ L h9 ((src, W.listOf #[.int a ta, .int b tb] n) :: rest) → Q v ⟨h9, ge, dr, tk9, os⟩) : wpAny (model PROG w) (ktrTop dp un gd cn cs L z ccd cl outer) (call (.ref f) us) Q E ⟨h, ge, dr, tk, os⟩ :=
  lem dp un gd cn cs z ccd cl outer A₀ base h₀ L m ⟨h, ge, dr, tk, os⟩ Q E k1 k2 k3 k4 k5 kK kd ku fun _ _ h9 tk9 hR F N => by
    cases hR
    exact k h9 tk9 F _ _ _ _ _ _ (by assumption) (by assumption) (by assumption) N
theorem room9 {a n N R : Nat} (h : a + n ≤ R) (hN : N < n) : a + N < R := by omega
theorem unit9 {a n N c : Nat} (h : a + 8 * n < c + 3) (hN : N < n) : a + 8 * N < c := by omega
noncomputable def Bd (P : Params) (f : Addr) (ns : List Str) (vs bs : List Value) : Prop :=
  match (hd.heap_39 P).lookup f with
  | some ⟨_, _, .func fd, _⟩ => ∀ s : Shared, (hd.heap_39 P).In s.heap → BindsTo s fd ⟨vs, []⟩ (ns.zip bs)
  | _ => False
/-- the context of a def's body -/
structure BC where
  dp : Nat
  un : Nat
  gd : Option (List Code)
  outer : List Env
noncomputable abbrev bodyA (c : BC) (env : Env) : Around := { handled := none, depth := c.dp, frames := some (env :: c.outer), guards := c.gd, units := c.un }
noncomputable def mapOf (ns : List Str) (vs : List Value) (y : Str) : Option Value := (ns.zip vs).reverse.lookup y
noncomputable abbrev NoX : Value → Shared → Prop := fun _ _ => False
noncomputable def Post (R : Value → Led → Prop) (g : Heap) (L : Addr) (ge : Array GenState) (dr : Drawn) (os : OsState) (fl : Flow) (s : Shared) : Prop :=
  ∃ r news' h' tk', ∃ m' : Str → Option Value, fl = .ret r ∧ s = ⟨h', ge, dr, tk', os⟩ ∧ R r news' ∧ Fr g L h' m' ∧ News g L h' news'
theorem entry {w : World} {loose : List Str} {mean : ExcName → Option Value} {mg mb : Str → Option Value} {f : Addr} {n : Nat} {vs bs : List Value} {news : Led} {R : Value → Led → Prop} {name qual : Str} {params : Arguments} {body : List Stmt} {scope : Scope} {dV kV doc pm cdv ct oc : Value} {an od : Option Addr} {osl : Array (Option Value)} (ns : List Str)
    (ho : (hd.heap_39 w.params).lookup f = some ⟨oc, od, .func (fnOf name qual params body scope dV kV doc pm an cdv ct), osl⟩) (hcd : codeIn (hd.heap_39 w.params) cdv qual = true)
    (hbind : ∀ s : Shared, (hd.heap_39 w.params).In s.heap → BindsTo s (fnOf name qual params body scope dV kV doc pm an cdv ct) ⟨vs, []⟩ (ns.zip bs))
    (hloc : ∀ y ∈ ns.zip bs, scope.names.lookup y.1 = some .local) (hcell : ∀ x ∈ scope.names, x.2 ≠ .cell) (hco : scope.isCoroutine = false) (hgen : scope.isGenerator = false) (hk : scope.kind = .function) (hn : 0 < n)
    (hbody : ∀ (c : BC) (A₀ : Around) (base g h : Heap) (L : Addr) (ge : Array GenState) (dr : Drawn) (tk : Nat) (os : OsState) (Qr : Flow → Shared → Prop), c.dp + n ≤ recursionLimit → c.un + 8 * n < cLine + 3 → Fr g L h (mapOf ns bs) → News g L h news → Below A₀ base c.outer g → (hd.heap_39 w.params).In g → Top hd.view_39 loose mean mg mb g →
      (∀ r news' h' tk' {m' : Str → Option Value}, R r news' → Fr g L h' m' → News g L h' news' → Qr (.ret r) ⟨h', ge, dr, tk', os⟩) →
      wpAny (model PySem.Challenge.rw_nt0098_01.row.prog w) (bodyA c (envOf qual scope L f cdv)) (execs body (envOf qual scope L f cdv)) Qr NoX ⟨h, ge, dr, tk, os⟩) : Does w loose mean mg mb f n vs news R := by
  intro dp un gd cn cs a ccd cl outer A₀ base h₀ L m s Q E B F X N T hkk hdp hun hret
  refine wpAny_call ?_
  refine code_def B F X N T rfl rfl hkk ho hcd (show dp < recursionLimit by omega) (hbind s (X.keeps F.keep)) hloc (fun g L' h₁ _ F' N' B' X' T' => ?_) hco hgen hk hcell
  refine wpAny_mono (hbody ⟨dp + 1, un + 3, gd, envX cn cs L a ccd cl :: outer⟩ _ base g h₁ L' s.gens s.drawn _ s.os (Post R g L' s.gens s.drawn s.os) (show dp + 1 + n ≤ recursionLimit by omega) (show un + 3 + 8 * n < cLine + 3 by omega) F' N' B' X' T' fun r news' h' tk' m' hR hF hN => ⟨r, news', h', tk', m', rfl, rfl, hR, hF, hN⟩) ?_ (fun _ _ e => e.elim)
  rintro fl s' ⟨r, news', h', tk', m', rfl, rfl, hR, hF, hN⟩
  exact ⟨L', m', news', hF, hN, fun hF' hN' => hret r news' h' tk' hR hF' hN'⟩
theorem entryC {w : World} {loose : List Str} {mean : ExcName → Option Value} {mg mb : Str → Option Value} {f : Addr} {n : Nat} {vs bs : List Value} {news : Led} {R : Value → Led → Prop} {name qual : Str} {params : Arguments} {body : List Stmt} {scope : Scope} {dV kV doc pm cdv ct oc : Value} {an od : Option Addr} {osl : Array (Option Value)} (ns : List Str)
    (ho : (hd.heap_39 w.params).lookup f = some ⟨oc, od, .func (fnOf name qual params body scope dV kV doc pm an cdv ct), osl⟩) (hcd : codeIn (hd.heap_39 w.params) cdv qual = true)
    (hbind : ∀ s : Shared, (hd.heap_39 w.params).In s.heap → BindsTo s (fnOf name qual params body scope dV kV doc pm an cdv ct) ⟨vs, []⟩ (ns.zip bs))
    (hkind : ((ns.zip bs).all fun y => scope.names.lookup y.1 == some .local || scope.names.lookup y.1 == some .cell) = true) (hnd : ((cellsFrom 0 scope.names []).map (·.1)).Nodup) (hco : scope.isCoroutine = false) (hgen : scope.isGenerator = false) (hk : scope.kind = .function) (hn : 0 < n)
    (hbody : ∀ (c : BC) (A₀ : Around) (base g h : Heap) (L : Addr) (ge : Array GenState) (dr : Drawn) (tk : Nat) (os : OsState) (Qr : Flow → Shared → Prop) (cells : Led), c.dp + n ≤ recursionLimit → c.un + 8 * n < cLine + 3 → Fr g L h (bindL (envOfC qual scope L f cdv).kindOf (ns.zip bs) fun _ => none) → News g L h (cells ++ news) →
      CellsAre (bindC (envOfC qual scope L f cdv).kindOf (ns.zip bs) fun _ => none) (cellsFrom (L + 1) scope.names []) cells → Below A₀ base c.outer g → (hd.heap_39 w.params).In g → Top hd.view_39 loose mean mg mb g → (∀ p ∈ news, p.1 < L) →
      (∀ r news' h' tk' {m' : Str → Option Value}, R r news' → Fr g L h' m' → News g L h' news' → Qr (.ret r) ⟨h', ge, dr, tk', os⟩) →
      wpAny (model PySem.Challenge.rw_nt0098_01.row.prog w) (bodyA c (envOfC qual scope L f cdv)) (execs body (envOfC qual scope L f cdv)) Qr NoX ⟨h, ge, dr, tk, os⟩) : Does w loose mean mg mb f n vs news R := by
  intro dp un gd cn cs a ccd cl outer A₀ base h₀ L m s Q E B F X N T hkk hdp hun hret
  refine wpAny_call ?_
  refine code_defC B F X N T rfl rfl hkk ho hcd (show dp < recursionLimit by omega) (hbind s (X.keeps F.keep)) hkind hnd (fun g L' h₁ tk cells _ F' N' Y' B' X' T' l1 => ?_) hco hgen hk
  refine wpAny_mono (hbody ⟨dp + 1, un + 3, gd, envX cn cs L a ccd cl :: outer⟩ _ base g h₁ L' s.gens s.drawn _ s.os (Post R g L' s.gens s.drawn s.os) cells (show dp + 1 + n ≤ recursionLimit by omega) (show un + 3 + 8 * n < cLine + 3 by omega) F' N' Y' B' X' T' l1 fun r news' h' tk' m' hR hF hN => ⟨r, news', h', tk', m', rfl, rfl, hR, hF, hN⟩) ?_ (fun _ _ e => e.elim)
  rintro fl s' ⟨r, news', h', tk', m', rfl, rfl, hR, hF, hN⟩
  exact ⟨L', m', news', hF, hN, fun hF' hN' => hret r news' h' tk' hR hF' hN'⟩
end
section
theorem range_getElem {α : Type} (l : List α) : ∀ e : Nat, e ≤ l.length → (List.range e).filterMap (fun i => l[i]?) = l.take e := by
  intro e
  induction e with
  | zero => intro _; rfl
  | succ e ih =>
    intro h
    have h' : e < l.length := h
    rw [List.range_succ, List.filterMap_append, ih (Nat.le_of_lt h'), List.take_add_one]
    simp [h']

theorem slice_to (x : Str) (j : Int) (e : Nat) (he : e ≤ x.cps.size) (h : max 0 (min (if j < 0 then j + (x.cps.size : Int) else j) (x.cps.size : Int)) = (e : Int)) : Txt.slice x none (some j) = ⟨(x.cps.toList.take e).toArray⟩ := by
  have e1 : Builtin.Str.strSliceIndices none (some j) 1 x.length = List.range e := by
    have h' : max 0 (min (if j < 0 then j + (x.length : Int) else j) (x.length : Int)) = (e : Int) := h
    simp only [Builtin.Str.strSliceIndices, sliceRange, show (1 : Int) > 0 by decide, if_true, h']
    by_cases h0 : (0 : Int) < (e : Int)
    · rw [if_pos h0]
      have : (((e : Int) - 0 + 1 - 1) / 1).toNat = e := by omega
      rw [this]
      apply List.ext_getElem
      · simp
      · intro i h1 h2
        simp
    · have : e = 0 := by omega
      subst this
      simp
  have e2 : (List.range e).filterMap (x.cps[·]?) = x.cps.toList.take e := by
    rw [← range_getElem x.cps.toList e (by simpa using he)]
    congr 1
    funext i
    simp
  unfold Txt.slice
  rw [e1, e2]
  split
  · rename_i hh
    simp [Str.length] at hh
    subst hh
    cases x with
    | mk a =>
      show (⟨a⟩ : Str) = ⟨(a.toList.take a.size).toArray⟩
      rw [show a.size = a.toList.length from by simp, List.take_length]
  · rfl

section
variable {prog : Program} {w : World} {A : Around} {E : Value → Shared → Prop} {s : Shared} {x : Str} {t u : Tok} {value slice : Expr}
theorem len_str_S {Q : Value → Shared → Prop} (hx : x.cps.size ≤ 1000) (h : Q (.int (x.cps.size : Nat) (s.toks + 1)) { s with toks := s.toks + 1 + 1 }) : wpAny (model prog w) A (call (.builtin "len") [.str x t]) Q E s :=
  len_str (by show ¬ ((x.cps.size : Nat) : Int) ≥ 2 ^ 63; omega) h
theorem item_str_S {i : Int} {Q : Value → Shared → Prop} (hx : x.cps.size ≤ 1000) (h0 : 0 ≤ i) (h1 : i < (x.cps.size : Int)) (h : ∀ c, x.cps.toList[i.toNat]? = some c → Q (.str ⟨#[c]⟩ s.toks) { s with toks := s.toks + 1 })
    (hs : subscripted slice false (.str x t) (.int i u) = operate [.str x t, .int i u] (getItem (.str x t) (.int i u)) := by with_unfolding_all rfl)
    (ht : ∀ r, letTemporaryGo value (.str x t) r = pure () := by intro _; with_unfolding_all rfl) : wpAny (model prog w) A (subscriptTail value slice (.str x t) (.int i u)) Q E s := by
  have hk : i.toNat < x.cps.toList.length := by simp; omega
  have hc : x.cps.toList[i.toNat]? = some x.cps.toList[i.toNat] := by simp [hk]
  have hn : ¬ i < 0 := by omega
  have e : Txt.item x i = ⟨#[x.cps.toList[i.toNat]]⟩ := by
    unfold Txt.item Txt.charAt
    have hq : seqIndex? i x.length = some i.toNat := by
      have h3 : i < ((x.length : Nat) : Int) := h1
      simp [seqIndex?, hn, h0, h3]
    have hh : ¬ x.cps.size ≤ i.toNat := by omega
    rw [hq]
    simp at hk
    simp [hk]
  refine KXi.item (n := x.length) rfl (by have : (0:Int) ≤ ((x.length : Nat) : Int) := Int.natCast_nonneg _; omega) h1 (by show x.cps.size ≤ _; omega) (fun _ => ?_) hs ht
  rw [e]
  exact h _ hc
end
theorem one_blank {v : Nat} (h : ((⟨#[v]⟩ : Str) == Str.ofString " ") = true) : v = 32 := by
  have e : (⟨#[v]⟩ : Str) = Str.ofString " " := eq_of_beq h
  have e2 : (⟨#[v]⟩ : Str).cps.toList = (Str.ofString " ").cps.toList := by rw [e]
  have e3 : (Str.ofString " ").cps.toList = [32] := by decide
  rw [e3] at e2
  simpa using e2
theorem not_blank {v : Nat} (h : ((⟨#[v]⟩ : Str) == Str.ofString " ") = false) : v ≠ 32 := by
  rintro rfl
  exact absurd h (by decide)
end
section
open PySem PySem.W PyProof.Rows PySem.Builtin

/-- the octets as numbers -/
noncomputable def nats (b : Array UInt8) : List Nat := b.toList.map (·.toNat)
theorem order_lt : ∀ a b : List UInt8, (Bytes.order a b == .lt) = decide (a.map (·.toNat) < b.map (·.toNat))
  | [], [] => by simp [Bytes.order]
  | [], _ :: _ => by simp [Bytes.order]
  | _ :: _, [] => by simp [Bytes.order]
  | x :: a, y :: b => by
    have ih := order_lt a b
    simp only [Bytes.order, List.map_cons, List.cons_lt_cons_iff]
    by_cases h1 : x < y
    · have h1' : x.toNat < y.toNat := h1
      simp [h1, h1']
    · have h1' : ¬ x.toNat < y.toNat := h1
      by_cases h2 : x > y
      · have h2' : y.toNat < x.toNat := h2
        have h3 : ¬ x.toNat = y.toNat := by omega
        simp [h1, h2, h1', h3]
      · have h2' : ¬ y.toNat < x.toNat := h2
        have h3 : x.toNat = y.toNat := by omega
        simp [h1, h2, h3, ih]
theorem order_gt : ∀ a b : List UInt8, (Bytes.order a b == .gt) = decide (b.map (·.toNat) < a.map (·.toNat))
  | [], [] => by simp [Bytes.order]
  | [], _ :: _ => by simp [Bytes.order]
  | _ :: _, [] => by simp [Bytes.order]
  | x :: a, y :: b => by
    have ih := order_gt a b
    simp only [Bytes.order, List.map_cons, List.cons_lt_cons_iff]
    by_cases h1 : x < y
    · have h1' : x.toNat < y.toNat := h1
      have h3 : ¬ y.toNat < x.toNat := by omega
      have h4 : ¬ y.toNat = x.toNat := by omega
      simp [h1, h3, h4]
    · have h1' : ¬ x.toNat < y.toNat := h1
      by_cases h2 : x > y
      · have h2' : y.toNat < x.toNat := h2
        simp [h1, h2, h2']
      · have h2' : ¬ y.toNat < x.toNat := h2
        have h3 : y.toNat = x.toNat := by omega
        simp [h1, h2, h3, ih]

theorem slot_lt : Slot "bytes" (cmpInfo .Lt).2.1 "bytes.__lt__" :=
  .of (owner := "bytes") (n := "__lt__") (by rw [typeLookup_type, builtinLookup_eq_fast]; kernel_rfl) (by decide +kernel) (by decide +kernel) (by decide +kernel)
    (by first | exact .inl (by decide +kernel) | exact .inr (by decide +kernel)) (by rw [isSubtype_type]; kernel_rfl)
theorem entry_lt : entryFor table "bytes.__lt__" = some Builtin.«bytes.__lt__» := entryFor_of_tree (by kernel_rfl)
theorem args_lt (a b : Value) : argsOk "bytes.__lt__" ⟨[a, b], []⟩ := by unfold argsOk; kernel_rfl
theorem slot_gt : Slot "bytes" (cmpInfo .Gt).2.1 "bytes.__gt__" :=
  .of (owner := "bytes") (n := "__gt__") (by rw [typeLookup_type, builtinLookup_eq_fast]; kernel_rfl) (by decide +kernel) (by decide +kernel) (by decide +kernel)
    (by first | exact .inl (by decide +kernel) | exact .inr (by decide +kernel)) (by rw [isSubtype_type]; kernel_rfl)
theorem entry_gt : entryFor table "bytes.__gt__" = some Builtin.«bytes.__gt__» := entryFor_of_tree (by kernel_rfl)
theorem args_gt (a b : Value) : argsOk "bytes.__gt__" ⟨[a, b], []⟩ := by unfold argsOk; kernel_rfl
theorem gives_lt (b c : Array UInt8) (t u : Tok) : Gives («bytes.__lt__» ⟨[.bytes b t, .bytes c u], []⟩) (.val (.bool (decide (nats b < nats c)))) := by
  refine .of_wp fun M A E s Q hq => ?_
  show wpAny M A (isInstance (.bytes c u) (.type "bytes") >>= fun r => _) _ E s
  refine wpAny_bind (wpAny_isInstance (typeIs_bytes s c u) F.sub_bytes_bytes ?_)
  exact wpAny_pure ⟨_, rfl, by rw [nats, nats, ← order_lt] at hq; exact hq⟩
theorem gives_gt (b c : Array UInt8) (t u : Tok) : Gives («bytes.__gt__» ⟨[.bytes b t, .bytes c u], []⟩) (.val (.bool (decide (nats c < nats b)))) := by
  refine .of_wp fun M A E s Q hq => ?_
  show wpAny M A (isInstance (.bytes c u) (.type "bytes") >>= fun r => _) _ E s
  refine wpAny_bind (wpAny_isInstance (typeIs_bytes s c u) F.sub_bytes_bytes ?_)
  exact wpAny_pure ⟨_, rfl, by rw [nats, nats, ← order_gt] at hq; exact hq⟩
section
variable {prog : Program} {w : World} {A : Around} {E : Value → Shared → Prop} {s : Shared} {b c : Array UInt8} {t u : Tok}
theorem lt_bytes {Q : Value → Shared → Prop} (h : Q (.bool (decide (nats b < nats c))) s) : wpAny (model prog w) A (compareOp .Lt (.bytes b t) (.bytes c u)) Q E s :=
  compareOp_gives (op := .Lt) (typeIs_bytes s b t) (typeIs_bytes s c u) slot_lt entry_lt (args_lt _ _) (gives_lt b c t u) (fun e => nomatch e) h
theorem gt_bytes {Q : Value → Shared → Prop} (h : Q (.bool (decide (nats c < nats b))) s) : wpAny (model prog w) A (compareOp .Gt (.bytes b t) (.bytes c u)) Q E s :=
  compareOp_gives (op := .Gt) (typeIs_bytes s b t) (typeIs_bytes s c u) slot_gt entry_gt (args_gt _ _) (gives_gt b c t u) (fun e => nomatch e) h
end

/-- an int between bounds, drawn from a list -/
inductive ROneI (lo hi : Int) (src : Addr) (rest : Led) : Value → Led → Prop
  | mk (e : Int) (t ta tb : Tok) (n : Nat) (a b : Int) (h0 : lo ≤ e) (h1 : e ≤ hi) (b0 : 0 ≤ b) (b1 : b < 2147483647) : ROneI lo hi src rest (.int e t) ((src, W.listOf #[.int a ta, .int b tb] n) :: rest)
/-- a text, drawn from a list -/
inductive ROneS (P : Str → Prop) (src : Addr) (rest : Led) : Value → Led → Prop
  | mk (x : Str) (t ta tb : Tok) (n : Nat) (a b : Int) (hP : P x) (b0 : 0 ≤ b) (b1 : b < 2147483647) : ROneS P src rest (.str x t) ((src, W.listOf #[.int a ta, .int b tb] n) :: rest)
/-- a value of a row back, the source goes on -/
inductive RVal (k : Nat) (src : Addr) (rest : Led) : Value → Led → Prop
  | mk (v : Value) (hv : Good k v) (ta tb : Tok) (n : Nat) (a b : Int) (b0 : 0 ≤ b) (b1 : b < 2147483647) : RVal k src rest v ((src, W.listOf #[.int a ta, .int b tb] n) :: rest)
noncomputable def KIs (_ : Nat) : Prop := True
theorem news_take {h₀ h : Heap} {L : Addr} {x : Addr × Obj} {l r news : Led} (N : News h₀ L h l) (P : Pull x l r) (hs : ∀ p ∈ news, p ∈ r) : News h₀ L h (x :: news) := fun p hp => by
  rcases List.mem_cons.mp hp with rfl | hp
  · exact N _ (P.sub _ (.head _))
  · exact N _ (P.sub _ (.tail _ (hs p hp)))
theorem good_app {k : Nat} {x y : Str} {t : Tok} (hx : x.cps.size ≤ k) (cx : ∀ d ∈ x.cps.toList, d < 1114112) (hy : y.cps.size ≤ 1) (cy : ∀ d ∈ y.cps.toList, d < 1114112) : Good (k + 1) (.str (x ++ y) t) := by
  have e : (x ++ y).cps = x.cps ++ y.cps := Str.cps_append x y
  refine Good.str ?_ ?_
  · rw [e, Array.size_append]; omega
  · intro d hd
    rw [e, Array.toList_append] at hd
    rcases List.mem_append.mp hd with h | h
    · exact cx d h
    · exact cy d h
theorem good_up {k j : Nat} {v : Value} (h : Good k v) (hk : k ≤ j) : Good j v := by
  cases h with
  | none => exact .none
  | int h0 h1 => exact .int h0 h1
  | str hs hc => exact .str (Nat.le_trans hs hk) hc
  | bytes hs => exact .bytes (Nat.le_trans hs hk)
theorem good_slice {k : Nat} {x : Str} {l u : Option Int} {t : Tok} (hx : x.cps.size ≤ k) (cx : ∀ d ∈ x.cps.toList, d < 1114112) : Good (k + 1) (.str (Txt.slice x l u) t) := by
  refine Good.str ?_ ?_
  · have := Txt.slice_le x l u
    simp only [Str.length] at this
    omega
  · intro d hd
    unfold Txt.slice at hd
    split at hd
    · exact cx d hd
    · rw [List.toList_toArray, List.mem_filterMap] at hd
      obtain ⟨i, _, hi⟩ := hd
      exact cx d (by rw [Array.mem_toList_iff]; exact Array.mem_of_getElem? hi)
theorem good_lower {k : Nat} {x : Str} {t : Tok} (hx : x.cps.size ≤ k) (h : Txt.isascii x = true) : Good (k + 1) (.str (Txt.lower x) t) := by
  have hA : ∀ c ∈ x.cps.toList, c < 128 := by
    intro c hc
    have := (Array.all_eq_true_iff_forall_mem.mp (show x.cps.all (· < 128) = true from h)) c (by simpa using hc)
    simpa using this
  rw [lower_ascii hA]
  refine Good.str ?_ ?_
  · rw [Array.size_map]; omega
  · intro d hd
    rw [Array.toList_map, List.mem_map] at hd
    obtain ⟨c, hc, rfl⟩ := hd
    have h1 := hA c hc
    have : ∀ c, c < 128 → lo1 c < 1114112 := by decide +kernel
    exact this c h1
section
variable {prog : Program} {w : World} {A : Around} {E : Value → Shared → Prop} {s : Shared} {t u : Tok}
theorem add_str_S {x y : Str} {Q : Value → Shared → Prop} (hx : x.cps.size ≤ 500) (hy : y.cps.size ≤ 500) (h : ∀ t' k, Q (.str (x ++ y) t') { s with toks := k }) : wpAny (model prog w) A (binaryOp .Add (.str x t) (.str y u)) Q E s := by
  refine add_str (fun t' k => h t' k) ?_
  rw [sizeLine_eq]
  simp only [Str.length]
  omega
theorem slice_bytes_S {value slice : Expr} {h₀ : Heap} {L : Addr} {m : Str → Option Value} {news : Led} {b : Array UInt8} {j : Int} {uj : Tok} {Q : Value → Shared → Prop} (hF : Fr h₀ L s.heap m) (hN : News h₀ L s.heap news) (hz : b.size ≤ 1000)
    (h : ∀ h' (c : Array UInt8) t' k, Fr h₀ L h' m → News h₀ L h' news → c.size ≤ b.size → Q (.bytes c t') { s with heap := h', toks := k })
    (hs : subscripted slice false (.bytes b t) (.ref s.heap.objs.size) = operate [.ref s.heap.objs.size, .bytes b t] (getItem (.bytes b t) (.ref s.heap.objs.size)) := by with_unfolding_all rfl)
    (ht : ∀ r, letTemporaryGo value (.bytes b t) r = pure () := by intro _; with_unfolding_all rfl) :
    wpAny (model prog w) A (subscriptTail value slice (.bytes b t) (.ref s.heap.objs.size)) Q E { s with heap := s.heap.push { cls := .type "slice", data := .fields #[.none, .int j uj, .none] } } :=
  KBc.slice_K hF hN rfl .none (.int j uj) (by rw [KBw.ints_length]; omega) (fun h' t' k F' N' _ => h h' _ t' k F' N' (KBc.size_picked_le b none (some j))) hs ht
end
noncomputable def CollName (c : Str) : Prop := c = Str.ofString "binary" ∨ c = Str.ofString "nocase" ∨ c = Str.ofString "rtrim"
noncomputable def SignP (x : Str) : Prop := x.cps.size ≤ 1 ∧ ∀ d ∈ x.cps.toList, d < 1114112
noncomputable def IntIn (lo hi : Int) (v : Value) : Prop := ∃ e t, v = .int e t ∧ lo ≤ e ∧ e ≤ hi
noncomputable def StrIn (P : Str → Prop) (v : Value) : Prop := ∃ x t, v = .str x t ∧ P x
theorem IntIn.mk {lo hi e : Int} {t : Tok} (h0 : lo ≤ e) (h1 : e ≤ hi) : IntIn lo hi (.int e t) := ⟨e, t, rfl, h0, h1⟩
theorem StrIn.mk {P : Str → Prop} {x : Str} {t : Tok} (h : P x) : StrIn P (.str x t) := ⟨x, t, rfl, h⟩
theorem pow2_S {prog : Program} {w : World} {A : Around} {E : Value → Shared → Prop} {s : Shared} {e : Int} {t u : Tok} {Q : Value → Shared → Prop} (h0 : 0 ≤ e) (h1 : e ≤ 255) (h : ∀ p : Int, 1 ≤ p → p ≤ 2 ^ 255 → Q (.int p s.toks) { s with toks := s.toks + 1 }) :
    wpAny (model prog w) A (binaryOp .Pow (.int 2 t) (.int e u)) Q E s := by
  have hb : Builtin.Int.intBits 2 = 2 := by decide +kernel
  refine pow_int h0 (by rw [hb]; omega) (h _ ?_ ?_)
  · have : (0 : Int) < 2 ^ e.toNat := Int.pow_pos (by decide)
    omega
  · have h2 : e.toNat ≤ 255 := by omega
    have h3 : (2 : Nat) ^ e.toNat ≤ 2 ^ 255 := Nat.pow_le_pow_right (by decide) h2
    have h4 : ((2 ^ e.toNat : Nat) : Int) ≤ ((2 ^ 255 : Nat) : Int) := Int.ofNat_le.mpr h3
    simpa using h4
noncomputable def sgnL (x y : List Nat) : Int := if x < y then -1 else if y < x then 1 else 0
/-- the order of two values of a row -/
noncomputable def cmpV (c : Str) (a b : Value) : Int :=
  if rank a ≠ rank b then sgnI (rank a) (rank b) else
  match a, b with
  | .int i _, .int j _ => sgnI i j
  | .str x _, .str y _ => sgnL (collS c x).cps.toList (collS c y).cps.toList
  | .bytes x _, .bytes y _ => sgnL (nats x) (nats y)
  | _, _ => 0
theorem cmpV_ne {c : Str} {a b : Value} (h : rank a ≠ rank b) : cmpV c a b = sgnI (rank a) (rank b) := if_pos h
theorem use_ROneI {w : World} {loose : List Str} {mean : ExcName → Option Value} {mg mb : Str → Option Value} {f : Addr} {N : Nat} {us : List Value} {news : Led} {lo hi : Int} {src : Addr} {rest : Led} {dp un : Nat} {gd : Option (List Code)} {cn : Str} {cs : Scope} {z : Addr} {ccd : Value} {cl : List (Str × Addr)} {outer : List Env} {A₀ : Around} {base h₀ h : Heap} {L : Addr} {m : Str → Option Value} {ge : Array GenState} {dr : Drawn} {tk : Nat} {os : OsState} {Q E : Value → Shared → Prop}
    (lem : Does w loose mean mg mb f N us news (ROneI lo hi src rest)) (k1 : Below A₀ base outer h₀) (k2 : Fr h₀ L h m) (k3 : (hd.heap_39 w.params).In h₀) (k4 : News h₀ L h news) (k5 : Top hd.view_39 loose mean mg mb h₀) (kK : cs.kind = .function) (kd : dp + N < recursionLimit) (ku : un + 8 * N < cLine)
    (k : ∀ (h9 : Heap) (tk9 : Nat), Fr h₀ L h9 m → ∀ (e : Int) (t ta tb : Tok) (n : Nat) (a b : Int) (h0 : lo ≤ e) (h1 : e ≤ hi) (b0 : 0 ≤ b) (b1 : b < 2147483647), News h₀ L h9 ((src, W.listOf #[.int a ta, .int b tb] n) :: rest) → Q (.int e t) ⟨h9, ge, dr, tk9, os⟩) : wpAny (model PROG w) (ktrTop dp un gd cn cs L z ccd cl outer) (call (.ref f) us) Q E ⟨h, ge, dr, tk, os⟩ :=
  lem dp un gd cn cs z ccd cl outer A₀ base h₀ L m ⟨h, ge, dr, tk, os⟩ Q E k1 k2 k3 k4 k5 kK kd ku fun _ _ h9 tk9 hR F N => by
    cases hR
    exact k h9 tk9 F _ _ _ _ _ _ _ (by assumption) (by assumption) (by assumption) (by assumption) N
theorem use_ROneS {w : World} {loose : List Str} {mean : ExcName → Option Value} {mg mb : Str → Option Value} {f : Addr} {N : Nat} {us : List Value} {news : Led} {P : Str → Prop} {src : Addr} {rest : Led} {dp un : Nat} {gd : Option (List Code)} {cn : Str} {cs : Scope} {z : Addr} {ccd : Value} {cl : List (Str × Addr)} {outer : List Env} {A₀ : Around} {base h₀ h : Heap} {L : Addr} {m : Str → Option Value} {ge : Array GenState} {dr : Drawn} {tk : Nat} {os : OsState} {Q E : Value → Shared → Prop}
    (lem : Does w loose mean mg mb f N us news (ROneS P src rest)) (k1 : Below A₀ base outer h₀) (k2 : Fr h₀ L h m) (k3 : (hd.heap_39 w.params).In h₀) (k4 : News h₀ L h news) (k5 : Top hd.view_39 loose mean mg mb h₀) (kK : cs.kind = .function) (kd : dp + N < recursionLimit) (ku : un + 8 * N < cLine)
    (k : ∀ (h9 : Heap) (tk9 : Nat), Fr h₀ L h9 m → ∀ (x : Str) (t ta tb : Tok) (n : Nat) (a b : Int) (hP : P x) (b0 : 0 ≤ b) (b1 : b < 2147483647), News h₀ L h9 ((src, W.listOf #[.int a ta, .int b tb] n) :: rest) → Q (.str x t) ⟨h9, ge, dr, tk9, os⟩) : wpAny (model PROG w) (ktrTop dp un gd cn cs L z ccd cl outer) (call (.ref f) us) Q E ⟨h, ge, dr, tk, os⟩ :=
  lem dp un gd cn cs z ccd cl outer A₀ base h₀ L m ⟨h, ge, dr, tk, os⟩ Q E k1 k2 k3 k4 k5 kK kd ku fun _ _ h9 tk9 hR F N => by
    cases hR
    exact k h9 tk9 F _ _ _ _ _ _ _ (by assumption) (by assumption) (by assumption) N
theorem use_RVal {w : World} {loose : List Str} {mean : ExcName → Option Value} {mg mb : Str → Option Value} {f : Addr} {N : Nat} {us : List Value} {news : Led} {k : Nat} {src : Addr} {rest : Led} {dp un : Nat} {gd : Option (List Code)} {cn : Str} {cs : Scope} {z : Addr} {ccd : Value} {cl : List (Str × Addr)} {outer : List Env} {A₀ : Around} {base h₀ h : Heap} {L : Addr} {m : Str → Option Value} {ge : Array GenState} {dr : Drawn} {tk : Nat} {os : OsState} {Q E : Value → Shared → Prop}
    (lem : Does w loose mean mg mb f N us news (RVal k src rest)) (k1 : Below A₀ base outer h₀) (k2 : Fr h₀ L h m) (k3 : (hd.heap_39 w.params).In h₀) (k4 : News h₀ L h news) (k5 : Top hd.view_39 loose mean mg mb h₀) (kK : cs.kind = .function) (kd : dp + N < recursionLimit) (ku : un + 8 * N < cLine)
    (k : ∀ (h9 : Heap) (tk9 : Nat), Fr h₀ L h9 m → ∀ (v : Value) (hv : Good k v) (ta tb : Tok) (n : Nat) (a b : Int) (b0 : 0 ≤ b) (b1 : b < 2147483647), News h₀ L h9 ((src, W.listOf #[.int a ta, .int b tb] n) :: rest) → Q v ⟨h9, ge, dr, tk9, os⟩) : wpAny (model PROG w) (ktrTop dp un gd cn cs L z ccd cl outer) (call (.ref f) us) Q E ⟨h, ge, dr, tk, os⟩ :=
  lem dp un gd cn cs z ccd cl outer A₀ base h₀ L m ⟨h, ge, dr, tk, os⟩ Q E k1 k2 k3 k4 k5 kK kd ku fun _ _ h9 tk9 hR F N => by
    cases hR
    exact k h9 tk9 F _ (by assumption) _ _ _ _ _ (by assumption) (by assumption) N
end
section
section
variable {prog : Program} {w : World} {A : Around} {E : Value → Shared → Prop} {s : Shared} {h₀ : Heap} {L : Addr} {m : Str → Option Value} {env : Env} {elt : Expr} {x : Str} {scope : Scope} {cl : List (Str × Addr)}
theorem comp_inv {S : Led → Prop} {P : Nat → Value → Prop} {Fin : List Value → Led → Prop} {n : Nat} (Inv : Nat → List Value → Led → Prop)
    (step : ∀ i ys nx, i < n → ys.length = i → Inv i ys nx → ∀ v I oI C oC D m₂ h tk (E' : Value → Shared → Prop), P i v → LCg.NsObj oC m₂ → m₂ x = some v → Fr h₀ L h m → News h₀ L h ((I, oI) :: (C, oC) :: (D, LCg.lst ys) :: nx) → LCg.Off3 I C D nx → ((@Ne Nat I C) ∧ (@Ne Nat I D) ∧ (@Ne Nat C D)) →
      wpAny (model prog w) A (eval elt (compEnvC scope cl C env)) (LCg.CompEnd h₀ L m { s with heap := h, toks := tk } I oI C oC D (LCg.lst ys) S (fun y nx' => Inv (i + 1) (ys ++ [y]) nx')) E' { s with heap := h, toks := tk })
    (fin : ∀ ys nx, ys.length = n → Inv n ys nx → Fin ys nx) :
    ∀ k i ys nx, i + k = n → ys.length = i → Inv i ys nx → LCg.CompRest prog w A h₀ L m env elt x scope cl s S P Fin k i ys nx := by
  intro k
  induction k with
  | zero => intro i ys nx hi hl hI; exact LCg.CompRest.zero (fin ys nx (by omega) (by rw [show n = i from by omega]; exact hI))
  | succ k ih =>
    intro i ys nx hi hl hI
    refine LCg.CompRest.succ fun v I oI C oC D m₂ h tk E' hP hC hx F N off ne => ?_
    refine wpAny_mono (step i ys nx (by omega) hl hI v I oI C oC D m₂ h tk E' hP hC hx F N off ne) (fun y s₂ hy => ?_) fun _ _ e => e
    obtain ⟨h', tk', news', rfl, F', N', off', hS, hr⟩ := hy
    exact ⟨h', tk', news', rfl, F', N', off', hS, ih (i + 1) (ys ++ [y]) news' (by omega) (by simp [hl]) hr⟩

noncomputable abbrev SO (a b : Int) (ta tb : Tok) (ep : Nat) : Obj := W.listOf #[.int a ta, .int b tb] ep
/-- the end of an element that draws -/
noncomputable def CEnd (h₀ : Heap) (L : Addr) (m : Str → Option Value) (s₁ : Shared) (src : Addr) (rest : Led) (P : Value → Prop) (I : Addr) (oI : Obj) (C : Addr) (oC : Obj) (D : Addr) (ys : List Value) (y : Value) (s₂ : Shared) : Prop :=
  ∃ h' tk' a' b' ta' tb' ep', s₂ = { s₁ with heap := h', toks := tk' } ∧ Fr h₀ L h' m ∧ News h₀ L h' ((I, oI) :: (C, oC) :: (D, LCg.lst ys) :: (src, SO a' b' ta' tb' ep') :: rest) ∧ 0 ≤ b' ∧ b' < 2147483647 ∧ P y
theorem cend_of {h₀ h' : Heap} {L : Addr} {m : Str → Option Value} {s₁ : Shared} {src : Addr} {rest : Led} {P : Value → Prop} {I C D : Addr} {oI oC : Obj} {ys : List Value} {y : Value} {tk' ta tb : Tok} {a b : Int} {ep : Nat} (F : Fr h₀ L h' m) (N : News h₀ L h' ((I, oI) :: (C, oC) :: (D, LCg.lst ys) :: (src, SO a b ta tb ep) :: rest)) (h0 : 0 ≤ b) (h1 : b < 2147483647) (hP : P y) :
    CEnd h₀ L m s₁ src rest P I oI C oC D ys y { s₁ with heap := h', toks := tk' } := ⟨h', tk', a, b, ta, tb, ep, rfl, F, N, h0, h1, hP⟩
theorem off3_same {I C D src : Addr} {o o' : Obj} {rest : Led} (h : LCg.Off3 I C D ((src, o) :: rest)) : LCg.Off3 I C D ((src, o') :: rest) := h

/-- a comprehension over a range whose elements draw -/
theorem comp_src {Fin : Shared → List Value → Led → Prop} {src r : Addr} {rest : Led} {a b lo hi : Int} {ta tb t u v : Tok} {ep n : Nat} (P : Value → Prop) (hh : A.handled = none) (F : Fr h₀ L s.heap m) (N : News h₀ L s.heap ((src, SO a b ta tb ep) :: rest))
    (hb0 : 0 ≤ b) (hb1 : b < 2147483647) (hr : IsRange s.heap r lo hi 1 t u v) (hsm : Builtin.Range.small lo hi 1 = true) (hn : Builtin.Range.rangeSize lo hi 1 = ((n : Nat) : Int)) (hsz : n ≤ sizeLine)
    (step : ∀ g ys a b ta tb ep v I oI C oC D m₂ h tk (E' : Value → Shared → Prop), 0 ≤ b → b < 2147483647 → ys.length < n → (∀ y ∈ ys, P y) → LCg.NsObj oC m₂ → m₂ x = some v → Fr h₀ L h m → News h₀ L h ((I, oI) :: (C, oC) :: (D, LCg.lst ys) :: (src, SO a b ta tb ep) :: rest) →
      LCg.Off3 I C D ((src, SO a b ta tb ep) :: rest) → ((@Ne Nat I C) ∧ (@Ne Nat I D) ∧ (@Ne Nat C D)) →
      wpAny (model prog w) A (eval elt (compEnvC scope cl C env)) (CEnd h₀ L m { { s with heap := g } with heap := h, toks := tk } src rest P I oI C oC D ys) E' { { s with heap := g } with heap := h, toks := tk })
    (fin : ∀ g ys a b ta tb ep, ys.length = n → (∀ y ∈ ys, P y) → 0 ≤ b → b < 2147483647 → Fin { s with heap := g } ys ((src, SO a b ta tb ep) :: rest)) :
    LCg.CompSrc prog w A h₀ L m env elt x scope cl Fin (.ref r) s := by
  refine LCg.CompSrc.range hh F N hr hsm hn hsz fun g => ?_
  refine comp_inv (n := n) (fun _ ys nx => ∃ a b ta tb ep, nx = (src, SO a b ta tb ep) :: rest ∧ 0 ≤ b ∧ b < 2147483647 ∧ ∀ y ∈ ys, P y) ?_ ?_ n 0 [] _ (by omega) rfl ⟨a, b, ta, tb, ep, rfl, hb0, hb1, fun _ h => nomatch h⟩
  · rintro i ys nx hi hl ⟨a, b, ta, tb, ep, rfl, h0, h1, hP⟩ v I oI C oC D m₂ h tk E' _ hC hx F N off ne
    refine wpAny_mono (step g ys a b ta tb ep v I oI C oC D m₂ h tk E' h0 h1 (by omega) hP hC hx F N off ne) (fun y s₂ hy => ?_) fun _ _ e => e
    obtain ⟨h', tk', a', b', ta', tb', ep', rfl, F', N', h0', h1', hy⟩ := hy
    refine ⟨h', tk', _, rfl, F', N', off3_same off, trivial, a', b', ta', tb', ep', rfl, h0', h1', fun z hz => ?_⟩
    rcases List.mem_append.mp hz with hz | hz
    · exact hP z hz
    · rw [List.mem_singleton.mp hz]; exact hy
  · rintro ys nx hl ⟨a, b, ta, tb, ep, rfl, h0, h1, hP⟩
    exact fin g ys a b ta tb ep hl hP h0 h1
end
section
open PySem.Builtin
variable {b : Array UInt8} {c : UInt8} {cs : List UInt8} {t te : Tok} {x : Str} {n : Nat}
theorem args_decode2 (a b : Value) : argsOk "bytes.decode" ⟨[a, b], []⟩ := by
  unfold argsOk; rw [signature?_of (id := "bytes.decode") (n := ['e', 'd', 'o', 'c', 'e', 'd']) (o := ['s', 'e', 't', 'y', 'b']) (by kernel_rfl) FB.owner_bytes]; kernel_rfl
theorem road_ascii {id : String} : _codecs.decodeRoad id b (Str.ofString "ascii") none [] = (_codecs.runDecoder id _codecs.asciiDecoder none true b 0 [] >>= fun r => mkStr ⟨r.1⟩) := by kernel_rfl
theorem meets_text_ascii {t1 t2 : Tok} {d : Str} (hd : ∀ id, _codecs.runDecoder id _codecs.asciiDecoder none true b 0 [] = pure (x.cps, n)) :
    Meets («_codecs.decode.text» ⟨[.bytes b t, .str (Str.ofString "ascii") t1, .none, .str d t2], []⟩) (fun _ R s => x.length ≤ sizeLine ∧ R (.ok (.ret (.str x s.toks))) { s with toks := s.toks + 1 }) := by
  refine .of_wp fun prog w A R s hS => ?_
  obtain ⟨hsz, h⟩ := hS
  show wpAny _ _ (Bytes.bytesLike _ (.bytes b t) >>= fun r => _) _ _ s
  refine wpAny_bind (wpAny_of_eq KBd.like_eq ?_)
  refine wpAny_bind (wpAny_of_eq KBd.held_eq ?_)
  show wpAny _ _ (_codecs.decodeRoad _ b (Str.ofString "ascii") none [] >>= fun v => _) _ _ s
  rw [road_ascii, hd]
  refine wpAny_bind (wpAny_bind (wpAny_pure ?_))
  exact wpAny_mkStr (wpAny_pure ⟨_, rfl, h⟩) hsz
theorem dec_entry8 : «bytes.decode» ⟨[.bytes (c :: cs).toArray t, .str (Str.ofString "utf-8") te], []⟩ = (mkStr (Str.ofString "utf-8") >>= fun _ => mkStr (Str.ofString "utf-8") >>= fun e => mkStr (Str.ofString "bytes.decode") >>= fun d =>
    call (.builtin "_codecs.decode.text") [.bytes (c :: cs).toArray t, e, .none, d] >>= fun v => ret v) := by kernel_rfl
theorem dec_entryA : «bytes.decode» ⟨[.bytes (c :: cs).toArray t, .str (Str.ofString "ascii") te], []⟩ = (mkStr (Str.ofString "utf-8") >>= fun _ => mkStr (Str.ofString "ascii") >>= fun e => mkStr (Str.ofString "bytes.decode") >>= fun d =>
    call (.builtin "_codecs.decode.text") [.bytes (c :: cs).toArray t, e, .none, d] >>= fun v => ret v) := by kernel_rfl
theorem meets_dec8 (hd : ∀ id, _codecs.runDecoder id _codecs.utf8Decoder none true (c :: cs).toArray 0 [] = pure (x.cps, n)) :
    Meets («bytes.decode» ⟨[.bytes (c :: cs).toArray t, .str (Str.ofString "utf-8") te], []⟩) (fun _ R s => x.length ≤ sizeLine ∧ ∀ t' k, R (.ok (.ret (.str x t'))) { s with toks := k }) := by
  refine .of_wp fun prog w A R s hS => ?_
  obtain ⟨hsz, h⟩ := hS
  rw [dec_entry8]
  refine wpAny_bind (wpAny_mkStr ?_ (by decide))
  refine wpAny_bind (wpAny_mkStr ?_ (by decide))
  refine wpAny_bind (wpAny_mkStr ?_ (by decide))
  exact wpAny_bind (call_function_meets KBd.kind_text KBd.plain_text KBd.entry_text (KBd.args_text _ _ _ _) (KBd.meets_text hd) ⟨hsz, wpAny_pure ⟨_, rfl, h _ _⟩⟩)
theorem meets_decA (hd : ∀ id, _codecs.runDecoder id _codecs.asciiDecoder none true (c :: cs).toArray 0 [] = pure (x.cps, n)) :
    Meets («bytes.decode» ⟨[.bytes (c :: cs).toArray t, .str (Str.ofString "ascii") te], []⟩) (fun _ R s => x.length ≤ sizeLine ∧ ∀ t' k, R (.ok (.ret (.str x t'))) { s with toks := k }) := by
  refine .of_wp fun prog w A R s hS => ?_
  obtain ⟨hsz, h⟩ := hS
  rw [dec_entryA]
  refine wpAny_bind (wpAny_mkStr ?_ (by decide))
  refine wpAny_bind (wpAny_mkStr ?_ (by decide))
  refine wpAny_bind (wpAny_mkStr ?_ (by decide))
  exact wpAny_bind (call_function_meets KBd.kind_text KBd.plain_text KBd.entry_text (KBd.args_text _ _ _ _) (meets_text_ascii hd) ⟨hsz, wpAny_pure ⟨_, rfl, h _ _⟩⟩)
end
section
open PySem.Builtin
variable {prog : Program} {w : World} {A : Around} {E : Value → Shared → Prop} {s : Shared} {c : UInt8} {cs : List UInt8} {t te : Tok} {n : Nat}
theorem dec8 (x : Str) {Q : Value → Shared → Prop} (hd : ∀ id, _codecs.runDecoder id _codecs.utf8Decoder none true (c :: cs).toArray 0 [] = pure (x.cps, n)) (hsz : x.length ≤ 16777216) (h : ∀ t' k, Q (.str x t') { s with toks := k }) :
    wpAny (model prog w) A (call (.builtin "bytes.decode") [.bytes (c :: cs).toArray t, .str (Str.ofString "utf-8") te]) Q E s :=
  call_meets FB.slot_bytes_decode (typeIs_bytes _ _ _) FB.entry_bytes_decode (args_decode2 _ _) (meets_dec8 hd) ⟨by rw [sizeLine_eq]; exact hsz, h⟩
theorem decA (x : Str) {Q : Value → Shared → Prop} (hd : ∀ id, _codecs.runDecoder id _codecs.asciiDecoder none true (c :: cs).toArray 0 [] = pure (x.cps, n)) (hsz : x.length ≤ 16777216) (h : ∀ t' k, Q (.str x t') { s with toks := k }) :
    wpAny (model prog w) A (call (.builtin "bytes.decode") [.bytes (c :: cs).toArray t, .str (Str.ofString "ascii") te]) Q E s :=
  call_meets FB.slot_bytes_decode (typeIs_bytes _ _ _) FB.entry_bytes_decode (args_decode2 _ _) (meets_decA hd) ⟨by rw [sizeLine_eq]; exact hsz, h⟩
end
end
section
open PySem.Sem (wp)
noncomputable def codeC (M : Model) (A : Around) (c : Code) (R : Result → Shared → Prop) (s : Shared) : Prop :=
  ∀ Γ p, Γ.code = c → Γ.Below A → Free Γ.below → wpCode M Γ R p s
noncomputable abbrev NoE : Value → Shared → Prop := fun _ _ => False
theorem dropHold {id : String} {args : Args} (h : holdIds.contains id = true) (hx : holds (.builtin id args) = false) : False := by
  have : holdIds.contains id = false := hx
  rw [h] at this
  cases this
theorem keyHold (a : Addr) : ∀ x : Code × Pos, holds x.1 = false → (match x with
    | (.builtin "bytearray.__contains__" ⟨v :: _, _⟩, _) | (.builtin "bytearray.__mod__" ⟨v :: _, _⟩, _)
    | (.builtin "bytearray.__rmod__" ⟨_ :: v :: _, _⟩, _) | (.builtin "_struct.pack_into.held" ⟨v :: _, _⟩, _) => Builtin.Bytes.sameRef v (.ref a)
    | (.builtin "bytearray.find.held" ⟨_ :: _ :: held, _⟩, _) => held.any (Builtin.Bytes.sameRef (.ref a))
    | (.builtin id ⟨v :: _, _⟩, _) => Builtin.Bytes.sameRef v (.ref a) && Builtin.Bytes.decodersThatHold.contains id
    | _ => false) = false := by
  rintro ⟨c, p⟩ hx
  cases c with
  | builtin id args =>
    obtain ⟨pos, kw⟩ := args
    by_cases h1 : id = "bytearray.__contains__"
    · subst h1; exact (dropHold (by decide +kernel) hx).elim
    by_cases h2 : id = "bytearray.__mod__"
    · subst h2; exact (dropHold (by decide +kernel) hx).elim
    by_cases h3 : id = "bytearray.__rmod__"
    · subst h3; exact (dropHold (by decide +kernel) hx).elim
    by_cases h4 : id = "_struct.pack_into.held"
    · subst h4; exact (dropHold (by decide +kernel) hx).elim
    by_cases h5 : id = "bytearray.find.held"
    · subst h5; exact (dropHold (by decide +kernel) hx).elim
    delta keyHold.match_1
    show dite (id = "bytearray.__contains__") _ _ = false
    rw [dif_neg h1, dif_neg h2, dif_neg h3, dif_neg h4, dif_neg h5]
    cases pos with
    | nil => rfl
    | cons v r =>
      show (Builtin.Bytes.sameRef v (.ref a) && Builtin.Bytes.decodersThatHold.contains id) = false
      have hd : Builtin.Bytes.decodersThatHold.contains id = false := by
        have hx' : holdIds.contains id = false := hx
        rw [List.contains_eq_mem, decide_eq_false_iff_not] at hx' ⊢
        exact fun hm => hx' (List.mem_append_right _ hm)
      rw [hd, Bool.and_false]
  | _ => rfl
section
variable {α β : Type} {M : Model} {A : Around} {s : Shared}
theorem cAny {t : Sem α} {Q : α → Shared → Prop} (h : wpAny M A t Q NoE s) : wpC M A t Q s := fun Γ p hΓ _ _ => h Γ p hΓ
theorem cBind {m : Sem α} {f : α → Sem β} {Q : β → Shared → Prop} (h : wpC M A m (fun a s' => wpC M A (f a) Q s') s) : wpC M A (m >>= f) Q s := fun Γ p hΓ h1 h2 => by
  rw [Sem.wp_bind']
  exact Sem.wp_mono M Γ m (fun a p' s' h' => h' Γ p' hΓ h1 h2) (fun _ _ _ h' => h') p s (h Γ p hΓ h1 h2)
theorem cMono {t : Sem α} {Q Q' : α → Shared → Prop} (h : wpC M A t Q s) (hQ : ∀ a s, Q a s → Q' a s) : wpC M A t Q' s :=
  fun Γ p hΓ h1 h2 => Sem.wp_mono M Γ t (fun a _ s => hQ a s) (fun _ _ _ e => e) p s (h Γ p hΓ h1 h2)
theorem cPure {a : α} {Q : α → Shared → Prop} (h : Q a s) : wpC M A (pure a) Q s := fun _ _ _ _ _ => h
theorem cHolding {vs : List Value} {m : Sem α} {Q : α → Shared → Prop} (h : wpC M A m Q s) : wpC M A (holding vs m) Q s :=
  fun Γ p hΓ h1 h2 => by rw [Sem.wp_holding]; exact h Γ p hΓ h1 h2
theorem cKeep {vs : List Value} {m : Sem α} {Q : α → Shared → Prop} (h : wpC M A m Q s) : wpC M A (m.keep vs) Q s :=
  fun Γ p hΓ h1 h2 => by rw [Sem.wp_keep]; exact h Γ p hΓ h1 h2
theorem cOnRaise {m : Sem α} {k : Value → Sem Unit} {Q : α → Shared → Prop} (h : wpC M A m Q s) : wpC M A (m.onRaise k) Q s := fun Γ p hΓ h1 h2 => by
  rw [Sem.wp_onRaise]
  exact Sem.wp_mono M Γ m (fun _ _ _ h' => h') (fun _ _ _ h' => h'.elim) p s (h Γ p hΓ h1 h2)
/-- a leaf ahead -/
theorem cLeaf {m : Sem α} {f : α → Sem β} {Q : β → Shared → Prop} (h : wpAny M A m (fun a s' => wpC M A (f a) Q s') NoE s) : wpC M A (m >>= f) Q s := cBind (cAny h)
theorem cStand {pos : Pos} {f : Unit → Sem β} {Q : β → Shared → Prop} (h : wpC M A (f ()) Q s) : wpC M A (standAt pos >>= f) Q s := cLeaf (wpAny_standAt h)
theorem cIte {c : Prop} [Decidable c] {a b : Sem α} {Q : α → Shared → Prop} (h : if c then wpC M A a Q s else wpC M A b Q s) : wpC M A (if c then a else b) Q s := by split <;> simp_all
theorem codeC_of_any {c : Code} {R : Result → Shared → Prop} (h : codeAny M A c R s) : codeC M A c R s := fun Γ p hc hB _ => h Γ p hc hB
theorem cRun {c : Code} {h : Option Value} {Q : Flow → Shared → Prop}
    (hc : codeC M (A.mark h) c (fun r s' => match r with | .ok f => Q f s' | .error _ => False) s) (hnb : h ≠ some byPass := by intro x; cases x) :
    wpC M A (run c h) Q s := fun Γ p hΓ h1 h2 => by
  rw [Sem.wp_run]
  exact wpCode_mono (fun r s' h' => by cases r <;> exact h') (hc _ p rfl (hΓ.enter c h p hnb) (fun x hx => by rcases List.mem_cons.mp hx with rfl | hx; exact h1; exact h2 x hx))
theorem cRunValue {c : Code} {Q : Value → Shared → Prop} (hc : codeC M A c (fun r s' => match r with | .ok (.ret v) => Q v s' | _ => False) s) : wpC M A (runValue c) Q s := fun Γ p hΓ h1 h2 => by
  rw [Sem.wp_runValue]
  refine wpCode_mono (fun r s' h' => ?_) (hc _ p rfl (hΓ.enter c none p (by intro x; cases x)) (fun x hx => by rcases List.mem_cons.mp hx with rfl | hx; exact h1; exact h2 x hx))
  cases r with
  | error e => exact h'
  | ok f => cases f <;> exact h'
theorem cCall {f : Value} {pos : List Value} {kw : List (Str × Value)} {Q : Value → Shared → Prop}
    (hc : codeC M A (.call f ⟨pos, kw⟩) (fun r s' => match r with | .ok (.ret v) => Q v s' | _ => False) s) : wpC M A (call f pos kw) Q s := cRunValue hc
theorem codeC_mono {c : Code} {R R' : Result → Shared → Prop} (h : codeC M A c R s) (hR : ∀ r s, R r s → R' r s) : codeC M A c R' s := fun Γ p hc hΓ hf => wpCode_mono hR (h Γ p hc hΓ hf)
theorem codeC_tree {c : Code} {R : Result → Shared → Prop} (hb : holds c = false)
    (h : wpC M (A.under c) (M.den c) (fun fin s' => match fin with | .done f => R (.ok f) s' | .again c' => c'.quiet = true ∧ codeC M A c' R s') s) : codeC M A c R s := fun Γ p hc hΓ hf => by
  rw [wpCode_iff_wp, hc]
  refine Sem.wp_mono M Γ _ (fun fin p' s' h' => ?_) (fun _ _ _ h' => h'.elim) p s (h Γ p (hc ▸ hΓ.in) (by rw [hc]; exact hb) hf)
  cases fin with
  | done f => exact h'
  | again c' => exact ⟨h'.1, h'.2 (Γ.goto c') p' rfl (hΓ.goto c') hf⟩

theorem cExported {a : Addr} {Q : Bool → Shared → Prop} (h : Q false s) : wpC M A (Builtin.Bytes.exported (.ref a)) Q s := fun Γ p _ h1 h2 => by
  show Q (((Γ.code, p) :: Γ.below).any _) s
  rw [List.any_eq_false.mpr (fun x hx => by
    have hh : holds x.1 = false := by
      rcases List.mem_cons.mp hx with rfl | hx
      · exact h1
      · exact h2 x hx
    rw [Bool.not_eq_true]
    exact keyHold _ x hh)]
  exact h
end
end
section
open PySem.Sem (wp)
section
variable {prog : Program} {w : World} {A : Around} {s : Shared} {R : Result → Shared → Prop}
theorem codeC_callFun {a : Addr} {args : Args} {o : Obj} {fd : FuncData} {body : List Stmt} (hroom : A.depth < recursionLimit) (ho : s.heap.get? a = some o)
    (hd' : o.data = .func fd) (hco : fd.scope.isCoroutine = false) (hgen : fd.scope.isGenerator = false) (hbody : fd.body = .stmts body) (hcd : s.heap.CodeRec fd.code fd.qualname)
    (h : wpAny (model prog w) A.in1 (bindArgs fd args) (fun binds s₁ =>
      wpAny (model prog w) A.in1 (newFunctionEnv fd.scope fd.globals fd.closure binds (fd.qualname ++ ".<locals>.") (some a) fd.code none fd.builtins)
        (fun env s₂ => s₂.heap.NoLimit ∧ codeC (model prog w) A (.func body env) R s₂) NoE s₁) NoE s) :
    codeC (model prog w) A (.call (.ref a) args) R s := by
  refine codeC_tree rfl (cAny ?_)
  show wpAny _ A.in1 (callAny (.ref a) args) _ _ s
  simp only [callAny]
  refine wpAny_bind (wpAny_load ho ?_)
  obtain ⟨c, oc, vs, tq, hc, hoc, hdc, hq⟩ := hcd
  simp only [hd', callFunction, hco, hgen, hbody, hc]
  rw [hc] at h
  refine wpAny_bind (m := field (.ref c) 1) (wpAny_field hoc hdc hq (wpAny_bind (wpAny_pure ?_)))
  exact wpAny_bind (wpAny_mono h (fun binds s₁ h₁ => wpAny_bind (wpAny_mono h₁ (fun env s₂ h₂ => wpAny_bind (wpAny_enterFrame h₂.1 hroom
    (wpAny_pure (And.intro rfl h₂.2)))) fun _ _ h' => h')) fun _ _ h' => h')
theorem codeC_func {body env} (h : wpC (model prog w) (A.deeper env) (execs body env) (fun f s' => R (.ok (.ret (match f with | .ret v => v | _ => .none))) s') s) :
    codeC (model prog w) A (.func body env) R s := by
  refine codeC_tree rfl ?_
  show wpC _ (A.deeper env) (do point; match ← (execs body env).onRaise (leaving env) with | .ret v => ret v | _ => ret .none) _ s
  refine cLeaf (wpAny_point (cBind (cOnRaise (cMono h fun f s' h' => ?_))))
  cases f <;> exact cPure h'
end
section
variable {prog : Program} {w : World} {A₀ A : Around} {s : Shared} {base h₀ : Heap} {outer : List Env} {L : Addr} {m : Str → Option Value} {env : Env} {news : Led} {K : Frag} {p : Program} {loose : List Str} {mean : ExcName → Option Value} {mg mb : Str → Option Value}
  {R : Result → Shared → Prop} {name qual : Str} {params : Arguments} {body : List Stmt} {scope : Scope} {dV kV doc pm cdv ct oc : Value} {an od : Option Addr} {osl : Array (Option Value)} {f : Addr} {args : Args} {binds : List (Str × Value)}
/-- a def entered, in a clean context -/
theorem codeC_def (B : Below A₀ base outer h₀) (F : Fr h₀ L s.heap m) (X₀ : K.In h₀) (N : News h₀ L s.heap news) (T : Top p loose mean mg mb h₀) (hA : A.frames = some (env :: outer)) (hf : env.frame = some L) (hke : env.scope.kind = .function)
    (ho : K.lookup f = some ⟨oc, od, .func (fnOf name qual params body scope dV kV doc pm an cdv ct), osl⟩) (hcd : codeIn K cdv qual = true) (hroom : A.depth < recursionLimit)
    (hbind : BindsTo s (fnOf name qual params body scope dV kV doc pm an cdv ct) args binds) (hloc : ∀ y ∈ binds, scope.names.lookup y.1 = some .local)
    (h : ∀ g L' h₁, Fr h₀ L g m → Fr g L' h₁ (fun y => binds.reverse.lookup y) → News g L' h₁ news → Below A base (env :: outer) g → K.In g → Top p loose mean mg mb g →
      wpC (model prog w) (A.deeper (envOf qual scope L' f cdv)) (execs body (envOf qual scope L' f cdv))
        (fun fl s' => LeaveK h₀ L m g R (match fl with | .ret v => v | _ => .none) s') { s with heap := h₁, toks := s.toks + binds.length })
    (hco : scope.isCoroutine = false) (hgen : scope.isGenerator = false) (hk : scope.kind = .function) (hcell : ∀ x ∈ scope.names, x.2 ≠ .cell) : codeC (model prog w) A (.call (.ref f) args) R s := by
  obtain ⟨FG, BG, st, lv⟩ := groundX (R := R) B F N hA hf hke
  refine codeC_callFun hroom ((X₀.keeps F.keep) _ _ ho) rfl hco hgen rfl (codeRec_of (X₀.keeps F.keep) hcd) (hbind _ _ _ _ ?_)
  refine wpAny_newFunctionEnv hcell hloc (fun h₁ hns hsb => ⟨(T.nolimit.keeps F.keep).fresh _ hsb, codeC_func ?_⟩) hk
  have hk₁ : ∀ b o, s.heap.get? b = some o → h₁.get? b = some o := fun b o e => hsb.extBut b o (Nat.ne_of_lt (Heap.lt_size e)) (Heap.get?_push_of_some _ e)
  exact cMono (h _ s.heap.objs.size h₁ FG ⟨hns, fun b o e => hk₁ b o (of_hideAll _ e), Nat.le_of_eq (hideAll_size _ _)⟩
    (fun p hp => ⟨hk₁ _ _ (N p hp).1, Nat.ne_of_lt (Heap.lt_size (N p hp).1), hideAll_none _ (List.mem_map_of_mem hp)⟩) BG (X₀.keeps st) (T.keeps st)) fun fl s' hl => lv _ _ hl
end

section
variable {α : Type} {M : Model} {A : Around} {s : Shared} {env : Env} {Q : Flow → Shared → Prop}
theorem cExecs_nil (h : Q .next s) : wpC M A (execs [] env) Q s := fun _ _ _ _ _ => h
theorem cExecs_cons {st rest} (h : wpC M A (exec st env) (fun f s' => match f with | .next => wpC M A (execs rest env) Q s' | f => Q f s') s) : wpC M A (execs (st :: rest) env) Q s := fun Γ p hΓ h1 h2 => by
  rw [execs_cons, Sem.wp_bind']
  refine Sem.wp_mono M Γ _ (fun f p' s' h' => ?_) (fun _ _ _ h' => h') _ _ (h Γ p hΓ h1 h2)
  cases f <;> first | exact h' Γ p' hΓ h1 h2 | exact h'
/-- a statement without a buffer's turn, then the rest -/
theorem cStep {st rest} (h : wpAny M A (exec st env) (fun f s' => match f with | .next => wpC M A (execs rest env) Q s' | f => Q f s') NoE s) : wpC M A (execs (st :: rest) env) Q s := cExecs_cons (cAny h)
theorem cIf {test body orelse pos} (h : wpC M A (isTrue test env (eval test env)) (fun b s₂ => if b then wpC M A (execs body env) Q s₂ else wpC M A (execs orelse env) Q s₂) s) :
    wpC M A (exec (.If test body orelse pos) env) Q s := by
  rw [exec_If]
  refine cStand (cBind (cMono h fun b s₂ h₂ => ?_))
  cases b <;> exact h₂
theorem cReturn {e pos} (h : wpC M A (eval e env) (fun v => Q (.ret v)) s) : wpC M A (exec (.Return (some e) pos) env) Q s := by
  rw [exec_Return_some]
  exact cStand (cBind (cMono h fun v s₁ h₁ => cPure h₁))
theorem cExpr {e pos} (h : wpC M A (eval e env) (fun v s' => v = .none ∧ Q .next s') s)
    (hi : interactive env = false := by rfl) (hs : swapsWith e none pos.line env = pure false := by rfl) : wpC M A (exec (.Expr e pos) env) Q s := by
  rw [exec_Expr env e pos hi hs]
  refine cStand (cBind (cMono h fun v s' h' => ?_))
  obtain ⟨rfl, h'⟩ := h'
  rw [dropValue_plain (by intro a e; cases e)]
  exact cPure h'
theorem cAssign {x pos' value pos} (h : wpC M A (eval value env) (fun v s₁ => wpAny M A (storeName env x v) (fun _ => Q .next) NoE s₁) s)
    (hs : swapsWith value (some (.Name x pos')) pos.line env = pure false := by rfl) : wpC M A (exec (.Assign [.Name x pos'] value pos) env) Q s := by
  rw [exec_Assign_Name env x pos' value pos hs]
  exact cStand (cBind (cMono h fun v s₁ h₁ => cStand (cLeaf (wpAny_bindName (wpAny_mono h₁ (fun _ _ q => cPure q) fun _ _ e => e)))))
theorem cRunOwn {c : Code} (hc : codeC M A c (fun r s' => match r with | .ok f => Q f s' | .error _ => False) s) : wpC M A (runOwn c env) Q s := by
  unfold runOwn
  exact cOnRaise (cRun hc)
theorem cFor {target iter body orelse pos} (h : wpAny M A (eval iter env) (fun x s₁ => wpAny M A (pyIter x) (fun it s₂ =>
      codeC M A (.forLoop target it body orelse env) (fun r s' => match r with | .ok f => Q f s' | .error _ => False) s₂) NoE s₁) NoE s)
    (hs : ∀ x, foldedSetIterable iter env x = pure x := by intro _; rfl) : wpC M A (exec (.For target iter body orelse pos) env) Q s := by
  rw [exec_For]
  exact cStand (cLeaf (wpAny_mono h (fun x s₁ h₁ => cLeaf (wpAny_of_eq (hs x) (cStand (cBind (cHolding (cAny (wpAny_mono h₁ (fun it s₂ h₂ => cRunOwn h₂) fun _ _ e => e))))))) fun _ _ e => e))
end
section
variable {prog : Program} {w : World} {A : Around} {s : Shared} {env : Env} {R : Result → Shared → Prop}
theorem codeC_block_nil (h : R (.ok .next) s) : codeC (model prog w) A (.block [] env) R s := by
  refine codeC_tree rfl ?_
  show wpC _ _ (do return Fin.done (← (execs [] env).onRaise (fun x => do noteFrame x env; theTreesLotGoes x))) _ s
  exact cBind (cOnRaise (cExecs_nil (cPure h)))
theorem codeC_turn {x : Str} {px : Pos} {it : Value} {body : List Stmt}
    (h : wpAny (model prog w) A (pyNext it) (fun r s₁ => match r with
      | none => R (.ok .next) s₁
      | some v => wpAny (model prog w) A (storeName env x v) (fun _ s₂ => wpC (model prog w) A (execs body env) (fun f s₃ => match f with
          | .ret v => R (.ok (.ret v)) s₃
          | .brk => R (.ok .next) s₃
          | _ => codeC (model prog w) A (.forLoop (.Name x px) it body [] env) R s₃) s₂) NoE s₁) NoE s) : codeC (model prog w) A (.forLoop (.Name x px) it body [] env) R s := by
  refine codeC_tree rfl ?_
  show wpC _ _ ((forTurn (.Name x px) it body [] env).onRaise (fun x => do noteFrame x env; theTreesLotGoes x)) _ s
  refine cOnRaise ?_
  simp only [forTurn]
  refine cStand (cBind (cOnRaise (cAny (wpAny_mono h (fun r s₁ h₁ => ?_) fun _ _ e => e))))
  cases r with
  | none => exact cPure ⟨rfl, codeC_block_nil h₁⟩
  | some v =>
    refine cLeaf (wpAny_of_eq (a := ()) rfl (cLeaf (wpAny_assign_Name (wpAny_mono h₁ (fun _ s₂ h₂ => cBind (cMono h₂ fun f s₃ h₃ => ?_)) fun _ _ e => e))))
    cases f with
    | next => exact cPure ⟨rfl, h₃⟩
    | cont => exact cPure ⟨rfl, h₃⟩
    | brk => exact cPure h₃
    | ret v => exact cPure h₃

variable {h₀ : Heap} {x : Str} {body : List Stmt} {Q : Flow → Shared → Prop}
theorem loop_C {σ : Type} {px : Pos} {I : Addr} {fp wr : List Addr} {n : Nat} {P : Nat → Value → Prop} {St : Nat → Heap → Prop} {m₀ : Str → Option Value} {news0 : Led} (led : σ → Led) (st : List Str) (Inv : Nat → σ → (Str → Option Value) → Prop) (c₀ : σ)
    (W : Walks prog w A I fp wr n P St) (hx : env.kindOf x = some .local) (hp : (env.scope.kind == .class || (env.scope.kind == .module && env.locals != env.globals)) = false)
    (hLf : env.locals ∉ fp) (hwr : ∀ b ∈ wr, h₀.get? b = none) (hnw : ∀ p ∈ led c₀ ++ news0, p.1 ∉ wr) (hfp : ∀ q ∈ led c₀ ++ news0, q.1 ∉ fp) (hst : St 0 s.heap) (F : Fr h₀ env.locals s.heap m₀) (N : News h₀ env.locals s.heap (led c₀ ++ news0))
    (hadr : ∀ c, (led c).map (·.1) = (led c₀).map (·.1)) (hj : Inv 0 c₀ m₀)
    (turn : ∀ i v c m₁ h tk rest, i < n → P i v → Inv i c m₁ → Upto st m₀ m₁ → (∀ p ∈ news0, p ∈ rest) → (∀ a ∈ (led c₀).map (·.1), Off a news0 → Off a rest) → Fr h₀ env.locals h (fun y => if y = x then some v else if st.contains y = true then m₁ y else m₀ y) → News h₀ env.locals h (led c ++ rest) →
      wpC (model prog w) A (execs body env) (TPost h₀ env.locals (fun m' news' => ∃ c', news' = led c' ++ rest ∧ Inv (i + 1) c' m' ∧ Upto st m₀ m') { s with heap := h, toks := tk } Q) { s with heap := h, toks := tk })
    (done : ∀ c m₁ h tk, Inv n c m₁ → Upto st m₀ m₁ → Fr h₀ env.locals h (fun y => if st.contains y = true then m₁ y else m₀ y) → News h₀ env.locals h (led c ++ news0) → Q .next { s with heap := h, toks := tk }) :
    codeC (model prog w) A (.forLoop (.Name x px) (.ref I) body [] env) (fun r s' => match r with | .ok f => Q f s' | .error _ => False) s := by
  have hLw : env.locals ∉ wr := fun h => hLf (W.sub _ h)
  have old : ∀ b o, h₀.get? b = some o → b ∉ wr := fun b o e hb => by rw [hwr b hb] at e; cases e
  have adr : ∀ c, ∀ p ∈ led c ++ news0, ∃ q ∈ led c₀ ++ news0, q.1 = p.1 := fun c p hp => by
    rcases List.mem_append.mp hp with hp | hp
    · have : p.1 ∈ (led c₀).map (·.1) := hadr c ▸ List.mem_map_of_mem hp
      obtain ⟨q, hq, e⟩ := List.mem_map.mp this
      exact ⟨q, List.mem_append_left _ hq, e⟩
    · exact ⟨p, List.mem_append_right _ hp, rfl⟩
  have nw : ∀ c, ∀ p ∈ led c ++ news0, p.1 ∉ wr := fun c p hp => by obtain ⟨q, hq, e⟩ := adr c p hp; exact e ▸ hnw q hq
  have nf : ∀ c, ∀ p ∈ led c ++ news0, p.1 ∉ fp := fun c p hp => by obtain ⟨q, hq, e⟩ := adr c p hp; exact e ▸ hfp q hq
  have go : ∀ k i c m₁ h tk, i + k = n → St i h → Inv i c m₁ → Upto st m₀ m₁ → Fr h₀ env.locals h m₁ → News h₀ env.locals h (led c ++ news0) →
      codeC (model prog w) A (.forLoop (.Name x px) (.ref I) body [] env) (fun r s' => match r with | .ok f => Q f s' | .error _ => False) { s with heap := h, toks := tk } := by
    intro k
    induction k with
    | zero =>
      intro i c m₁ h tk hi hst hI hu F N
      obtain rfl : i = n := by omega
      refine codeC_turn (W.done _ _ _ hst fun h' tk' hk => ?_)
      exact done c m₁ h' tk' hI hu (by rw [← hu.eq]; exact ⟨F.ns.at' fun o e => hk _ o hLw e, fun b o e => hk b o (old b o e) (F.keep b o e), F.above⟩) fun p hp => ⟨hk _ _ (nw c p hp) (N p hp).1, (N p hp).2⟩
    | succ k ih =>
      intro i c m₁ h tk hi hst hI hu F N
      refine codeC_turn (W.item i _ _ _ (by omega) hst fun v h₁ tk₁ hP hst₁ hk => ?_)
      have F₁ : Fr h₀ env.locals h₁ m₁ := ⟨F.ns.at' fun o e => hk _ o hLw e, fun b o e => hk b o (old b o e) (F.keep b o e), F.above⟩
      have N₁ : News h₀ env.locals h₁ (led c ++ news0) := fun p hp => ⟨hk _ _ (nw c p hp) (N p hp).1, (N p hp).2⟩
      refine wpAny_storeName_local hx F₁.ns (fun h₂ hn₂ hs₂ => ?_) hp
      have F₂ := F₁.set hn₂ hs₂
      have No : News h₀ env.locals h₂ (ownOf h₀ fp h₂) := news_ownOf hLf
      have hst₂ : St (i + 1) h₂ := W.frame _ _ _ hst₁ fun b hb o e => (hs₂.2 b fun q => hLf (q ▸ hb)).trans e
      refine cMono (turn i v c m₁ h₂ _ (news0 ++ ownOf h₀ fp h₂) (by omega) hP hI hu (fun p hp => List.mem_append_left _ hp) (fun a ha h1 p hp => ?_) (by rw [hu.eq] at F₂; exact F₂) (by rw [← List.append_assoc]; exact (N₁.set hs₂).append No)) fun f s₃ h₃ => ?_
      · rcases List.mem_append.mp hp with hp | hp
        · exact h1 p hp
        · intro e
          obtain ⟨q, hq, e'⟩ := List.mem_map.mp ha
          exact hfp q (List.mem_append_left _ hq) (e'.trans e.symm ▸ ownOf_sub p hp)
      · have fin : (∃ h' tk' m' news', s₃ = { s with heap := h', toks := tk' } ∧ Fr h₀ env.locals h' m' ∧ News h₀ env.locals h' news' ∧ ∃ c', news' = led c' ++ (news0 ++ ownOf h₀ fp h₂) ∧ Inv (i + 1) c' m' ∧ Upto st m₀ m') →
            codeC (model prog w) A (.forLoop (.Name x px) (.ref I) body [] env) (fun r s' => match r with | .ok f => Q f s' | .error _ => False) s₃ := by
          rintro ⟨h', tk', m', _, rfl, F', N', c', rfl, hI', hu'⟩
          refine ih (i + 1) c' m' h' tk' (by omega) (W.frame _ _ _ hst₁ fun b hb o e => ?_) hI' hu' F' fun p hp => N' p (by rw [← List.append_assoc]; exact List.mem_append_left _ hp)
          have e₂ : h₂.get? b = some o := (hs₂.2 b fun q => hLf (q ▸ hb)).trans e
          cases hn : h₀.get? b with
          | some o₀ =>
            have : o₀ = o := by have := F₂.keep b o₀ hn; rw [e₂] at this; exact (Option.some.inj this).symm
            exact this ▸ F'.keep b o₀ hn
          | none => exact (N' _ (List.mem_append_right _ (List.mem_append_right _ (mem_ownOf hb hn e₂)))).1
        cases f with
        | ret v => exact h₃
        | brk => exact h₃
        | next => exact fin h₃
        | cont => exact fin h₃
  exact go n 0 c₀ m₀ s.heap s.toks (by omega) hst hj Upto.refl F N
end
end
section
open PySem.Sem (wp)
open Builtin
namespace BA
theorem mro : mroOf (.type "bytearray") = pure [.type "bytearray", .type "object"] := by rw [mroOf_type]; kernel_rfl
theorem look_new : typeLookup (.type "bytearray") "__new__" = pure (some (.builtin "bytearray.__new__")) := by rw [typeLookup_type, builtinLookup_eq_fast]; kernel_rfl
theorem made : Bind.madeBy (.type "bytearray") = pure (some "bytearray.__new__") := madeBy_type mro look_new (by decide +kernel)
theorem typeCall : checkTypeCall "bytearray" ⟨[], []⟩ = pure () := by kernel_rfl
theorem newCall : checkBuiltinCall "bytearray.__new__" ⟨[.type "bytearray"], []⟩ = pure () := by kernel_rfl
theorem plain_new : plainId "bytearray.__new__" = true := by decide +kernel
theorem entry_new : entryFor table "bytearray.__new__" = some Builtin.«list.__new__» := entryFor_alias (id' := "list.__new__") (by kernel_rfl) rfl (by decide +kernel) (by kernel_rfl)
theorem sub : isSubtype (.type "bytearray") (.type "bytearray") = pure true := by rw [isSubtype_type]; kernel_rfl
theorem slot_init : Slot "bytearray" "__init__" "bytearray.__init__" :=
  .of (owner := "bytearray") (n := "__init__") (by rw [typeLookup_type, builtinLookup_eq_fast]; kernel_rfl) (by decide +kernel) (by decide +kernel) (by decide +kernel)
    (by first | exact .inl (by decide +kernel) | exact .inr (by decide +kernel)) (by rw [isSubtype_type]; kernel_rfl)
theorem slot_append : Slot "bytearray" "append" "bytearray.append" :=
  .of (owner := "bytearray") (n := "append") (by rw [typeLookup_type, builtinLookup_eq_fast]; kernel_rfl) (by decide +kernel) (by decide +kernel) (by decide +kernel)
    (by first | exact .inl (by decide +kernel) | exact .inr (by decide +kernel)) (by rw [isSubtype_type]; kernel_rfl)
theorem slot_extend : Slot "bytearray" "extend" "bytearray.extend" :=
  .of (owner := "bytearray") (n := "extend") (by rw [typeLookup_type, builtinLookup_eq_fast]; kernel_rfl) (by decide +kernel) (by decide +kernel) (by decide +kernel)
    (by first | exact .inl (by decide +kernel) | exact .inr (by decide +kernel)) (by rw [isSubtype_type]; kernel_rfl)
theorem slot_iter : Slot "bytearray" "__iter__" "bytearray.__iter__" :=
  .of (owner := "bytearray") (n := "__iter__") (by rw [typeLookup_type, builtinLookup_eq_fast]; kernel_rfl) (by decide +kernel) (by decide +kernel) (by decide +kernel)
    (by first | exact .inl (by decide +kernel) | exact .inr (by decide +kernel)) (by rw [isSubtype_type]; kernel_rfl)
theorem slot_next : Slot "bytearray_iterator" "__next__" "bytearray_iterator.__next__" :=
  .of (owner := "bytearray_iterator") (n := "__next__") (by rw [typeLookup_type, builtinLookup_eq_fast]; kernel_rfl) (by decide +kernel) (by decide +kernel) (by decide +kernel)
    (by first | exact .inl (by decide +kernel) | exact .inr (by decide +kernel)) (by rw [isSubtype_type]; kernel_rfl)
theorem slot_self : Slot "bytearray_iterator" "__iter__" "bytearray_iterator.__iter__" :=
  .of (owner := "bytearray_iterator") (n := "__iter__") (by rw [typeLookup_type, builtinLookup_eq_fast]; kernel_rfl) (by decide +kernel) (by decide +kernel) (by decide +kernel)
    (by first | exact .inl (by decide +kernel) | exact .inr (by decide +kernel)) (by rw [isSubtype_type]; kernel_rfl)
theorem entry_init : entryFor table "bytearray.__init__" = some Builtin.«bytearray.__init__» := entryFor_of_tree (by kernel_rfl)
theorem entry_append : entryFor table "bytearray.append" = some Builtin.«bytearray.append» := entryFor_of_tree (by kernel_rfl)
theorem entry_extend : entryFor table "bytearray.extend" = some Builtin.«bytearray.extend» := entryFor_of_tree (by kernel_rfl)
theorem entry_iter : entryFor table "bytearray.__iter__" = some Builtin.«bytearray.__iter__» := entryFor_of_tree (by kernel_rfl)
theorem entry_next : entryFor table "bytearray_iterator.__next__" = some Builtin.«bytearray_iterator.__next__» := entryFor_of_tree (by kernel_rfl)
theorem entry_self : entryFor table "bytearray_iterator.__iter__" = some Builtin.«dict_keyiterator.__iter__» := entryFor_alias (id' := "dict_keyiterator.__iter__") (by kernel_rfl) rfl (by decide +kernel) (by kernel_rfl)
theorem args_append (a b : Value) : argsOk "bytearray.append" ⟨[a, b], []⟩ := by unfold argsOk; kernel_rfl
theorem args_extend (a b : Value) : argsOk "bytearray.extend" ⟨[a, b], []⟩ := by unfold argsOk; kernel_rfl
theorem args_iter (a : Value) : argsOk "bytearray.__iter__" ⟨[a], []⟩ := by unfold argsOk; kernel_rfl
theorem args_next (a : Value) : argsOk "bytearray_iterator.__next__" ⟨[a], []⟩ := by unfold argsOk; kernel_rfl
theorem args_self (a : Value) : argsOk "bytearray_iterator.__iter__" ⟨[a], []⟩ := by unfold argsOk; kernel_rfl
theorem args_init (a : Value) : argsOk "bytearray.__init__" ⟨[a], []⟩ := by unfold argsOk; kernel_rfl
theorem look_buffer : typeLookup (.type "bytearray") "__buffer__" = pure (some (.builtin "bytearray.__buffer__")) := by rw [typeLookup_type, builtinLookup_eq_fast]; kernel_rfl
theorem look_release : typeLookup (.type "bytearray") "__release_buffer__" = pure (some (.builtin "bytearray.__release_buffer__")) := by rw [typeLookup_type, builtinLookup_eq_fast]; kernel_rfl
theorem look_bbuffer : typeLookup (.type "bytes") "__buffer__" = pure (some (.builtin "bytes.__buffer__")) := by rw [typeLookup_type, builtinLookup_eq_fast]; kernel_rfl
theorem look_brelease : typeLookup (.type "bytes") "__release_buffer__" = pure none := by rw [typeLookup_type, builtinLookup_eq_fast]; kernel_rfl
theorem look_bytes : typeLookup (.type "bytearray") "__bytes__" = pure none := by rw [typeLookup_type, builtinLookup_eq_fast]; kernel_rfl
theorem look_index : typeLookup (.type "bytearray") "__index__" = pure none := by rw [typeLookup_type, builtinLookup_eq_fast]; kernel_rfl
theorem look_bbytes : typeLookup (.type "bytes") "__bytes__" = pure (some (.builtin "bytes.__bytes__")) := by rw [typeLookup_type, builtinLookup_eq_fast]; kernel_rfl
end BA
set_option maxRecDepth 1000000 in
set_option maxHeartbeats 4000000 in
theorem ba_owner : ("bytearray.__new__".splitOn ".__new__").headD "" = "bytearray" := by simp +decide [String.splitOn, String.splitOnAux]
end
section
open PySem.Sem (wp)
open Builtin
noncomputable abbrev baObj (b : Array UInt8) : Obj := { cls := .type "bytearray", dict := none, data := .bytearray b 0, slots := #[] }
section
variable {prog : Program} {w : World} {A : Around} {s : Shared}
theorem cCode_call {id : String} {args : Args} {B : Builtin} {R : Result → Shared → Prop} (hb : entryFor table id = some B) (hp : plainId id = true) (hh : holds (.builtin id args) = false)
    (hk : wpAny (model prog w) A.in1 (checkBuiltinCall id args) (fun _ s₁ => wpC (model prog w) A.in1 (B args)
      (fun fin s' => match fin with | .done f => R (.ok f) s' | .again c' => c'.quiet = true ∧ codeC (model prog w) A c' R s') s₁) NoE s) : codeC (model prog w) A (.call (.builtin id) args) R s := by
  refine codeC_tree rfl (cAny ?_)
  show wpAny _ A.in1 (do checkBuiltinCall id args; again (.builtin id args)) _ _ s
  refine wpAny_bind (wpAny_mono hk (fun _ s₁ h₁ => wpAny_pure ⟨plainId_quiet hp _, codeC_tree hh ?_⟩) fun _ _ e => e)
  show wpC _ _ (match entryFor table id with | some b => b args | none => unsupported ((withoutEnding? id "#data").getD id)) _ s₁
  rw [hb, Around.under_plainId hp]
  exact h₁
theorem cCall_entry {T : String} {name : Str} {id : String} {B : Builtin} {self : Value} {rest : List Value} {Q : Value → Shared → Prop} (h : Slot T name id) (hT : s.TypeIs self T) (hb : entryFor table id = some B) (hh : ∀ args, holds (.builtin id args) = false)
    (hc : wpC (model prog w) A.in1 (B ⟨self :: rest, []⟩) (fun fin s' => ∃ v, fin = .done (.ret v) ∧ Q v s') s) (ha : argsOk id ⟨self :: rest, []⟩) : wpC (model prog w) A (call (.builtin id) (self :: rest)) Q s := by
  refine cCall (cCode_call hb h.plain (hh _) (h.check _ _ _ _ _ _ _ _ hT ha (cMono hc fun fin s' h' => ?_)))
  obtain ⟨v, rfl, hv⟩ := h'; exact hv

theorem write_ba {M : Model} {A : Around} {E : Value → Shared → Prop} {a : Addr} {b : Array UInt8} {f : Array UInt8 → Array UInt8} {Q : Unit → Shared → Prop} (ho : s.heap.get? a = some (baObj b)) (hz : (f b).size ≤ sizeLine)
    (h : Q () { s with heap := s.heap.update a (Obj.mapBytearray f) }) : wpAny M A (Bytes.write (.ref a) f) Q E s := by
  show wpAny _ _ (updateBytearray a f) _ _ _
  unfold updateBytearray
  refine wpAny_bind (wpAny_load ho ?_)
  show wpAny _ _ (update a (Obj.mapBytearray f) >>= fun _ => lookBehind a) _ _ _
  refine wpAny_bind (wpAny_update ho ?_)
  refine wpAny_lookBehind (o := baObj (f b)) (Heap.get?_update_self (Obj.mapBytearray f) ho rfl) ?_ h
  show (if (f b).size > sizeLine then some "bytearray:memory" else none) = none
  rw [if_neg (by omega)]
theorem ba_type {a : Addr} {b : Array UInt8} (ho : s.heap.get? a = some (baObj b)) : s.TypeIs (.ref a) "bytearray" := ⟨_, ho, rfl⟩
theorem exports_ba {M : Model} {A : Around} {E : Value → Shared → Prop} {a : Addr} {b : Array UInt8} {Q : Nat → Shared → Prop} (ho : s.heap.get? a = some (baObj b)) (h : Q 0 s) : wpAny M A (Bytes.exportsOf (.ref a)) Q E s := by
  show wpAny _ _ (load a >>= _) _ _ _
  exact wpAny_bind (wpAny_load ho (wpAny_pure h))
theorem payload_ba {M : Model} {A : Around} {E : Value → Shared → Prop} {a : Addr} {b : Array UInt8} {Q : Array UInt8 → Shared → Prop} (ho : s.heap.get? a = some (baObj b)) (h : Q b s) : wpAny M A (Bytes.payload (.ref a)) Q E s := by
  unfold Bytes.payload Bytes.payload?
  exact wpAny_bind (wpAny_bind (wpAny_load ho (wpAny_pure (wpAny_pure h))))
theorem cResize {M : Model} {A : Around} {a : Addr} {b : Array UInt8} {Q : Unit → Shared → Prop} (ho : s.heap.get? a = some (baObj b)) (h : Q () s) : wpC M A (Bytes.checkResize (.ref a)) Q s := by
  unfold Bytes.checkResize
  refine cBind ?_
  unfold orM
  refine cBind (cExported ?_)
  show wpC _ _ (Bytes.exportsOf (.ref a) >>= fun n => pure (decide (n > 0))) _ s
  refine cLeaf (exports_ba ho (cPure ?_))
  exact cPure h
theorem c_append {a : Addr} {b : Array UInt8} {v : Int} {t : Tok} {Q : Value → Shared → Prop} (ho : s.heap.get? a = some (baObj b)) (h0 : 0 ≤ v) (h1 : v < 256) (hz : b.size < sizeLine)
    (h : Q .none { s with heap := s.heap.update a (Obj.mapBytearray (·.push v.toNat.toUInt8)) }) : wpC (model prog w) A (call (.builtin "bytearray.append") [.ref a, .int v t]) Q s := by
  refine cCall_entry BA.slot_append (ba_type ho) BA.entry_append (fun _ => rfl) ?_ (BA.args_append _ _)
  show wpC _ _ (Bytes.byteValue (.int v t) >>= fun c => Bytes.checkResize (.ref a) >>= fun _ => Bytes.write (.ref a) (·.push c) >>= fun _ => ret .none) _ s
  refine cLeaf (wpAny_bind (wpAny_of_eq (rfl : asIndex (.int v t) = pure v) ?_))
  rw [if_neg (by simp only [Bool.or_eq_true, decide_eq_true_eq]; omega)]
  refine wpAny_pure (cBind (cResize ho ?_))
  exact cLeaf (write_ba ho (by simp; omega) (cPure ⟨_, rfl, h⟩))

theorem code_new_ba {E : Value → Shared → Prop} {Q₁ : Value → Shared → Prop} (h : Q₁ (.ref s.heap.objs.size) { s with heap := s.heap.push (baObj #[]) }) :
    codeAny (model prog w) A (.call (.builtin "bytearray.__new__") ⟨[.type "bytearray"], []⟩) (wants Q₁ E) s := by
  refine codeAny_of_tree ?_
  show wpAny _ A.in1 (do checkBuiltinCall "bytearray.__new__" ⟨[.type "bytearray"], []⟩; again (.builtin "bytearray.__new__" ⟨[.type "bytearray"], []⟩)) _ _ s
  refine wpAny_bind (wpAny_of_eq BA.newCall (wpAny_pure ⟨plainId_quiet BA.plain_new _, codeAny_builtin_stack BA.entry_new rfl fun p st => ?_⟩))
  rw [Around.under_plainId BA.plain_new _]
  have hsub := BA.sub
  have hown := ba_owner
  obtain ⟨hp, g, d, tk, os⟩ := s
  simp only [hown]
  wp_walk
  exact h
theorem cIfF {α : Type} {M : Model} {A : Around} {c : Bool} {a b : Sem α} {Q : α → Shared → Prop} (hc : c = false) (h : wpC M A b Q s) : wpC M A (if c = true then a else b) Q s := by
  subst hc; exact h
theorem cIfT {α : Type} {M : Model} {A : Around} {c : Bool} {a b : Sem α} {Q : α → Shared → Prop} (hc : c = true) (h : wpC M A a Q s) : wpC M A (if c = true then a else b) Q s := by
  subst hc; exact h
theorem c_special {M : Model} {A : Around} {self : Value} {T : String} {name : Str} {id : String} {args : List Value} {kw : List (Str × Value)} {Q : Option Value → Shared → Prop} (hT : s.TypeIs self T) (h : Slot T name id)
    (hc : wpC M A (call (.builtin id) (self :: args) kw) (fun v => Q (some v)) s) : wpC M A (callSpecial? self name args kw) Q s := by
  simp only [callSpecial?]
  refine cLeaf (wpAny_specialOf hT h.lookup ?_)
  simp only [h.bind]
  exact cHolding (cLeaf (wpAny_pure (cBind (cMono hc fun v s' h' => cPure h'))))
set_option linter.deprecated false in
theorem own_ba {M : Model} {A : Around} {E : Value → Shared → Prop} {v : Value} {name : String} {id : String} {Q : Bool → Shared → Prop} (hT : s.TypeIs v "bytearray") (hl : typeLookup (.type "bytearray") (name : Str) = pure (some (.builtin id)))
    (he : id.endsWith ("." ++ name) = true) (hd : id.dropRight (name.length + 1) = "bytearray") (h : Q true s) : wpAny M A (Bytes.slotIsOwn v name) Q E s := by
  unfold Bytes.slotIsOwn
  refine wpAny_bind (wpAny_specialOf hT hl ?_)
  dsimp only
  refine bm_if_false (by rw [he]; rfl) ?_
  rw [hd]
  exact wpAny_isInstance hT BA.sub h
theorem release_ba {M : Model} {A : Around} {E : Value → Shared → Prop} {v : Value} {Q : Bool → Shared → Prop} (hT : s.TypeIs v "bytearray") (h : Q false s) : wpAny M A (Bytes.ownRelease v) Q E s := by
  unfold Bytes.ownRelease
  exact wpAny_bind (own_ba hT BA.look_release (by decide +kernel) (by decide +kernel) (wpAny_pure h))
theorem release_b {M : Model} {A : Around} {E : Value → Shared → Prop} {x : Array UInt8} {t : Tok} {Q : Bool → Shared → Prop} (h : Q false s) : wpAny M A (Bytes.ownRelease (.bytes x t)) Q E s := by
  unfold Bytes.ownRelease Bytes.slotIsOwn
  exact wpAny_bind (wpAny_bind (wpAny_specialOf (typeIs_bytes s x t) BA.look_brelease (wpAny_pure (wpAny_pure h))))
theorem init_bind : Bytes.bindOptional "bytearray.__init__" "bytearray" ["source", "encoding", "errors"] [] [] = pure [none, none, none] := by kernel_rfl
theorem cInit {a : Addr} {Q : Value → Shared → Prop} (ho : s.heap.get? a = some (baObj #[])) (h : Q .none { s with heap := s.heap.update a (Obj.mapBytearray fun _ => #[]) }) : wpC (model prog w) A (call (.builtin "bytearray.__init__") [.ref a]) Q s := by
  refine cCall_entry BA.slot_init (ba_type ho) BA.entry_init (fun _ => rfl) ?_ (BA.args_init _)
  refine cLeaf (release_ba (ba_type ho) (cIfF rfl (cLeaf (wpAny_of_eq init_bind ?_))))
  refine cLeaf (wpAny_of_eq (a := ()) rfl (cLeaf (wpAny_of_eq (a := ()) rfl ?_)))
  refine cBind ?_
  unfold orM
  refine cBind (cExported ?_)
  show wpC _ _ (Bytes.exportsOf (.ref a) >>= fun n => pure (decide (n > 0))) _ s
  refine cLeaf (exports_ba ho (cPure (cIfF rfl ?_)))
  refine cLeaf (write_ba (b := #[]) ho (Nat.zero_le _) ?_)
  exact cBind (cIfF rfl (cIfF rfl (cPure (cPure ⟨_, rfl, h⟩))))
theorem codeC_builtin {id : String} {args : Args} {B : Builtin} {R : Result → Shared → Prop} (hb : entryFor table id = some B) (hh : holds (.builtin id args) = false)
    (h : wpC (model prog w) (A.under (.builtin id args)) (B args) (fun fin s' => match fin with | .done f => R (.ok f) s' | .again c' => c'.quiet = true ∧ codeC (model prog w) A c' R s') s) : codeC (model prog w) A (.builtin id args) R s := by
  refine codeC_tree hh ?_
  show wpC _ _ (match entryFor table id with | some b => b args | none => unsupported ((withoutEnding? id "#data").getD id)) _ s
  rw [hb]
  exact h
theorem c_newba {Q : Value → Shared → Prop} (h : Q (.ref s.heap.objs.size) { s with heap := (s.heap.push (baObj #[])).update s.heap.objs.size (Obj.mapBytearray fun _ => #[]) }) : wpC (model prog w) A (call (.type "bytearray") []) Q s := by
  refine cCall (codeC_tree rfl ?_)
  show wpC _ _ (callAny (.type "bytearray") _) _ _
  refine cPure ⟨Code.quiet_builtin _ (by decide +kernel), codeC_builtin F.entry_type_call rfl ?_⟩
  rw [Around.under_plain (weight_type_call_type "bytearray" [] []) rfl]
  show wpC _ _ («type.__call__» ⟨[.type "bytearray"], []⟩) _ s
  unfold Builtin.«type.__call__»
  dsimp only
  refine cIfF rfl (cIfF (by decide +kernel) ?_)
  refine cLeaf (wpAny_of_eq BA.typeCall (cLeaf (wpAny_of_eq BA.mro (cIfF rfl ?_))))
  refine cLeaf (wpAny_of_eq BA.made (cLeaf (wpAny_pure (cBind (cHolding (cAny (wpAny_call (code_new_ba ?_))))))))
  have hS : (s.heap.push (baObj #[])).get? s.heap.objs.size = some (baObj #[]) := Heap.get?_push_size _ rfl
  have hT : Shared.TypeIs { s with heap := s.heap.push (baObj #[]) } (.ref s.heap.objs.size) "bytearray" := ⟨_, hS, rfl⟩
  refine cLeaf (wpAny_isInstance hT BA.sub (cIfF rfl ?_))
  refine cBind (cHolding (c_special hT BA.slot_init ?_))
  refine cInit hS ?_
  exact cIfF rfl (cPure h)

theorem take_ba {M : Model} {A : Around} {E : Value → Shared → Prop} {a : Addr} {b : Array UInt8} {id : String} {Q : Option (Array UInt8 × Option Value) → Shared → Prop} (ho : s.heap.get? a = some (baObj b)) (h : Q (some (b, none)) s) : wpAny M A (Bytes.takeBufferQuiet? id (.ref a) 0) Q E s := by
  have hT := ba_type ho
  unfold Bytes.takeBufferQuiet?
  refine wpAny_bind (wpAny_attempt ?_)
  unfold Bytes.takeBuffer?
  refine wpAny_bind (wpAny_specialOf hT BA.look_buffer ?_)
  dsimp only
  refine wpAny_bind (own_ba hT BA.look_buffer (by decide +kernel) (by decide +kernel) ?_)
  refine bm_if_false rfl (wpAny_bind (wpAny_specialOf hT BA.look_buffer ?_))
  try dsimp only
  refine wpAny_bind ?_
  unfold Bytes.buffer?
  refine wpAny_bind (wpAny_specialOf hT BA.look_buffer ?_)
  dsimp only
  refine wpAny_bind (own_ba hT BA.look_buffer (by decide +kernel) (by decide +kernel) ?_)
  refine bm_if_false rfl (wpAny_bind (wpAny_specialOf hT BA.look_buffer ?_))
  (try dsimp only)
  refine wpAny_bind (release_ba hT (bm_if_false rfl ?_))
  exact wpAny_bind (payload_ba ho (wpAny_pure (wpAny_pure (wpAny_pure h))))
theorem buffer_ba {M : Model} {A : Around} {E : Value → Shared → Prop} {a : Addr} {b : Array UInt8} {id : String} {full : Bool} {Q : Option (Array UInt8) → Shared → Prop} (ho : s.heap.get? a = some (baObj b)) (h : Q (some b) s) : wpAny M A (Bytes.buffer? id (.ref a) full) Q E s := by
  have hT := ba_type ho
  unfold Bytes.buffer?
  refine wpAny_bind (wpAny_specialOf hT BA.look_buffer ?_)
  dsimp only
  refine wpAny_bind (own_ba hT BA.look_buffer (by decide +kernel) (by decide +kernel) ?_)
  refine bm_if_false rfl (wpAny_bind (wpAny_specialOf hT BA.look_buffer ?_))
  (try dsimp only)
  refine wpAny_bind (release_ba hT (bm_if_false rfl ?_))
  exact wpAny_bind (payload_ba ho (wpAny_pure h))
set_option linter.deprecated false in
theorem own_b {M : Model} {A : Around} {E : Value → Shared → Prop} {x : Array UInt8} {t : Tok} {Q : Bool → Shared → Prop} (h : Q true s) : wpAny M A (Bytes.slotIsOwn (.bytes x t) "__buffer__") Q E s := by
  unfold Bytes.slotIsOwn
  refine wpAny_bind (wpAny_specialOf (typeIs_bytes s x t) BA.look_bbuffer ?_)
  dsimp only
  refine bm_if_false (by decide +kernel) ?_
  rw [show "bytes.__buffer__".dropRight ("__buffer__".length + 1) = "bytes" from by decide +kernel]
  exact wpAny_isInstance (typeIs_bytes s x t) F.bm_sub h
theorem take_b {M : Model} {A : Around} {E : Value → Shared → Prop} {x : Array UInt8} {t : Tok} {id : String} {Q : Option (Array UInt8 × Option Value) → Shared → Prop} (h : Q (some (x, none)) s) : wpAny M A (Bytes.takeBufferQuiet? id (.bytes x t) 0) Q E s := by
  have hT := typeIs_bytes s x t
  unfold Bytes.takeBufferQuiet?
  refine wpAny_bind (wpAny_attempt ?_)
  unfold Bytes.takeBuffer?
  refine wpAny_bind (wpAny_specialOf hT BA.look_bbuffer ?_)
  dsimp only
  refine wpAny_bind (own_b ?_)
  refine bm_if_false rfl (wpAny_bind (wpAny_specialOf hT BA.look_bbuffer ?_))
  try dsimp only
  refine wpAny_bind ?_
  unfold Bytes.buffer?
  refine wpAny_bind (wpAny_specialOf hT BA.look_bbuffer ?_)
  dsimp only
  refine wpAny_bind (own_b ?_)
  refine bm_if_false rfl (wpAny_bind (wpAny_specialOf hT BA.look_bbuffer ?_))
  (try dsimp only)
  refine wpAny_bind (release_b (bm_if_false rfl ?_))
  exact wpAny_bind (wpAny_of_eq (a := x) rfl (wpAny_pure (wpAny_pure (wpAny_pure h))))
theorem c_extend {a : Addr} {b more : Array UInt8} {v : Value} {T : String} {id : String} {Q : Value → Shared → Prop} (ho : s.heap.get? a = some (baObj b)) (hT : s.TypeIs v T) (hl : typeLookup (.type T) "__buffer__" = pure (some (.builtin id)))
    (ht : ∀ (M : Model) (A : Around) (Q : Option (Array UInt8 × Option Value) → Shared → Prop), Q (some (more, none)) s → wpAny M A (Bytes.takeBufferQuiet? "bytearray.extend" v 0) Q NoE s) (hz : b.size + more.size ≤ sizeLine)
    (h : Q .none { s with heap := s.heap.update a (Obj.mapBytearray (· ++ more)) }) : wpC (model prog w) A (call (.builtin "bytearray.extend") [.ref a, v]) Q s := by
  refine cCall_entry BA.slot_extend (ba_type ho) BA.entry_extend (fun _ => rfl) ?_ (BA.args_extend _ _)
  unfold Builtin.«bytearray.extend»
  refine cLeaf (wpAny_of_eq (a := (Value.ref a, v)) rfl ?_)
  dsimp only
  refine cLeaf (wpAny_specialOf hT hl (cIfT rfl ?_))
  refine cLeaf (wpAny_rule (cLeaf (payload_ba ho (cLeaf (ht _ _ _ ?_)))))
  dsimp only
  refine cIfT rfl ?_
  show wpC _ _ (if (!more.isEmpty) = true then (Bytes.checkResize (.ref a) >>= fun _ => Bytes.write (.ref a) (· ++ more) >>= fun _ => ret .none) else (Bytes.write (.ref a) (· ++ more) >>= fun _ => ret .none)) _ s
  have fin : wpC (model prog w) A.in1 (Bytes.write (.ref a) (· ++ more) >>= fun _ => ret .none) (fun fin s' => ∃ v, fin = Fin.done (Flow.ret v) ∧ Q v s') s := cLeaf (write_ba ho (by simp; omega) (cPure ⟨_, rfl, h⟩))
  cases hm : more.isEmpty with
  | true => exact cIfF rfl fin
  | false => exact cIfT rfl (cBind (cResize ho fin))
theorem c_extend_b {a : Addr} {b x : Array UInt8} {t : Tok} {Q : Value → Shared → Prop} (ho : s.heap.get? a = some (baObj b)) (hz : b.size + x.size ≤ sizeLine)
    (h : Q .none { s with heap := s.heap.update a (Obj.mapBytearray (· ++ x)) }) : wpC (model prog w) A (call (.builtin "bytearray.extend") [.ref a, .bytes x t]) Q s :=
  c_extend ho (typeIs_bytes s x t) BA.look_bbuffer (fun _ _ _ q => take_b q) hz h
theorem c_extend_ba {a c : Addr} {b x : Array UInt8} {Q : Value → Shared → Prop} (ho : s.heap.get? a = some (baObj b)) (hc : s.heap.get? c = some (baObj x)) (hz : b.size + x.size ≤ sizeLine)
    (h : Q .none { s with heap := s.heap.update a (Obj.mapBytearray (· ++ x)) }) : wpC (model prog w) A (call (.builtin "bytearray.extend") [.ref a, .ref c]) Q s :=
  c_extend ho (ba_type hc) BA.look_buffer (fun _ _ _ q => take_ba hc q) hz h

/-- bytes(a bytearray) -/
theorem bytes_ba {a : Addr} {b : Array UInt8} {E : Value → Shared → Prop} {Q : Value → Shared → Prop} (ho : s.heap.get? a = some (baObj b)) (hz : b.size ≤ sizeLine) (h : ∀ t k, Q (.bytes b t) { s with toks := k }) :
    wpAny (model prog w) A (call (.type "bytes") [.ref a]) Q E s := by
  refine callType_codes (Q₁ := fun obj s₁ => s₁.TypeIs obj "bytes" ∧ Q obj s₁) F.bm_called (F.bm_typeCall _) F.entry_object_init ?_ fun obj s₁ h₁ => ?_
  · refine codeAny_of_tree ?_
    show wpAny _ _ (do checkBuiltinCall "bytes.__new__" ⟨[.type "bytes", .ref a], []⟩; again (.builtin "bytes.__new__" ⟨[.type "bytes", .ref a], []⟩)) _ _ s
    refine wpAny_bind (wpAny_of_eq (F.bm_newCall _) (wpAny_pure ⟨plainId_quiet F.bm_plain _, codeAny_builtin F.bm_entry ?_⟩))
    rw [Around.under_plainId F.bm_plain _]
    have hT := ba_type ho
    unfold Builtin.«bytes.__new__»
    refine wpAny_bind (wpAny_of_eq (a := true) rfl ?_)
    refine bm_if_false rfl ?_
    refine wpAny_bind (wpAny_of_eq F.bm_sub ?_)
    refine bm_if_false rfl ?_
    refine wpAny_bind (wpAny_of_eq (F.bm_bind _) ?_)
    refine wpAny_bind (wpAny_of_eq (a := ()) rfl ?_)
    refine wpAny_bind (wpAny_of_eq (a := ()) rfl ?_)
    refine bm_if_false rfl ?_
    refine wpAny_bind (wpAny_specialOf hT BA.look_bytes ?_)
    refine wpAny_bind (wpAny_bind ?_)
    show wpAny _ _ (load a >>= _) _ _ _
    refine wpAny_bind (wpAny_load ho (wpAny_pure (wpAny_pure ?_)))
    refine bm_if_false rfl ?_
    refine wpAny_bind (wpAny_specialOf hT BA.look_index ?_)
    refine bm_if_true rfl ?_
    first
      | show wpAny _ _ (Bytes.buffer? "bytes.__new__" (.ref a) true >>= _) _ _ _
      | (refine wpAny_bind ?_; show wpAny _ _ (Bytes.buffer? "bytes.__new__" (.ref a) true >>= _) _ _ _)
    refine wpAny_bind (buffer_ba ho ?_)
    dsimp only
    refine wpAny_bind (wpAny_rule (wpAny_bind (wpAny_mkBytes ?_ hz)))
    show wpAny _ _ (if (Value.type "bytes" == Value.type "bytes") = true then _ else _) _ _ _
    refine bm_if_true (by decide) ?_
    first
      | exact wpAny_pure ⟨typeIs_bytes _ _ _, h _ _⟩
      | exact wpAny_bind (wpAny_pure (wpAny_pure ⟨typeIs_bytes _ _ _, h _ _⟩))
  · exact ⟨h₁.1, F.args_object_init_2 obj _, object_init_meets F.bm_called.init.lookup F.bm_called.made (by decide) prog w A.in1 _ s₁ ⟨h₁.1, rfl, h₁.2⟩⟩
end
end
section
section
variable {prog : Program} {w : World} {A : Around} {E : Value → Shared → Prop} {s : Shared} {a : Int} {t u : Tok} {Q : Value → Shared → Prop}
theorem and255 (h : Q (.int (a % 256) s.toks) { s with toks := s.toks + 1 }) : wpAny (model prog w) A (binaryOp .BitAnd (.int a t) (.int 255 u)) Q E s := and_int (by rw [bitAnd_m8]; exact h)
theorem and63 (h : Q (.int (a % 64) s.toks) { s with toks := s.toks + 1 }) : wpAny (model prog w) A (binaryOp .BitAnd (.int a t) (.int 63 u)) Q E s := and_int (by rw [bitAnd_m6]; exact h)
theorem bor128 : ∀ c : Nat, c < 64 → Builtin.bitOr 128 (c : Int) = 128 + c := by decide +kernel
theorem bor192 : ∀ c : Nat, c < 32 → Builtin.bitOr 192 (c : Int) = 192 + c := by decide +kernel
theorem bor224 : ∀ c : Nat, c < 16 → Builtin.bitOr 224 (c : Int) = 224 + c := by decide +kernel
theorem bor240 : ∀ c : Nat, c < 8 → Builtin.bitOr 240 (c : Int) = 240 + c := by decide +kernel
theorem or128 (h0 : 0 ≤ a) (h1 : a < 64) (h : Q (.int (128 + a) s.toks) { s with toks := s.toks + 1 }) : wpAny (model prog w) A (binaryOp .BitOr (.int 128 t) (.int a u)) Q E s :=
  or_int (by have := bor128 a.toNat (by omega); rw [show ((a.toNat : Nat) : Int) = a from by omega] at this; rw [this]; exact h)
theorem or192 (h0 : 0 ≤ a) (h1 : a < 32) (h : Q (.int (192 + a) s.toks) { s with toks := s.toks + 1 }) : wpAny (model prog w) A (binaryOp .BitOr (.int 192 t) (.int a u)) Q E s :=
  or_int (by have := bor192 a.toNat (by omega); rw [show ((a.toNat : Nat) : Int) = a from by omega] at this; rw [this]; exact h)
theorem or224 (h0 : 0 ≤ a) (h1 : a < 16) (h : Q (.int (224 + a) s.toks) { s with toks := s.toks + 1 }) : wpAny (model prog w) A (binaryOp .BitOr (.int 224 t) (.int a u)) Q E s :=
  or_int (by have := bor224 a.toNat (by omega); rw [show ((a.toNat : Nat) : Int) = a from by omega] at this; rw [this]; exact h)
theorem or240 (h0 : 0 ≤ a) (h1 : a < 8) (h : Q (.int (240 + a) s.toks) { s with toks := s.toks + 1 }) : wpAny (model prog w) A (binaryOp .BitOr (.int 240 t) (.int a u)) Q E s :=
  or_int (by have := bor240 a.toNat (by omega); rw [show ((a.toNat : Nat) : Int) = a from by omega] at this; rw [this]; exact h)
theorem fdiv_pos {a b : Int} (hb : 0 ≤ b) : a.fdiv b = a / b := Int.fdiv_eq_ediv_of_nonneg a hb
theorem shr6 (h : Q (.int (a / 64) s.toks) { s with toks := s.toks + 1 }) : wpAny (model prog w) A (binaryOp .RShift (.int a t) (.int 6 u)) Q E s := rshift_int (by decide) (by rw [show (2 : Int) ^ Int.toNat 6 = 64 from by decide, fdiv_pos (by decide)]; exact h)
theorem shr12 (h : Q (.int (a / 4096) s.toks) { s with toks := s.toks + 1 }) : wpAny (model prog w) A (binaryOp .RShift (.int a t) (.int 12 u)) Q E s := rshift_int (by decide) (by rw [show (2 : Int) ^ Int.toNat 12 = 4096 from by decide, fdiv_pos (by decide)]; exact h)
theorem shr18 (h : Q (.int (a / 262144) s.toks) { s with toks := s.toks + 1 }) : wpAny (model prog w) A (binaryOp .RShift (.int a t) (.int 18 u)) Q E s := rshift_int (by decide) (by rw [show (2 : Int) ^ Int.toNat 18 = 262144 from by decide, fdiv_pos (by decide)]; exact h)
theorem ishr8 (h : Q (.int (a / 256) s.toks) { s with toks := s.toks + 1 }) : wpAny (model prog w) A (inplaceOp .RShift (.int a t) (.int 8 u)) Q E s := irshift_int (by decide) (by rw [show (2 : Int) ^ Int.toNat 8 = 256 from by decide, fdiv_pos (by decide)]; exact h)
end
/-- the map of a loop's turn, one stored name and the loop's own told -/
theorem st_turn {z x : Str} {v w : Value} {m₁ m₀ : Str → Option Value} (h : m₁ z = some v) :
    (fun y => if y = x then some w else if [z, x].contains y = true then m₁ y else m₀ y) = (fun y => if y = x then some w else if y = z then some v else m₀ y) := by
  funext y
  by_cases h1 : y = x
  · simp [h1]
  · by_cases h2 : y = z
    · subst h2; simp [h1, h]
    · simp [h1, h2]
theorem st_done {z x : Str} {v : Value} {m₁ m₀ : Str → Option Value} (h : m₁ z = some v) :
    (fun y => if [z, x].contains y = true then m₁ y else m₀ y) = (fun y => if y = z then some v else if y = x then m₁ y else m₀ y) := by
  funext y
  by_cases h2 : y = z
  · subst h2; simp [h]
  · by_cases h1 : y = x
    · subst h1; simp [h2]
    · simp [h1, h2]
theorem ints_snoc {vs : List Value} {ns : List Int} (h : IntsAre vs ns) (y : Int) (t : Tok) : IntsAre (vs ++ [.int y t]) (ns ++ [y]) := by
  induction h with
  | nil => exact .cons y t .nil
  | cons z u _ ih => exact .cons z u ih
theorem ints_rev {vs : List Value} {ns : List Int} (h : IntsAre vs ns) : IntsAre vs.reverse ns.reverse := by
  induction h with
  | nil => exact .nil
  | cons z u _ ih => rw [List.reverse_cons, List.reverse_cons]; exact ints_snoc ih z u
/-- the eight octets of a number, lowest first -/
noncomputable def lows (x : Int) (i : Nat) : List Int := (List.range i).map fun j => x / 256 ^ j % 256
theorem lows_succ (x : Int) (i : Nat) : lows x (i + 1) = lows x i ++ [x / 256 ^ i % 256] := by simp [lows, List.range_succ]
theorem lows_in (x : Int) (i : Nat) : KBa.In (lows x i) := by
  intro n hn
  simp only [lows, List.mem_map] at hn
  obtain ⟨j, _, rfl⟩ := hn
  omega
theorem lows_len (x : Int) (i : Nat) : (lows x i).length = i := by simp [lows]
noncomputable def put8 (x : Int) : Array UInt8 := byteArr (lows x 8).reverse
theorem in_rev {ns : List Int} (h : KBa.In ns) : KBa.In ns.reverse := fun n hn => h n (List.mem_reverse.mp hn)
theorem strs_of {P : Str → Prop} : ∀ {vs : List Value}, (∀ v ∈ vs, StrIn P v) → ∃ ys, StrsAre vs ys ∧ ∀ x ∈ ys, P x
  | [], _ => ⟨[], .nil, fun _ h => nomatch h⟩
  | v :: r, h => by
    obtain ⟨x, t, rfl, hx⟩ := h v (.head _)
    obtain ⟨ys, h1, h2⟩ := strs_of (vs := r) fun v hv => h v (.tail _ hv)
    exact ⟨x :: ys, .cons x t h1, fun z hz => by
      rcases List.mem_cons.mp hz with rfl | hz
      · exact hx
      · exact h2 z hz⟩
theorem ints_of {lo hi : Int} : ∀ {vs : List Value}, (∀ v ∈ vs, IntIn lo hi v) → ∃ ys, IntsAre vs ys ∧ ∀ x ∈ ys, lo ≤ x ∧ x ≤ hi
  | [], _ => ⟨[], .nil, fun _ h => nomatch h⟩
  | v :: r, h => by
    obtain ⟨x, t, rfl, hx⟩ := h v (.head _)
    obtain ⟨ys, h1, h2⟩ := ints_of (vs := r) fun v hv => h v (.tail _ hv)
    exact ⟨x :: ys, .cons x t h1, fun z hz => by
      rcases List.mem_cons.mp hz with rfl | hz
      · exact hx
      · exact h2 z hz⟩
theorem join_good : ∀ {ys : List Str}, (∀ x ∈ ys, SignP x) → (Str.join Str.empty ys).cps.size ≤ ys.length ∧ ∀ d ∈ (Str.join Str.empty ys).cps.toList, d < 1114112
  | [], _ => ⟨Nat.zero_le _, fun d hd => nomatch hd⟩
  | [x], h => h x (.head _)
  | x :: y :: r, h => by
    have ih := join_good (ys := y :: r) fun z hz => h z (.tail _ hz)
    have hx := h x (.head _)
    have e : (Str.join Str.empty (x :: y :: r)).cps = x.cps ++ (Str.join Str.empty (y :: r)).cps := by
      show (x ++ Str.empty ++ Str.join Str.empty (y :: r)).cps = _
      rw [Str.cps_append, Str.cps_append]
      simp [Str.empty]
    rw [e]
    refine ⟨?_, fun d hd => ?_⟩
    · rw [Array.size_append]
      have := hx.1
      simp only [List.length_cons] at ih ⊢
      omega
    · rw [Array.toList_append] at hd
      rcases List.mem_append.mp hd with hd | hd
      · exact hx.2 d hd
      · exact ih.2 d hd
theorem sum_le {ys : List Str} (h : ∀ x ∈ ys, SignP x) : (ys.map (·.length)).sum ≤ ys.length := by
  induction ys with
  | nil => exact Nat.le_refl _
  | cons x r ih =>
    have h1 := (h x (.head _)).1
    have h2 := ih fun z hz => h z (.tail _ hz)
    simp only [List.map_cons, List.sum_cons, List.length_cons, Str.length]
    simp only [Str.length] at h2
    omega
theorem join_w {ys : List Str} (h : ∀ x ∈ ys, SignP x) (hl : ys.length ≤ 1000) : (ys.map (·.length)).sum + ys.length ≤ 1048576 := by
  have := sum_le h
  omega
theorem join_good3 {ys : List Str} {k : Nat} {t : Tok} (h : ∀ x ∈ ys, SignP x) (hl : ys.length ≤ k) : Good k (.str (Str.join Str.empty ys) t) :=
  Good.str (Nat.le_trans (join_good h).1 hl) (join_good h).2
theorem byte_good {ns : List Int} {k : Nat} {t : Tok} (hl : ns.length ≤ k) : Good k (.bytes (byteArr ns) t) := Good.bytes (by simpa [byteArr] using hl)
theorem in_of {ns : List Int} (h : ∀ x ∈ ns, 0 ≤ x ∧ x ≤ 255) : KBa.In ns := fun n hn => ⟨(h n hn).1, by have := (h n hn).2; omega⟩
theorem bytes_L {prog : Program} {w : World} {A : Around} {E : Value → Shared → Prop} {s : Shared} {h₀ : Heap} {L D : Addr} {m : Str → Option Value} {news : Led} {vs : List Value} {ns : List Int} {n : Nat} {Q : Value → Shared → Prop} (F : Fr h₀ L s.heap m) (N : News h₀ L s.heap news) (hh : A.handled = none)
    (hm : (D, W.listOf vs.toArray n) ∈ news) (hi : IntsAre vs ns) (hr : KBa.In ns) (hn : ns.length ≤ 1000)
    (h : ∀ h' t' k, Fr h₀ L h' m → News h₀ L h' news → Q (.bytes (byteArr ns) t') { s with heap := h', toks := k }) : wpAny (model prog w) A (call (.type "bytes") [.ref D]) Q E s :=
  KBa.make_K F N hh (PySem.IsL.isList (n := n) (N _ hm).1) hi hr (by omega) fun h' t' k F' N' _ => h h' t' k F' N'
theorem ediv_pow (x : Int) (i : Nat) : x / 256 ^ i / 256 = x / 256 ^ (i + 1) := by
  rw [Int.ediv_ediv_of_nonneg (Int.le_of_lt (Int.pow_pos (by decide))), Int.pow_succ]
theorem off_le {a d : Addr} {l : Led} (h : AllLt d l) (hd : d ≤ a) : Off a l := by
  induction l with
  | nil => exact Off.nil
  | cons p r ih => exact Off.cons (Nat.ne_of_lt (Nat.lt_of_lt_of_le h.1 hd)) (ih h.2)
theorem off_le2 {d : Addr} {l : Led} (h : AllLt d l) : Off (d + 1 + 1) l := off_le h (Nat.le_succ_of_le (Nat.le_succ d))
theorem cend4 {h₀ h : Heap} {L src I C D : Addr} {o oI oC oD : Obj} {rest : Led} (N : News h₀ L h ((src, o) :: (I, oI) :: (C, oC) :: (D, oD) :: rest)) : News h₀ L h ((I, oI) :: (C, oC) :: (D, oD) :: (src, o) :: rest) := by
  intro p hp
  apply N
  simp only [List.mem_cons] at hp ⊢
  rcases hp with h | h | h | h | h <;> simp [h]
theorem cend5 {h₀ h : Heap} {L src I C D l : Addr} {o oI oC oD ol : Obj} {rest : Led} (N : News h₀ L h ((src, o) :: (l, ol) :: (I, oI) :: (C, oC) :: (D, oD) :: rest)) : News h₀ L h ((I, oI) :: (C, oC) :: (D, oD) :: (src, o) :: rest) := by
  intro p hp
  apply N
  simp only [List.mem_cons] at hp ⊢
  rcases hp with h | h | h | h | h <;> simp [h]
theorem trim7 {h₀ h : Heap} {L : Addr} {a b c x1 x2 x3 x4 x5 x6 x7 : Addr × Obj} {r : Led} (N : News h₀ L h (a :: b :: c :: x1 :: x2 :: x3 :: x4 :: x5 :: x6 :: x7 :: r)) : News h₀ L h (a :: b :: c :: r) := by
  intro p hp
  apply N
  simp only [List.mem_cons] at hp ⊢
  rcases hp with h | h | h | h <;> simp [h]
theorem range_small {d : Int} (h0 : 0 ≤ d) (h1 : d < 1000) : Builtin.Range.small 0 d 1 = true := by
  have : ∀ n : Nat, n < 1000 → Builtin.Range.small 0 (n : Int) 1 = true := by decide +kernel
  have := this d.toNat (by omega)
  rwa [show ((d.toNat : Nat) : Int) = d from by omega] at this
theorem range_size {d : Int} (h0 : 0 ≤ d) (h1 : d < 1000) : Builtin.Range.rangeSize 0 d 1 = ((d.toNat : Nat) : Int) := by
  have : ∀ n : Nat, n < 1000 → Builtin.Range.rangeSize 0 (n : Int) 1 = (n : Int) := by decide +kernel
  have := this d.toNat (by omega)
  rwa [show ((d.toNat : Nat) : Int) = d from by omega] at this ⊢
theorem reverse_L {prog : Program} {w : World} {A : Around} {E : Value → Shared → Prop} {s : Shared} {h₀ : Heap} {L D : Addr} {m : Str → Option Value} {news rest : Led} {vs : List Value} {n : Nat} {Q : Value → Shared → Prop} (F : Fr h₀ L s.heap m) (N : News h₀ L s.heap news) (P : Pull (D, W.listOf vs.toArray n) news rest) (hd : Off D rest) (hz : vs.length ≤ 1000)
    (h : ∀ h', Fr h₀ L h' m → News h₀ L h' ((D, W.listOf vs.reverse.toArray n) :: rest) → Q .none { s with heap := h' }) : wpAny (model prog w) A (call (.builtin "list.reverse") [.ref D]) Q E s :=
  kl_reverse F (news_pull N P) rfl (.head hd) (by rw [sizeLine_eq]; show vs.length ≤ _; omega) h
end
section
section
variable {prog : Program} {w : World} {A : Around} {E : Value → Shared → Prop} {s : Shared} {h₀ : Heap} {L : Addr} {m : Str → Option Value} {env : Env}
/-- over a text's signs, the iterator told whole -/
theorem iter_signs {x : Str} {t : Tok} {Q : Value → Shared → Prop}
    (hQ : ∀ (o : Obj) (St : Nat → Heap → Prop), (∀ A' : Around, A'.handled = none → Walks prog w A' s.heap.objs.size [s.heap.objs.size] [s.heap.objs.size] x.cps.size (SignAt x) St) → St 0 (s.heap.push o) →
      (∀ i h, St i h → ∃ o, h.get? s.heap.objs.size = some o) → (∀ i h h' o, St i h → h.get? s.heap.objs.size = some o → h'.get? s.heap.objs.size = some o → St i h') → Q (.ref s.heap.objs.size) { s with heap := s.heap.push o }) :
    wpAny (model prog w) A (pyIter (.str x t)) Q E s := by
  have st : ∀ T i (h h' : Heap) o, h.IsStrIter s.heap.objs.size T x t i → h.get? s.heap.objs.size = some o → h'.get? s.heap.objs.size = some o → h'.IsStrIter s.heap.objs.size T x t i := by
    rintro T i h h' o ⟨o', e, r⟩ e1 e2
    rw [e1] at e
    cases e
    exact ⟨o, e2, r⟩
  cases ha : x.cps.all (· < 128)
  · exact wpAny_pyIter_wide ha (hQ _ _ (fun A' hA => Walks.strWide hA _ x t) ⟨_, Heap.get?_push_size _ rfl, rfl, rfl⟩ (fun _ _ ⟨o, e, _⟩ => ⟨o, e⟩) (st _))
  · exact wpAny_pyIter_ascii ha (hQ _ _ (fun A' hA => Walks.strAscii hA _ x t) ⟨_, Heap.get?_push_size _ rfl, rfl, rfl⟩ (fun _ _ ⟨o, e, _⟩ => ⟨o, e⟩) (st _))
/-- a name set to a list made of a text's signs -/
noncomputable def SignSrc (prog : Program) (w : World) (A : Around) (h₀ : Heap) (L : Addr) (m : Str → Option Value) (env : Env) (elt : Expr) (x : Str) (scope : Scope) (cl : List (Str × Addr)) (y : Str) (Q : Flow → Shared → Prop) (xv : Value) (s₁ : Shared) : Prop :=
  ∃ xt tx news, xv = .str xt tx ∧ A.handled = none ∧ Fr h₀ L s₁.heap m ∧ News h₀ L s₁.heap news ∧ xt.cps.size ≤ sizeLine ∧
    ∀ g, LCg.CompRest prog w A h₀ L m env elt x scope cl { s₁ with heap := g } (fun _ => True) (SignAt xt) (LCg.FinA h₀ L m { s₁ with heap := g } y Q) xt.cps.size 0 [] news
theorem Assign_signs {elt iter : Expr} {x y : Str} {px py : Pos} {scope : Scope} {cl : List (Str × Addr)} {pos spos : Pos} {Q : Flow → Shared → Prop} (F₀ : Fr h₀ L s.heap m) (hLe : env.locals = L)
    (hsw : swapsWith (.ListComp elt [⟨.Name x px, iter, [], 0⟩] scope pos) (some (.Name y py)) spos.line env = pure true)
    (hclos : closureFor scope env = pure cl) (hcell : ∀ z ∈ scope.names, z.2 ≠ .cell) (hkind : scope.kind = .function)
    (hnames : ∀ z ∈ scope.names, z.2 = .local → scope.names.lookup z.1 = some .local) (hx : scope.names.lookup x = some .local)
    (hy : env.kindOf y = some .local) (hp : (env.scope.kind == .class || (env.scope.kind == .module && env.locals != env.globals)) = false)
    (h : wpAny (model prog w) A (eval iter env) (SignSrc prog w A h₀ L m env elt x scope cl y Q) E s)
    (hs : ∀ x, foldedSetIterable iter env x = pure x := by intro _; rfl) :
    wpAny (model prog w) A (exec (.Assign [.Name y py] (.ListComp elt [⟨.Name x px, iter, [], 0⟩] scope pos) spos) env) Q E s := by
  subst hLe
  rw [exec_Assign_Name_used _ _ _ _ hsw]
  refine wpAny_bind (wpAny_standAt (wpAny_bind ?_))
  show wpAny _ A (do let _ ← comprehension (.ListComp elt [⟨.Name x px, iter, [], 0⟩] scope pos) scope env _ (newList []) false (eval iter env) (some (assign (.Name y py) env))) _ _ s
  refine wpAny_bind (wpAny_mono (wpAny_comprehension_free (use := some (assign (.Name y py) env)) (Q := fun _ s' => Q .next s') rfl hs hclos hkind hnames
    (wpAny_mono h (fun xv s₁ h₁ => ?_) fun _ _ e => e)) (fun _ s' hq => wpAny_pure (wpAny_pure hq)) fun _ _ e => e)
  obtain ⟨xt, tx, news, rfl, hh, F, N, hsz, R⟩ := h₁
  refine iter_signs fun o St W st0 hIo hSt => ?_
  refine LCg.block_U (W A hh) hsz hIo (fun i h h' o nw a b c _ _ _ => hSt i h h' o a b c) hcell hkind hx st0 (fun b hb => ?_)
    (F.keeps fun _ _ e => Heap.get?_push_of_some _ e) (N.grown fun _ _ e => Heap.get?_push_of_some _ e) (Nat.ne_of_lt F.ns.lt) (next_is_new F) (fun p hp => Nat.ne_of_lt (Heap.lt_size (N p hp).1)) trivial (R _) ?_
  · rw [List.mem_singleton.mp hb]
    show s₁.heap.objs.size < (s₁.heap.push _).objs.size
    rw [Heap.size_push]; exact Nat.lt_succ_self _
  · intro D C h' tk m' ys news' F' N' o1 hn hC₀ hD₀ hCL hDL hCD offC fin
    show wpAny _ A (assign (.Name y py) env (.ref D)) _ _ _
    refine wpAny_assign_Name (wpAny_storeName_local hy F'.ns (fun h₂ hn₂ hs₂ => ?_) hp)
    have hL₀ : h₀.get? env.locals = none := Heap.get?_none_of_le F'.above
    have F₂ : Fr h₀ env.locals h₂ (fun z => if z = y then some (.ref D) else m z) := ⟨hn₂, fun b o e => hs₂.extBut b o (fun q => by rw [q, hL₀] at e; cases e) (F'.keep b o e), F'.above⟩
    refine ⟨m', hn.sameBut hs₂ hCL, fun h'' hs'' => fin D h'' _ (F₂.change hs'' hCL hC₀) (fun p hp => ?_) o1⟩
    have z : h₂.get? p.1 = some p.2 := hs₂.extBut _ _ (N' p hp).2.1 (N' p hp).1
    refine ⟨hs''.extBut _ _ ?_ z, (N' p hp).2⟩
    rcases List.mem_cons.mp hp with rfl | hp
    · exact Ne.symm hCD
    · exact offC p hp
/-- the end of an element that makes nothing -/
noncomputable def IEnd (h₀ : Heap) (L : Addr) (m : Str → Option Value) (s₁ : Shared) (nx : Led) (z : Int) (y : Value) (s₂ : Shared) : Prop :=
  ∃ h' tk' t, y = .int z t ∧ s₂ = { s₁ with heap := h', toks := tk' } ∧ Fr h₀ L h' m ∧ News h₀ L h' nx
/-- a comprehension whose elements make nothing: its ints told one by one -/
theorem comp_ints {S : Led → Prop} {P : Nat → Value → Prop} {Fin : List Value → Led → Prop} {n : Nat} {nx : Led} {elt : Expr} {x : Str} {scope : Scope} {cl : List (Str × Addr)} (g : Nat → Int) (hS : S nx)
    (step : ∀ i ys, i < n → ys.length = i → ∀ v I oI C oC D m₂ h tk (E' : Value → Shared → Prop), P i v → LCg.NsObj oC m₂ → m₂ x = some v → Fr h₀ L h m → News h₀ L h ((I, oI) :: (C, oC) :: (D, LCg.lst ys) :: nx) → LCg.Off3 I C D nx → ((@Ne Nat I C) ∧ (@Ne Nat I D) ∧ (@Ne Nat C D)) →
      wpAny (model prog w) A (eval elt (compEnvC scope cl C env)) (IEnd h₀ L m { s with heap := h, toks := tk } ((I, oI) :: (C, oC) :: (D, LCg.lst ys) :: nx) (g i)) E' { s with heap := h, toks := tk })
    (fin : ∀ ys, IntsAre ys ((List.range n).map g) → Fin ys nx) :
    LCg.CompRest prog w A h₀ L m env elt x scope cl s S P Fin n 0 [] nx := by
  refine comp_inv (n := n) (fun i ys nx' => nx' = nx ∧ IntsAre ys ((List.range i).map g)) ?_ ?_ n 0 [] nx (by omega) rfl ⟨rfl, .nil⟩
  · rintro i ys nx' hi hl ⟨rfl, hI⟩ v I oI C oC D m₂ h tk E' hP hC hx F N off ne
    refine wpAny_mono (step i ys hi hl v I oI C oC D m₂ h tk E' hP hC hx F N off ne) (fun y s₂ hy => ?_) fun _ _ e => e
    obtain ⟨h', tk', t, rfl, rfl, F', N'⟩ := hy
    refine ⟨h', tk', _, rfl, F', N', off, hS, rfl, ?_⟩
    rw [List.range_succ, List.map_append]
    exact ints_snoc hI _ _
  · rintro ys nx' hl ⟨rfl, hI⟩
    exact fin ys hI
end
/-- a fresh list of ints back -/
inductive RInts (ns : List Int) (news : Led) : Value → Led → Prop
  | mk (l : Addr) (vs : List Value) (n : Nat) (hi : IntsAre vs ns) (hl : Off l news) : RInts ns news (.ref l) ((l, W.listOf vs.toArray n) :: news)
noncomputable def codes (x : Str) : List Int := x.cps.toList.map fun c : Nat => (c : Int)
theorem codes_range (x : Str) : ((List.range x.cps.size).map fun i => (((x.cps[i]?).getD 0 : Nat) : Int)) = codes x := by
  apply List.ext_getElem
  · simp [codes]
  · intro i h1 h2
    simp at h1
    simp [codes, h1]
theorem item_I {prog : Program} {w : World} {A : Around} {E : Value → Shared → Prop} {s : Shared} {h₀ : Heap} {L l : Addr} {news : Led} {vs : List Value} {ns : List Int} {n : Nat} {value slice : Expr} {k : Int} {u : Tok} {Q : Value → Shared → Prop} (N : News h₀ L s.heap news) (hm : (l, W.listOf vs.toArray n) ∈ news) (hi : IntsAre vs ns) (hfit : vs.length < 2 ^ 62) (h0 : 0 ≤ k) (h1 : k < vs.length)
    (h : ∀ z t, ns[k.toNat]? = some z → Q (.int z t) s)
    (hs : subscripted slice false (.ref l) (.int k u) = operate [.ref l, .int k u] (getItem (.ref l) (.int k u)) := by with_unfolding_all rfl) (hg : ∀ r, letTemporaryGo value (.ref l) r = pure () := by intro _; with_unfolding_all rfl) :
    wpAny (model prog w) A (subscriptTail value slice (.ref l) (.int k u)) Q E s :=
  item_L N hm hfit h0 h1 (fun v hv => by
    obtain ⟨z, t, e, hk⟩ := IntsAre.at hi _ v hv
    rw [e]; exact h z t hk) hs hg
/-- a source made -/
inductive RPool (news : Led) : Value → Led → Prop
  | mk (l : Addr) (a b : Int) (ta tb : Tok) (n : Nat) (b0 : 0 ≤ b) (b1 : b < 2147483647) (hl : Off l news) : RPool news (.ref l) ((l, W.listOf #[.int a ta, .int b tb] n) :: news)
theorem use_RInts {w : World} {loose : List Str} {mean : ExcName → Option Value} {mg mb : Str → Option Value} {f : Addr} {N : Nat} {us : List Value} {news : Led} {ns : List Int} {rest : Led} {dp un : Nat} {gd : Option (List Code)} {cn : Str} {cs : Scope} {z : Addr} {ccd : Value} {cl : List (Str × Addr)} {outer : List Env} {A₀ : Around} {base h₀ h : Heap} {L : Addr} {m : Str → Option Value} {ge : Array GenState} {dr : Drawn} {tk : Nat} {os : OsState} {Q E : Value → Shared → Prop}
    (lem : Does w loose mean mg mb f N us news (RInts ns rest)) (k1 : Below A₀ base outer h₀) (k2 : Fr h₀ L h m) (k3 : (hd.heap_39 w.params).In h₀) (k4 : News h₀ L h news) (k5 : Top hd.view_39 loose mean mg mb h₀) (kK : cs.kind = .function) (kd : dp + N < recursionLimit) (ku : un + 8 * N < cLine)
    (k : ∀ (h9 : Heap) (tk9 : Nat), Fr h₀ L h9 m → ∀ (l : Addr) (vs : List Value) (n : Nat) (hi : IntsAre vs ns) (hl : Off l rest), News h₀ L h9 ((l, W.listOf vs.toArray n) :: rest) → Q (.ref l) ⟨h9, ge, dr, tk9, os⟩) : wpAny (model PROG w) (ktrTop dp un gd cn cs L z ccd cl outer) (call (.ref f) us) Q E ⟨h, ge, dr, tk, os⟩ :=
  lem dp un gd cn cs z ccd cl outer A₀ base h₀ L m ⟨h, ge, dr, tk, os⟩ Q E k1 k2 k3 k4 k5 kK kd ku fun _ _ h9 tk9 hR F N => by
    cases hR
    exact k h9 tk9 F _ _ _ (by assumption) (by assumption) N
theorem use_RPool {w : World} {loose : List Str} {mean : ExcName → Option Value} {mg mb : Str → Option Value} {f : Addr} {N : Nat} {us : List Value} {news : Led} {rest : Led} {dp un : Nat} {gd : Option (List Code)} {cn : Str} {cs : Scope} {z : Addr} {ccd : Value} {cl : List (Str × Addr)} {outer : List Env} {A₀ : Around} {base h₀ h : Heap} {L : Addr} {m : Str → Option Value} {ge : Array GenState} {dr : Drawn} {tk : Nat} {os : OsState} {Q E : Value → Shared → Prop}
    (lem : Does w loose mean mg mb f N us news (RPool rest)) (k1 : Below A₀ base outer h₀) (k2 : Fr h₀ L h m) (k3 : (hd.heap_39 w.params).In h₀) (k4 : News h₀ L h news) (k5 : Top hd.view_39 loose mean mg mb h₀) (kK : cs.kind = .function) (kd : dp + N < recursionLimit) (ku : un + 8 * N < cLine)
    (k : ∀ (h9 : Heap) (tk9 : Nat), Fr h₀ L h9 m → ∀ (l : Addr) (a b : Int) (ta tb : Tok) (n : Nat) (b0 : 0 ≤ b) (b1 : b < 2147483647) (hl : Off l rest), News h₀ L h9 ((l, W.listOf #[.int a ta, .int b tb] n) :: rest) → Q (.ref l) ⟨h9, ge, dr, tk9, os⟩) : wpAny (model PROG w) (ktrTop dp un gd cn cs L z ccd cl outer) (call (.ref f) us) Q E ⟨h, ge, dr, tk, os⟩ :=
  lem dp un gd cn cs z ccd cl outer A₀ base h₀ L m ⟨h, ge, dr, tk, os⟩ Q E k1 k2 k3 k4 k5 kK kd ku fun _ _ h9 tk9 hR F N => by
    cases hR
    exact k h9 tk9 F _ _ _ _ _ _ (by assumption) (by assumption) (by assumption) N
end
section
section
variable {vs : List Value} {x y : Int}
theorem pick_take (h : 0 ≤ y) : (slicePick vs.toArray none (some y) none).toList = vs.take y.toNat := by
  have e : sliceBounds none (some y) none vs.toArray.size = (((0 : Nat) : Int), ((min y.toNat vs.toArray.size : Nat) : Int), 1) := by
    simp only [sliceBounds, Option.getD_none, show (1 : Int) > 0 by decide, if_true, if_neg (show ¬ (y < 0) by omega)]
    congr 1
    congr 1
    omega
  rw [kmk_pick_nat _ e]
  show (vs.drop 0).take (min y.toNat vs.toArray.size - 0) = _
  rw [List.drop_zero, Nat.sub_zero, List.size_toArray, kmk_take_min]
theorem pick_init (h : y = -1) : (slicePick vs.toArray none (some y) none).toList = vs.dropLast := by
  subst h
  have e : sliceBounds none (some (-1)) none vs.toArray.size = (((0 : Nat) : Int), ((vs.toArray.size - 1 : Nat) : Int), 1) := by
    simp only [sliceBounds, Option.getD_none, show (1 : Int) > 0 by decide, if_true, if_pos (show (-1 : Int) < 0 by decide)]
    congr 1
    congr 1
    omega
  rw [kmk_pick_nat _ e]
  show (vs.drop 0).take (vs.toArray.size - 1 - 0) = _
  rw [List.drop_zero, Nat.sub_zero, List.size_toArray, List.dropLast_eq_take]
theorem pick_drop (h : 0 ≤ x) : (slicePick vs.toArray (some x) none none).toList = vs.drop x.toNat := by
  have e : sliceBounds (some x) none none vs.toArray.size = (((min x.toNat vs.toArray.size : Nat) : Int), ((vs.toArray.size : Nat) : Int), 1) := by
    simp only [sliceBounds, Option.getD_none, show (1 : Int) > 0 by decide, if_true, if_neg (show ¬ (x < 0) by omega)]
    congr 1
    omega
  rw [kmk_pick_nat _ e]
  show (vs.drop (min x.toNat vs.toArray.size)).take (vs.toArray.size - min x.toNat vs.toArray.size) = _
  rw [List.size_toArray, kmk_drop_min, List.take_of_length_le (by rw [List.length_drop]; omega)]
end
section
variable {prog : Program} {w : World} {A : Around} {E : Value → Shared → Prop} {s : Shared} {h₀ : Heap} {L l : Addr} {m : Str → Option Value} {news : Led} {vs zs : List Value} {ns : List Int} {n : Nat} {value slice : Expr} {lo hi : Option Int} {vl vu : Value} {k : Int} {u : Tok} {Q : Value → Shared → Prop}
theorem slice_L (F : Fr h₀ L s.heap m) (N : News h₀ L s.heap news) (hm : (l, W.listOf vs.toArray n) ∈ news) (pl : IsPart vl lo) (pu : IsPart vu hi) (e : (slicePick vs.toArray lo hi none).toList = zs)
    (h : ∀ D h', Fr h₀ L h' m → News h₀ L h' ((D, W.listOf zs.toArray 0) :: news) → (∀ p ∈ news, p.1 < D) → Q (.ref D) { s with heap := h' })
    (hs : subscripted slice false (.ref l) (.ref s.heap.objs.size) = operate [.ref s.heap.objs.size, .ref l] (getItem (.ref l) (.ref s.heap.objs.size))) (ht : ∀ r, letTemporaryGo value (.ref l) r = pure ()) (hz : vs.length ≤ 1000) :
    wpAny (model prog w) A (subscriptTail value slice (.ref l) (.ref s.heap.objs.size)) Q E { s with heap := s.heap.push { cls := .type "slice", data := .fields #[vl, vu, .none] } } :=
  kmk_slice_lit F N (PySem.IsL.isList (n := n) (N _ hm).1) pl pu e h hs ht (by rw [List.size_toArray, sizeLine_eq]; omega)
theorem item_last (N : News h₀ L s.heap news) (hm : (l, W.listOf vs.toArray n) ∈ news) (hk : k = -1) (hi : IntsAre vs ns) (h0 : ns ≠ [])
    (h : ∀ z t, ns.getLast? = some z → Q (.int z t) s)
    (hs : subscripted slice false (.ref l) (.int k u) = operate [.ref l, .int k u] (getItem (.ref l) (.int k u)) := by with_unfolding_all rfl) :
    wpAny (model prog w) A (subscriptTail value slice (.ref l) (.int k u)) Q E s := by
  have hL := PySem.IsL.isList (n := n) (N _ hm).1
  have hl := hi.length
  have hp : 0 < ns.length := List.length_pos_iff.mpr h0
  have hx : vs[vs.length - 1]? = some vs[vs.length - 1] := by simp
  obtain ⟨z, t, e, hz⟩ := IntsAre.at hi _ _ hx
  refine tail_any hL.typeIs slot_list_getitem.lookup (wpAny_getItem_list_neg hL (x := vs[vs.length - 1]) (by omega) (by rw [List.size_toArray]; omega) (by omega) ?_ ?_) hs
  · rw [List.size_toArray, show (k + (vs.length : Int)).toNat = vs.length - 1 from by omega]
    simpa using hx
  · rw [e]
    exact h z t (by rw [List.getLast?_eq_getElem?, ← hl]; exact hz)
theorem ne_nil_L {a b : Addr} {n n' : Nat} (N : News h₀ L s.heap news) (ha : (a, W.listOf vs.toArray n) ∈ news) (hb : (b, W.listOf #[] n') ∈ news) (hi : IntsAre vs ns) (hu : A.units + 64 < cLine)
    (h : Q (.bool (!decide (ns = []))) s) : wpAny (model prog w) A (compareOp .NotEq (.ref a) (.ref b)) Q E s :=
  ne_intsK (vs := vs) (us := []) (PySem.IsL.isList (n := n) (N _ ha).1) hi (PySem.IsL.isList (n := n') (N _ hb).1) .nil hu h
end
theorem off_of1 {D : Addr} : ∀ {l : Led}, LCg.Off1 D l → Off D l
  | [], _ => Off.nil
  | _ :: _, h => Off.cons h.1 (off_of1 h.2)
noncomputable def lowI (z : Int) : Int := if 65 ≤ z ∧ z ≤ 90 then z + 32 else z
theorem codes_fold (x : Str) : codes (foldS x) = (codes x).map lowI := by
  simp only [codes, foldS, Array.toList_map, List.map_map]
  apply List.map_congr_left
  intro c _
  simp only [Function.comp, lowI, foldC]
  split <;> split <;> omega
theorem codes_len (x : Str) : (codes x).length = x.cps.size := by simp [codes]
theorem map_getD {ns : List Int} (f : Int → Int) {n : Nat} (h : n = ns.length) : ((List.range n).map fun i => f ((ns[i]?).getD 0)) = ns.map f := by
  subst h
  apply List.ext_getElem
  · simp
  · intro i h1 h2
    simp at h1
    simp [h1]
noncomputable def rtI (l : List Int) : List Int := (l.reverse.dropWhile (· == 32)).reverse
theorem rtI_snoc (l : List Int) (c : Int) : rtI (l ++ [c]) = if c = 32 then rtI l else l ++ [c] := by
  unfold rtI
  rw [List.reverse_append, List.reverse_singleton, List.singleton_append, List.dropWhile_cons]
  by_cases h : c = 32
  · simp [h]
  · simp [h]
theorem rtI_stay {l : List Int} (h : l = [] ∨ ∃ z, l.getLast? = some z ∧ z ≠ 32) : rtI l = l := by
  rcases h with rfl | ⟨z, hz, hn⟩
  · rfl
  · have : l = l.dropLast ++ [z] := by
      have hne : l ≠ [] := by rintro rfl; simp at hz
      have := List.dropLast_concat_getLast hne
      rw [List.getLast?_eq_some_getLast hne] at hz
      rw [← Option.some.inj hz]; exact this.symm
    rw [this, rtI_snoc, if_neg hn]
theorem rtI_turn {l : List Int} (h : l.getLast? = some 32) : rtI l.dropLast = rtI l := by
  have hne : l ≠ [] := by rintro rfl; simp at h
  have := List.dropLast_concat_getLast hne
  rw [List.getLast?_eq_some_getLast hne] at h
  rw [Option.some.inj h] at this
  conv => rhs; rw [← this, rtI_snoc, if_pos rfl]
theorem codes_rt (x : Str) : codes ⟨(rtL x.cps.toList).toArray⟩ = rtI (codes x) := by
  simp only [codes, rtL, rtI]
  rw [← List.map_reverse, List.map_reverse]
  congr 1
  generalize x.cps.toList.reverse = l
  induction l with
  | nil => rfl
  | cons c r ih =>
    simp only [List.dropWhile_cons, List.map_cons]
    by_cases h : c = 32
    · subst h; simpa using ih
    · have : ¬ (c : Int) = 32 := by omega
      simp [h, this]
theorem ints_init {vs : List Value} {ns : List Int} (h : IntsAre vs ns) : IntsAre vs.dropLast ns.dropLast := by
  rw [List.dropLast_eq_take, List.dropLast_eq_take, h.length]
  exact h.take _
end
section
noncomputable abbrev tupObj (vs : List Value) (n : Nat) : Obj := { cls := .type "tuple", data := .seq vs.toArray n }
section
variable {prog : Program} {w : World} {A : Around} {E : Value → Shared → Prop} {s : Shared} {h₀ : Heap} {L l : Addr} {m : Str → Option Value} {news : Led} {vs : List Value} {n : Nat}
theorem isTup_of (N : News h₀ L s.heap news) (hm : (l, tupObj vs n) ∈ news) : IsTup s.heap l vs.toArray := ⟨_, (N _ hm).1, rfl, n, rfl⟩
theorem len_T {Q : Value → Shared → Prop} (N : News h₀ L s.heap news) (hm : (l, tupObj vs n) ∈ news) (hfit : vs.length < 2 ^ 62)
    (h : Q (.int vs.length (s.toks + 1)) { s with toks := s.toks + 1 + 1 }) : wpAny (model prog w) A (call (.builtin "len") [.ref l]) Q E s :=
  len_tuple (isTup_of N hm) (by rw [List.size_toArray]; omega) (by rw [List.size_toArray]; exact h)
theorem item_T {value slice : Expr} {k : Int} {u : Tok} {Q : Value → Shared → Prop} (N : News h₀ L s.heap news) (hm : (l, tupObj vs n) ∈ news) (hfit : vs.length < 2 ^ 62) (h0 : 0 ≤ k) (h1 : k < vs.length)
    (h : ∀ v, vs[k.toNat]? = some v → Q v s)
    (hs : subscripted slice false (.ref l) (.int k u) = operate [.ref l, .int k u] (getItem (.ref l) (.int k u)) := by with_unfolding_all rfl) :
    wpAny (model prog w) A (subscriptTail value slice (.ref l) (.int k u)) Q E s := by
  have hk : k.toNat < vs.length := by omega
  exact item_tupleT (isTup_of N hm) (by omega) (by omega) (j := k.toNat) (by simp [seqIndex?, h0, h1, show ¬ k < 0 by omega]) (List.getElem?_eq_getElem hk) (h _ (List.getElem?_eq_getElem hk)) hs
end
theorem tuple_T {prog : Program} {w : World} {A : Around} {E : Value → Shared → Prop} {s : Shared} {h₀ : Heap} {L l : Addr} {news : Led} {vs : List Value} {n : Nat} {Q : Value → Shared → Prop} (N : News h₀ L s.heap news) (hm : (l, tupObj vs n) ∈ news) (h : Q (.ref l) s) : wpAny (model prog w) A (call (.type "tuple") [.ref l]) Q E s :=
  call_tuple_tup (isTup_of N hm) h
theorem tuple_L {prog : Program} {w : World} {A : Around} {E : Value → Shared → Prop} {s : Shared} {h₀ : Heap} {L l : Addr} {m : Str → Option Value} {news : Led} {vs : List Value} {n : Nat} {Q : Value → Shared → Prop} (F : Fr h₀ L s.heap m) (N : News h₀ L s.heap news) (hm : (l, W.listOf vs.toArray n) ∈ news) (hz : vs.length ≤ 1000)
    (h : ∀ D h', Fr h₀ L h' m → News h₀ L h' ((D, tupObj vs 0) :: news) → (∀ p ∈ news, p.1 < D) → Q (.ref D) { s with heap := h' }) : wpAny (model prog w) A (call (.type "tuple") [.ref l]) Q E s :=
  kde_tupleOf F N (PySem.IsL.isList (n := n) (N _ hm).1) (by rw [List.size_toArray]; omega) rfl h
theorem news_add {h₀ h : Heap} {L : Addr} {news : Led} {p : Addr × Obj} (N : News h₀ L h news) (hp : p ∈ news) : News h₀ L h (p :: news) := fun q hq => by
  rcases List.mem_cons.mp hq with rfl | hq
  · exact N _ hp
  · exact N _ hq
/-- the first that is not 0 -/
noncomputable def ckI (g : Nat → Int) : Nat → Int
  | 0 => 0
  | n + 1 => if ckI g n ≠ 0 then ckI g n else g n
theorem ckI_succ0 {g : Nat → Int} {n : Nat} (h : ckI g n = 0) (h2 : g n = 0) : ckI g (n + 1) = 0 := by simp [ckI, h, h2]
theorem ckI_hit {g : Nat → Int} {n : Nat} (h : ckI g n = 0) (h2 : g n ≠ 0) : ∀ m, n < m → ckI g m = g n := by
  intro m
  induction m with
  | zero => intro h; omega
  | succ m ih =>
    intro hm
    by_cases e : n = m
    · subst e; simp [ckI, h]
    · have := ih (by omega)
      simp [ckI, this, h2]
theorem ckI_neg {g g' : Nat → Int} {n : Nat} (h : ∀ i, i < n → g' i = - g i) : ckI g' n = - ckI g n := by
  induction n with
  | zero => rfl
  | succ n ih =>
    have ih := ih fun i hi => h i (by omega)
    have := h n (by omega)
    simp only [ckI, ih, this]
    by_cases e : ckI g n = 0 <;> simp [e]
theorem ckI_congr {g g' : Nat → Int} {n : Nat} (h : ∀ i, i < n → g' i = g i) : ckI g' n = ckI g n := by
  induction n with
  | zero => rfl
  | succ n ih => simp only [ckI, ih fun i hi => h i (by omega), h n (by omega)]
/-- the order of two rows in one column -/
noncomputable def gK (cs : List Str) (ds : List Bool) (va vb : List Value) (i : Nat) : Int :=
  let z := cmpV (cs.getD i Str.empty) (va.getD i .none) (vb.getD i .none)
  if ds.getD i false then -z else z
theorem strs_at {vs : List Value} {xs : List Str} (h : StrsAre vs xs) : ∀ (i : Nat) (v : Value), vs[i]? = some v → ∃ x t, v = .str x t ∧ xs[i]? = some x := by
  induction h with
  | nil => intro i v hv; simp at hv
  | cons x t _ ih =>
    intro i v hv
    cases i with
    | zero => exact ⟨x, t, by simpa using hv.symm, rfl⟩
    | succ i => exact ih i v (by simpa using hv)
theorem bools_at {ds : List Bool} (i : Nat) (v : Value) (h : (ds.map Value.bool)[i]? = some v) : ∃ b, v = .bool b ∧ ds[i]? = some b := by
  rw [List.getElem?_map] at h
  obtain ⟨b, hb, rfl⟩ := Option.map_eq_some_iff.mp h
  exact ⟨b, rfl, hb⟩
noncomputable abbrev infoDict (P : Params) (k1 k2 : Tok) (tc td : Addr) : Obj := dictOf [⟨PyData.keyHash P (Str.ofString "collations"), .str (Str.ofString "collations") k1, .ref tc⟩, ⟨PyData.keyHash P (Str.ofString "descending"), .str (Str.ofString "descending") k2, .ref td⟩] 2
/-- a key info made -/
inductive RInfo (P : Params) (tc td : Addr) (news : Led) : Value → Led → Prop
  | mk (x dx : Addr) (k1 k2 : Tok) (h1 : ∀ p ∈ news, p.1 < dx) (h2 : dx < x) : RInfo P tc td news (.ref x) ((x, instObj 154 dx) :: (dx, infoDict P k1 k2 tc td) :: news)
/-- a key info and its tuples stand in the ledger -/
structure InfoIn (P : Params) (x : Addr) (cs : List Str) (ds : List Bool) (news : Led) : Prop where
  at' : ∃ dx tc td k1 k2 vc n1 n2, (x, instObj 154 dx) ∈ news ∧ (dx, infoDict P k1 k2 tc td) ∈ news ∧ (tc, tupObj vc n1) ∈ news ∧ (td, tupObj (ds.map Value.bool) n2) ∈ news ∧ StrsAre vc cs
  len : cs.length = ds.length
  few : cs.length ≤ 3
theorem InfoIn.mono {P : Params} {x : Addr} {cs : List Str} {ds : List Bool} {news news' : Led} (h : InfoIn P x cs ds news) (hs : ∀ p ∈ news, p ∈ news') : InfoIn P x cs ds news' := by
  obtain ⟨⟨dx, tc, td, k1, k2, vc, n1, n2, hx, hdx, hc, hd, hst⟩, hl, hf⟩ := h
  exact ⟨⟨dx, tc, td, k1, k2, vc, n1, n2, hs _ hx, hs _ hdx, hs _ hc, hs _ hd, hst⟩, hl, hf⟩
noncomputable def Goods (k : Nat) (vs : List Value) : Prop := ∀ v ∈ vs, Good k v
noncomputable def Colls (cs : List Str) : Prop := ∀ c ∈ cs, CollName c
section
variable {prog : Program} {w : World} {A : Around} {E : Value → Shared → Prop} {s : Shared} {h₀ : Heap} {L l : Addr} {m : Str → Option Value} {news : Led} {vs : List Value} {n : Nat} {value slice : Expr} {j : Int} {u : Tok} {Q : Value → Shared → Prop}
theorem item_TS {ks : List Str} (N : News h₀ L s.heap news) (hm : (l, tupObj vs n) ∈ news) (hi : StrsAre vs ks) (hfit : ks.length ≤ 1000) (h0 : 0 ≤ j) (h1 : j < ks.length) (h : ∀ t, Q (.str (ks.getD j.toNat Str.empty) t) s)
    (hs : subscripted slice false (.ref l) (.int j u) = operate [.ref l, .int j u] (getItem (.ref l) (.int j u)) := by with_unfolding_all rfl) :
    wpAny (model prog w) A (subscriptTail value slice (.ref l) (.int j u)) Q E s :=
  item_T N hm (by rw [strs_len hi]; omega) h0 (by rw [strs_len hi]; exact h1) (fun v hv => by
    obtain ⟨y, t, rfl, hy⟩ := strs_at hi _ _ hv
    have e : ks.getD j.toNat Str.empty = y := by rw [List.getD_eq_getElem?_getD, hy]; rfl
    rw [← e]; exact h t) hs
theorem item_TB {ts : List Bool} (N : News h₀ L s.heap news) (hm : (l, tupObj (ts.map Value.bool) n) ∈ news) (hfit : ts.length ≤ 1000) (h0 : 0 ≤ j) (h1 : j < ts.length) (h : Q (.bool (ts.getD j.toNat false)) s)
    (hs : subscripted slice false (.ref l) (.int j u) = operate [.ref l, .int j u] (getItem (.ref l) (.int j u)) := by with_unfolding_all rfl) :
    wpAny (model prog w) A (subscriptTail value slice (.ref l) (.int j u)) Q E s :=
  item_T N hm (by simp; omega) h0 (by simpa using h1) (fun v hv => by
    obtain ⟨b, rfl, hb⟩ := bools_at _ _ hv
    have e : ts.getD j.toNat false = b := by rw [List.getD_eq_getElem?_getD, hb]; rfl
    rw [← e]; exact h) hs
end
theorem range_smallN {n : Nat} (h : n < 1000) : Builtin.Range.small 0 (n : Int) 1 = true := range_small (by omega) (by omega)
theorem range_sizeN {n : Nat} (h : n < 1000) : Builtin.Range.rangeSize 0 (n : Int) 1 = (n : Int) := by
  have := range_size (d := (n : Int)) (by omega) (by omega)
  simpa using this
theorem gK_at {cs : List Str} {ds : List Bool} {va vb : List Value} {i : Nat} {v1 v2 : Value} (h1 : va[i]? = some v1) (h2 : vb[i]? = some v2) : gK cs ds va vb i = if ds.getD i false then -(cmpV (cs.getD i Str.empty) v1 v2) else cmpV (cs.getD i Str.empty) v1 v2 := by
  unfold gK
  rw [List.getD_eq_getElem?_getD (l := va), h1, List.getD_eq_getElem?_getD (l := vb), h2]
  rfl
theorem gK_zero {cs : List Str} {ds : List Bool} {va vb : List Value} {i : Nat} {v1 v2 : Value} (h1 : va[i]? = some v1) (h2 : vb[i]? = some v2) (h : cmpV (cs.getD i Str.empty) v1 v2 = 0) : gK cs ds va vb i = 0 := by
  rw [gK_at h1 h2, h]; split <;> rfl
theorem gK_turn {cs : List Str} {ds : List Bool} {va vb : List Value} {i m : Nat} {v1 v2 : Value} (h0 : ckI (gK cs ds va vb) i = 0) (h1 : va[i]? = some v1) (h2 : vb[i]? = some v2) (hd : ds.getD i false = true) (h : cmpV (cs.getD i Str.empty) v1 v2 ≠ 0) (hm : i < m) :
    -(cmpV (cs.getD i Str.empty) v1 v2) = ckI (gK cs ds va vb) m := by
  have e := gK_at (cs := cs) (ds := ds) h1 h2
  rw [hd, if_pos rfl] at e
  rw [ckI_hit h0 (by rw [e]; omega) m hm, e]
theorem gK_plain {cs : List Str} {ds : List Bool} {va vb : List Value} {i m : Nat} {v1 v2 : Value} (h0 : ckI (gK cs ds va vb) i = 0) (h1 : va[i]? = some v1) (h2 : vb[i]? = some v2) (hd : ds.getD i false = false) (h : cmpV (cs.getD i Str.empty) v1 v2 ≠ 0) (hm : i < m) :
    cmpV (cs.getD i Str.empty) v1 v2 = ckI (gK cs ds va vb) m := by
  have e := gK_at (cs := cs) (ds := ds) h1 h2
  rw [hd, if_neg (by decide)] at e
  rw [ckI_hit h0 (by rw [e]; exact h) m hm, e]
theorem nat0 (i : Nat) : ((0 : Int) + (i : Int)).toNat = i := by omega
theorem good_at {k : Nat} {vs : List Value} {v : Value} {i : Nat} (h : Goods k vs) (hv : vs[i]? = some v) : Good k v := h v (List.mem_of_getElem? hv)
theorem coll_at {cs : List Str} {j : Int} (h : Colls cs) (h0 : 0 ≤ j) (h1 : j < cs.length) : CollName (cs.getD j.toNat Str.empty) := by
  have hj : j.toNat < cs.length := by omega
  rw [List.getD_eq_getElem?_getD, List.getElem?_eq_getElem hj]
  exact h _ (List.getElem_mem hj)
theorem use_RInfo {w : World} {loose : List Str} {mean : ExcName → Option Value} {mg mb : Str → Option Value} {f : Addr} {N : Nat} {us : List Value} {news : Led} {P : Params} {tc td : Addr} {rest : Led} {dp un : Nat} {gd : Option (List Code)} {cn : Str} {cs : Scope} {z : Addr} {ccd : Value} {cl : List (Str × Addr)} {outer : List Env} {A₀ : Around} {base h₀ h : Heap} {L : Addr} {m : Str → Option Value} {ge : Array GenState} {dr : Drawn} {tk : Nat} {os : OsState} {Q E : Value → Shared → Prop}
    (lem : Does w loose mean mg mb f N us news (RInfo P tc td rest)) (k1 : Below A₀ base outer h₀) (k2 : Fr h₀ L h m) (k3 : (hd.heap_39 w.params).In h₀) (k4 : News h₀ L h news) (k5 : Top hd.view_39 loose mean mg mb h₀) (kK : cs.kind = .function) (kd : dp + N < recursionLimit) (ku : un + 8 * N < cLine)
    (k : ∀ (h9 : Heap) (tk9 : Nat), Fr h₀ L h9 m → ∀ (x dx : Addr) (k1 k2 : Tok) (h1 : ∀ p ∈ rest, p.1 < dx) (h2 : dx < x), News h₀ L h9 ((x, instObj 154 dx) :: (dx, infoDict P k1 k2 tc td) :: rest) → Q (.ref x) ⟨h9, ge, dr, tk9, os⟩) : wpAny (model PROG w) (ktrTop dp un gd cn cs L z ccd cl outer) (call (.ref f) us) Q E ⟨h, ge, dr, tk, os⟩ :=
  lem dp un gd cn cs z ccd cl outer A₀ base h₀ L m ⟨h, ge, dr, tk, os⟩ Q E k1 k2 k3 k4 k5 kK kd ku fun _ _ h9 tk9 hR F N => by
    cases hR
    exact k h9 tk9 F _ _ _ _ (by assumption) (by assumption) N
end
section
theorem lexL_asymm : ∀ {x y : List Nat}, x < y → ¬ y < x := fun h h2 => List.lt_irrefl _ (List.lt_trans h h2)
theorem lexL_tri : ∀ {x y : List Nat}, ¬ x < y → ¬ y < x → x = y
  | [], [], _, _ => rfl
  | [], _ :: _, h, _ => absurd (by simp) h
  | _ :: _, [], _, h => absurd (by simp) h
  | a :: x, b :: y, h1, h2 => by
    rw [List.cons_lt_cons_iff] at h1 h2
    have : a = b := by omega
    subst this
    rw [lexL_tri (x := x) (y := y) (fun h => h1 (Or.inr ⟨rfl, h⟩)) (fun h => h2 (Or.inr ⟨rfl, h⟩))]
theorem sgnL_neg (x y : List Nat) : sgnL y x = - sgnL x y := by
  unfold sgnL
  by_cases h : x < y
  · simp [h, lexL_asymm h]
  · by_cases h2 : y < x <;> simp [h, h2]
theorem sgnL_zero {x y : List Nat} : sgnL x y = 0 ↔ x = y := by
  unfold sgnL
  constructor
  · intro h
    by_cases h1 : x < y
    · simp [h1] at h
    · by_cases h2 : y < x
      · simp [h1, h2] at h
      · exact lexL_tri h1 h2
  · rintro rfl
    simp [List.lt_irrefl]
theorem sgnI_neg (x y : Int) : sgnI y x = - sgnI x y := by
  unfold sgnI
  by_cases h : x < y
  · simp [h, Int.not_lt.mpr (Int.le_of_lt h)]
  · by_cases h2 : y < x <;> simp [h, h2]
theorem cmpV_neg (c : Str) (a b : Value) : cmpV c b a = - cmpV c a b := by
  unfold cmpV
  by_cases h : rank a = rank b
  · rw [if_neg (by simp [h]), if_neg (by simp [h])]
    cases a <;> cases b <;> first | rfl | exact sgnI_neg _ _ | exact sgnL_neg _ _ | (exfalso; revert h; simp [rank])
  · rw [if_pos h, if_pos (Ne.symm h)]
    exact sgnI_neg _ _
noncomputable def isS : Value → Bool
  | .str _ _ => true
  | _ => false
noncomputable def strOf : Value → Str
  | .str x _ => x
  | _ => Str.empty
theorem cmpV_eq (c : Str) {a b : Value} (ha : isS a = true) (hb : isS b = true) : (collS c (strOf a) == collS c (strOf b)) = (cmpV c a b == 0) := by
  cases a <;> simp only [isS, Bool.false_eq_true] at ha
  cases b <;> simp only [isS, Bool.false_eq_true] at hb
  rename_i x tx y ty
  have e : cmpV c (.str x tx) (.str y ty) = sgnL (collS c x).cps.toList (collS c y).cps.toList := by
    unfold cmpV; rw [if_neg (by simp [rank])]
  rw [e]
  simp only [strOf]
  by_cases h : collS c x = collS c y
  · rw [h]
    simp [sgnL_zero.mpr rfl]
  · have : sgnL (collS c x).cps.toList (collS c y).cps.toList ≠ 0 := fun h2 => h (Str.ext' (Array.toList_inj.mp (sgnL_zero.mp h2)))
    rw [beq_eq_false_iff_ne.mpr h, beq_eq_false_iff_ne.mpr this]
theorem gK_neg (ks : List Str) (ts : List Bool) (va vb : List Value) (i : Nat) : gK ks ts vb va i = - gK ks ts va vb i := by
  have e := cmpV_neg (ks.getD i Str.empty) (va.getD i .none) (vb.getD i .none)
  simp only [gK, e]
  split <;> omega
theorem ck_neg (ks : List Str) (ts : List Bool) (va vb : List Value) (n : Nat) : ckI (gK ks ts vb va) n = - ckI (gK ks ts va vb) n := ckI_neg fun i _ => gK_neg ..
end
section
section
variable {prog : Program} {w : World} {A : Around} {E : Value → Shared → Prop} {s : Shared} {env : Env} {h₀ : Heap} {x : Str} {body : List Stmt} {Q : Flow → Shared → Prop}
/-- over a list of the ledger -/
theorem for_list {σ : Type} {l : Addr} {vs : List Value} {nl : Nat} {m₀ : Str → Option Value} {news0 : Led} (led : σ → Led) (st : List Str) (Inv : Nat → σ → (Str → Option Value) → Prop) (c₀ : σ)
    (hh : A.handled = none) (F : Fr h₀ env.locals s.heap m₀) (N : News h₀ env.locals s.heap ((l, W.listOf vs.toArray nl) :: (led c₀ ++ news0))) (hoff : Off l (led c₀ ++ news0)) (hadr : ∀ c, (led c).map (·.1) = (led c₀).map (·.1)) (hj : Inv 0 c₀ m₀)
    (turn : ∀ (i : Nat) v c m₁ h tk rest, vs[i]? = some v → Inv i c m₁ → Upto st m₀ m₁ → (∀ p ∈ news0, p ∈ rest) → (∀ a ∈ (led c₀).map (·.1), Off a news0 → Off a rest) → Fr h₀ env.locals h (fun y => if y = x then some v else if st.contains y = true then m₁ y else m₀ y) → News h₀ env.locals h (led c ++ rest) →
      wpAny (model prog w) A (execs body env) (TPost h₀ env.locals (fun m' news' => ∃ c', news' = led c' ++ rest ∧ Inv (i + 1) c' m' ∧ Upto st m₀ m') { s with heap := h, toks := tk } Q) E { s with heap := h, toks := tk })
    (done : ∀ c m₁ h tk, Inv vs.length c m₁ → Upto st m₀ m₁ → Fr h₀ env.locals h (fun y => if st.contains y = true then m₁ y else m₀ y) → News h₀ env.locals h (led c ++ news0) → Q .next { s with heap := h, toks := tk }) :
    wpAny (model prog w) A (pyIter (.ref l)) (fun it s₂ => LoopAtV prog w A h₀ env x body Q E it s₂) E s := by
  have hl := PySem.IsL.isList (n := nl) (N _ (.head _)).1
  have hlt : l < s.heap.objs.size := Heap.lt_size (N _ (.head _)).1
  have N' : News h₀ env.locals s.heap (led c₀ ++ news0) := fun p hp => N p (.tail _ hp)
  refine wpAny_pyIter_list hl ?_
  have up : ∀ b o, s.heap.get? b = some o → (s.heap.push { cls := .type "list_iterator", data := .fields #[.ref l, .int 0 0] }).get? b = some o := fun b o e => Heap.get?_push_of_some _ e
  refine loop_S led st Inv c₀ (n := vs.toArray.size) (Walks.list hh s.heap.objs.size l (Nat.ne_of_lt hlt) vs.toArray) ?_ ?_ ?_ ?_ ⟨⟨_, Heap.get?_push_size _ rfl, rfl, rfl⟩, hl.push _⟩ (F.push _) (fun p hp => ⟨Heap.get?_push_of_some _ (N' p hp).1, (N' p hp).2⟩) hadr hj ?_ ?_
  · intro hm
    rcases List.mem_cons.mp hm with e | hm
    · exact absurd F.ns.lt (e ▸ Nat.lt_irrefl _)
    · exact (N _ (.head _)).2.1 (List.mem_singleton.mp hm).symm
  · exact fun b hb => by rw [List.mem_singleton.mp hb]; exact next_is_new F
  · exact fun p hp hI => absurd (Heap.lt_size (N' p hp).1) ((List.mem_singleton.mp hI) ▸ Nat.lt_irrefl _)
  · intro p hp hI
    rcases List.mem_cons.mp hI with e | hm
    · exact absurd (Heap.lt_size (N' p hp).1) (e ▸ Nat.lt_irrefl _)
    · exact hoff p hp (List.mem_singleton.mp hm)
  · intro i v c m₁ h tk rest hi hP hI hu hsub ho F₁ N₁
    exact turn i v c m₁ h tk rest (by simpa using hP) hI hu hsub ho F₁ N₁
  · intro c m₁ h tk hI hu F₁ N₁
    exact done c m₁ h tk (by simpa using hI) hu F₁ N₁
end
theorem sub_b_s : isSubtype (.type "bytes") (.type "str") = pure false := by rw [isSubtype_type]; kernel_rfl
theorem isinst_bytes {b : Array UInt8} {u : Tok} : Meets (Builtin.«isinstance» ⟨[.bytes b u, .type "str"], []⟩) (fun _ R s => R (.ok (.ret (.bool false))) { s with toks := s.toks + 1 }) :=
  fun _ _ _ _ s hs => by
    obtain ⟨h, g, d, t, os⟩ := s
    exact isinstance_outer (isinstance_nested_false_bytes (by decide +kernel) F.isi_meta_str sub_b_s hs)
theorem isinst_good {prog : Program} {w : World} {A : Around} {E : Value → Shared → Prop} {s : Shared} {k : Nat} {v : Value} {Q : Value → Shared → Prop} (hv : Good k v) (h : ∀ tk, Q (.bool (isS v)) { s with toks := tk }) : wpAny (model prog w) A (call (.builtin "isinstance") [v, .type "str"]) Q E s := by
  cases hv with
  | none => exact IsiPair.NoneType_str (h _)
  | int => exact IsiPair.int_str (h _)
  | str => exact IsiPair.str_str (h s.toks)
  | bytes => exact call_isinstance isinst_bytes (h _)
end
section
noncomputable def GPost (h₀ : Heap) (L : Addr) (s₁ : Shared) (I : Addr) (it : Obj) (K : (Str → Option Value) → Led → Prop) (Q : Flow → Shared → Prop) (f : Flow) (s₂ : Shared) : Prop :=
  match f with
  | .ret v => Q (.ret v) s₂
  | .brk => Q .next s₂
  | _ => ∃ h' tk m' news', s₂ = { s₁ with heap := h', toks := tk } ∧ Fr h₀ L h' m' ∧ News h₀ L h' ((I, it) :: news') ∧ (∀ p ∈ news', p.1 ≠ I) ∧ K m' news'
section
variable {prog : Program} {w : World} {A : Around} {E : Value → Shared → Prop} {s : Shared} {env : Env} {h₀ : Heap} {x : Str} {body : List Stmt} {Q : Flow → Shared → Prop}
/-- over a range, the ledger may grow -/
theorem range_grow {r : Addr} {a₀ b₀ : Int} {t₀ u₀ v₀ : Tok} {n : Nat} {m₀ : Str → Option Value} {news : Led} (Inv : Nat → (Str → Option Value) → Led → Prop)
    (hh : A.handled = none) (hr : IsRange s.heap r a₀ b₀ 1 t₀ u₀ v₀) (hsmall : Builtin.Range.small a₀ b₀ 1 = true) (hn : Builtin.Range.rangeSize a₀ b₀ 1 = (n : Int)) (F : Fr h₀ env.locals s.heap m₀) (N : News h₀ env.locals s.heap news) (hj : Inv 0 m₀ news)
    (turn : ∀ (i : Nat) m nx I it t h tk, i < n → Inv i m nx → (∀ p ∈ nx, p.1 ≠ I) → Fr h₀ env.locals h (fun y => if y = x then some (.int (a₀ + (i : Int)) t) else m y) → News h₀ env.locals h ((I, it) :: nx) →
      wpAny (model prog w) A (execs body env) (GPost h₀ env.locals { s with heap := h, toks := tk } I it (Inv (i + 1)) Q) E { s with heap := h, toks := tk })
    (done : ∀ m nx h tk, Inv n m nx → Fr h₀ env.locals h m → News h₀ env.locals h nx → Q .next { s with heap := h, toks := tk }) :
    wpAny (model prog w) A (pyIter (.ref r)) (fun it s₂ => LoopAtV prog w A h₀ env x body Q E it s₂) E s := by
  refine iter_rangeUnr hh hr hsmall hn F N fun I hlt => ?_
  have go : ∀ k i m nx, i + k = n → Inv i m nx → (∀ p ∈ nx, p.1 ≠ I) → RangeRest prog w A E h₀ env x body Q s I a₀ n k i m nx := by
    intro k
    induction k with
    | zero =>
      intro i m nx hi hI _
      obtain rfl : i = n := by omega
      exact RangeRest.zero fun h tk F N => done m nx h tk hI F N
    | succ k ih =>
      intro i m nx hi hI ho
      refine RangeRest.succ fun t h tk F N => ?_
      refine wpAny_mono (turn i m nx I _ t h tk (by omega) hI ho F N) (fun f s₂ hf => ?_) fun _ _ e => e
      cases f with
      | ret v => exact hf
      | brk => exact hf
      | next => obtain ⟨h', tk', m', nx', e, F', N', ho', hI'⟩ := hf; exact ⟨h', tk', m', nx', e, F', N', ho', ih (i + 1) m' nx' (by omega) hI' ho'⟩
      | cont => obtain ⟨h', tk', m', nx', e, F', N', ho', hI'⟩ := hf; exact ⟨h', tk', m', nx', e, F', N', ho', ih (i + 1) m' nx' (by omega) hI' ho'⟩
  exact go n 0 m₀ news (by omega) hj fun p hp => Nat.ne_of_lt (hlt p hp)
end
/-- a row drawn out of the rows -/
inductive RRow (k many : Nat) (objs : Led) (src : Addr) (rest : Led) : Value → Led → Prop
  | mk (a : Addr) (vs : List Value) (n : Nat) (ta tb : Tok) (ep : Nat) (x y : Int) (hm : (a, W.listOf vs.toArray n) ∈ objs) (hl : vs.length = many) (hg : Goods k vs) (b0 : 0 ≤ y) (b1 : y < 2147483647) : RRow k many objs src rest (.ref a) ((src, W.listOf #[.int x ta, .int y tb] ep) :: rest)
noncomputable def IsRow (k many : Nat) (p : Addr × Obj) : Prop := ∃ vs n, p.2 = W.listOf vs.toArray n ∧ vs.length = many ∧ Goods k vs
theorem goods_up {k j : Nat} {vs : List Value} (h : Goods k vs) (hk : k ≤ j) : Goods j vs := fun v hv => good_up (h v hv) hk
theorem goods_set {k j : Nat} {vs : List Value} {i : Nat} {v : Value} (h : Goods k vs) (hk : k ≤ j) (hv : Good j v) : Goods j (vs.set i v) := fun u hu => by
  rcases List.mem_or_eq_of_mem_set hu with hu | rfl
  · exact good_up (h u hu) hk
  · exact hv
theorem copy_L {prog : Program} {w : World} {A : Around} {E : Value → Shared → Prop} {s : Shared} {h₀ : Heap} {L b : Addr} {m : Str → Option Value} {news : Led} {vs : List Value} {n : Nat} {Q : Value → Shared → Prop} (F : Fr h₀ L s.heap m) (N : News h₀ L s.heap news) (hb : (b, W.listOf vs.toArray n) ∈ news) (hz : vs.length ≤ 1000)
    (h : ∀ D c h', Fr h₀ L h' m → News h₀ L h' ((D, W.listOf vs.toArray c) :: news) → (∀ q ∈ news, q.1 < D) → Q (.ref D) { s with heap := h' }) : wpAny (model prog w) A (call (.type "list") [.ref b]) Q E s :=
  kup_listOf F N hb rfl h (by rw [sizeLine_eq]; simp; omega)
theorem set_L {prog : Program} {w : World} {A : Around} {E : Value → Shared → Prop} {s : Shared} {h₀ : Heap} {L D : Addr} {m : Str → Option Value} {news rest : Led} {vs : List Value} {n : Nat} {k : Int} {t : Tok} {v : Value} {Q : Unit → Shared → Prop} (F : Fr h₀ L s.heap m) (N : News h₀ L s.heap news) (P : Pull (D, W.listOf vs.toArray n) news rest) (off : Off D rest) (h0 : 0 ≤ k) (h1 : k < vs.length) (hz : vs.length ≤ 1000)
    (h : ∀ h', Fr h₀ L h' m → News h₀ L h' ((D, W.listOf (vs.set k.toNat v).toArray n) :: rest) → Q () { s with heap := h' }) : wpAny (model prog w) A (setItem (.ref D) (.int k t) v) Q E s := by
  have N1 := news_pull N P
  have z := N1 (D, W.listOf vs.toArray n) (.head _)
  refine ki_setAt z.1 h0 (by omega) (by simp; omega) (h _ (F.change (Heap.SameBut.update ..) z.2.1 z.2.2) ?_)
  exact ki_turn (pre := []) (its' := (vs.set k.toNat v).toArray) (n' := n) (fun its => its.setIfInBounds k.toNat v) N1 (fun _ h => nomatch h) off (by simp) (by simp)
theorem map_two {m : Str → Option Value} {x y : Str} {u v : Value} (h1 : m x = some u) (h2 : m y = some v) : m = fun z => if z = x then some u else if z = y then some v else m z := by
  funext z
  by_cases e : z = x
  · simp [e, h1]
  · by_cases e2 : z = y
    · subst e2; rw [if_neg e, if_pos rfl, h2]
    · rw [if_neg e, if_neg e2]
theorem Off.app {a : Addr} {l r : Led} (h : Off a l) (h2 : Off a r) : Off a (l ++ r) := fun p hp => by
  rcases List.mem_append.mp hp with hp | hp
  · exact h p hp
  · exact h2 p hp
theorem frame_addr {h₀ h : Heap} {L : Addr} {m : Str → Option Value} (_ : Fr h₀ L h m) : ∃ L₁ : Addr, L₁ = L := ⟨_, rfl⟩
noncomputable def RefsIn (objs : Led) (rs : List Value) : Prop := ∀ v ∈ rs, ∃ p ∈ objs, v = .ref p.1
theorem RefsIn.snoc {objs : Led} {rs : List Value} {a : Addr} {o : Obj} (h : RefsIn objs rs) : RefsIn ((a, o) :: objs) (rs ++ [.ref a]) := by
  intro v hv
  rcases List.mem_append.mp hv with hv | hv
  · obtain ⟨p, hp, e⟩ := h v hv
    exact ⟨p, .tail _ hp, e⟩
  · exact ⟨(a, o), .head _, List.mem_singleton.mp hv⟩
noncomputable def RowInv (src : Addr) (many : Nat) (tm : Tok) (cell : Addr × Obj) (news : Led) (i : Nat) (m : Str → Option Value) (nx : Led) : Prop :=
  ∃ R ep es a b ta tb objs rs, nx = (R, W.listOf (List.toArray rs) ep) :: (src, W.listOf #[.int a ta, .int b tb] es) :: cell :: (objs ++ news) ∧ rs.length = i + 1 ∧ RefsIn objs rs ∧ (∀ p ∈ objs, IsRow (i + 3) many p) ∧ Off src objs ∧ R ≠ src ∧ Off R (objs ++ news) ∧ R ≠ cell.1 ∧
    0 ≤ b ∧ b < 2147483647 ∧ m (Str.ofString "rows") = some (.ref R) ∧ m (Str.ofString "many") = some (.int (many : Int) tm)
/-- the rows made -/
inductive RRows (many : Nat) (src : Addr) (news : Led) : Value → Led → Prop
  | mk (R : Addr) (ep es : Nat) (a b : Int) (ta tb : Tok) (objs : Led) (rs : List Value) (h3 : rs.length = 3) (hrs : RefsIn objs rs) (hrow : ∀ p ∈ objs, IsRow 5 many p) (hoff : Off src objs) (hR : R ≠ src) (b0 : 0 ≤ b) (b1 : b < 2147483647) :
    RRows many src news (.ref R) ((R, W.listOf rs.toArray ep) :: (src, W.listOf #[.int a ta, .int b tb] es) :: (objs ++ news))
theorem isRow_up {k j many : Nat} {p : Addr × Obj} (h : IsRow k many p) (hk : k ≤ j) : IsRow j many p := by
  obtain ⟨vs, n, e, hl, hg⟩ := h
  exact ⟨vs, n, e, hl, goods_up hg hk⟩
theorem rows_grow {k many : Nat} {objs : Led} {p : Addr × Obj} (h : ∀ q ∈ objs, IsRow k many q) (hp : IsRow (k + 1) many p) : ∀ q ∈ p :: objs, IsRow (k + 1) many q := fun q hq => by
  rcases List.mem_cons.mp hq with rfl | hq
  · exact hp
  · exact isRow_up (h q hq) (Nat.le_succ k)
theorem use_RRow {w : World} {loose : List Str} {mean : ExcName → Option Value} {mg mb : Str → Option Value} {f : Addr} {N : Nat} {us : List Value} {news : Led} {k many : Nat} {objs : Led} {src : Addr} {rest : Led} {dp un : Nat} {gd : Option (List Code)} {cn : Str} {cs : Scope} {z : Addr} {ccd : Value} {cl : List (Str × Addr)} {outer : List Env} {A₀ : Around} {base h₀ h : Heap} {L : Addr} {m : Str → Option Value} {ge : Array GenState} {dr : Drawn} {tk : Nat} {os : OsState} {Q E : Value → Shared → Prop}
    (lem : Does w loose mean mg mb f N us news (RRow k many objs src rest)) (k1 : Below A₀ base outer h₀) (k2 : Fr h₀ L h m) (k3 : (hd.heap_39 w.params).In h₀) (k4 : News h₀ L h news) (k5 : Top hd.view_39 loose mean mg mb h₀) (kK : cs.kind = .function) (kd : dp + N < recursionLimit) (ku : un + 8 * N < cLine)
    (k : ∀ (h9 : Heap) (tk9 : Nat), Fr h₀ L h9 m → ∀ (a : Addr) (vs : List Value) (n : Nat) (ta tb : Tok) (ep : Nat) (x y : Int) (hm : (a, W.listOf vs.toArray n) ∈ objs) (hl : vs.length = many) (hg : Goods k vs) (b0 : 0 ≤ y) (b1 : y < 2147483647), News h₀ L h9 ((src, W.listOf #[.int x ta, .int y tb] ep) :: rest) → Q (.ref a) ⟨h9, ge, dr, tk9, os⟩) : wpAny (model PROG w) (ktrTop dp un gd cn cs L z ccd cl outer) (call (.ref f) us) Q E ⟨h, ge, dr, tk, os⟩ :=
  lem dp un gd cn cs z ccd cl outer A₀ base h₀ L m ⟨h, ge, dr, tk, os⟩ Q E k1 k2 k3 k4 k5 kK kd ku fun _ _ h9 tk9 hR F N => by
    cases hR
    exact k h9 tk9 F _ _ _ _ _ _ _ _ (by assumption) (by assumption) (by assumption) (by assumption) (by assumption) N
theorem use_RRows {w : World} {loose : List Str} {mean : ExcName → Option Value} {mg mb : Str → Option Value} {f : Addr} {N : Nat} {us : List Value} {news : Led} {many : Nat} {src : Addr} {rest : Led} {dp un : Nat} {gd : Option (List Code)} {cn : Str} {cs : Scope} {z : Addr} {ccd : Value} {cl : List (Str × Addr)} {outer : List Env} {A₀ : Around} {base h₀ h : Heap} {L : Addr} {m : Str → Option Value} {ge : Array GenState} {dr : Drawn} {tk : Nat} {os : OsState} {Q E : Value → Shared → Prop}
    (lem : Does w loose mean mg mb f N us news (RRows many src rest)) (k1 : Below A₀ base outer h₀) (k2 : Fr h₀ L h m) (k3 : (hd.heap_39 w.params).In h₀) (k4 : News h₀ L h news) (k5 : Top hd.view_39 loose mean mg mb h₀) (kK : cs.kind = .function) (kd : dp + N < recursionLimit) (ku : un + 8 * N < cLine)
    (k : ∀ (h9 : Heap) (tk9 : Nat), Fr h₀ L h9 m → ∀ (R : Addr) (ep es : Nat) (a b : Int) (ta tb : Tok) (objs : Led) (rs : List Value) (h3 : rs.length = 3) (hrs : RefsIn objs rs) (hrow : ∀ p ∈ objs, IsRow 5 many p) (hoff : Off src objs) (hR : R ≠ src) (b0 : 0 ≤ b) (b1 : b < 2147483647), News h₀ L h9 ((R, W.listOf rs.toArray ep) :: (src, W.listOf #[.int a ta, .int b tb] es) :: (objs ++ rest)) → Q (.ref R) ⟨h9, ge, dr, tk9, os⟩) : wpAny (model PROG w) (ktrTop dp un gd cn cs L z ccd cl outer) (call (.ref f) us) Q E ⟨h, ge, dr, tk, os⟩ :=
  lem dp un gd cn cs z ccd cl outer A₀ base h₀ L m ⟨h, ge, dr, tk, os⟩ Q E k1 k2 k3 k4 k5 kK kd ku fun _ _ h9 tk9 hR F N => by
    cases hR
    exact k h9 tk9 F _ _ _ _ _ _ _ _ _ (by assumption) (by assumption) (by assumption) (by assumption) (by assumption) (by assumption) (by assumption) N
end
section
open PySem.Sem (wp)
section
variable {M : Model} {A : Around} {s : Shared} {env : Env}
theorem cSpliced_nil {Q : List Value → Shared → Prop} (h : Q [] s) : wpC M A (spliced []) Q s := cPure h
theorem cSpliced_cons {x : Sem Value} {rest : List (Bool × Sem Value)} {Q : List Value → Shared → Prop} (h : wpC M A x (fun v s₁ => wpC M A (spliced rest) (fun vs s₂ => Q (v :: vs) s₂) s₁) s) : wpC M A (spliced ((false, x) :: rest)) Q s := by
  unfold spliced
  refine cBind (cMono h fun v s₁ h₁ => ?_)
  refine cLeaf (wpAny_of_eq (a := [v]) rfl ?_)
  exact cBind (cHolding (cMono h₁ fun vs s₂ h₂ => cPure h₂))
theorem cArgs_plain {f : Value} {x : Sem Value} {rest : List (Bool × Sem Value)} {Q : Args → Shared → Prop} (h : wpC M A (spliced ((false, x) :: rest)) (fun vs s' => Q ⟨vs, []⟩ s') s) : wpC M A (evalArgs f true ((false, x) :: rest) []) Q s := by
  unfold evalArgs
  show wpC M A (spliced ((false, x) :: rest) >>= _) Q s
  refine cBind (cMono h fun vs s' h' => ?_)
  refine cHolding ?_
  exact cBind (cPure (cBind (cPure (cPure h'))))
theorem cArgs_nil {f : Value} {Q : Args → Shared → Prop} (h : Q ⟨[], []⟩ s) : wpC M A (evalArgs f true [] []) Q s := cAny (PyProof.Rows.evalArgs_none h)
theorem cCallWith_of {P : Heap → Prop} {pos : Pos} {f : Value} {first : List Value} {args : List (Bool × Sem Value)} {Q : Value → Shared → Prop} (hplain : args.any (·.1) = false)
    (hk : ∀ h, P h → ∃ k, (k = Keeper.frame ∨ k = Keeper.machine ∨ k = Keeper.boundFrame) ∧ Looks M h (keeperOf f) k)
    (h : wpC M A (evalArgs f true args []) (fun a s₁ => P s₁.heap ∧ wpC M A (call f (first ++ a.pos) a.kw) Q s₁) s) : wpC M A (callWith pos f first args []) Q s := by
  unfold callWith
  refine cBind (cHolding (cMono h fun a s₁ h₁ => cStand ?_))
  obtain ⟨k, hk', L⟩ := hk _ h₁.1
  simp only [hplain, List.any_nil, Bool.or_false]
  refine cLeaf (L.here ?_)
  have tail : ∀ {t : Sem Value}, wpC M A t Q s₁ → wpC M A (t >>= fun r => holding [r] point >>= fun _ => pure r) Q s₁ :=
    fun ht => cBind (cMono ht fun r s₂ hr => cLeaf (wpAny_holding (wpAny_point (cPure hr))))
  have marked (mk : Value) : wpC M A (callMarked mk f (first ++ a.pos) a.kw) Q s₁ := by unfold callMarked; exact cKeep h₁.2
  rcases hk' with rfl | rfl | rfl <;> dsimp only <;> first | exact tail h₁.2 | (split <;> first | exact tail h₁.2 | exact tail (marked _))
theorem keep_plain {f : Value} (h : ∀ a, f ≠ .ref a) (hp : Heap) : ∃ k, (k = Keeper.frame ∨ k = Keeper.machine ∨ k = Keeper.boundFrame) ∧ Looks M hp (keeperOf f) k := by
  refine ⟨.machine, .inr (.inl rfl), ?_⟩
  cases f <;> first | exact absurd rfl (h _) | exact (show Looks M hp (pure Keeper.machine) _ from .now)
theorem cCallWith_K {K : Frag} {f : Value} {pos : Pos} {x : Sem Value} {rest : List (Bool × Sem Value)} {Q : Value → Shared → Prop} (hk : keepIn K f = true) (hplain : rest.any (·.1) = false)
    (h : wpC M A (spliced ((false, x) :: rest)) (fun vs s₁ => K.In s₁.heap ∧ wpC M A (call f vs) Q s₁) s) : wpC M A (callWith pos f [] ((false, x) :: rest) []) Q s :=
  cCallWith_of (P := K.In) (by show (false || rest.any (·.1)) = false; rw [hplain]; rfl) (fun h X => keeps_K hk h X) (cArgs_plain h)
theorem cCallWith_1 {f : Value} {first : List Value} {pos : Pos} {x : Sem Value} {Q : Value → Shared → Prop} (hf : ∀ a, f ≠ .ref a) (h : wpC M A x (fun v s₁ => wpC M A (call f (first ++ [v])) Q s₁) s) : wpC M A (callWith pos f first [(false, x)] []) Q s :=
  cCallWith_of (P := fun _ => True) rfl (fun hp _ => keep_plain hf hp) (cArgs_plain (cSpliced_cons (cMono h fun v s₁ h₁ => cSpliced_nil ⟨trivial, h₁⟩)))
theorem cCallWith_0 {f : Value} {pos : Pos} {Q : Value → Shared → Prop} (hf : ∀ a, f ≠ .ref a) (h : wpC M A (call f []) Q s) : wpC M A (callWith pos f [] [] []) Q s :=
  cCallWith_of (P := fun _ => True) rfl (fun hp _ => keep_plain hf hp) (cArgs_nil ⟨trivial, h⟩)
theorem cCall_Name {x : Str} {p pos : Pos} {args : List Expr} {Q : Value → Shared → Prop}
    (h : wpAny M A (eval (.Name x p) env) (fun f s₁ => wpC M A (callWith pos f [] (backTo pos (starEach args env)) []) Q s₁) NoE s) : wpC M A (eval (.Call (.Name x p) args [] pos) env) Q s := cLeaf h
theorem cMethod {o : Expr} {name : Str} {apos pos : Pos} {args : List Expr} {T id : String} {Q : Value → Shared → Prop}
    (hbase : attributeBase o name env (eval o env) = eval o env)
    (hfew : ((backTo pos (starEach args env)).all (fun x => !x.1) && (backToKw pos (keywordEach [] env)).all (fun x => x.1.isSome)
      && decide (args.length + ([] : List Keyword).length + (if ([] : List Keyword).isEmpty then 0 else 1) < 30)) = true)
    (hline : (apos.endLine == pos.line) = true)
    (pa : PlainAttrs T) (slot : Slot T name id) (hty : typeOf (.builtin id) = pure (.type "method_descriptor"))
    (h : wpAny M A (eval o env) (fun ov s₁ => s₁.TypeIs ov T ∧ (∀ a, ov = .ref a → ∃ ob, s₁.heap.get? a = some ob ∧ ob.dict = none) ∧
      wpC M A (callWith pos (.builtin id) [ov] (backTo pos (starEach args env)) []) Q s₁) NoE s) :
    wpC M A (eval (.Call (.Attribute o name apos) args [] pos) env) Q s := by
  rw [arm_eval_Call, hbase]
  refine cLeaf (wpAny_mono h (fun ov s₁ h₁ => ?_) fun _ _ e => e)
  obtain ⟨hT, hd, hc⟩ := h₁
  refine cStand ?_
  first
    | (
       have hform : methodCallForm (args.length + ([] : List Keyword).length) (backTo pos (starEach args env)) (backToKw pos (keywordEach [] env)) = true := hfew
       have hpos : methodCallPos true o env apos pos = pure pos := by unfold methodCallPos; simp [hline]
       unfold methodCall
       rw [hform]
       refine cLeaf (wpAny_holding (getMethod_builtin hT pa slot hty hd ?_))
       exact cLeaf (wpAny_of_eq hpos hc))
    | (
       unfold methodCall calleeOf methodCallPos methodCallForm
       simp only [hfew, hline, if_true, Bool.not_true, Bool.or_true]
       refine cLeaf (wpAny_holding (getMethod_builtin hT pa slot hty hd ?_))
       exact cLeaf (wpAny_pure hc))
theorem ba_ga : typeLookup (.type "bytearray") "__getattribute__" = pure (some (.builtin "bytearray.__getattribute__")) := by rw [typeLookup_type, builtinLookup_eq_fast]; kernel_rfl
theorem ba_attrs : PlainAttrs "bytearray" := ⟨⟨"bytearray.__getattribute__", ba_ga, by decide +kernel⟩, by rw [typeLookup_type, builtinLookup_eq_fast]; kernel_rfl⟩
theorem ty_append : typeOf (.builtin "bytearray.append") = pure (.type "method_descriptor") := by kernel_rfl
theorem ty_extend : typeOf (.builtin "bytearray.extend") = pure (.type "method_descriptor") := by kernel_rfl
end
end
section
open AutoSeq1 (wpAny_loadPart')
open MeetsSeq MeetsSeq2 MeetsSeq3
theorem ltL_end {ns ms : List Int} {i : Nat} (h1 : i ≤ ns.length) (h2 : i ≤ ms.length) (h : i = ns.length ∨ i = ms.length) : decide (ns.drop i < ms.drop i) = decide (ns.length < ms.length) := by
  rcases h with rfl | rfl
  · rw [List.drop_length]
    by_cases h : ns.length < ms.length
    · rw [decide_eq_true h]
      cases hd : ms.drop ns.length with
      | nil => rw [List.drop_eq_nil_iff] at hd; omega
      | cons a r => simp
    · rw [decide_eq_false h]
      rw [show ms.drop ns.length = [] from by rw [List.drop_eq_nil_iff]; omega]
      simp
  · rw [List.drop_length]
    rw [decide_eq_false (show ¬ ns.length < ms.length by omega)]
    simp
theorem lt_loop (l b : Addr) (vs us : List Value) (ns ms : List Int) (hv : IntsAre vs ns) (hu : IntsAre us ms) (n n2 : Nat) (k : Nat) :
    ∀ i : Nat, vs.length - i = k → i ≤ vs.length → i ≤ us.length → Meets (Builtin.«list.__eq__.loop» ⟨[.ref l, .ref b, rawInt i, rawInt 0], []⟩)
      (fun _ R s => s.heap.get? l = some { cls := .type "list", dict := none, data := .seq vs.toArray n, slots := #[] } ∧ s.heap.get? b = some { cls := .type "list", dict := none, data := .seq us.toArray n2, slots := #[] } ∧
        R (.ok (.ret (.bool (decide (ns.drop i < ms.drop i))))) s) := by
  induction k with
  | zero =>
    intro i hk h1 h2 prog w A R s h
    obtain ⟨hp, g, d, tk, os⟩ := s; obtain ⟨hl, hb, h⟩ := h
    wp_walk using wpAny_loadPart' hl, wpAny_loadPart' hb
    have hi1 : vs.toArray[((i : Nat) : Int).toNat]? = none := by simp; omega
    rw [hi1]
    wp_walk using wpAny_loadPart' hl, wpAny_loadPart' hb
    show R (.ok (.ret (.bool (decide (vs.toArray.size < us.toArray.size))))) _
    rw [ltL_end (by rw [← hv.length]; omega) (by rw [← hu.length]; omega) (Or.inl (by rw [← hv.length]; omega))] at h
    simpa [hv.length, hu.length] using h
  | succ k ih =>
    intro i hk h1 h2 prog w A R s h
    obtain ⟨hp, g, d, tk, os⟩ := s; obtain ⟨hl, hb, h⟩ := h
    wp_walk using wpAny_loadPart' hl, wpAny_loadPart' hb
    have hlt : i < vs.length := by omega
    obtain ⟨x, tx, ex, hx⟩ := IntsAre.at hv i _ (List.getElem?_eq_getElem hlt)
    have hi1 : vs.toArray[((i : Nat) : Int).toNat]? = some (.int x tx) := by simpa [hlt] using ex
    by_cases hlt2 : i < us.length
    · obtain ⟨y, ty, ey, hy⟩ := IntsAre.at hu i _ (List.getElem?_eq_getElem hlt2)
      have hi2 : us.toArray[((i : Nat) : Int).toNat]? = some (.int y ty) := by simpa [hlt2] using ey
      have hd : ns.drop i = x :: ns.drop (i + 1) := by
        have : i < ns.length := by rw [← hv.length]; exact hlt
        rw [List.drop_eq_getElem_cons this]
        rw [List.getElem?_eq_getElem this] at hx
        rw [Option.some.inj hx]
      have hd2 : ms.drop i = y :: ms.drop (i + 1) := by
        have : i < ms.length := by rw [← hu.length]; exact hlt2
        rw [List.drop_eq_getElem_cons this]
        rw [List.getElem?_eq_getElem this] at hy
        rw [Option.some.inj hy]
      have hc : ((i : Int) + 1) = ((i + 1 : Nat) : Int) := by push_cast; rfl
      rw [hd, hd2] at h
      rw [hi1, hi2]
      refine wpAny_bind (wpAny_eqBool_int ?_)
      cases hb' : x == y with
      | true =>
        have hxy : x = y := eq_of_beq hb'
        subst hxy
        wp_walk
        rw [hc]
        exact ⟨plainId_quiet plain_eq_loop _, codeAny_builtin entry_eq_loop (by
          rw [Around.under_plainId plain_eq_loop _]
          exact ih (i + 1) (by omega) (by omega) (by omega) prog w A R _ ⟨hl, hb, by
            have e : decide (x :: ns.drop (i + 1) < x :: ms.drop (i + 1)) = decide (ns.drop (i + 1) < ms.drop (i + 1)) := by
              simp [List.cons_lt_cons_iff]
            rw [e] at h; exact h⟩)⟩
      | false =>
        have hxy : x ≠ y := by simpa using hb'
        wp_walk using wpAny_loadPart' hl, wpAny_loadPart' hb
        rw [hi1, hi2]
        dsimp only
        refine wpAny_bind ?_
        show wpAny _ _ (compareOp .Lt (.int x tx) (.int y ty)) _ _ _
        refine PyProof.Rows.lt_int ?_
        refine wpAny_pure ?_
        have e : decide (x :: ns.drop (i + 1) < y :: ms.drop (i + 1)) = decide (x < y) := by
          simp [List.cons_lt_cons_iff, hxy]
        rw [e] at h
        exact h
    · have hi2 : us.toArray[((i : Nat) : Int).toNat]? = none := by simp; omega
      rw [hi1, hi2]
      wp_walk using wpAny_loadPart' hl, wpAny_loadPart' hb
      show R (.ok (.ret (.bool (decide (vs.toArray.size < us.toArray.size))))) _
      rw [ltL_end (by rw [← hv.length]; omega) (by rw [← hu.length]; omega) (Or.inr (by rw [← hu.length]; omega))] at h
      simpa [hv.length, hu.length] using h
theorem gt_loop (l b : Addr) (vs us : List Value) (ns ms : List Int) (hv : IntsAre vs ns) (hu : IntsAre us ms) (n n2 : Nat) (k : Nat) :
    ∀ i : Nat, vs.length - i = k → i ≤ vs.length → i ≤ us.length → Meets (Builtin.«list.__eq__.loop» ⟨[.ref l, .ref b, rawInt i, rawInt 4], []⟩)
      (fun _ R s => s.heap.get? l = some { cls := .type "list", dict := none, data := .seq vs.toArray n, slots := #[] } ∧ s.heap.get? b = some { cls := .type "list", dict := none, data := .seq us.toArray n2, slots := #[] } ∧
        R (.ok (.ret (.bool (decide (ms.drop i < ns.drop i))))) s) := by
  induction k with
  | zero =>
    intro i hk h1 h2 prog w A R s h
    obtain ⟨hp, g, d, tk, os⟩ := s; obtain ⟨hl, hb, h⟩ := h
    wp_walk using wpAny_loadPart' hl, wpAny_loadPart' hb
    have hi1 : vs.toArray[((i : Nat) : Int).toNat]? = none := by simp; omega
    rw [hi1]
    wp_walk using wpAny_loadPart' hl, wpAny_loadPart' hb
    show R (.ok (.ret (.bool (decide (vs.toArray.size > us.toArray.size))))) _
    rw [ltL_end (by rw [← hu.length]; omega) (by rw [← hv.length]; omega) (Or.inr (by rw [← hv.length]; omega))] at h
    simpa [hv.length, hu.length] using h
  | succ k ih =>
    intro i hk h1 h2 prog w A R s h
    obtain ⟨hp, g, d, tk, os⟩ := s; obtain ⟨hl, hb, h⟩ := h
    wp_walk using wpAny_loadPart' hl, wpAny_loadPart' hb
    have hlt : i < vs.length := by omega
    obtain ⟨x, tx, ex, hx⟩ := IntsAre.at hv i _ (List.getElem?_eq_getElem hlt)
    have hi1 : vs.toArray[((i : Nat) : Int).toNat]? = some (.int x tx) := by simpa [hlt] using ex
    by_cases hlt2 : i < us.length
    · obtain ⟨y, ty, ey, hy⟩ := IntsAre.at hu i _ (List.getElem?_eq_getElem hlt2)
      have hi2 : us.toArray[((i : Nat) : Int).toNat]? = some (.int y ty) := by simpa [hlt2] using ey
      have hd : ns.drop i = x :: ns.drop (i + 1) := by
        have : i < ns.length := by rw [← hv.length]; exact hlt
        rw [List.drop_eq_getElem_cons this]
        rw [List.getElem?_eq_getElem this] at hx
        rw [Option.some.inj hx]
      have hd2 : ms.drop i = y :: ms.drop (i + 1) := by
        have : i < ms.length := by rw [← hu.length]; exact hlt2
        rw [List.drop_eq_getElem_cons this]
        rw [List.getElem?_eq_getElem this] at hy
        rw [Option.some.inj hy]
      have hc : ((i : Int) + 1) = ((i + 1 : Nat) : Int) := by push_cast; rfl
      rw [hd, hd2] at h
      rw [hi1, hi2]
      refine wpAny_bind (wpAny_eqBool_int ?_)
      cases hb' : x == y with
      | true =>
        have hxy : x = y := eq_of_beq hb'
        subst hxy
        wp_walk
        rw [hc]
        exact ⟨plainId_quiet plain_eq_loop _, codeAny_builtin entry_eq_loop (by
          rw [Around.under_plainId plain_eq_loop _]
          exact ih (i + 1) (by omega) (by omega) (by omega) prog w A R _ ⟨hl, hb, by
            have e : decide (x :: ms.drop (i + 1) < x :: ns.drop (i + 1)) = decide (ms.drop (i + 1) < ns.drop (i + 1)) := by
              simp [List.cons_lt_cons_iff]
            rw [e] at h; exact h⟩)⟩
      | false =>
        have hxy : x ≠ y := by simpa using hb'
        wp_walk using wpAny_loadPart' hl, wpAny_loadPart' hb
        rw [hi1, hi2]
        dsimp only
        refine wpAny_bind ?_
        show wpAny _ _ (compareOp .Gt (.int x tx) (.int y ty)) _ _ _
        refine PyProof.Rows.gt_int ?_
        refine wpAny_pure ?_
        have e : decide (y :: ms.drop (i + 1) < x :: ns.drop (i + 1)) = decide (y < x) := by
          simp [List.cons_lt_cons_iff, Ne.symm hxy]
        rw [e] at h
        exact h
    · have hi2 : us.toArray[((i : Nat) : Int).toNat]? = none := by simp; omega
      rw [hi1, hi2]
      wp_walk using wpAny_loadPart' hl, wpAny_loadPart' hb
      show R (.ok (.ret (.bool (decide (vs.toArray.size > us.toArray.size))))) _
      rw [ltL_end (by rw [← hu.length]; omega) (by rw [← hv.length]; omega) (Or.inl (by rw [← hu.length]; omega))] at h
      simpa [hv.length, hu.length] using h
theorem list_lt (l b : Addr) (vs us : List Value) (ns ms : List Int) (hv : IntsAre vs ns) (hu : IntsAre us ms) (n n2 : Nat) : Meets (Builtin.«list.__lt__» ⟨[.ref l, .ref b], []⟩)
      (fun _ R s => s.heap.get? l = some { cls := .type "list", dict := none, data := .seq vs.toArray n, slots := #[] } ∧ s.heap.get? b = some { cls := .type "list", dict := none, data := .seq us.toArray n2, slots := #[] } ∧
        R (.ok (.ret (.bool (decide (ns < ms))))) s) := by
  intro prog w A R s h
  obtain ⟨hp, g, d, tk, os⟩ := s; obtain ⟨hl, hb, h⟩ := h
  have f3 := AutoSeq1.sub_list_list
  wp_walk using wpAny_loadPart' hl, wpAny_loadPart' hb
  exact ⟨plainId_quiet plain_eq_loop _, codeAny_builtin entry_eq_loop (by
    rw [Around.under_plainId plain_eq_loop _]
    exact lt_loop l b vs us ns ms hv hu n n2 _ 0 rfl (Nat.zero_le _) (Nat.zero_le _) prog w A R _ ⟨hl, hb, by simpa using h⟩)⟩
theorem list_gt (l b : Addr) (vs us : List Value) (ns ms : List Int) (hv : IntsAre vs ns) (hu : IntsAre us ms) (n n2 : Nat) : Meets (Builtin.«list.__gt__» ⟨[.ref l, .ref b], []⟩)
      (fun _ R s => s.heap.get? l = some { cls := .type "list", dict := none, data := .seq vs.toArray n, slots := #[] } ∧ s.heap.get? b = some { cls := .type "list", dict := none, data := .seq us.toArray n2, slots := #[] } ∧
        R (.ok (.ret (.bool (decide (ms < ns))))) s) := by
  intro prog w A R s h
  obtain ⟨hp, g, d, tk, os⟩ := s; obtain ⟨hl, hb, h⟩ := h
  have f3 := AutoSeq1.sub_list_list
  wp_walk using wpAny_loadPart' hl, wpAny_loadPart' hb
  exact ⟨plainId_quiet plain_eq_loop _, codeAny_builtin entry_eq_loop (by
    rw [Around.under_plainId plain_eq_loop _]
    exact gt_loop l b vs us ns ms hv hu n n2 _ 0 rfl (Nat.zero_le _) (Nat.zero_le _) prog w A R _ ⟨hl, hb, by simpa using h⟩)⟩
section
variable {prog : Program} {w : World} {A : Around} {E : Value → Shared → Prop} {s : Shared} {h₀ : Heap} {L a b : Addr} {news : Led} {vs us : List Value} {ns ms : List Int} {n n2 : Nat} {Q : Value → Shared → Prop}
theorem lt_L (N : News h₀ L s.heap news) (ha : (a, W.listOf vs.toArray n) ∈ news) (hb : (b, W.listOf us.toArray n2) ∈ news) (hv : IntsAre vs ns) (hu : IntsAre us ms) (hr : A.units < cLine) (h : Q (.bool (decide (ns < ms))) s) :
    wpAny (model prog w) A (compareOp .Lt (.ref a) (.ref b)) Q E s :=
  richCompare_meets_room (op := .Lt) ⟨_, (N _ ha).1, rfl⟩ ⟨_, (N _ hb).1, rfl⟩ F.slot_list_lt F.entry_list_lt (F.args_list_lt_2 _ _) (list_lt a b vs us ns ms hv hu n n2)
    ⟨(N _ ha).1, (N _ hb).1, show Value.bool _ ≠ Value.notImplemented ∧ Q (.bool _) s from ⟨(fun x => nomatch x), h⟩⟩ hr
theorem gt_L (N : News h₀ L s.heap news) (ha : (a, W.listOf vs.toArray n) ∈ news) (hb : (b, W.listOf us.toArray n2) ∈ news) (hv : IntsAre vs ns) (hu : IntsAre us ms) (hr : A.units < cLine) (h : Q (.bool (decide (ms < ns))) s) :
    wpAny (model prog w) A (compareOp .Gt (.ref a) (.ref b)) Q E s :=
  richCompare_meets_room (op := .Gt) ⟨_, (N _ ha).1, rfl⟩ ⟨_, (N _ hb).1, rfl⟩ F.slot_list_gt F.entry_list_gt (F.args_list_gt_2 _ _) (list_gt a b vs us ns ms hv hu n n2)
    ⟨(N _ ha).1, (N _ hb).1, show Value.bool _ ≠ Value.notImplemented ∧ Q (.bool _) s from ⟨(fun x => nomatch x), h⟩⟩ hr
end
end
section
theorem look_blen : typeLookup (.type "bytes") "__len__" = pure (some (.builtin "bytes.__len__")) := by rw [typeLookup_type, builtinLookup_eq_fast]; kernel_rfl
section
variable {prog : Program} {w : World} {A : Around} {E : Value → Shared → Prop} {s : Shared}
noncomputable abbrev OctAt (b : Array UInt8) (i : Nat) (v : Value) : Prop := ∃ c u, b[i]? = some c ∧ v = .int (c.toNat : Int) u
theorem extend_octets {R : Result → Shared → Prop} (hh : A.handled = none) (b : Array UInt8) (t : Tok) (S : Addr) (res : Value) (c₀ : Nat) (hS : s.heap.get? S = some { cls := .type "list", data := .seq #[] c₀ })
    (hn : b.size ≤ sizeLine) (hR : ∀ h' tk acc' c', (∀ b o, b ≠ S → s.heap.get? b = some o → h'.get? b = some o) → h'.get? S = some { cls := .type "list", dict := none, data := .seq acc' c', slots := #[] } →
      ItemsOf (OctAt b) acc' b.size → R (.ok (.ret res)) { s with heap := h', toks := tk }) :
    wpAny (model prog w) A.in1 (Builtin.List.listExtendWith (.ref S) (.bytes b t) res)
      (fun fin s' => match fin with | .done f => R (.ok f) s' | .again c' => c'.quiet = true ∧ codeAny (model prog w) A c' R s') (fun e s' => R (.error e) s') s := by
  have hSI : S ≠ s.heap.objs.size := Nat.ne_of_lt (Heap.lt_size hS)
  have hSf : S ∉ [s.heap.objs.size] := fun hm => hSI (List.mem_singleton.mp hm)
  unfold Builtin.List.listExtendWith
  refine wpAny_bind (wpAny_typeOf (T := "bytes") (v := .bytes b t) rfl ?_)
  have h1 : Builtin.List.listSameRef (.ref S) (.bytes b t) = false := rfl
  have h2 : (Value.type "bytes" == Value.type "list") = false := by decide
  have h3 : (Value.type "bytes" == Value.type "tuple") = false := by decide
  simp only [h1, h2, h3, Bool.or_false, Bool.false_eq_true, if_false]
  refine wpAny_bind (KBw.pyIter_bytes ?_)
  refine wpAny_bind (wpAny_holding ?_)
  unfold Builtin.List.listLengthHint
  refine wpAny_bind (wpAny_specialOf (T := "bytes") (v := .bytes b t) rfl look_blen ?_)
  wp_delta
  refine wpAny_bind (wpAny_isInstance (T := "bytes") (v := .bytes b t) (b := true) rfl (by rw [isSubtype_type]; kernel_rfl) ?_)
  show wpAny _ _ (typeOf (Value.bytes b t) >>= _) _ _ _
  refine wpAny_bind (wpAny_typeOf (T := "bytes") (v := .bytes b t) rfl ?_)
  refine wpAny_pure ?_
  rw [if_neg (by decide)]
  refine wpAny_pure ⟨plainId_quiet F.plain_extend_loop _, codeAny_extend_loopS (KBw.walks (A := A.in1) hh s.heap.objs.size b t).toS hn _ hSf _ b.size 0 _ _ _ rfl (Nat.zero_le _) ⟨_, Heap.get?_push_size _ rfl, rfl, rfl⟩ (Heap.get?_push_of_some _ hS) (ItemsOf.nil _) fun s' acc' c' hm hS' hacc => ?_⟩
  rw [Moved.eq_with hm]
  refine hR s'.heap s'.toks acc' c' (fun b ob hb e => hm.heap b ob (fun hmem => ?_) (Heap.get?_push_of_some _ e)) hS' hacc
  rcases List.mem_cons.mp hmem with e' | hmem
  · exact hb e'
  · exact absurd (Heap.lt_size e) (by rw [List.mem_singleton.mp hmem]; exact Nat.lt_irrefl _)
theorem list_octets {Q : Value → Shared → Prop} (hh : A.handled = none) (b : Array UInt8) (t : Tok) (hn : b.size ≤ sizeLine)
    (hQ : ∀ h' tk acc' c', (∀ b o, s.heap.get? b = some o → h'.get? b = some o) →
      h'.get? s.heap.objs.size = some { cls := .type "list", dict := none, data := .seq acc' c', slots := #[] } → ItemsOf (OctAt b) acc' b.size → Q (.ref s.heap.objs.size) { s with heap := h', toks := tk }) :
    wpAny (model prog w) A (call (.type "list") [.bytes b t]) Q E s := by
  refine callType_codes (Q₁ := fun obj s₁ => obj = .ref s.heap.objs.size ∧ s₁ = { s with heap := s.heap.push { cls := .type "list", data := .seq #[] } }) F.called_list (F.typeCall_list_1 _) F.entry_list_init
    (code_list_new _ ⟨rfl, rfl⟩) fun obj s₁ h₁ => ?_
  obtain ⟨rfl, rfl⟩ := h₁
  have hS : (s.heap.push { cls := .type "list", data := .seq #[] }).get? s.heap.objs.size = some { cls := .type "list", data := .seq #[] } := Heap.get?_push_size _ rfl
  refine ⟨⟨_, hS, rfl⟩, F.args_list_init_2 _ _, ?_⟩
  show wpAny _ _ (do let old ← Builtin.List.listItems (.ref s.heap.objs.size); Builtin.List.listUpdate (.ref s.heap.objs.size) (fun _ => #[]); letGo old.toList.reverse; Builtin.List.listExtendWith (.ref s.heap.objs.size) (.bytes b t) .none) _ _ _
  refine wpAny_bind ?_
  unfold Builtin.List.listItems
  refine wpAny_bind (wpAny_seqItems hS rfl (wpAny_pure ?_))
  show wpAny _ _ (updateSeq s.heap.objs.size (fun _ => #[]) >>= fun _ => letGo (#[] : Array Value).toList.reverse >>= fun _ => Builtin.List.listExtendWith (.ref s.heap.objs.size) (.bytes b t) .none) _ _ _
  refine wpAny_bind (wpAny_updateSeq hS rfl ?_)
  have hS₂ := Heap.get?_update_self (Obj.mapSeq (fun _ => (#[] : Array Value))) hS rfl
  refine wpAny_bind (wpAny_letGo ?_)
  refine extend_octets (A := A.in1) hh b t _ .none _ hS₂ hn fun h' tk acc' c' hk hS' hacc => ?_
  exact ⟨rfl, hQ h' tk acc' c' (fun a o e => hk a o (Nat.ne_of_lt (Heap.lt_size e)) ((Heap.get?_update_other _ _ (Ne.symm (Nat.ne_of_lt (Heap.lt_size e)))).trans (Heap.get?_push_of_some _ e))) hS' hacc⟩
end
theorem octs_ints {b : Array UInt8} {acc : Array Value} (h : ItemsOf (OctAt b) acc b.size) : IntsAre acc.toList (KBw.bInts b) := by
  have : ∀ (l : List Value) (ns : List Int), l.length = ns.length → (∀ (i : Nat) (v : Value), l[i]? = some v → ∃ (z : Int) (t : Tok), ns[i]? = some z ∧ v = Value.int z t) → IntsAre l ns := by
    intro l
    induction l with
    | nil => intro ns hl _; cases ns with | nil => exact .nil | cons => simp at hl
    | cons v r ih =>
      intro ns hl hp
      cases ns with
      | nil => simp at hl
      | cons z ns =>
        obtain ⟨z', t, hz, rfl⟩ := hp 0 v rfl
        obtain rfl : z = z' := by simpa using hz
        exact .cons z t (ih ns (by simpa using hl) fun i v hv => by simpa using hp (i + 1) v (by simpa using hv))
  refine this _ _ (by simp [KBw.bInts, h.1]) fun i v hv => ?_
  obtain ⟨c, u, hc, rfl⟩ := h.2 i v (by simpa using hv)
  exact ⟨_, u, KBw.ints_get hc, rfl⟩
theorem list_bytes_L {prog : Program} {w : World} {A : Around} {E : Value → Shared → Prop} {s : Shared} {h₀ : Heap} {L : Addr} {m : Str → Option Value} {news : Led} {b : Array UInt8} {t : Tok} {Q : Value → Shared → Prop} (F : Fr h₀ L s.heap m) (N : News h₀ L s.heap news) (hh : A.handled = none) (hn : b.size ≤ 1000)
    (h : ∀ D h' tk vs n, Fr h₀ L h' m → News h₀ L h' ((D, W.listOf (List.toArray vs) n) :: news) → (∀ p ∈ news, p.1 < D) → IntsAre vs (KBw.bInts b) → Q (.ref D) { s with heap := h', toks := tk }) :
    wpAny (model prog w) A (call (.type "list") [.bytes b t]) Q E s := by
  refine list_octets hh b t (by rw [sizeLine_eq]; omega) fun h' tk acc c hk hD hI => ?_
  have hD' : h'.get? s.heap.objs.size = some (W.listOf (List.toArray acc.toList) c) := by
    rw [Array.toArray_toList]
    exact hD
  exact h _ h' tk acc.toList c (F.keeps hk) (news_pushed F N hk hD' rfl) (fun p hp => Heap.lt_size (N p hp).1) (octs_ints hI)
theorem sgn_ints {a b : List Nat} : ((a.map fun z : Nat => (z : Int)) < b.map fun z : Nat => (z : Int)) ↔ a < b := by
  induction a generalizing b with
  | nil => cases b <;> simp
  | cons x a ih =>
    cases b with
    | nil => simp
    | cons y b =>
      simp only [List.map_cons, List.cons_lt_cons_iff, ih]
      constructor
      · rintro (h | ⟨h, h2⟩)
        · exact Or.inl (by omega)
        · exact Or.inr ⟨by omega, h2⟩
      · rintro (h | ⟨h, h2⟩)
        · exact Or.inl (by omega)
        · exact Or.inr ⟨by omega, h2⟩
theorem bInts_nats (b : Array UInt8) : KBw.bInts b = (nats b).map fun z : Nat => (z : Int) := by simp [KBw.bInts, nats]
theorem sgnL_of (a b : List Nat) : ((if decide (b < a) = true then (1 : Int) else 0) - if decide (a < b) = true then 1 else 0) = sgnL a b := by
  simp only [sgnL, decide_eq_true_eq]
  by_cases h1 : a < b
  · have h2 : ¬ b < a := fun h => List.lt_irrefl a (List.lt_trans h1 h)
    simp [h1, h2]
  · by_cases h2 : b < a <;> simp [h1, h2]
end
section
open PySem.Sem (wp)
open Builtin
noncomputable def IsBaIter (h : Heap) (I a : Addr) (i : Nat) : Prop := ∃ o, h.get? I = some o ∧ o.cls = .type "bytearray_iterator" ∧ o.data = .fields #[.ref a, .int i 0]
theorem baIter_type {s : Shared} {I a : Addr} {i : Nat} (y : IsBaIter s.heap I a i) : s.TypeIs (.ref I) "bytearray_iterator" := let ⟨o, ho, hc, _⟩ := y; ⟨o, ho, hc⟩
section
variable {prog : Program} {w : World} {A : Around} {E : Value → Shared → Prop} {s : Shared} {a : Addr} {b : Array UInt8}
theorem pyIter_ba {Q : Value → Shared → Prop} (ho : s.heap.get? a = some (baObj b)) (hQ : Q (.ref s.heap.objs.size) { s with heap := s.heap.push { cls := .type "bytearray_iterator", data := .fields #[.ref a, .int 0 0] } }) : wpAny (model prog w) A (pyIter (.ref a)) Q E s := by
  refine wpAny_pyIter_slot (ba_type ho) BA.slot_iter (wpAny_call_entry BA.slot_iter (ba_type ho) BA.entry_iter ?_ (BA.args_iter _))
  show wpAny _ _ (do ret (← newFields "bytearray_iterator" [.ref a, rawInt 0])) _ _ s
  exact wpAny_bind (wpAny_newObj_type (wpAny_pure ⟨_, rfl, "bytearray_iterator", _, ⟨_, Heap.get?_push_size _ rfl, rfl⟩, BA.slot_next.lookup, hQ⟩))
theorem baIter_self {it : Addr} {i : Nat} {Q : Value → Shared → Prop} (hit : IsBaIter s.heap it a i) (h : Q (.ref it) s) : wpAny (model prog w) A (pyIter (.ref it)) Q E s := by
  refine wpAny_pyIter_slot (baIter_type hit) BA.slot_self (wpAny_call_entry BA.slot_self (baIter_type hit) BA.entry_self ?_ (BA.args_self _))
  show wpAny _ _ (ret (.ref it)) _ _ s
  exact wpAny_pure ⟨_, rfl, "bytearray_iterator", _, baIter_type hit, BA.slot_next.lookup, h⟩
theorem baNext_item {it : Addr} {i : Nat} {c : UInt8} {Q : Option Value → Shared → Prop} (hit : IsBaIter s.heap it a i) (hb : s.heap.get? a = some (baObj b)) (hx : b[i]? = some c)
    (hQ : ∀ h', IsBaIter h' it a (i + 1) → Heap.SameBut it s.heap h' → Q (some (.int (c.toNat : Int) s.toks)) { s with heap := h', toks := s.toks + 1 }) : wpAny (model prog w) A (pyNext (.ref it)) Q E s := by
  obtain ⟨o, ho, hc, hd⟩ := id hit
  unfold pyNext
  refine wpAny_bind (wpAny_attempt (wpAny_callSpecial?_slot (name := PySem.Str.ofString "__next__") (baIter_type hit) BA.slot_next
    (wpAny_call_entry BA.slot_next (baIter_type hit) BA.entry_next ?_ (BA.args_next _))))
  show wpAny _ _ (field (.ref it) 0 >>= _) _ _ s
  refine wpAny_bind (wpAny_field ho hd (x := .ref a) rfl ?_)
  show wpAny _ _ (load a >>= _) _ _ s
  refine wpAny_bind (wpAny_load hb ?_)
  show wpAny _ _ (field (.ref it) 1 >>= _) _ _ s
  refine wpAny_bind (wpAny_field ho hd (x := .int i 0) rfl ?_)
  simp only [Int.toNat_natCast, hx]
  refine wpAny_bind (wpAny_setField ho hd (by simp) (wpAny_bind (wpAny_mkInt (wpAny_pure ⟨_, rfl, wpAny_pure (hQ _ ?_ (Heap.SameBut.update ..))⟩))))
  exact ⟨_, Heap.get?_update_self _ ho (Obj.isFreed_of_fields (Obj.data_mapFields hd _)), (Obj.cls_mapFields ..).trans hc, by
    rw [Obj.data_mapFields hd]; simp [rawInt]⟩
theorem baNext_end {it : Addr} {i : Nat} {Q : Option Value → Shared → Prop} (hh : A.handled = none) (hit : IsBaIter s.heap it a i) (hb : s.heap.get? a = some (baObj b)) (hx : b[i]? = none)
    (hQ : ∀ h', Heap.ExtBut it s.heap h' → Q none { s with heap := h' }) : wpAny (model prog w) A (pyNext (.ref it)) Q E s := by
  obtain ⟨o, ho, hc, hd⟩ := id hit
  unfold pyNext
  refine wpAny_bind (wpAny_attempt (wpAny_callSpecial?_slot (name := PySem.Str.ofString "__next__") (baIter_type hit) BA.slot_next
    (wpAny_call_entry BA.slot_next (baIter_type hit) BA.entry_next ?_ (BA.args_next _))))
  show wpAny _ _ (field (.ref it) 0 >>= _) _ _ s
  refine wpAny_bind (wpAny_field ho hd (x := .ref a) rfl ?_)
  show wpAny _ _ (load a >>= _) _ _ s
  refine wpAny_bind (wpAny_load hb ?_)
  show wpAny _ _ (field (.ref it) 1 >>= _) _ _ s
  refine wpAny_bind (wpAny_field ho hd (x := .int i 0) rfl ?_)
  simp only [Int.toNat_natCast, hx]
  refine wpAny_bind (wpAny_rule (wpAny_bind (wpAny_setField ho hd (by simp) (wpAny_bind (wpAny_letGo ?_)))))
  show wpAny _ _ (newExc (.type "StopIteration") [] >>= _) _ _ _
  refine wpAny_bind ?_
  simp only [newExc, newTuple]
  refine wpAny_bind (wpAny_newObj_type ?_ (by size_fits))
  refine wpAny_bind (m := firstArgMember _ _) (wpAny_of_eq (a := Value.none) (by first | rfl | (simp only [firstArgMember]; rfl)) ?_)
  refine wpAny_newObj_type ?_ (by size_fits)
  simp only [raiseNew]
  refine wpAny_bind (wpAny_handled ?_)
  rw [show A.in1.handled = none from hh]
  refine wpAny_bind (wpAny_pure (wpAny_throw ?_))
  refine wpAny_bind (wpAny_isInstance (T := "StopIteration") (b := true) ⟨_, Heap.get?_push_size _ rfl, rfl⟩ isSubtype_stop ?_)
  exact wpAny_pure (hQ _ (((Heap.SameBut.update ..).extBut.push _).push _))
theorem baWalks (hh : A.handled = none) (I a : Addr) (b : Array UInt8) (hne : a ≠ I) :
    Walks prog w A I [I, a] [I] b.size (OctAt b) (fun i h => IsBaIter h I a i ∧ h.get? a = some (baObj b)) where
  sub := fun b hb => by simp at hb; simp [hb]
  frame := fun _ _ _ st hk => ⟨(let ⟨o, ho, r⟩ := st.1; ⟨o, hk I (by simp) o ho, r⟩), hk a (by simp) _ st.2⟩
  item := fun i s Q E hi st hQ => by
    refine baNext_item st.1 st.2 (c := b[i]) (by simp [hi]) fun h' hit' hs' => ?_
    exact hQ _ h' (s.toks + 1) ⟨_, _, by simp [hi], rfl⟩ ⟨hit', hs'.extBut a _ hne st.2⟩ fun b o hb e => hs'.extBut b o (fun h => hb (by simp [h])) e
  done := fun s Q E st hQ => baNext_end hh st.1 st.2 (by simp) fun h' he' => hQ h' s.toks fun b o hb e => he' b o (fun h => hb (by simp [h])) e
  self := fun _ _ _ _ st hQ => baIter_self st.1 hQ
end
/-! the ledger's rules -/
section
variable {prog : Program} {w : World} {A : Around} {s : Shared} {h₀ : Heap} {L D : Addr} {m : Str → Option Value} {news rest : Led} {b : Array UInt8} {Q : Value → Shared → Prop}
theorem newba_L (F : Fr h₀ L s.heap m) (N : News h₀ L s.heap news) (h : ∀ D h', Fr h₀ L h' m → News h₀ L h' ((D, baObj #[]) :: news) → (∀ p ∈ news, p.1 < D) → Q (.ref D) { s with heap := h' }) : wpC (model prog w) A (call (.type "bytearray") []) Q s := by
  refine c_newba ?_
  have F1 := F.push (baObj #[])
  have N1 : News h₀ L (s.heap.push (baObj #[])) ((s.heap.objs.size, baObj #[]) :: news) := N.push F _
  have z := N1 (s.heap.objs.size, baObj #[]) (.head _)
  refine h _ _ (F1.change (Heap.SameBut.update ..) z.2.1 z.2.2) ?_ fun p hp => Heap.lt_size (N p hp).1
  refine news_set (pre := []) N1 (fun _ h => nomatch h) (fun p hp => Nat.ne_of_lt (Heap.lt_size (N p hp).1)) (Heap.SameBut.update ..) ?_
  exact Heap.get?_update_self (Obj.mapBytearray fun _ => #[]) z.1 rfl
theorem upd_L {f : Array UInt8 → Array UInt8} (F : Fr h₀ L s.heap m) (N : News h₀ L s.heap ((D, baObj b) :: rest)) (off : Off D rest) :
    Fr h₀ L (s.heap.update D (Obj.mapBytearray f)) m ∧ News h₀ L (s.heap.update D (Obj.mapBytearray f)) ((D, baObj (f b)) :: rest) := by
  have z := N (D, baObj b) (.head _)
  exact ⟨F.change (Heap.SameBut.update ..) z.2.1 z.2.2, news_set (pre := []) N (fun _ h => nomatch h) off (Heap.SameBut.update ..) (Heap.get?_update_self (Obj.mapBytearray f) z.1 rfl)⟩
theorem append_B {v : Int} {t : Tok} (F : Fr h₀ L s.heap m) (N : News h₀ L s.heap news) (P : Pull (D, baObj b) news rest) (off : Off D rest) (h0 : 0 ≤ v) (h1 : v < 256) (hz : b.size ≤ 10000)
    (h : ∀ h', Fr h₀ L h' m → News h₀ L h' ((D, baObj (b.push v.toNat.toUInt8)) :: rest) → Q .none { s with heap := h' }) : wpC (model prog w) A (call (.builtin "bytearray.append") [.ref D, .int v t]) Q s := by
  have N1 := news_pull N P
  have u := upd_L (f := (·.push v.toNat.toUInt8)) F N1 off
  exact c_append (N1 _ (.head _)).1 h0 h1 (by rw [sizeLine_eq]; omega) (h _ u.1 u.2)
theorem extend_B {x : Array UInt8} {t : Tok} (F : Fr h₀ L s.heap m) (N : News h₀ L s.heap news) (P : Pull (D, baObj b) news rest) (off : Off D rest) (hz : b.size + x.size ≤ 10000)
    (h : ∀ h', Fr h₀ L h' m → News h₀ L h' ((D, baObj (b ++ x)) :: rest) → Q .none { s with heap := h' }) : wpC (model prog w) A (call (.builtin "bytearray.extend") [.ref D, .bytes x t]) Q s := by
  have N1 := news_pull N P
  have u := upd_L (f := (· ++ x)) F N1 off
  exact c_extend_b (N1 _ (.head _)).1 (by rw [sizeLine_eq]; omega) (h _ u.1 u.2)
theorem extend_BA {c : Addr} {x : Array UInt8} (F : Fr h₀ L s.heap m) (N : News h₀ L s.heap news) (hc : (c, baObj x) ∈ news) (P : Pull (D, baObj b) news rest) (off : Off D rest) (hz : b.size + x.size ≤ 10000)
    (h : ∀ h', Fr h₀ L h' m → News h₀ L h' ((D, baObj (b ++ x)) :: rest) → Q .none { s with heap := h' }) : wpC (model prog w) A (call (.builtin "bytearray.extend") [.ref D, .ref c]) Q s := by
  have N1 := news_pull N P
  have u := upd_L (f := (· ++ x)) F N1 off
  exact c_extend_ba (N1 _ (.head _)).1 (N _ hc).1 (by rw [sizeLine_eq]; omega) (h _ u.1 u.2)
theorem bytes_B {E : Value → Shared → Prop} (N : News h₀ L s.heap news) (hm : (D, baObj b) ∈ news) (hz : b.size ≤ 10000) (h : ∀ t k, Q (.bytes b t) { s with toks := k }) : wpAny (model prog w) A (call (.type "bytes") [.ref D]) Q E s :=
  bytes_ba (N _ hm).1 (by rw [sizeLine_eq]; omega) h
end
end
section
open PySem.Sem (wp)
/-- what a call of the def at `f` does, in a clean context -/
noncomputable abbrev DoesC (w : World) (loose : List Str) (mean : ExcName → Option Value) (mg mb : Str → Option Value) (f : Addr) (n : Nat) (vs : List Value) (news : Led) (R : Value → Led → Prop) : Prop :=
  ∀ (dp un : Nat) (gd : Option (List Code)) (cn : Str) (cs : Scope) (a : Addr) (ccd : Value) (cl : List (Str × Addr)) (outer : List Env) (A₀ : Around) (base h₀ : Heap) (L : Addr) (m : Str → Option Value) (s : Shared) (Q : Value → Shared → Prop),
    Below A₀ base outer h₀ → Fr h₀ L s.heap m → (hd.heap_39 w.params).In h₀ → News h₀ L s.heap news → Top hd.view_39 loose mean mg mb h₀ → cs.kind = .function → dp + n < recursionLimit → un + 8 * n < cLine →
    (∀ r news' h' tk', R r news' → Fr h₀ L h' m → News h₀ L h' news' → Q r { s with heap := h', toks := tk' }) →
    wpC (model PROG w) (ktrTop dp un gd cn cs L a ccd cl outer) (call (.ref f) vs) Q s
theorem DoesC.of {w : World} {loose : List Str} {mean : ExcName → Option Value} {mg mb : Str → Option Value} {f : Addr} {n : Nat} {vs : List Value} {news : Led} {R : Value → Led → Prop} (h : Does w loose mean mg mb f n vs news R) : DoesC w loose mean mg mb f n vs news R :=
  fun dp un gd cn cs a ccd cl outer A₀ base h₀ L m s Q B F X N T hk hdp hun hret => cAny (h dp un gd cn cs a ccd cl outer A₀ base h₀ L m s Q NoE B F X N T hk hdp hun hret)
section
variable {M : Model} {A : Around} {s : Shared} {env : Env}
noncomputable def BaCall (M : Model) (A : Around) (pos : Pos) (id : String) (trees : List (Bool × Sem Value)) (Q : Value → Shared → Prop) (ov : Value) (s₁ : Shared) : Prop :=
  ∃ D b, ov = .ref D ∧ s₁.heap.get? D = some (baObj b) ∧ wpC M A (callWith pos (.builtin id) [.ref D] trees []) Q s₁
noncomputable def NextC (M : Model) (A : Around) (rest : List Stmt) (env : Env) (Q : Flow → Shared → Prop) (v : Value) (s' : Shared) : Prop := v = .none ∧ wpC M A (execs rest env) Q s'
theorem cBa {id : String} {x name : Str} {xp apos pos pos' : Pos} {e : Expr} {rest : List Stmt} {Q : Flow → Shared → Prop} (slot : Slot "bytearray" name id) (ty : typeOf (.builtin id) = pure (.type "method_descriptor"))
    (h : wpAny M A (eval (.Name x xp) env) (BaCall M A pos id [(false, eval e env)] (NextC M A rest env Q)) NoE s)
    (hbase : attributeBase (.Name x xp) name env (eval (.Name x xp) env) = eval (.Name x xp) env := by rfl)
    (htr : backTo pos (starEach [e] env) = [(false, eval e env)] := by rfl)
    (hfew : ((backTo pos (starEach [e] env)).all (fun x => !x.1) && (backToKw pos (keywordEach [] env)).all (fun x => x.1.isSome)
      && decide (([e] : List Expr).length + ([] : List Keyword).length + (if ([] : List Keyword).isEmpty then 0 else 1) < 30)) = true := by rfl)
    (hline : (apos.endLine == pos.line) = true := by rfl) (hi : interactive env = false := by rfl) (hs : swapsWith (.Call (.Attribute (.Name x xp) name apos) [e] [] pos) none pos'.line env = pure false := by rfl) :
    wpC M A (execs (.Expr (.Call (.Attribute (.Name x xp) name apos) [e] [] pos) pos' :: rest) env) Q s := by
  refine cExecs_cons (cExpr ?_ hi hs)
  refine cMethod hbase hfew hline ba_attrs slot ty (wpAny_mono h (fun ov s₁ h₁ => ?_) fun _ _ e => e)
  obtain ⟨D, b, rfl, hD, hc⟩ := h₁
  refine ⟨ba_type hD, fun a ha => ?_, ?_⟩
  · cases ha
    exact ⟨_, hD, rfl⟩
  · rw [htr]
    exact cMono hc fun v s' h' => ⟨h'.1, h'.2⟩
/-- a name set to a call that turns buffers -/
theorem cSet {x : Str} {px pos : Pos} {e : Expr} {rest : List Stmt} {Q : Flow → Shared → Prop} (h : wpC M A (eval e env) (fun v s₁ => wpAny M A (storeName env x v) (fun _ s₂ => wpC M A (execs rest env) Q s₂) NoE s₁) s)
    (hs : swapsWith e (some (.Name x px)) pos.line env = pure false := by rfl) : wpC M A (execs (.Assign [.Name x px] e pos :: rest) env) Q s :=
  cExecs_cons (cAssign h hs)
theorem cCase {test : Expr} {body orelse rest : List Stmt} {pos : Pos} {Q : Flow → Shared → Prop} (h : wpAny M A (isTrue test env (eval test env)) (fun b s₂ => if b = true then wpC M A (execs body env) (fun f s' => match f with | .next => wpC M A (execs rest env) Q s' | f => Q f s') s₂ else wpC M A (execs orelse env) (fun f s' => match f with | .next => wpC M A (execs rest env) Q s' | f => Q f s') s₂) NoE s) :
    wpC M A (execs (.If test body orelse pos :: rest) env) Q s := cExecs_cons (cIf (cAny h))
theorem cCaseC {test : Expr} {body orelse rest : List Stmt} {pos : Pos} {Q : Flow → Shared → Prop} (h : wpC M A (isTrue test env (eval test env)) (fun b s₂ => if b = true then wpC M A (execs body env) (fun f s' => match f with | .next => wpC M A (execs rest env) Q s' | f => Q f s') s₂ else wpC M A (execs orelse env) (fun f s' => match f with | .next => wpC M A (execs rest env) Q s' | f => Q f s') s₂) s) :
    wpC M A (execs (.If test body orelse pos :: rest) env) Q s := cExecs_cons (cIf h)
/-- a for whose body turns buffers -/
noncomputable def ForC (M : Model) (A : Around) (x : Str) (px : Pos) (body : List Stmt) (env : Env) (Q : Flow → Shared → Prop) (it : Value) (s₂ : Shared) : Prop :=
  codeC M A (.forLoop (.Name x px) it body [] env) (fun r s' => match r with | .ok f => Q f s' | .error _ => False) s₂
theorem cForS {x : Str} {px pos : Pos} {iter : Expr} {body rest : List Stmt} {Q : Flow → Shared → Prop}
    (h : wpAny M A (eval iter env) (fun v s₁ => wpAny M A (pyIter v) (ForC M A x px body env (fun f s' => match f with | .next => wpC M A (execs rest env) Q s' | f => Q f s')) NoE s₁) NoE s)
    (hs : ∀ x, foldedSetIterable iter env x = pure x := by intro _; rfl) : wpC M A (execs (.For (.Name x px) iter body [] pos :: rest) env) Q s :=
  cExecs_cons (cFor h hs)
end
section
variable {prog : Program} {w : World} {A : Around} {s : Shared} {env : Env} {h₀ : Heap} {x : Str} {px : Pos} {body : List Stmt} {Q : Flow → Shared → Prop} {σ : Type} {m₀ : Str → Option Value} {news0 : Led}
noncomputable def CTurn (prog : Program) (w : World) (A : Around) (s : Shared) (env : Env) (h₀ : Heap) (x : Str) (body : List Stmt) (Q : Flow → Shared → Prop) (m₀ : Str → Option Value) (news0 : Led) (led : σ → Led) (st : List Str) (Inv : Nat → σ → (Str → Option Value) → Prop) (c₀ : σ) (i : Nat) (v : Value) : Prop :=
  ∀ c m₁ h tk rest, Inv i c m₁ → Upto st m₀ m₁ → (∀ p ∈ news0, p ∈ rest) → (∀ a ∈ (led c₀).map (·.1), Off a news0 → Off a rest) → Fr h₀ env.locals h (fun y => if y = x then some v else if st.contains y = true then m₁ y else m₀ y) → News h₀ env.locals h (led c ++ rest) →
    wpC (model prog w) A (execs body env) (TPost h₀ env.locals (fun m' news' => ∃ c', news' = led c' ++ rest ∧ Inv (i + 1) c' m' ∧ Upto st m₀ m') { s with heap := h, toks := tk } Q) { s with heap := h, toks := tk }
noncomputable def CDone (s : Shared) (env : Env) (h₀ : Heap) (Q : Flow → Shared → Prop) (m₀ : Str → Option Value) (news0 : Led) (led : σ → Led) (st : List Str) (Inv : Nat → σ → (Str → Option Value) → Prop) (n : Nat) : Prop :=
  ∀ c m₁ h tk, Inv n c m₁ → Upto st m₀ m₁ → Fr h₀ env.locals h (fun y => if st.contains y = true then m₁ y else m₀ y) → News h₀ env.locals h (led c ++ news0) → Q .next { s with heap := h, toks := tk }
theorem for_strC {xt : Str} {tx : Tok} (led : σ → Led) (st : List Str) (Inv : Nat → σ → (Str → Option Value) → Prop) (c₀ : σ)
    (hh : A.handled = none) (hx : env.kindOf x = some .local) (hp : (env.scope.kind == .class || (env.scope.kind == .module && env.locals != env.globals)) = false)
    (F : Fr h₀ env.locals s.heap m₀) (N : News h₀ env.locals s.heap (led c₀ ++ news0)) (hadr : ∀ c, (led c).map (·.1) = (led c₀).map (·.1)) (hj : Inv 0 c₀ m₀)
    (turn : ∀ i d u, xt.cps[i]? = some d → CTurn prog w A s env h₀ x body Q m₀ news0 led st Inv c₀ i (.str ⟨#[d]⟩ u))
    (done : CDone s env h₀ Q m₀ news0 led st Inv xt.cps.size) :
    wpAny (model prog w) A (pyIter (.str xt tx)) (ForC (model prog w) A x px body env Q) NoE s := by
  refine wpAny_pyIter_str fun o St W hst => ?_
  refine loop_C (s := { s with heap := s.heap.push o }) led st Inv c₀ (W A hh) hx hp ?_ ?_ ?_ ?_ hst (F.push _) (fun p hp => ⟨Heap.get?_push_of_some _ (N p hp).1, (N p hp).2⟩) hadr hj ?_ ?_
  · exact fun hm => absurd F.ns.lt ((List.mem_singleton.mp hm) ▸ Nat.lt_irrefl _)
  · exact fun b hb => by rw [List.mem_singleton.mp hb]; exact next_is_new F
  · exact fun p hp hI => absurd (Heap.lt_size (N p hp).1) ((List.mem_singleton.mp hI) ▸ Nat.lt_irrefl _)
  · exact fun p hp hI => absurd (Heap.lt_size (N p hp).1) ((List.mem_singleton.mp hI) ▸ Nat.lt_irrefl _)
  · rintro i v c m₁ h tk rest hi ⟨d, u, hd, rfl⟩ hI hu hsub hoff F₁ N₁
    exact turn i d u hd c m₁ h tk rest hI hu hsub hoff F₁ N₁
  · exact done
theorem for_bytesC {b : Array UInt8} {tx : Tok} (led : σ → Led) (st : List Str) (Inv : Nat → σ → (Str → Option Value) → Prop) (c₀ : σ)
    (hh : A.handled = none) (hx : env.kindOf x = some .local) (hp : (env.scope.kind == .class || (env.scope.kind == .module && env.locals != env.globals)) = false)
    (F : Fr h₀ env.locals s.heap m₀) (N : News h₀ env.locals s.heap (led c₀ ++ news0)) (hadr : ∀ c, (led c).map (·.1) = (led c₀).map (·.1)) (hj : Inv 0 c₀ m₀)
    (turn : ∀ i c u, b[i]? = some c → CTurn prog w A s env h₀ x body Q m₀ news0 led st Inv c₀ i (.int (c.toNat : Int) u))
    (done : CDone s env h₀ Q m₀ news0 led st Inv b.size) :
    wpAny (model prog w) A (pyIter (.bytes b tx)) (ForC (model prog w) A x px body env Q) NoE s := by
  refine KBw.pyIter_bytes ?_
  refine loop_C (s := { s with heap := s.heap.push _ }) led st Inv c₀ (KBw.walks hh s.heap.objs.size b tx) hx hp ?_ ?_ ?_ ?_ ⟨_, Heap.get?_push_size _ rfl, rfl, rfl⟩ (F.push _) (fun p hp => ⟨Heap.get?_push_of_some _ (N p hp).1, (N p hp).2⟩) hadr hj ?_ ?_
  · exact fun hm => absurd F.ns.lt ((List.mem_singleton.mp hm) ▸ Nat.lt_irrefl _)
  · exact fun b hb => by rw [List.mem_singleton.mp hb]; exact next_is_new F
  · exact fun p hp hI => absurd (Heap.lt_size (N p hp).1) ((List.mem_singleton.mp hI) ▸ Nat.lt_irrefl _)
  · exact fun p hp hI => absurd (Heap.lt_size (N p hp).1) ((List.mem_singleton.mp hI) ▸ Nat.lt_irrefl _)
  · rintro i v c m₁ h tk rest hi ⟨d, u, hd, rfl⟩ hI hu hsub hoff F₁ N₁
    exact turn i d u hd c m₁ h tk rest hI hu hsub hoff F₁ N₁
  · exact done
/-- over a bytearray that the body leaves alone -/
theorem for_baC {P : Addr} {b : Array UInt8} (led : σ → Led) (st : List Str) (Inv : Nat → σ → (Str → Option Value) → Prop) (c₀ : σ)
    (hh : A.handled = none) (hx : env.kindOf x = some .local) (hp : (env.scope.kind == .class || (env.scope.kind == .module && env.locals != env.globals)) = false)
    (F : Fr h₀ env.locals s.heap m₀) (N : News h₀ env.locals s.heap ((P, baObj b) :: (led c₀ ++ news0))) (hoff : Off P (led c₀ ++ news0)) (hadr : ∀ c, (led c).map (·.1) = (led c₀).map (·.1)) (hj : Inv 0 c₀ m₀)
    (turn : ∀ i c u, b[i]? = some c → CTurn prog w A s env h₀ x body Q m₀ news0 led st Inv c₀ i (.int (c.toNat : Int) u))
    (done : CDone s env h₀ Q m₀ news0 led st Inv b.size) :
    wpAny (model prog w) A (pyIter (.ref P)) (ForC (model prog w) A x px body env Q) NoE s := by
  have hP := (N _ (.head _)).1
  have hlt : P < s.heap.objs.size := Heap.lt_size hP
  have N' : News h₀ env.locals s.heap (led c₀ ++ news0) := fun p hp => N p (.tail _ hp)
  refine pyIter_ba hP ?_
  refine loop_C (s := { s with heap := s.heap.push _ }) led st Inv c₀ (baWalks hh s.heap.objs.size P b (Nat.ne_of_lt hlt)) hx hp ?_ ?_ ?_ ?_ ⟨⟨_, Heap.get?_push_size _ rfl, rfl, rfl⟩, Heap.get?_push_of_some _ hP⟩ (F.push _) (fun p hp => ⟨Heap.get?_push_of_some _ (N' p hp).1, (N' p hp).2⟩) hadr hj ?_ ?_
  · intro hm
    rcases List.mem_cons.mp hm with e | hm
    · exact absurd F.ns.lt (e ▸ Nat.lt_irrefl _)
    · exact (N _ (.head _)).2.1 (List.mem_singleton.mp hm).symm
  · exact fun b hb => by rw [List.mem_singleton.mp hb]; exact next_is_new F
  · exact fun p hp hI => absurd (Heap.lt_size (N' p hp).1) ((List.mem_singleton.mp hI) ▸ Nat.lt_irrefl _)
  · intro p hp hI
    rcases List.mem_cons.mp hI with e | hm
    · exact absurd (Heap.lt_size (N' p hp).1) (e ▸ Nat.lt_irrefl _)
    · exact hoff p hp (List.mem_singleton.mp hm)
  · rintro i v c m₁ h tk rest hi ⟨d, u, hd, rfl⟩ hI hu hsub hoff F₁ N₁
    exact turn i d u hd c m₁ h tk rest hI hu hsub hoff F₁ N₁
  · exact done
theorem for_listC {l : Addr} {vs : List Value} {nl : Nat} (led : σ → Led) (st : List Str) (Inv : Nat → σ → (Str → Option Value) → Prop) (c₀ : σ)
    (hh : A.handled = none) (hx : env.kindOf x = some .local) (hp : (env.scope.kind == .class || (env.scope.kind == .module && env.locals != env.globals)) = false)
    (F : Fr h₀ env.locals s.heap m₀) (N : News h₀ env.locals s.heap ((l, W.listOf vs.toArray nl) :: (led c₀ ++ news0))) (hoff : Off l (led c₀ ++ news0)) (hadr : ∀ c, (led c).map (·.1) = (led c₀).map (·.1)) (hj : Inv 0 c₀ m₀)
    (turn : ∀ i v, vs[i]? = some v → CTurn prog w A s env h₀ x body Q m₀ news0 led st Inv c₀ i v)
    (done : CDone s env h₀ Q m₀ news0 led st Inv vs.length) :
    wpAny (model prog w) A (pyIter (.ref l)) (ForC (model prog w) A x px body env Q) NoE s := by
  have hl := PySem.IsL.isList (n := nl) (N _ (.head _)).1
  have hlt : l < s.heap.objs.size := Heap.lt_size (N _ (.head _)).1
  have N' : News h₀ env.locals s.heap (led c₀ ++ news0) := fun p hp => N p (.tail _ hp)
  refine wpAny_pyIter_list hl ?_
  refine loop_C (s := { s with heap := s.heap.push _ }) led st Inv c₀ (n := vs.toArray.size) (Walks.list hh s.heap.objs.size l (Nat.ne_of_lt hlt) vs.toArray) hx hp ?_ ?_ ?_ ?_ ⟨⟨_, Heap.get?_push_size _ rfl, rfl, rfl⟩, hl.push _⟩ (F.push _) (fun p hp => ⟨Heap.get?_push_of_some _ (N' p hp).1, (N' p hp).2⟩) hadr hj ?_ ?_
  · intro hm
    rcases List.mem_cons.mp hm with e | hm
    · exact absurd F.ns.lt (e ▸ Nat.lt_irrefl _)
    · exact (N _ (.head _)).2.1 (List.mem_singleton.mp hm).symm
  · exact fun b hb => by rw [List.mem_singleton.mp hb]; exact next_is_new F
  · exact fun p hp hI => absurd (Heap.lt_size (N' p hp).1) ((List.mem_singleton.mp hI) ▸ Nat.lt_irrefl _)
  · intro p hp hI
    rcases List.mem_cons.mp hI with e | hm
    · exact absurd (Heap.lt_size (N' p hp).1) (e ▸ Nat.lt_irrefl _)
    · exact hoff p hp (List.mem_singleton.mp hm)
  · intro i v c m₁ h tk rest hi hP hI hu hsub hoff F₁ N₁
    exact turn i v (by simpa using hP) c m₁ h tk rest hI hu hsub hoff F₁ N₁
  · exact fun c m₁ h tk hI => done c m₁ h tk (by simpa using hI)
theorem for_rangeC {r : Addr} {b₀ : Int} {t₀ u₀ v₀ : Tok} {n : Nat} (led : σ → Led) (st : List Str) (Inv : Nat → σ → (Str → Option Value) → Prop) (c₀ : σ)
    (hh : A.handled = none) (hx : env.kindOf x = some .local) (hp : (env.scope.kind == .class || (env.scope.kind == .module && env.locals != env.globals)) = false)
    (hr : IsRange s.heap r 0 b₀ 1 t₀ u₀ v₀) (hsmall : Builtin.Range.small 0 b₀ 1 = true) (hn : Builtin.Range.rangeSize 0 b₀ 1 = (n : Int))
    (F : Fr h₀ env.locals s.heap m₀) (N : News h₀ env.locals s.heap (led c₀ ++ news0)) (hadr : ∀ c, (led c).map (·.1) = (led c₀).map (·.1)) (hj : Inv 0 c₀ m₀)
    (turn : ∀ (i : Nat) u, i < n → CTurn prog w A s env h₀ x body Q m₀ news0 led st Inv c₀ i (.int (i : Int) u))
    (done : CDone s env h₀ Q m₀ news0 led st Inv n) :
    wpAny (model prog w) A (pyIter (.ref r)) (ForC (model prog w) A x px body env Q) NoE s := by
  refine wpAny_pyIter_range hr hsmall ?_
  have W : Walks prog w A s.heap.objs.size [s.heap.objs.size] [s.heap.objs.size] n (fun i v => ∃ t, v = .int ((0 : Int) + i * 1) t)
      (fun i h => IsRangeIter h s.heap.objs.size ((0 : Int) + (i : Nat) * 1) ((n : Int) - (i : Nat)) 1) := Walks.range hh _ 0 1 n
  refine loop_C (s := { s with heap := s.heap.push _ }) led st Inv c₀ W hx hp ?_ ?_ ?_ ?_ (by show IsRangeIter _ _ _ _ _; rw [hn]; simpa using Heap.get?_push_size _ rfl) (F.push _) (fun p hp => ⟨Heap.get?_push_of_some _ (N p hp).1, (N p hp).2⟩) hadr hj ?_ ?_
  · exact fun hm => absurd F.ns.lt ((List.mem_singleton.mp hm) ▸ Nat.lt_irrefl _)
  · exact fun b hb => by rw [List.mem_singleton.mp hb]; exact next_is_new F
  · exact fun p hp hI => absurd (Heap.lt_size (N p hp).1) ((List.mem_singleton.mp hI) ▸ Nat.lt_irrefl _)
  · exact fun p hp hI => absurd (Heap.lt_size (N p hp).1) ((List.mem_singleton.mp hI) ▸ Nat.lt_irrefl _)
  · rintro i v c m₁ h tk rest hi ⟨u, rfl⟩ hI hu hsub hoff F₁ N₁
    rw [Int.mul_one, Int.zero_add] at F₁
    exact turn i u hi c m₁ h tk rest hI hu hsub hoff F₁ N₁
  · exact done
end
theorem use_RBytesC {w : World} {loose : List Str} {mean : ExcName → Option Value} {mg mb : Str → Option Value} {f : Addr} {N : Nat} {us : List Value} {news : Led} {x : Array UInt8} {led : Led} {dp un : Nat} {gd : Option (List Code)} {cn : Str} {cs : Scope} {z : Addr} {ccd : Value} {cl : List (Str × Addr)} {outer : List Env} {A₀ : Around} {base h₀ h : Heap} {L : Addr} {m : Str → Option Value} {ge : Array GenState} {dr : Drawn} {tk : Nat} {os : OsState} {Q : Value → Shared → Prop}
    (lem : DoesC w loose mean mg mb f N us news (RBytes x led)) (k1 : Below A₀ base outer h₀) (k2 : Fr h₀ L h m) (k3 : (hd.heap_39 w.params).In h₀) (k4 : News h₀ L h news) (k5 : Top hd.view_39 loose mean mg mb h₀) (kK : cs.kind = .function) (kd : dp + N < recursionLimit) (ku : un + 8 * N < cLine)
    (k : ∀ (h9 : Heap) (tk9 : Nat), Fr h₀ L h9 m → ∀ (t : Tok), News h₀ L h9 led → Q (.bytes x t) ⟨h9, ge, dr, tk9, os⟩) : wpC (model PROG w) (ktrTop dp un gd cn cs L z ccd cl outer) (call (.ref f) us) Q ⟨h, ge, dr, tk, os⟩ :=
  lem dp un gd cn cs z ccd cl outer A₀ base h₀ L m ⟨h, ge, dr, tk, os⟩ Q k1 k2 k3 k4 k5 kK kd ku fun _ _ h9 tk9 hR F N => by
    cases hR
    exact k h9 tk9 F _ N
theorem entryK {w : World} {loose : List Str} {mean : ExcName → Option Value} {mg mb : Str → Option Value} {f : Addr} {n : Nat} {vs bs : List Value} {news : Led} {R : Value → Led → Prop} {name qual : Str} {params : Arguments} {body : List Stmt} {scope : Scope} {dV kV doc pm cdv ct oc : Value} {an od : Option Addr} {osl : Array (Option Value)} (ns : List Str)
    (ho : (hd.heap_39 w.params).lookup f = some ⟨oc, od, .func (fnOf name qual params body scope dV kV doc pm an cdv ct), osl⟩) (hcd : codeIn (hd.heap_39 w.params) cdv qual = true)
    (hbind : ∀ s : Shared, (hd.heap_39 w.params).In s.heap → BindsTo s (fnOf name qual params body scope dV kV doc pm an cdv ct) ⟨vs, []⟩ (ns.zip bs))
    (hloc : ∀ y ∈ ns.zip bs, scope.names.lookup y.1 = some .local) (hcell : ∀ x ∈ scope.names, x.2 ≠ .cell) (hco : scope.isCoroutine = false) (hgen : scope.isGenerator = false) (hk : scope.kind = .function) (hn : 0 < n)
    (hbody : ∀ (c : BC) (A₀ : Around) (base g h : Heap) (L : Addr) (ge : Array GenState) (dr : Drawn) (tk : Nat) (os : OsState) (Qr : Flow → Shared → Prop), c.dp + n ≤ recursionLimit → c.un + 8 * n < cLine + 3 → Fr g L h (mapOf ns bs) → News g L h news → Below A₀ base c.outer g → (hd.heap_39 w.params).In g → Top hd.view_39 loose mean mg mb g →
      (∀ r news' h' tk' {m' : Str → Option Value}, R r news' → Fr g L h' m' → News g L h' news' → Qr (.ret r) ⟨h', ge, dr, tk', os⟩) →
      wpC (model PySem.Challenge.rw_nt0098_01.row.prog w) (bodyA c (envOf qual scope L f cdv)) (execs body (envOf qual scope L f cdv)) Qr ⟨h, ge, dr, tk, os⟩) : DoesC w loose mean mg mb f n vs news R := by
  intro dp un gd cn cs a ccd cl outer A₀ base h₀ L m s Q B F X N T hkk hdp hun hret
  refine cCall ?_
  refine codeC_def B F X N T rfl rfl hkk ho hcd (show dp < recursionLimit by omega) (hbind s (X.keeps F.keep)) hloc (fun g L' h₁ _ F' N' B' X' T' => ?_) hco hgen hk hcell
  refine cMono (hbody ⟨dp + 1, un + 3, gd, envX cn cs L a ccd cl :: outer⟩ _ base g h₁ L' s.gens s.drawn _ s.os (Post R g L' s.gens s.drawn s.os) (show dp + 1 + n ≤ recursionLimit by omega) (show un + 3 + 8 * n < cLine + 3 by omega) F' N' B' X' T' fun r news' h' tk' m' hR hF hN => ⟨r, news', h', tk', m', rfl, rfl, hR, hF, hN⟩) ?_
  rintro fl s' ⟨r, news', h', tk', m', rfl, rfl, hR, hF, hN⟩
  exact ⟨L', m', news', hF, hN, fun hF' hN' => hret r news' h' tk' hR hF' hN'⟩
end
section
/-- the octets of a sign -/
noncomputable def enc (c : Nat) : List Nat :=
  if c < 128 then [c] else if c < 2048 then [192 + c / 64, 128 + c % 64] else if c < 65536 then [224 + c / 4096, 128 + c / 64 % 64, 128 + c % 64]
  else [240 + c / 262144, 128 + c / 4096 % 64, 128 + c / 64 % 64, 128 + c % 64]
noncomputable def octs (l : List Nat) : Array UInt8 := (l.map fun n => n.toUInt8).toArray
noncomputable def utf8S (x : Str) : Array UInt8 := octs (x.cps.toList.flatMap enc)
theorem octs_push (l : List Nat) (n : Nat) : (octs l).push n.toUInt8 = octs (l ++ [n]) := by simp [octs]
theorem octs_size (l : List Nat) : (octs l).size = l.length := by simp [octs]
theorem enc_len (c : Nat) : (enc c).length ≤ 4 := by unfold enc; split <;> (try split) <;> (try split) <;> simp
theorem encs_len : ∀ l : List Nat, (l.flatMap enc).length ≤ 4 * l.length
  | [] => Nat.le_refl _
  | c :: r => by
    have h1 := enc_len c
    have h2 := encs_len r
    simp only [List.flatMap_cons, List.length_append, List.length_cons]
    omega
theorem octs_put (l : List Nat) (v : Int) (n : Nat) (h : v.toNat = n) : (octs l).push v.toNat.toUInt8 = octs (l ++ [n]) := by rw [h, octs_push]
section
variable {l : List Nat} {d : Nat}
theorem ltI {d n : Nat} (h : (d : Int) < (n : Int)) : d < n := Int.ofNat_lt.mp h
theorem nltI {d n : Nat} (h : ¬ (d : Int) < (n : Int)) : ¬ d < n := fun q => h (Int.ofNat_lt.mpr q)
theorem enc1 (h : (d : Int) < 128) : (octs l).push (d : Int).toNat.toUInt8 = octs (l ++ enc d) := by
  rw [octs_put l d d rfl, enc, if_pos (ltI h)]
theorem enc2 (h1 : ¬ (d : Int) < 128) (h2 : (d : Int) < 2048) : ((octs l).push (192 + (d : Int) / 64).toNat.toUInt8).push (128 + (d : Int) % 64).toNat.toUInt8 = octs (l ++ enc d) := by
  rw [octs_put l _ (192 + d / 64) rfl, octs_put _ _ (128 + d % 64) rfl, enc, if_neg (nltI h1), if_pos (ltI h2)]; simp
theorem enc3 (h1 : ¬ (d : Int) < 128) (h2 : ¬ (d : Int) < 2048) (h3 : (d : Int) < 65536) : (((octs l).push (224 + (d : Int) / 4096).toNat.toUInt8).push (128 + (d : Int) / 64 % 64).toNat.toUInt8).push (128 + (d : Int) % 64).toNat.toUInt8 = octs (l ++ enc d) := by
  rw [octs_put l _ (224 + d / 4096) rfl, octs_put _ _ (128 + d / 64 % 64) rfl, octs_put _ _ (128 + d % 64) rfl, enc, if_neg (nltI h1), if_neg (nltI h2), if_pos (ltI h3)]; simp
theorem enc4 (h1 : ¬ (d : Int) < 128) (h2 : ¬ (d : Int) < 2048) (h3 : ¬ (d : Int) < 65536) : ((((octs l).push (240 + (d : Int) / 262144).toNat.toUInt8).push (128 + (d : Int) / 4096 % 64).toNat.toUInt8).push (128 + (d : Int) / 64 % 64).toNat.toUInt8).push (128 + (d : Int) % 64).toNat.toUInt8 = octs (l ++ enc d) := by
  rw [octs_put l _ (240 + d / 262144) rfl, octs_put _ _ (128 + d / 4096 % 64) rfl, octs_put _ _ (128 + d / 64 % 64) rfl, octs_put _ _ (128 + d % 64) rfl, enc, if_neg (nltI h1), if_neg (nltI h2), if_neg (nltI h3)]; simp
end
/-- octets with an end of their own -/
noncomputable def endL (l : List UInt8) : List UInt8 := l.flatMap fun c => if c = 0 then [0, 255] else [c]
noncomputable def endedA (o : Array UInt8) : Array UInt8 := (endL o.toList ++ [0, 0]).toArray
theorem endL_len : ∀ l : List UInt8, (endL l).length ≤ 2 * l.length
  | [] => Nat.le_refl _
  | c :: r => by
    have h2 := endL_len r
    have h1 : (if c = 0 then [0, 255] else [c] : List UInt8).length ≤ 2 := by split <;> simp
    show ((if c = 0 then [0, 255] else [c] : List UInt8) ++ endL r).length ≤ 2 * (r.length + 1)
    rw [List.length_append]
    omega
theorem rtL_sub (l : List Nat) : rtL l = l.take (rtL l).length := by
  unfold rtL
  have h : l.reverse.dropWhile (· == 32) <:+ l.reverse := List.dropWhile_suffix _
  have h2 := List.reverse_prefix.mpr h
  rw [List.reverse_reverse] at h2
  exact (List.prefix_iff_eq_take.mp h2)
theorem coll_size (c x : Str) : (collS c x).cps.size ≤ x.cps.size := by
  unfold collS
  split
  · simp [foldS]
  · split
    · have h := rtL_sub x.cps.toList
      have h2 : (rtL x.cps.toList).length ≤ x.cps.toList.length := by
        have := congrArg List.length h
        simp only [List.length_take] at this
        omega
      simpa using h2
    · exact Nat.le_refl _
theorem coll_chars {c x : Str} (h : ∀ d ∈ x.cps.toList, d < 1114112) : ∀ d ∈ (collS c x).cps.toList, d < 1114112 := by
  unfold collS
  split
  · intro d hd
    simp only [foldS, Array.toList_map, List.mem_map] at hd
    obtain ⟨e, he, rfl⟩ := hd
    have := h e he
    unfold foldC
    split <;> omega
  · split
    · intro d hd
      simp only [List.toList_toArray] at hd
      rw [rtL_sub] at hd
      exact h d (List.mem_of_mem_take hd)
    · exact h
theorem utf8_size (x : Str) : (utf8S x).size ≤ 4 * x.cps.size := by
  rw [utf8S, octs_size]
  have := encs_len x.cps.toList
  simpa using this
theorem ended_size (o : Array UInt8) : (endedA o).size ≤ 2 * o.size + 2 := by
  have := endL_len o.toList
  simp [endedA] at this ⊢
  omega
theorem put8_size (x : Int) : (put8 x).size = 8 := by simp [put8, byteArr, lows]
theorem off_head {a d : Addr} {o : Obj} {r : Led} (h : Off a ((d, o) :: r)) : @Ne Nat d a := h _ (.head _)
/-- a bytearray made -/
inductive RBA (b : Array UInt8) (news : Led) : Value → Led → Prop
  | mk (D : Addr) (x : Array UInt8) (he : x = b) (ho : Off D news) : RBA b news (.ref D) ((D, baObj x) :: news)
noncomputable def partV (c : Str) : Value → Array UInt8
  | .none => #[1]
  | .int i _ => #[2] ++ put8 (i + 9223372036854775808)
  | .str x _ => #[3] ++ endedA (utf8S (collS c x))
  | .bytes b _ => #[4] ++ endedA b
  | _ => #[]
theorem u8_0 (c : UInt8) (h : ((c.toNat : Nat) : Int) = 0) : c = 0 := by
  have : c.toNat = 0 := by omega
  exact UInt8.toNat_inj.mp (by simpa using this)
theorem u8_n0 (c : UInt8) (h : ¬ ((c.toNat : Nat) : Int) = 0) : c ≠ 0 := by rintro rfl; exact h rfl
theorem u8_back (c : UInt8) : ((c.toNat : Nat) : Int).toNat.toUInt8 = c := by simp
theorem endL_snoc (l : List UInt8) (c : UInt8) : endL (l ++ [c]) = endL l ++ (if c = 0 then [0, 255] else [c]) := by simp [endL, List.flatMap_append]
theorem end1 {l : List UInt8} {c : UInt8} (h : ((c.toNat : Nat) : Int) = 0) : (l.toArray.push ((c.toNat : Nat) : Int).toNat.toUInt8).push (255 : Int).toNat.toUInt8 = (l ++ (if c = 0 then [0, 255] else [c])).toArray := by
  have e := u8_0 c h
  rw [u8_back, if_pos e, e]
  simp
theorem end2 {l : List UInt8} {c : UInt8} (h : ((c.toNat : Nat) : Int) ≠ 0) : l.toArray.push ((c.toNat : Nat) : Int).toNat.toUInt8 = (l ++ (if c = 0 then [0, 255] else [c])).toArray := by
  rw [u8_back, if_neg (u8_n0 c h)]
  simp
theorem end3 {o : Array UInt8} {l : List UInt8} (h : l = endL (o.toList.take o.size)) : (l.toArray.push (0 : Int).toNat.toUInt8).push (0 : Int).toNat.toUInt8 = endedA o := by
  rw [h, show o.size = o.toList.length from by simp, List.take_length]
  simp [endedA]
theorem use_RBAC {w : World} {loose : List Str} {mean : ExcName → Option Value} {mg mb : Str → Option Value} {f : Addr} {N : Nat} {us : List Value} {news : Led} {b : Array UInt8} {rest : Led} {dp un : Nat} {gd : Option (List Code)} {cn : Str} {cs : Scope} {z : Addr} {ccd : Value} {cl : List (Str × Addr)} {outer : List Env} {A₀ : Around} {base h₀ h : Heap} {L : Addr} {m : Str → Option Value} {ge : Array GenState} {dr : Drawn} {tk : Nat} {os : OsState} {Q : Value → Shared → Prop}
    (lem : DoesC w loose mean mg mb f N us news (RBA b rest)) (k1 : Below A₀ base outer h₀) (k2 : Fr h₀ L h m) (k3 : (hd.heap_39 w.params).In h₀) (k4 : News h₀ L h news) (k5 : Top hd.view_39 loose mean mg mb h₀) (kK : cs.kind = .function) (kd : dp + N < recursionLimit) (ku : un + 8 * N < cLine)
    (k : ∀ (h9 : Heap) (tk9 : Nat), Fr h₀ L h9 m → ∀ (D : Addr) (x : Array UInt8) (he : x = b) (ho : Off D rest), News h₀ L h9 ((D, baObj x) :: rest) → Q (.ref D) ⟨h9, ge, dr, tk9, os⟩) : wpC (model PROG w) (ktrTop dp un gd cn cs L z ccd cl outer) (call (.ref f) us) Q ⟨h, ge, dr, tk, os⟩ :=
  lem dp un gd cn cs z ccd cl outer A₀ base h₀ L m ⟨h, ge, dr, tk, os⟩ Q k1 k2 k3 k4 k5 kK kd ku fun _ _ h9 tk9 hR F N => by
    cases hR
    exact k h9 tk9 F _ _ (by assumption) (by assumption) N
end
section
theorem part_size {k : Nat} {c : Str} {v : Value} (hv : Good k v) (hk : k ≤ 64) : (partV c v).size ≤ 600 := by
  cases hv with
  | none => simp [partV]
  | int => simp [partV, put8_size]
  | @str x t hs hc =>
    have h1 := coll_size c x
    have h2 := utf8_size (collS c x)
    have h3 := ended_size (utf8S (collS c x))
    simp only [partV, Array.size_append]
    simp
    omega
  | @bytes x t hs =>
    have h3 := ended_size x
    simp only [partV, Array.size_append]
    simp
    omega
noncomputable def flip8 (c : UInt8) : UInt8 := (255 - c.toNat).toUInt8
noncomputable def turnA (d : Bool) (p : Array UInt8) : Array UInt8 := if d then p.map flip8 else p
/-- the octets of a row's first n columns -/
noncomputable def octA (ks : List Str) (ts : List Bool) (va : List Value) : Nat → Array UInt8
  | 0 => #[]
  | n + 1 => octA ks ts va n ++ turnA (ts.getD n false) (partV (ks.getD n Str.empty) (va.getD n .none))
theorem turn_size (d : Bool) (p : Array UInt8) : (turnA d p).size = p.size := by unfold turnA; split <;> simp
theorem oct_size {k : Nat} {ks : List Str} {ts : List Bool} {va : List Value} (ga : Goods k va) (hk : k ≤ 64) : ∀ n, n ≤ va.length → (octA ks ts va n).size ≤ 600 * n
  | 0, _ => by simp [octA]
  | n + 1, h => by
    have ih := oct_size (ks := ks) (ts := ts) ga hk n (by omega)
    have hn : n < va.length := h
    have e : va.getD n .none = va[n] := by rw [List.getD_eq_getElem?_getD, List.getElem?_eq_getElem hn]; rfl
    have hp := part_size (c := ks.getD n Str.empty) (ga _ (List.getElem_mem hn)) hk
    simp only [octA, Array.size_append, turn_size, e]
    omega
theorem flip_put (c : UInt8) : (255 - ((c.toNat : Nat) : Int)).toNat.toUInt8 = flip8 c := by
  have h := c.toNat_lt
  unfold flip8
  congr 1
  omega
theorem flip_step {b : Array UInt8} {l : List UInt8} {i : Nat} {c : UInt8} (hd : l[i]? = some c) : (b ++ ((l.take i).map flip8).toArray).push (255 - ((c.toNat : Nat) : Int)).toNat.toUInt8 = b ++ ((l.take (i + 1)).map flip8).toArray := by
  rw [flip_put, take_snoc hd, List.map_append]
  apply Array.toList_inj.mp
  simp
theorem flip_all (p : Array UInt8) : ((p.toList.take p.size).map flip8).toArray = p.map flip8 := by
  rw [show p.size = p.toList.length from by simp, List.take_length]
  apply Array.toList_inj.mp
  simp
theorem oct_step {ks : List Str} {ts : List Bool} {va : List Value} {n : Nat} {v : Value} {d : Bool} {c : Str} (h1 : va[n]? = some v) (h2 : ts.getD n false = d) (h3 : ks.getD n Str.empty = c) : octA ks ts va (n + 1) = octA ks ts va n ++ turnA d (partV c v) := by
  subst h2 h3
  simp only [octA]
  rw [List.getD_eq_getElem?_getD (l := va), h1]
  rfl
end
section
/-- two lists that are one, or part at a place -/
inductive Dif : List Nat → List Nat → Int → Prop
  | same (l : List Nat) : Dif l l 0
  | lt (c : List Nat) (a b : Nat) (r s : List Nat) (h : a < b) : Dif (c ++ a :: r) (c ++ b :: s) (-1)
  | gt (c : List Nat) (a b : Nat) (r s : List Nat) (h : b < a) : Dif (c ++ a :: r) (c ++ b :: s) 1
theorem lt_app (c : List Nat) {x y : List Nat} : c ++ x < c ++ y ↔ x < y := by
  induction c with
  | nil => rfl
  | cons a c ih => simp [List.cons_lt_cons_iff, ih]
theorem sgn_app (c x y : List Nat) : sgnL (c ++ x) (c ++ y) = sgnL x y := by simp only [sgnL, lt_app]
theorem Dif.sgn {p q : List Nat} {z : Int} (h : Dif p q z) : sgnL p q = z := by
  cases h with
  | same => exact sgnL_zero.mpr rfl
  | lt c a b r s h => rw [sgn_app]; unfold sgnL; rw [if_pos (List.cons_lt_cons_iff.mpr (Or.inl h))]
  | gt c a b r s h =>
    rw [sgn_app]; unfold sgnL
    have h1 : b :: s < a :: r := List.cons_lt_cons_iff.mpr (Or.inl h)
    rw [if_neg (lexL_asymm h1), if_pos h1]
theorem Dif.zero {p q : List Nat} {z : Int} (h : Dif p q z) (hz : z = 0) : p = q := by cases h <;> first | rfl | omega
theorem Dif.more {p q : List Nat} {z : Int} (h : Dif p q z) (hz : z ≠ 0) (r s : List Nat) : Dif (p ++ r) (q ++ s) z := by
  cases h with
  | same => exact absurd rfl hz
  | lt c a b r' s' h => rw [List.append_assoc, List.append_assoc]; exact .lt c a b _ _ h
  | gt c a b r' s' h => rw [List.append_assoc, List.append_assoc]; exact .gt c a b _ _ h
theorem Dif.pre {p q : List Nat} {z : Int} (h : Dif p q z) (c : List Nat) : Dif (c ++ p) (c ++ q) z := by
  cases h with
  | same => exact .same _
  | lt c' a b r s h => rw [← List.append_assoc, ← List.append_assoc]; exact .lt _ a b _ _ h
  | gt c' a b r s h => rw [← List.append_assoc, ← List.append_assoc]; exact .gt _ a b _ _ h
theorem Dif.cons {p q : List Nat} {z : Int} (h : Dif p q z) (c : Nat) : Dif (c :: p) (c :: q) z := h.pre [c]
theorem Dif.lt' {a b : Nat} (h : a < b) (r s : List Nat) : Dif (a :: r) (b :: s) (-1) := .lt [] a b r s h
theorem Dif.gt' {a b : Nat} (h : b < a) (r s : List Nat) : Dif (a :: r) (b :: s) 1 := .gt [] a b r s h
theorem Dif.neg {p q : List Nat} {z : Int} (h : Dif p q z) : Dif q p (-z) := by
  cases h with
  | same => exact .same _
  | lt c a b r s h => exact .gt c b a s r h
  | gt c a b r s h => exact .lt c b a s r h
/-- lists of one length part, or are one -/
theorem dif_len : ∀ {p q : List Nat}, p.length = q.length → Dif p q (sgnL p q)
  | [], [], _ => .same _
  | [], _ :: _, h => by simp at h
  | _ :: _, [], h => by simp at h
  | a :: p, b :: q, h => by
    by_cases e : a = b
    · subst e
      have := (dif_len (p := p) (q := q) (by simpa using h)).cons a
      rwa [show sgnL (a :: p) (a :: q) = sgnL p q from sgn_app [a] p q]
    · rcases Nat.lt_or_gt_of_ne e with h1 | h1
      · have d := Dif.lt' h1 p q; rwa [d.sgn]
      · have d := Dif.gt' h1 p q; rwa [d.sgn]
/-! the end of the octets -/
noncomputable def endN (l : List Nat) : List Nat := l.flatMap fun c => if c = 0 then [0, 255] else [c]
theorem endN_cons (c : Nat) (l : List Nat) : endN (c :: l) = (if c = 0 then [0, 255] else [c]) ++ endN l := rfl
theorem end_dif : ∀ p q : List Nat, Dif (endN p ++ [0, 0]) (endN q ++ [0, 0]) (sgnL p q)
  | [], [] => .same _
  | [], b :: q => by
    rw [show sgnL [] (b :: q) = -1 from rfl, endN_cons]
    by_cases h : b = 0
    · rw [if_pos h]
      exact (Dif.lt' (by decide : 0 < 255) _ _).cons 0
    · rw [if_neg h]
      exact Dif.lt' (by omega) _ _
  | a :: p, [] => by
    rw [show sgnL (a :: p) [] = 1 from rfl, endN_cons]
    by_cases h : a = 0
    · rw [if_pos h]
      exact (Dif.gt' (by decide : 0 < 255) _ _).cons 0
    · rw [if_neg h]
      exact Dif.gt' (by omega) _ _
  | a :: p, b :: q => by
    by_cases e : a = b
    · subst e
      have := (end_dif p q).pre (if a = 0 then [0, 255] else [a])
      rw [← List.append_assoc, ← List.append_assoc] at this
      rwa [show sgnL (a :: p) (a :: q) = sgnL p q from sgn_app [a] p q, endN_cons, endN_cons]
    · rw [endN_cons, endN_cons]
      rcases Nat.lt_or_gt_of_ne e with h1 | h1
      · rw [(Dif.lt' h1 p q).sgn, if_neg (show ¬ b = 0 by omega)]
        by_cases h : a = 0
        · rw [if_pos h]; exact Dif.lt' (by omega) _ _
        · rw [if_neg h]; exact Dif.lt' h1 _ _
      · rw [(Dif.gt' h1 p q).sgn, if_neg (show ¬ a = 0 by omega)]
        by_cases h : b = 0
        · rw [if_pos h]; exact Dif.gt' (by omega) _ _
        · rw [if_neg h]; exact Dif.gt' h1 _ _
theorem nats_end (l : List UInt8) : (endL l).map (·.toNat) = endN (l.map (·.toNat)) := by
  induction l with
  | nil => rfl
  | cons c l ih =>
    have e : endL (c :: l) = (if c = 0 then [0, 255] else [c]) ++ endL l := rfl
    rw [e, List.map_cons, endN_cons, List.map_append, ih]
    congr 1
    by_cases h : c = 0
    · subst h; rfl
    · have : c.toNat ≠ 0 := fun h' => h (UInt8.toNat_inj.mp h')
      rw [if_neg h, if_neg this]; rfl
theorem nats_ended (o : Array UInt8) : nats (endedA o) = endN (nats o) ++ [0, 0] := by
  simp only [nats, endedA, List.map_append, nats_end]
  rfl
theorem ended_dif (a b : Array UInt8) : Dif (nats (endedA a)) (nats (endedA b)) (sgnL (nats a) (nats b)) := by
  rw [nats_ended, nats_ended]; exact end_dif _ _
/-! the octets of a text -/
theorem dm {c d m : Nat} (h : c < d) : c / m < d / m ∨ (c / m = d / m ∧ c % m < d % m) := by
  rcases Nat.lt_or_ge (c / m) (d / m) with h1 | h1
  · exact .inl h1
  · have h2 : c / m = d / m := Nat.le_antisymm (Nat.div_le_div_right (Nat.le_of_lt h)) h1
    have e1 := Nat.div_add_mod c m
    have e2 := Nat.div_add_mod d m
    rw [h2] at e1
    exact .inr ⟨h2, Nat.lt_of_not_le fun h3 => absurd h (Nat.not_lt.mpr (by have h5 := Nat.add_le_add_left h3 (m * (d / m)); rw [e1, e2] at h5; exact h5))⟩
theorem dm64 (c n : Nat) : c % (64 * n) / 64 = c / 64 % n ∧ c % (64 * n) % 64 = c % 64 := ⟨Nat.mod_mul_right_div_self c 64 n, Nat.mod_mul_right_mod c 64 n⟩
theorem dif1 {a c d : Nat} (h : c / 64 < d / 64 ∨ (c / 64 = d / 64 ∧ c % 64 < d % 64)) : Dif [a + c / 64, 128 + c % 64] [a + d / 64, 128 + d % 64] (-1) := by
  rcases h with h | ⟨e, h⟩
  · exact .lt' (Nat.add_lt_add_left h _) _ _
  · rw [e]; exact (Dif.lt' (Nat.add_lt_add_left h _) _ _).cons _
theorem dif2 {a c d : Nat} (h : c < d) : Dif [a + c / 4096, 128 + c / 64 % 64, 128 + c % 64] [a + d / 4096, 128 + d / 64 % 64, 128 + d % 64] (-1) := by
  rcases dm (m := 4096) h with h | ⟨e, h⟩
  · exact .lt' (Nat.add_lt_add_left h _) _ _
  · have q := dif1 (a := 128) (dm (m := 64) h)
    rw [(dm64 c 64).1, (dm64 c 64).2, (dm64 d 64).1, (dm64 d 64).2] at q
    rw [e]; exact q.cons _
theorem dif3 {a c d : Nat} (h : c < d) : Dif [a + c / 262144, 128 + c / 4096 % 64, 128 + c / 64 % 64, 128 + c % 64] [a + d / 262144, 128 + d / 4096 % 64, 128 + d / 64 % 64, 128 + d % 64] (-1) := by
  rcases dm (m := 262144) h with h | ⟨e, h⟩
  · exact .lt' (Nat.add_lt_add_left h _) _ _
  · have q := dif2 (a := 128) h
    have e0 : ∀ z : Nat, z % 262144 / 4096 = z / 4096 % 64 := fun z => Nat.mod_mul_right_div_self z 4096 64
    have e1 : ∀ z : Nat, z % 262144 / 64 % 64 = z / 64 % 64 := fun z => by
      rw [show (262144 : Nat) = 64 * 4096 from rfl, (dm64 z 4096).1]; exact Nat.mod_mul_right_mod (z / 64) 64 64
    have e2 : ∀ z : Nat, z % 262144 % 64 = z % 64 := fun z => (dm64 z 4096).2
    rw [e0 c, e1 c, e2 c, e0 d, e1 d, e2 d] at q
    rw [e]; exact q.cons _
theorem enc_dif {c d : Nat} (hc : c < 1114112) (hd : d < 1114112) : c < d → Dif (enc c) (enc d) (-1) := by
  intro h
  have l2 : ∀ z, z < 2048 → 192 + z / 64 < 224 := fun z hz => (Nat.add_lt_add_left (Nat.div_lt_of_lt_mul (show z < 64 * 32 from hz)) 192 : 192 + z / 64 < 192 + 32)
  have l3 : ∀ z, z < 65536 → 224 + z / 4096 < 240 := fun z hz => (Nat.add_lt_add_left (Nat.div_lt_of_lt_mul (show z < 4096 * 16 from hz)) 224 : 224 + z / 4096 < 224 + 16)
  have up : ∀ {a b : Nat} (p q : List Nat) (y : Nat), a < b → Dif (a :: p) ((b + y) :: q) (-1) := fun p q y h => .lt' (Nat.lt_of_lt_of_le h (Nat.le_add_right _ _)) _ _
  unfold enc
  by_cases c1 : c < 128
  · rw [if_pos c1]
    by_cases d1 : d < 128
    · rw [if_pos d1]; exact .lt' h _ _
    · rw [if_neg d1]
      have k : ∀ m, 128 ≤ m → c < m := fun m hm => Nat.lt_of_lt_of_le c1 hm
      split
      · exact up _ _ _ (k _ (by decide))
      · split
        · exact up _ _ _ (k _ (by decide))
        · exact up _ _ _ (k _ (by decide))
  · rw [if_neg c1, if_neg (fun d1 => c1 (Nat.lt_trans h d1))]
    by_cases c2 : c < 2048
    · rw [if_pos c2]
      by_cases d2 : d < 2048
      · rw [if_pos d2]; exact dif1 (dm h)
      · rw [if_neg d2]
        split
        · exact up _ _ _ (l2 c c2)
        · exact up _ _ _ (Nat.lt_trans (l2 c c2) (by decide))
    · rw [if_neg c2, if_neg (fun d2 => c2 (Nat.lt_trans h d2))]
      by_cases c3 : c < 65536
      · rw [if_pos c3]
        by_cases d3 : d < 65536
        · rw [if_pos d3]; exact dif2 h
        · rw [if_neg d3]; exact up _ _ _ (l3 c c3)
      · rw [if_neg c3, if_neg (fun d3 => c3 (Nat.lt_trans h d3))]
        exact dif3 h
theorem enc_ne (c : Nat) : ∃ a r, enc c = a :: r := by unfold enc; split <;> (try split) <;> (try split) <;> exact ⟨_, _, rfl⟩
theorem encs_sgn : ∀ p q : List Nat, (∀ c ∈ p, c < 1114112) → (∀ c ∈ q, c < 1114112) → sgnL (p.flatMap enc) (q.flatMap enc) = sgnL p q
  | [], [], _, _ => rfl
  | [], b :: q, _, _ => by
    obtain ⟨a, r, e⟩ := enc_ne b
    rw [List.flatMap_cons, e]; rfl
  | b :: p, [], _, _ => by
    obtain ⟨a, r, e⟩ := enc_ne b
    rw [List.flatMap_cons, e]; rfl
  | a :: p, b :: q, hp, hq => by
    have ha := hp a (.head _)
    have hb := hq b (.head _)
    rw [List.flatMap_cons, List.flatMap_cons]
    by_cases e : a = b
    · subst e
      rw [sgn_app, encs_sgn p q (fun c h => hp c (.tail _ h)) (fun c h => hq c (.tail _ h))]
      exact (sgn_app [a] p q).symm
    · rcases Nat.lt_or_gt_of_ne e with h1 | h1
      · rw [((enc_dif ha hb h1).more (by decide) _ _).sgn, (Dif.lt' h1 p q).sgn]
      · rw [((enc_dif hb ha h1).neg.more (by decide) _ _).sgn, (Dif.gt' h1 p q).sgn]; rfl
theorem enc_lt {c : Nat} (hc : c < 1114112) : ∀ n ∈ enc c, n < 256 := by
  unfold enc
  split
  · intro n hn; simp at hn; omega
  · split
    · intro n hn; simp at hn; omega
    · split
      · intro n hn; simp at hn; omega
      · intro n hn; simp at hn; omega
theorem nats_octs {l : List Nat} (h : ∀ n ∈ l, n < 256) : nats (octs l) = l := by
  simp only [nats, octs, List.map_map]
  conv => rhs; rw [← List.map_id l]
  apply List.map_congr_left
  intro n hn
  have := h n hn
  simp [Nat.mod_eq_of_lt this]
theorem nats_utf8 {x : Str} (h : ∀ c ∈ x.cps.toList, c < 1114112) : nats (utf8S x) = x.cps.toList.flatMap enc :=
  nats_octs fun n hn => by
    obtain ⟨c, hc, hn⟩ := List.mem_flatMap.mp hn
    exact enc_lt (h c hc) n hn
theorem utf8_sgn {x y : Str} (hx : ∀ c ∈ x.cps.toList, c < 1114112) (hy : ∀ c ∈ y.cps.toList, c < 1114112) : sgnL (nats (utf8S x)) (nats (utf8S y)) = sgnL x.cps.toList y.cps.toList := by
  rw [nats_utf8 hx, nats_utf8 hy, encs_sgn _ _ hx hy]
end
section
theorem sgn_cons (a b : Nat) (p q : List Nat) : sgnL (a :: p) (b :: q) = if a < b then -1 else if b < a then 1 else sgnL p q := by
  by_cases h1 : a < b
  · rw [if_pos h1, (Dif.lt' h1 p q).sgn]
  · by_cases h2 : b < a
    · rw [if_neg h1, if_pos h2, (Dif.gt' h2 p q).sgn]
    · have : a = b := by omega
      subst this
      rw [if_neg h1, if_neg h1]
      exact sgn_app [a] p q
noncomputable def bigs (x : Int) (n : Nat) : List Nat := (lows x n).reverse.map Int.toNat
theorem bigs_succ (x : Int) (n : Nat) : bigs x (n + 1) = (x / 256 ^ n % 256).toNat :: bigs x n := by
  simp [bigs, lows_succ]
theorem split_mod (x P : Int) (hP : 0 < P) : x % (P * 256) = (x / P % 256) * P + x % P := by
  have h1 : x = P * (x / P) + x % P := (Int.mul_ediv_add_emod x P).symm
  have h2 : x / P = 256 * (x / P / 256) + x / P % 256 := (Int.mul_ediv_add_emod (x / P) 256).symm
  have h3 : 0 ≤ x % P := Int.emod_nonneg _ (by omega)
  have h4 : x % P < P := Int.emod_lt_of_pos _ hP
  have h5 : 0 ≤ x / P % 256 := Int.emod_nonneg _ (by decide)
  have h6 : x / P % 256 < 256 := Int.emod_lt_of_pos _ (by decide)
  have e : x = (x / P / 256) * (P * 256) + ((x / P % 256) * P + x % P) := by
    have h7 : P * (x / P) = P * (256 * (x / P / 256) + x / P % 256) := congrArg (P * ·) h2
    have h8 : P * (256 * (x / P / 256) + x / P % 256) = (x / P / 256) * (P * 256) + (x / P % 256) * P := by
      rw [Int.mul_add, Int.mul_comm P (x / P % 256)]
      congr 1
      rw [← Int.mul_assoc, Int.mul_comm (P * 256)]
    omega
  have hb0 : 0 ≤ (x / P % 256) * P + x % P := Int.add_nonneg (Int.mul_nonneg h5 (by omega)) h3
  have hb1 : (x / P % 256) * P + x % P < P * 256 := by
    have : (x / P % 256) * P ≤ 255 * P := Int.mul_le_mul_of_nonneg_right (by omega) (by omega)
    omega
  conv => lhs; rw [e]
  rw [Int.add_comm, Int.add_mul_emod_self_right]
  exact Int.emod_eq_of_lt hb0 hb1
theorem bigs_sgn (x y : Int) : ∀ n : Nat, sgnL (bigs x n) (bigs y n) = sgnI (x % 256 ^ n) (y % 256 ^ n)
  | 0 => by
    have hx : x % 256 ^ 0 = 0 := by rw [Int.pow_zero, Int.emod_one]
    have hy : y % 256 ^ 0 = 0 := by rw [Int.pow_zero, Int.emod_one]
    rw [hx, hy]
    rfl
  | n + 1 => by
    have ih := bigs_sgn x y n
    have hP : (0 : Int) < 256 ^ n := Int.pow_pos (by decide)
    rw [bigs_succ, bigs_succ, sgn_cons, ih, Int.pow_succ, split_mod x _ hP, split_mod y _ hP]
    have a0 : 0 ≤ x / 256 ^ n % 256 := Int.emod_nonneg _ (by decide)
    have b0 : 0 ≤ y / 256 ^ n % 256 := Int.emod_nonneg _ (by decide)
    have r0 : 0 ≤ x % 256 ^ n := Int.emod_nonneg _ (by omega)
    have r1 : x % 256 ^ n < 256 ^ n := Int.emod_lt_of_pos _ hP
    have s0 : 0 ≤ y % 256 ^ n := Int.emod_nonneg _ (by omega)
    have s1 : y % 256 ^ n < 256 ^ n := Int.emod_lt_of_pos _ hP
    generalize x / 256 ^ n % 256 = a at *
    generalize y / 256 ^ n % 256 = b at *
    generalize x % 256 ^ n = r at *
    generalize y % 256 ^ n = t at *
    generalize (256 : Int) ^ n = P at *
    by_cases h1 : a < b
    · have h2 : (a + 1) * P ≤ b * P := Int.mul_le_mul_of_nonneg_right (by omega) (by omega)
      rw [Int.add_mul, Int.one_mul] at h2
      rw [if_pos (by omega)]
      unfold sgnI
      rw [if_pos (by omega)]
    · by_cases h2 : b < a
      · have h3 : (b + 1) * P ≤ a * P := Int.mul_le_mul_of_nonneg_right (by omega) (by omega)
        rw [Int.add_mul, Int.one_mul] at h3
        rw [if_neg (by omega), if_pos (by omega)]
        unfold sgnI
        rw [if_neg (by omega), if_pos (by omega)]
      · have : a = b := by omega
        subst this
        rw [if_neg (by omega), if_neg (by omega)]
        unfold sgnI
        by_cases h3 : r < t
        · rw [if_pos h3, if_pos (by omega)]
        · rw [if_neg h3, if_neg (by omega : ¬ (a * P + r < a * P + t))]
          by_cases h4 : t < r
          · rw [if_pos h4, if_pos (by omega)]
          · rw [if_neg h4, if_neg (by omega)]
theorem nats_bytes {ns : List Int} (h : KBa.In ns) : nats (byteArr ns) = ns.map Int.toNat := by
  simp only [nats, byteArr, List.map_map]
  apply List.map_congr_left
  intro n hn
  have := h n hn
  simp
  omega
theorem put8_dif {x y : Int} (hx : 0 ≤ x) (hx2 : x < 18446744073709551616) (hy : 0 ≤ y) (hy2 : y < 18446744073709551616) : Dif (nats (put8 x)) (nats (put8 y)) (sgnI x y) := by
  have ex : nats (put8 x) = bigs x 8 := nats_bytes (in_rev (lows_in x 8))
  have ey : nats (put8 y) = bigs y 8 := nats_bytes (in_rev (lows_in y 8))
  have h := dif_len (p := bigs x 8) (q := bigs y 8) (by simp [bigs, lows_len])
  rw [bigs_sgn, show (256 : Int) ^ 8 = 18446744073709551616 from by decide, Int.emod_eq_of_lt hx hx2, Int.emod_eq_of_lt hy hy2] at h
  rw [ex, ey]
  exact h
/-! columns, rows -/
theorem nats_app (a b : Array UInt8) : nats (a ++ b) = nats a ++ nats b := by simp [nats]
theorem flip_dif {p q : List UInt8} {z : Int} : Dif (p.map (·.toNat)) (q.map (·.toNat)) z → Dif ((p.map flip8).map (·.toNat)) ((q.map flip8).map (·.toNat)) (-z) := by
  have hf : ∀ l : List UInt8, (l.map flip8).map (·.toNat) = (l.map (·.toNat)).map (255 - ·) := fun l => by
    rw [List.map_map, List.map_map]
    apply List.map_congr_left
    intro c _
    have := c.toNat_lt
    simp only [Function.comp, flip8]
    simp
    omega
  have hb : ∀ l : List UInt8, ∀ n ∈ l.map (·.toNat), n < 256 := fun l n hn => by
    obtain ⟨c, _, rfl⟩ := List.mem_map.mp hn
    exact c.toNat_lt
  rw [hf, hf]
  have h1 := hb p
  have h2 := hb q
  generalize p.map (·.toNat) = p' at *
  generalize q.map (·.toNat) = q' at *
  intro h
  cases h with
  | same => exact .same _
  | lt c a b r s h =>
    rw [List.map_append, List.map_append, List.map_cons, List.map_cons]
    have := h1 a (by simp)
    have := h2 b (by simp)
    exact .gt _ _ _ _ _ (by omega)
  | gt c a b r s h =>
    rw [List.map_append, List.map_append, List.map_cons, List.map_cons]
    have := h1 a (by simp)
    have := h2 b (by simp)
    exact .lt _ _ _ _ _ (by omega)
theorem turn_dif {a b : Array UInt8} {z : Int} (d : Bool) (h : Dif (nats a) (nats b) z) : Dif (nats (turnA d a)) (nats (turnA d b)) (if d then -z else z) := by
  cases d with
  | false => exact h
  | true =>
    have := flip_dif h
    simpa [nats, turnA] using this
theorem part_head {k : Nat} {c : Str} {v : Value} (hv : Good k v) : ∃ r, nats (partV c v) = (rank v + 1).toNat :: r := by
  cases hv with
  | none => exact ⟨_, rfl⟩
  | int => exact ⟨_, by show nats (#[2] ++ _) = _; rw [nats_app]; rfl⟩
  | str => exact ⟨_, by show nats (#[3] ++ _) = _; rw [nats_app]; rfl⟩
  | bytes => exact ⟨_, by show nats (#[4] ++ _) = _; rw [nats_app]; rfl⟩
theorem rank_in {k : Nat} {v : Value} (hv : Good k v) : 0 ≤ rank v ∧ rank v ≤ 3 := by cases hv <;> simp [rank]
theorem part_dif {k : Nat} (c : Str) {a b : Value} (ha : Good k a) (hb : Good k b) : Dif (nats (partV c a)) (nats (partV c b)) (cmpV c a b) := by
  by_cases hne : rank a = rank b
  · unfold cmpV
    rw [if_neg (by simp [hne])]
    cases ha with
    | none => cases hb with
      | none => exact .same _
      | int => exact absurd hne (by simp [rank])
      | str => exact absurd hne (by simp [rank])
      | bytes => exact absurd hne (by simp [rank])
    | @int i ti h0 h1 => cases hb with
      | none => exact absurd hne (by simp [rank])
      | @int j tj h2 h3 =>
        have h := (put8_dif (x := i + 9223372036854775808) (y := j + 9223372036854775808) (by omega) (by omega) (by omega) (by omega)).cons 2
        rw [show sgnI (i + 9223372036854775808) (j + 9223372036854775808) = sgnI i j from by
          unfold sgnI
          by_cases h1 : i < j
          · rw [if_pos h1, if_pos (by omega)]
          · rw [if_neg h1, if_neg (by omega : ¬ (i + 9223372036854775808 < j + 9223372036854775808))]
            by_cases h2 : j < i
            · rw [if_pos h2, if_pos (by omega)]
            · rw [if_neg h2, if_neg (by omega)]] at h
        simpa [partV, nats_app, nats] using h
      | str => exact absurd hne (by simp [rank])
      | bytes => exact absurd hne (by simp [rank])
    | @str x tx h0 h1 => cases hb with
      | none => exact absurd hne (by simp [rank])
      | int => exact absurd hne (by simp [rank])
      | @str y ty h2 h3 =>
        have h := (ended_dif (utf8S (collS c x)) (utf8S (collS c y))).cons 3
        rw [utf8_sgn (coll_chars h1) (coll_chars h3)] at h
        simpa [partV, nats_app, nats] using h
      | bytes => exact absurd hne (by simp [rank])
    | @bytes x tx h0 => cases hb with
      | none => exact absurd hne (by simp [rank])
      | int => exact absurd hne (by simp [rank])
      | str => exact absurd hne (by simp [rank])
      | @bytes y ty h2 =>
        have h := (ended_dif x y).cons 4
        simpa [partV, nats_app, nats] using h
  · obtain ⟨r, er⟩ := part_head (c := c) ha
    obtain ⟨s, es⟩ := part_head (c := c) hb
    have ra := rank_in ha
    have rb := rank_in hb
    rw [er, es]
    unfold cmpV
    rw [if_pos hne]
    unfold sgnI
    by_cases h1 : rank a < rank b
    · rw [if_pos h1]; exact .lt' (by omega) _ _
    · rw [if_neg h1, if_pos (by omega)]; exact .gt' (by omega) _ _
theorem goods_getD {k : Nat} {va : List Value} (h : Goods k va) (n : Nat) : Good k (va.getD n .none) := by
  rw [List.getD_eq_getElem?_getD]
  cases e : va[n]? with
  | none => exact .none
  | some v => exact h v (List.mem_of_getElem? e)
/-- the order of the sort octets is the order of the keys -/
theorem oct_dif {k : Nat} {ks : List Str} {ts : List Bool} {va vb : List Value} (ga : Goods k va) (gb : Goods k vb) : ∀ n, Dif (nats (octA ks ts va n)) (nats (octA ks ts vb n)) (ckI (gK ks ts va vb) n)
  | 0 => .same _
  | n + 1 => by
    have ih := oct_dif (ks := ks) (ts := ts) ga gb n
    simp only [octA, nats_app, ckI]
    by_cases h : ckI (gK ks ts va vb) n = 0
    · rw [if_neg (by simp [h]), ih.zero h]
      exact (turn_dif (ts.getD n false) (part_dif (ks.getD n Str.empty) (goods_getD ga n) (goods_getD gb n))).pre _
    · rw [if_pos h]
      exact ih.more h _ _
theorem oct_sgn {k : Nat} {ks : List Str} {ts : List Bool} {va vb : List Value} (ga : Goods k va) (gb : Goods k vb) (n : Nat) :
    ((if decide (nats (octA ks ts vb n) < nats (octA ks ts va n)) = true then (1 : Int) else 0) - if decide (nats (octA ks ts va n) < nats (octA ks ts vb n)) = true then 1 else 0) = ckI (gK ks ts va vb) n := by
  rw [sgnL_of]; exact (oct_dif ga gb n).sgn
end
section
open PySem.Sem (wp)
section
variable {M : Model} {A : Around} {s : Shared} {env : Env}
theorem cTuple {elts : List Expr} {k : Nat} {pos : Pos} {Q : Value → Shared → Prop} (h : wpC M A (spliced (backTo pos (starEach elts env))) (fun vs s₁ => wpAny M A (newTuple vs) Q NoE s₁) s) : wpC M A (eval (.Tuple elts k pos) env) Q s := by
  rw [arm_eval_Tuple]
  exact cStand (cBind (cMono h fun vs s₁ h₁ => cAny h₁))
theorem cTup_swapped {elts k tpos value pos} {names : List Str} {rest : List Stmt} {Q : Flow → Shared → Prop}
    (h : wpC M A (eval value env) (fun v s₁ => wpAny M A (unpackItems v names.length none) (fun items s₂ =>
      wpAny M A (assignInOrder (names.reverse.map fun n => bindName env n) items.reverse) (fun _ s₃ => wpC M A (execs rest env) Q s₃) NoE s₂) NoE s₁) s)
    (hs : swapsWithSole [.Tuple elts k tpos] value pos.line env = pure false := by rfl)
    (hw : swappedStores [.Tuple elts k tpos] value env = pure (some names) := by rfl) :
    wpC M A (execs (.Assign [.Tuple elts k tpos] value pos :: rest) env) Q s := by
  refine cExecs_cons ?_
  rw [exec_Assign]
  refine cStand ?_
  rw [hs]
  refine cBind (cPure ?_)
  rw [if_neg (by decide)]
  refine cBind (cMono h fun v s₁ h₁ => ?_)
  rw [hw]
  refine cBind (cPure ?_)
  show wpC M A (do rule "assign.swapped-stores"; let items ← unpackItems v names.length none; assignInOrder (names.reverse.map fun n => bindName env n) items.reverse; pure Flow.next) _ s₁
  exact cLeaf (wpAny_rule (cLeaf (wpAny_mono h₁ (fun items s₂ h₂ => cLeaf (wpAny_mono h₂ (fun _ _ x => cPure x) fun _ _ x => x)) fun _ _ x => x)))
theorem cTup {elts k tpos value pos} {rest : List Stmt} {Q : Flow → Shared → Prop}
    (h : wpC M A (eval value env) (fun v s₁ => wpAny M A (assign (.Tuple elts k tpos) env v) (fun _ s₃ => wpC M A (execs rest env) Q s₃) NoE s₁) s)
    (hs : swapsWithSole [.Tuple elts k tpos] value pos.line env = pure false := by rfl)
    (hw : swappedStores [.Tuple elts k tpos] value env = pure none := by rfl) :
    wpC M A (execs (.Assign [.Tuple elts k tpos] value pos :: rest) env) Q s := by
  refine cExecs_cons ?_
  rw [exec_Assign]
  refine cStand ?_
  rw [hs]
  refine cBind (cPure ?_)
  rw [if_neg (by decide)]
  refine cBind (cMono h fun v s₁ h₁ => ?_)
  rw [hw]
  refine cBind (cPure ?_)
  show wpC M A (do assignAll v [assign (.Tuple elts k tpos) env]; pure Flow.next) _ s₁
  exact cLeaf (wpAny_mono h₁ (fun _ _ x => cPure x) fun _ _ x => x)
end
section
open Builtin
variable {prog : Program} {w : World} {A : Around} {s : Shared}
/-- bytes(octets) -/
theorem bytes_b {x : Array UInt8} {t : Tok} {E : Value → Shared → Prop} {Q : Value → Shared → Prop} (h : Q (.bytes x t) s) :
    wpAny (model prog w) A (call (.type "bytes") [.bytes x t]) Q E s := by
  have hT := typeIs_bytes s x t
  refine callType_codes (Q₁ := fun obj s₁ => s₁.TypeIs obj "bytes" ∧ Q obj s₁) F.bm_called (F.bm_typeCall _) F.entry_object_init ?_ fun obj s₁ h₁ => ?_
  · refine codeAny_of_tree ?_
    show wpAny _ _ (do checkBuiltinCall "bytes.__new__" ⟨[.type "bytes", .bytes x t], []⟩; again (.builtin "bytes.__new__" ⟨[.type "bytes", .bytes x t], []⟩)) _ _ s
    refine wpAny_bind (wpAny_of_eq (F.bm_newCall _) (wpAny_pure ⟨plainId_quiet F.bm_plain _, codeAny_builtin F.bm_entry ?_⟩))
    rw [Around.under_plainId F.bm_plain _]
    unfold Builtin.«bytes.__new__»
    refine wpAny_bind (wpAny_of_eq (a := true) rfl ?_)
    refine bm_if_false rfl ?_
    refine wpAny_bind (wpAny_of_eq F.bm_sub ?_)
    refine bm_if_false rfl ?_
    refine wpAny_bind (wpAny_of_eq (F.bm_bind _) ?_)
    refine wpAny_bind (wpAny_of_eq (a := ()) rfl ?_)
    refine wpAny_bind (wpAny_of_eq (a := ()) rfl ?_)
    refine bm_if_false rfl ?_
    refine wpAny_bind (wpAny_specialOf hT BA.look_bbytes ?_)
    refine wpAny_bind (wpAny_rule ?_)
    refine wpAny_bind (wpAny_typeOf (T := "bytes") hT ?_)
    refine bm_if_true (by decide) ?_
    show wpAny _ _ (if (Value.type "bytes" == Value.type "bytes") = true then _ else _) _ _ _
    refine bm_if_true (by decide) ?_
    first
      | exact wpAny_pure ⟨hT, h⟩
      | exact wpAny_bind (wpAny_pure (wpAny_pure ⟨hT, h⟩))
  · exact ⟨h₁.1, F.args_object_init_2 obj _, object_init_meets F.bm_called.init.lookup F.bm_called.made (by decide) prog w A.in1 _ s₁ ⟨h₁.1, rfl, h₁.2⟩⟩
end
/-- a truth, and the source goes on -/
inductive RYes (src : Addr) (rest : Led) : Value → Led → Prop
  | mk (a b : Int) (ta tb : Tok) (n : Nat) (b0 : 0 ≤ b) (b1 : b < 2147483647) : RYes src rest (.bool true) ((src, W.listOf #[.int a ta, .int b tb] n) :: rest)
theorem yes_of {src : Addr} {rest : Led} {x : Bool} {a b : Int} {ta tb : Tok} {n : Nat} (h : x = true) (b0 : 0 ≤ b) (b1 : b < 2147483647) : RYes src rest (.bool x) ((src, W.listOf #[.int a ta, .int b tb] n) :: rest) := h ▸ .mk a b ta tb n b0 b1
theorem ck_take {ks : List Str} {ts : List Bool} {va vb : List Value} {n : Nat} (hn : n ≤ va.length) : ckI (gK ks ts (va.take n) vb) (va.take n).length = ckI (gK ks ts va vb) n := by
  rw [List.length_take, Nat.min_eq_left hn]
  refine ckI_congr fun i hi => ?_
  unfold gK
  rw [List.getD_eq_getElem?_getD (l := va.take n), List.getElem?_take_of_lt hi, ← List.getD_eq_getElem?_getD]
theorem goods_take {k n : Nat} {va : List Value} (h : Goods k va) : Goods k (va.take n) := fun v hv => h v (List.mem_of_mem_take hv)
theorem use_RYesC {w : World} {loose : List Str} {mean : ExcName → Option Value} {mg mb : Str → Option Value} {f : Addr} {N : Nat} {us : List Value} {news : Led} {src : Addr} {rest : Led} {dp un : Nat} {gd : Option (List Code)} {cn : Str} {cs : Scope} {z : Addr} {ccd : Value} {cl : List (Str × Addr)} {outer : List Env} {A₀ : Around} {base h₀ h : Heap} {L : Addr} {m : Str → Option Value} {ge : Array GenState} {dr : Drawn} {tk : Nat} {os : OsState} {Q : Value → Shared → Prop}
    (lem : DoesC w loose mean mg mb f N us news (RYes src rest)) (k1 : Below A₀ base outer h₀) (k2 : Fr h₀ L h m) (k3 : (hd.heap_39 w.params).In h₀) (k4 : News h₀ L h news) (k5 : Top hd.view_39 loose mean mg mb h₀) (kK : cs.kind = .function) (kd : dp + N < recursionLimit) (ku : un + 8 * N < cLine)
    (k : ∀ (h9 : Heap) (tk9 : Nat), Fr h₀ L h9 m → ∀ (a b : Int) (ta tb : Tok) (n : Nat) (b0 : 0 ≤ b) (b1 : b < 2147483647), News h₀ L h9 ((src, W.listOf #[.int a ta, .int b tb] n) :: rest) → Q (.bool true) ⟨h9, ge, dr, tk9, os⟩) : wpC (model PROG w) (ktrTop dp un gd cn cs L z ccd cl outer) (call (.ref f) us) Q ⟨h, ge, dr, tk, os⟩ :=
  lem dp un gd cn cs z ccd cl outer A₀ base h₀ L m ⟨h, ge, dr, tk, os⟩ Q k1 k2 k3 k4 k5 kK kd ku fun _ _ h9 tk9 hR F N => by
    cases hR
    exact k h9 tk9 F _ _ _ _ _ (by assumption) (by assumption) N
end
section
open PySem.Sem (wp)
section
variable {prog : Program} {w : World} {A : Around} {s : Shared} {R : Result → Shared → Prop}
/-- a def with cells called from the top, in a clean context -/
theorem codeC_top {name : Str} {params : Arguments} {body : List Stmt} {scope : Scope} {pm cd doc : Value} {a : Addr} {o : Obj} {args : List Value} {binds : List (Str × Value)}
    (hroom : A.depth < recursionLimit) (ho : s.heap.get? a = some o) (hdata : o.data = .func (Calls.docDef name params body scope pm cd doc)) (hlim : s.heap.NoLimit) (hcd : s.heap.CodeRec cd name)
    (hbind : bindArgs (Calls.docDef name params body scope pm cd doc) ⟨args, []⟩ = pure binds)
    (hkind : ∀ x ∈ binds, scope.names.lookup x.1 = some .local ∨ (scope.names.lookup x.1 = some .cell ∧ ((cellsFrom (s.heap.objs.size + 1) scope.names []).lookup x.1).isSome = true))
    (hnd : ((cellsFrom 0 scope.names []).map (·.1)).Nodup)
    (h : ∀ h₁ tk cells, Fr s.heap s.heap.objs.size h₁ (bindL (envOfC name scope s.heap.objs.size a cd).kindOf binds fun _ => none) → News s.heap s.heap.objs.size h₁ cells →
      CellsAre (bindC (envOfC name scope s.heap.objs.size a cd).kindOf binds fun _ => none) (cellsFrom (s.heap.objs.size + 1) scope.names []) cells →
      wpC (model prog w) (A.deeper (envOfC name scope s.heap.objs.size a cd)) (execs body (envOfC name scope s.heap.objs.size a cd))
        (fun f s' => R (.ok (.ret (match f with | .ret v => v | _ => .none))) s') { s with heap := h₁, toks := tk })
    (hco : scope.isCoroutine = false := by rfl) (hgen : scope.isGenerator = false := by rfl) (hk : scope.kind = .function := by rfl) :
    codeC (model prog w) A (.call (.ref a) ⟨args, []⟩) R s := by
  refine codeC_callFun hroom ho hdata hco hgen rfl hcd (wpAny_of_eq hbind ?_)
  refine wpAny_newFunctionEnv_cells hk hkind fun env' he s' x => ?_
  subst he
  refine ⟨hlim.keeps x.toInCall.keep, codeC_func ?_⟩
  obtain ⟨h₁, tk, rfl, hfr⟩ := x.done
  have hk₁ := x.toInCall.keep
  obtain ⟨cells, NC, Y⟩ := Cl.news (h₀ := s.heap) (Nat.le_refl _) fun n c hm => ⟨x.cell n c (lookup_of_mem_nodup (cellsFrom_names scope.names 0 (s.heap.objs.size + 1) [] [] rfl ▸ hnd) hm), x.above n c hm⟩
  exact h h₁ tk cells ⟨x.toInCall.ns, hk₁, Nat.le_refl _⟩ NC Y
end
/-- a tuple is not unlike itself -/
theorem ne_same_T {prog : Program} {w : World} {A : Around} {E : Value → Shared → Prop} {s : Shared} {h₀ : Heap} {L t : Addr} {news : Led} {vs : List Value} {n : Nat} {Q : Value → Shared → Prop} (N : News h₀ L s.heap news) (hm : (t, tupObj vs n) ∈ news) (hu : A.units < cLine) (h : Q (.bool false) s) :
    wpAny (model prog w) A (compareOp .NotEq (.ref t) (.ref t)) Q E s := by
  have ht : s.heap.IsTuple t vs.toArray := isTup_of N hm
  refine cmp_ofNotEq (SeqAt.RcNeAt.tuples (e := fun _ => true) ht ht hu (fun j _ _ => SeqAt.EqAt.same _) prog w E Q ?_)
  rw [show (!((List.range (min vs.toArray.size vs.toArray.size)).all (fun _ => true) && vs.toArray.size == vs.toArray.size)) = false from by rw [List.all_eq_true.mpr (fun _ _ => rfl)]; simp]
  exact h
section
variable {M : Model} {A : Around} {s : Shared} {env : Env}
theorem cNotCall {f : Expr} {args : List Expr} {kw : List Keyword} {pos p : Pos} {whole : Sem Value} {Q : Bool → Shared → Prop}
    (h : wpC M A (eval (.Call f args kw pos) env) (fun v s₁ => wpAny M A (truthy v) (fun b s₂ => Q (!b) s₂) NoE s₁) s) : wpC M A (isTrue (.UnaryOp .Not (.Call f args kw pos) p) env whole) Q s := by
  rw [arm_isTrue_UnaryOp]
  refine cBind ?_
  show wpC M A (eval (.Call f args kw pos) env >>= fun v => standAt (Expr.Call f args kw pos).pos >>= fun _ => holding [v] (truthy v)) _ s
  exact cBind (cMono h fun v s₁ h₁ => cStand (cHolding (cAny (wpAny_mono h₁ (fun b s₂ x => cPure x) fun _ _ x => x))))
end
section
variable {prog : Program} {w : World} {A : Around} {E : Value → Shared → Prop} {s : Shared} {h₀ : Heap} {L l : Addr} {news : Led} {n : Nat} {value slice : Expr} {j : Int} {u : Tok} {Q : Value → Shared → Prop}
theorem row_at {k many : Nat} {objs rest : Led} {rs : List Value} {v : Value} (hrs : RefsIn objs rs) (hrow : ∀ p ∈ objs, IsRow k many p) (hob : ∀ p ∈ objs, p ∈ rest) (hv : v ∈ rs) : ∃ a vs n, v = .ref a ∧ (a, W.listOf (List.toArray vs) n) ∈ rest ∧ vs.length = many ∧ Goods k vs := by
  obtain ⟨⟨a, o⟩, hp, rfl⟩ := hrs v hv
  obtain ⟨vs, n, e, hl, hg⟩ := hrow _ hp
  dsimp only at e
  subst e
  exact ⟨a, vs, n, rfl, hob _ hp, hl, hg⟩
/-- a row of the rows -/
theorem item_row {k many : Nat} {objs rest : Led} {rs : List Value} (N : News h₀ L s.heap news) (hm : (l, W.listOf rs.toArray n) ∈ news) (hrs : RefsIn objs rs) (hrow : ∀ p ∈ objs, IsRow k many p) (hob : ∀ p ∈ objs, p ∈ rest) (hz : rs.length ≤ 1000) (h0 : 0 ≤ j) (h1 : j < rs.length)
    (h : ∀ a vs n, (a, W.listOf (List.toArray vs) n) ∈ rest → vs.length = many → Goods k vs → Q (.ref a) s)
    (hs : subscripted slice false (.ref l) (.int j u) = operate [.ref l, .int j u] (getItem (.ref l) (.int j u)) := by with_unfolding_all rfl) (hg : ∀ r, letTemporaryGo value (.ref l) r = pure () := by intro _; with_unfolding_all rfl) :
    wpAny (model prog w) A (subscriptTail value slice (.ref l) (.int j u)) Q E s :=
  item_L N hm (by omega) h0 h1 (fun v hv => by
    obtain ⟨a, vs, n, rfl, h1, h2, h3⟩ := row_at hrs hrow hob (List.mem_of_getElem? hv)
    exact h a vs n h1 h2 h3) hs hg
/-- the last value of a row -/
theorem item_end {k : Nat} {vs : List Value} (N : News h₀ L s.heap news) (hm : (l, W.listOf vs.toArray n) ∈ news) (hk : j = -1) (hg : Goods k vs) (h0 : 1 ≤ vs.length) (hz : vs.length ≤ 1000)
    (h : ∀ v, Good k v → Q v s)
    (hs : subscripted slice false (.ref l) (.int j u) = operate [.ref l, .int j u] (getItem (.ref l) (.int j u)) := by with_unfolding_all rfl) :
    wpAny (model prog w) A (subscriptTail value slice (.ref l) (.int j u)) Q E s := by
  have hL := PySem.IsL.isList (n := n) (N _ hm).1
  have hx : vs[vs.length - 1]? = some vs[vs.length - 1] := by simp
  refine tail_any hL.typeIs slot_list_getitem.lookup (wpAny_getItem_list_neg hL (x := vs[vs.length - 1]) (by omega) (by rw [List.size_toArray]; omega) (by omega) ?_ ?_) hs
  · rw [List.size_toArray, show (j + (vs.length : Int)).toNat = vs.length - 1 from by omega]
    simpa using hx
  · exact h _ (hg _ (List.getElem_mem _))
end
end
section
variable {w : World} {loose : List Str} {mean : ExcName → Option Value} {mg mb : Str → Option Value} {news : Led} {k : Nat}
local macro_rules | `(tactic| walk_at "t_pull") => `(tactic| first | with_reducible exact Pull.head | exact Pull.tail (by walk_at "t_pull"))
local macro_rules | `(tactic| walk_at "t_mem") => `(tactic| first | with_reducible assumption | exact List.Mem.head _ | (refine List.mem_cons_of_mem _ ?_; walk_at "t_mem") | assumption)
local macro_rules | `(tactic| walk_at "t_off") => `(tactic| first | with_reducible assumption | exact Off.nil | exact off_of_allLt (by assumption) | exact Off.of_lt (by assumption) | (refine' Off.cons ?a ?b; (case a => k_ne); (case b => walk_at "t_off")) | assumption)
local macro_rules | `(tactic| walk_at "binaryOp FloorDiv int int") => `(tactic| (k_here; (refine floordiv_int (by omega) ?_ (Or.inl (PyProof.noPylong_small (by omega))))))
local macro_rules | `(tactic| walk_at "r") => `(tactic| first | (refine' src_set0 ?_ ?_ ?_ ?_; k_dflt walk_at "t_do") | (refine' src_set1 ?_ ?_ ?_ ?_; k_dflt walk_at "t_do") | (refine' item_L ?_ ?_ ?_ ?_ ?_ ?_; k_dflt walk_at "t_do") | (refine' len_L ?_ ?_ ?_ ?_; k_dflt walk_at "t_do") | (refine' append_L ?_ ?_ ?_ ?_ ?_ ?_; k_dflt walk_at "t_do") | (refine' join_L ?_ ?_ ?_ ?_ ?_; k_dflt walk_at "t_do") | (refine' len_str_S ?_ ?_; k_dflt walk_at "t_do") | (refine' item_str_S ?_ ?_ ?_ ?_; k_dflt walk_at "t_do"))
local macro_rules | `(tactic| walk_at "setItem ref int") => `(tactic| (walk_at "r"; intro h' F' N'))
local macro_rules | `(tactic| walk_at "subscriptTail") => `(tactic| (walk_at "r"; intro v' hv'))
local macro_rules | `(tactic| walk_at "subscriptTail Name Constant ref int") => `(tactic| (with_unfolding_all refine' item_litK ?k1 ?k2 ?k3 ?k4 ?_ ?k6; (case k1 => is_list); (case k2 => decide); (case k3 => decide); (case k4 => rfl); (case k6 => with_unfolding_all rfl); k_whole))
local macro_rules | `(tactic| walk_at "binaryOp Mult int int") => `(tactic| (k_here; (refine mul_int ?_ (PySem.IntMulOk.of_left (PySem.intBits_le_64 ?fm0 ?fm1)); (case fm0 => exact Int.le_trans (by decide) (Int.fmod_nonneg_of_pos _ (by decide : (0:Int) < 2147483647))); (case fm1 => exact Int.lt_trans (Int.fmod_lt_of_pos _ (by decide : (0:Int) < 2147483647)) (by decide)))))
local macro_rules | `(tactic| walk_at "call builtin:len") => `(tactic| (walk_at "r"))
-- a contract called: (walk_at "t_call") behind a refine' with the seven premises of Does
local macro_rules | `(tactic| k_ne) => `(tactic| ((refine neN ?_); (try dsimp only); walk_at "t_ne"))
local macro_rules | `(tactic| walk_at "t_chain") => `(tactic| first | with_reducible assumption | exact And.right (by first | with_reducible assumption | exact And.right (by first | with_reducible assumption | exact And.right (by first | with_reducible assumption | exact And.right (by first | with_reducible assumption | exact And.right (by first | with_reducible assumption | exact And.right (by first | with_reducible assumption | exact And.right (by first | with_reducible assumption | exact And.right (by first | with_reducible assumption | exact And.right (by with_reducible assumption))))))))))
local macro_rules | `(tactic| walk_at "t_leaf") => `(tactic| first | with_reducible assumption | exact And.left (by walk_at "t_chain") | exact And.right (by walk_at "t_chain"))
local macro_rules | `(tactic| walk_at "t_tri") => `(tactic| first | exact And.left (And.left (by walk_at "t_chain")) | exact And.left (And.right (And.left (by walk_at "t_chain"))) | exact And.right (And.right (And.left (by walk_at "t_chain"))))
local macro_rules | `(tactic| walk_at "t_clr") => `(tactic| (repeat first | ((with_reducible rename Ne _ _ => hh9); clear hh9) | ((with_reducible rename And (Ne _ _) _ => hh9); clear hh9) | ((with_reducible rename And (And (Ne _ _) _) _ => hh9); clear hh9)))
local macro_rules | `(tactic| walk_at "t_ne") => `(tactic| first | walk_at "t_leaf" | exact Ne.symm (by walk_at "t_leaf") | exact Nat.ne_of_lt (by walk_at "t_leaf") | exact Nat.ne_of_gt (by walk_at "t_leaf") | exact Nat.ne_of_gt (Nat.lt_succ_of_lt (by walk_at "t_leaf")) | walk_at "t_tri" | exact Ne.symm (by walk_at "t_tri") | (walk_at "t_clr"; omega) | omega)
local macro_rules | `(tactic| walk_at "t_news") => `(tactic| first | k_asm | exact news_pull (by k_asm) (by walk_at "t_pull"))
local macro_rules | `(tactic| walk_at "t_prem") => `(tactic| first
  | ((with_reducible show News _ _ _ _); k_asm)
  | ((with_reducible show Fr _ _ _ _); k_asm)
  | ((with_reducible show Pull _ _ _); walk_at "t_pull")
  | ((with_reducible show Off _ _); walk_at "t_off")
  | ((with_reducible show Good _ _); walk_at "t_goodat")
  | ((with_reducible show CollName _); walk_at "t_collat")
  | ((with_reducible show InfoIn _ _ _ _ _); walk_at "t_infox")
  | ((with_reducible show Goods _ _); walk_at "t_goodsx")
  | ((with_reducible show Membership.mem _ _); first | walk_at "t_mem" | walk_at "t_memapp")
  | ((with_reducible show Eq _ _); first | with_unfolding_all rfl | omega | (simp; done))
  | ((with_reducible first | show LE.le _ _ | show LT.lt _ _); first | decide | (simp only [List.length_cons, List.length_nil]; first | decide | omega) | omega | (rw [sizeLine_eq]; omega) | (rw [List.length_take]; omega) | (simp; done) | (simp; omega) | ktr_units | walk_at "t_join"))
local macro_rules | `(tactic| walk_at "t_dec") => `(tactic| ((case a => (intro _; kernel_rfl)); (case b => decide)))
local macro_rules | `(tactic| walk_at "t_do") => `(tactic| ((all_goals first | (fail_if_success (refine of_prop ?_)) | with_reducible assumption | walk_at "t_prem" | skip); (fail_if_success walk_at "t_shp"); k_whole))
local macro_rules | `(tactic| walk_at "t_shp") => `(tactic| with_reducible first | show News _ _ _ _ | show Fr _ _ _ _ | show Pull _ _ _ | show Off _ _ | show Membership.mem _ _ | show LE.le _ _ | show LT.lt _ _ | show Eq _ _)
local macro_rules | `(tactic| walk_at "pyIter ref") => `(tactic| refine Mine.stop ?_)
local macro_rules | `(tactic| walk_at "pyIter str") => `(tactic| refine Mine.stop ?_)
local macro_rules | `(tactic| walk_at "pyIter bytes") => `(tactic| refine Mine.stop ?_)
local macro_rules | `(tactic| walk_at "exec For Name Name cons nil") => `(tactic| (k_here; (rename Fr _ _ _ _ => lF'); (with_unfolding_all refine' For_invVF lF' ?k1 ?k2 ?_; (case k1 => exact rfl); (case k2 => exact rfl); k_whole)))
local macro_rules | `(tactic| walk_at "exec For Name Call cons nil") => `(tactic| (k_here; (rename Fr _ _ _ _ => lF'); (with_unfolding_all refine' For_invVF lF' ?k1 ?k2 ?_; (case k1 => exact rfl); (case k2 => exact rfl); k_whole)))
local macro_rules | `(tactic| walk_at "call builtin:list.append") => `(tactic| (walk_at "r"; intro h' F' N'; (try dsimp only)))
local macro_rules | `(tactic| walk_at "call builtin:chr") => `(tactic| (k_here; refine chr_of_range (by omega) (by (have hz9 := le_Z (by assumption)); omega) ?_))
local macro_rules | `(tactic| walk_at "call builtin:str.join") => `(tactic| (walk_at "r"; intro t' k'; (try dsimp only)))
local macro_rules | `(tactic| walk_at "exec While") => `(tactic| refine Mine.stop ?_)
local macro_rules | `(tactic| walk_at "exec While Compare cons nil") => `(tactic| refine Mine.stop ?_)
local macro_rules | `(tactic| walk_at "exec While BoolOp cons nil") => `(tactic| refine Mine.stop ?_)
local macro_rules | `(tactic| walk_at "call builtin:len") => `(tactic| (walk_at "r"))
local macro_rules | `(tactic| walk_at "subscriptTail") => `(tactic| (walk_at "r"; intro v' hv'; (try dsimp only)))
local macro_rules | `(tactic| walk_at "subscriptTail") => `(tactic| ((with_reducible rename Fr _ _ _ _ => F'); (with_reducible rename News _ _ _ _ => N'); refine slice_strN_ns (hsz := ?hsz) (s := ⟨_, _, _, _, _⟩) F' N' ?_; (case hsz => (rw [sizeLine_eq]; show PySem.Str.length _ ≤ _; simp only [PySem.Str.length]; omega)); intro h' t' k' F' N'; (try dsimp only)))
local macro_rules | `(tactic| walk_at "compareOp Lt bytes bytes") => `(tactic| (refine lt_bytes ?_))
local macro_rules | `(tactic| walk_at "compareOp Gt bytes bytes") => `(tactic| (refine gt_bytes ?_))
local macro_rules | `(tactic| walk_at "call ref") => `(tactic| refine Mine.stop ?_)
local macro_rules | `(tactic| walk_at "t_intin") => `(tactic| (repeat' first | exact List.forall_mem_nil _ | refine List.forall_mem_cons.mpr ⟨IntIn.mk (by decide) (by decide), ?_⟩))
local macro_rules | `(tactic| walk_at "t_colls") => `(tactic| (repeat' first | exact List.forall_mem_nil _ | refine List.forall_mem_cons.mpr ⟨StrIn.mk (by first | exact Or.inl rfl | exact Or.inr (Or.inl rfl) | exact Or.inr (Or.inr rfl)), ?_⟩))
local macro_rules | `(tactic| walk_at "binaryOp Pow int int") => `(tactic| ((fail_if_success (with_reducible show wpAny _ _ (binaryOp _ _ (Value.int 63 _)) _ _ _)); refine pow2_S (by omega) (by omega) ?_; intro p' hp0' hp1'; (try dsimp only)))
local macro_rules | `(tactic| walk_at "t_tail") => `(tactic| first | assumption | (refine List.mem_cons_of_mem _ ?_; walk_at "t_tail"))
local macro_rules | `(tactic| walk_at "t_sub") => `(tactic| first | ((with_reducible refine List.forall_mem_cons.mpr ?_); refine ⟨by walk_at "t_mem", ?_⟩; walk_at "t_sub") | (with_reducible exact List.forall_mem_nil _) | (with_reducible exact fun p hp => hp) | (with_reducible exact fun p hp => List.mem_cons_of_mem _ hp) | (dsimp only [List.cons_append, List.nil_append]; walk_at "t_sub") | (intro p hp; walk_at "t_tail") | ((refine List.forall_mem_cons.mpr ?_); refine ⟨by walk_at "t_mem", ?_⟩; walk_at "t_sub") | exact List.forall_mem_nil _ | exact fun p hp => hp | exact fun p hp => List.mem_cons_of_mem _ hp)
local macro_rules | `(tactic| walk_at "t_led") => `(tactic| first | k_asm | exact news_sub (by k_asm) (by walk_at "t_sub") | exact news_take (by k_asm) (by walk_at "t_pull") (by walk_at "t_sub"))
local macro_rules | `(tactic| walk_at "t_good") => `(tactic| first | assumption | exact Good.none | exact Good.int (by first | decide | omega) (by first | decide | omega) | exact Good.bytes (by first | omega | (simp; omega)) | exact Good.str (by first | assumption | omega | exact Nat.le_trans (by decide : _ ≤ 0) (Nat.zero_le _) | decide) (by first | assumption | decide) | exact good_app (by assumption) (by assumption) (by decide) (by decide) | exact good_slice (by assumption) (by assumption) | exact good_lower (by assumption) (by assumption))
local macro_rules | `(tactic| walk_at "t_goods") => `(tactic| (repeat' first | exact List.forall_mem_nil _ | refine List.forall_mem_cons.mpr ⟨by walk_at "t_good", ?_⟩))
local macro_rules | `(tactic| walk_at "binaryOp Add bytes bytes") => `(tactic| (k_here; (refine KBy.add_bytes (by first | omega | (simp; omega)) ?_); (intro t' k'); (try dsimp only)))
local macro_rules | `(tactic| walk_at "binaryOp Add str str") => `(tactic| (k_here; (refine add_str_S (by first | omega | decide) (by first | omega | decide) ?_); (intro t' k'); (try dsimp only)))
local macro_rules | `(tactic| walk_at "subscriptTail") => `(tactic| ((with_reducible rename Fr _ _ _ _ => F'); (with_reducible rename News _ _ _ _ => N'); refine slice_bytes_S (s := ⟨_, _, _, _, _⟩) F' N' (by omega) ?_; intro h' c' t' k' F' N' hz'; (try dsimp only)))
local macro_rules | `(tactic| walk_at "call builtin:str.lower") => `(tactic| (k_here; (try dsimp only); (refine PyProof.Rows.SCL.lower (by show PySem.Str.length _ ≤ _; simp only [PySem.Str.length]; omega) ?_); intro _))
local macro_rules | `(tactic| walk_at "CompSrc") => `(tactic| refine Mine.stop ?_)
local macro_rules | `(tactic| walk_at "eval ListComp") => `(tactic| (k_here; k_dflt (refine LCg.ListComp_U (F₀ := by k_asm) (by rfl) (by decide) (by rfl) (by decide) (by rfl) ?_)))
local macro_rules | `(tactic| walk_at "exec Assign cons ListComp") => `(tactic| (k_here; k_dflt (refine LCg.Assign_ListComp_U (F₀ := by k_asm) (by rfl) (by with_unfolding_all rfl) (by rfl) (by decide) (by rfl) (by decide) (by rfl) (by rfl) (by rfl) ?_)))
local macro_rules | `(tactic| walk_at "call builtin:bytes.decode") => `(tactic| ((first | (refine' decA ⟨#[0]⟩ (n := 1) ?a ?b ?_; walk_at "t_dec") | ((with_reducible show wpAny _ _ (call _ [Value.bytes #[(Int.toNat 0).toUInt8] _, _]) _ _ _); refine' dec8 ⟨#[0]⟩ (n := 1) ?a ?b ?_; walk_at "t_dec") | ((with_reducible show wpAny _ _ (call _ [Value.bytes #[(Int.toNat 1).toUInt8] _, _]) _ _ _); refine' dec8 ⟨#[1]⟩ (n := 1) ?a ?b ?_; walk_at "t_dec") | ((with_reducible show wpAny _ _ (call _ [Value.bytes #[(Int.toNat 195).toUInt8, _] _, _]) _ _ _); refine' dec8 ⟨#[233]⟩ (n := 2) ?a ?b ?_; walk_at "t_dec") | ((with_reducible show wpAny _ _ (call _ [Value.bytes #[(Int.toNat 240).toUInt8, _, _, _] _, _]) _ _ _); refine' dec8 ⟨#[128512]⟩ (n := 4) ?a ?b ?_; walk_at "t_dec")); intro t' k'))
local macro_rules | `(tactic| walk_at "t_goodat") => `(tactic| first | assumption | (refine' good_at ?gg ?gh; (case gh => assumption); (case gg => assumption)))
local macro_rules | `(tactic| walk_at "t_collat") => `(tactic| first | assumption | exact coll_at (by assumption) (by omega) (by omega))
section
set_option maxHeartbeats 8000000 in
theorem take_ok {src : Addr} {x y : Int} {tx ty tt : Tok} {ep : Nat} {top : Int} (hy : 0 ≤ y) (hy2 : y < 2147483647) (htop : 0 < top) (htop2 : top ≤ 100) (hd : Off src news) :
    Does w loose mean mg mb 201 1 [.ref src, .int top tt] ((src, W.listOf #[.int x tx, .int y ty] ep) :: news) (RTake top src news) := by
  w_top off
  refine' entry (bs := [.ref src, .int top tt]) [Str.ofString "source", Str.ofString "top"] ?k6 ?k7 ?k9 ?kB ?c5 ?c2 ?c3 ?c4 ?hn ?kx
  ((case' kx => k_fill); (case k6 => k_is); (case k7 => k_is); (case kB => exact locs rfl); (case c5 => decide); (case c2 => exact rfl); (case c3 => exact rfl); (case c4 => exact rfl); (case hn => decide))
  (case k9 => ((intro s9 X9); first | exact BindsTo.of_eq rfl | exact binds_K X9 rfl (by k_is) rfl rfl rfl))
  intro c9 A9 base9 g9 h9 L9 ge9 dr9 tk9 os9 Q9 hdp hun F N B X T hret
  k_steps
  all_goals (refine hret _ _ _ _ (RTake.mk _ _ _ _ _ _ _ ?_ ?_ ?_ ?_) (by k_asm) (by k_asm))
  all_goals first | exact Int.fmod_nonneg_of_pos _ htop | exact Int.fmod_lt_of_pos _ htop | assumption | exact Int.fmod_nonneg_of_pos _ (by decide) | exact Int.fmod_lt_of_pos _ (by decide)
end
local macro_rules | `(tactic| walk_at "pad1") => `(tactic| skip)
section
set_option maxHeartbeats 8000000 in
theorem one_ok {src th : Addr} {x y : Int} {tx ty : Tok} {ep n : Nat} {vs : List Value} (hm : (th, W.listOf vs.toArray n) ∈ news) (hy : 0 ≤ y) (hy2 : y < 2147483647) (hlen : 0 < vs.length) (hlen2 : vs.length ≤ 100) (hd : Off src news) :
    Does w loose mean mg mb 208 2 [.ref src, .ref th] ((src, W.listOf #[.int x tx, .int y ty] ep) :: news) (ROne vs src news) := by
  w_top off
  refine' entry (bs := [.ref src, .ref th]) [Str.ofString "source", Str.ofString "things"] ?k6 ?k7 ?k9 ?kB ?c5 ?c2 ?c3 ?c4 ?hn ?kx
  ((case' kx => k_fill); (case k6 => k_is); (case k7 => k_is); (case kB => exact locs rfl); (case c5 => decide); (case c2 => exact rfl); (case c3 => exact rfl); (case c4 => exact rfl); (case hn => decide))
  (case k9 => ((intro s9 X9); first | exact BindsTo.of_eq rfl | exact binds_K X9 rfl (by k_is) rfl rfl rfl))
  intro c9 A9 base9 g9 h9 L9 ge9 dr9 tk9 os9 Q9 hdp hun F N B X T hret
  (k_steps; repeat (any_goals ((with_reducible refine unstop ?_); (first | ((k_dflt ((first | ((with_reducible show wpAny _ _ (call (Value.ref 201) _) _ _ _); (refine' use_RTake (take_ok ?_ ?_ ?_ ?_ ?_) ?k1 ?k2 ?k3 ?k4 ?k5 ?kK ?kd ?ku ?_))); ((try (case k4 => walk_at "t_news")); ((case k1 => k_asm); (case k2 => k_asm); (case k3 => k_asm); (case k5 => k_asm); (case kK => first | exact rfl | assumption); (case kd => first | exact room9 (by with_reducible assumption) (by decide) | ktr_room); (case ku => first | exact unit9 (by with_reducible assumption) (by decide) | ktr_units)); (all_goals first | (fail_if_success (fail_if_success (intro (h9 : Heap)))) | (fail_if_success (refine of_prop ?_)) | with_reducible assumption | walk_at "t_prem" | assumption); k_whole))); (intros; (try k_fold))) | fail "none"); k_steps)))
  all_goals (refine hret _ _ _ _ (ROne.mk _ _ _ _ _ _ (List.mem_of_getElem? (by assumption)) ?_ ?_) (by k_asm) (by k_asm))
  all_goals assumption
theorem Does.mono {f : Addr} {n : Nat} {vs : List Value} {R R' : Value → Led → Prop} (h : Does w loose mean mg mb f n vs news R) (hR : ∀ r l, R r l → R' r l) : Does w loose mean mg mb f n vs news R' :=
  fun dp un gd cn cs a ccd cl outer A₀ base h₀ L m s Q E B F X N T hk hdp hun hret => h dp un gd cn cs a ccd cl outer A₀ base h₀ L m s Q E B F X N T hk hdp hun fun r l h' tk' hr => hret r l h' tk' (hR r l hr)
theorem one_int {lo hi : Int} {src th : Addr} {x y : Int} {tx ty : Tok} {ep n : Nat} {vs : List Value} (hm : (th, W.listOf vs.toArray n) ∈ news) (hin : ∀ v ∈ vs, IntIn lo hi v) (hy : 0 ≤ y) (hy2 : y < 2147483647) (hlen : 0 < vs.length) (hlen2 : vs.length ≤ 100) (hd : Off src news) :
    Does w loose mean mg mb 208 2 [.ref src, .ref th] ((src, W.listOf #[.int x tx, .int y ty] ep) :: news) (ROneI lo hi src news) :=
  Does.mono (one_ok hm hy hy2 hlen hlen2 hd) fun r l hr => by
    cases hr with
    | mk ta tb n a b hv b0 b1 =>
      obtain ⟨e, t, rfl, h0, h1⟩ := hin _ hv
      exact .mk e t ta tb n a b h0 h1 b0 b1
theorem one_str {P : Str → Prop} {src th : Addr} {x y : Int} {tx ty : Tok} {ep n : Nat} {vs : List Value} (hm : (th, W.listOf vs.toArray n) ∈ news) (hin : ∀ v ∈ vs, StrIn P v) (hy : 0 ≤ y) (hy2 : y < 2147483647) (hlen : 0 < vs.length) (hlen2 : vs.length ≤ 100) (hd : Off src news) :
    Does w loose mean mg mb 208 2 [.ref src, .ref th] ((src, W.listOf #[.int x tx, .int y ty] ep) :: news) (ROneS P src news) :=
  Does.mono (one_ok hm hy hy2 hlen hlen2 hd) fun r l hr => by
    cases hr with
    | mk ta tb n a b hv b0 b1 =>
      obtain ⟨e, t, rfl, h0⟩ := hin _ hv
      exact .mk e t ta tb n a b h0 b0 b1
theorem one_good {src th : Addr} {x y : Int} {tx ty : Tok} {ep n : Nat} {vs : List Value} (hK : KIs k) (hm : (th, W.listOf vs.toArray n) ∈ news) (hin : ∀ v ∈ vs, Good k v) (hy : 0 ≤ y) (hy2 : y < 2147483647) (hlen : 0 < vs.length) (hlen2 : vs.length ≤ 100) (hd : Off src news) :
    Does w loose mean mg mb 208 2 [.ref src, .ref th] ((src, W.listOf #[.int x tx, .int y ty] ep) :: news) (RVal k src news) :=
  Does.mono (one_ok hm hy hy2 hlen hlen2 hd) fun r l hr => by
    cases hr with
    | mk ta tb n a b hv b0 b1 => exact .mk _ (hin _ hv) ta tb n a b b0 b1
end
local macro_rules | `(tactic| walk_at "pad2") => `(tactic| skip)
section
set_option maxHeartbeats 8000000 in
theorem sign_int {x y : Int} {tx ty : Tok} : Does w loose mean mg mb 101 1 [.int x tx, .int y ty] news (RInt (sgnI x y) news) := by
  w_top off
  refine' entry (bs := [.int x tx, .int y ty]) [Str.ofString "one", Str.ofString "other"] ?k6 ?k7 ?k9 ?kB ?c5 ?c2 ?c3 ?c4 ?hn ?kx
  ((case' kx => k_fill); (case k6 => k_is); (case k7 => k_is); (case kB => exact locs rfl); (case c5 => decide); (case c2 => exact rfl); (case c3 => exact rfl); (case c4 => exact rfl); (case hn => decide))
  (case k9 => ((intro s9 X9); first | exact BindsTo.of_eq rfl | exact binds_K X9 rfl (by k_is) rfl rfl rfl))
  intro c9 A9 base9 g9 h9 L9 ge9 dr9 tk9 os9 Q9 hdp hun F N B X T hret
  k_steps
  all_goals (refine hret _ _ _ _ (RInt.of ?_) (by k_asm) (by k_asm))
  all_goals (simp only [sgnI]; (try simp only [decide_eq_true_eq, decide_eq_false_iff_not] at *); split <;> first | rfl | omega | (split <;> first | rfl | omega))
set_option maxHeartbeats 8000000 in
theorem stc_none : Does w loose mean mg mb 80 1 [.none] news (RStr (Str.ofString "null") news) := by
  w_top off
  refine' entry (bs := [.none]) [Str.ofString "v"] ?k6 ?k7 ?k9 ?kB ?c5 ?c2 ?c3 ?c4 ?hn ?kx
  ((case' kx => k_fill); (case k6 => k_is); (case k7 => k_is); (case kB => exact locs rfl); (case c5 => decide); (case c2 => exact rfl); (case c3 => exact rfl); (case c4 => exact rfl); (case hn => decide))
  (case k9 => ((intro s9 X9); first | exact BindsTo.of_eq rfl | exact binds_K X9 rfl (by k_is) rfl rfl rfl))
  intro c9 A9 base9 g9 h9 L9 ge9 dr9 tk9 os9 Q9 hdp hun F N B X T hret
  k_steps
  all_goals exact hret _ _ _ _ (RStr.of rfl) (by k_asm) (by k_asm)
set_option maxHeartbeats 8000000 in
theorem stc_int {x : Int} {t : Tok} : Does w loose mean mg mb 80 1 [.int x t] news (RStr (Str.ofString "integer") news) := by
  w_top off
  refine' entry (bs := [.int x t]) [Str.ofString "v"] ?k6 ?k7 ?k9 ?kB ?c5 ?c2 ?c3 ?c4 ?hn ?kx
  ((case' kx => k_fill); (case k6 => k_is); (case k7 => k_is); (case kB => exact locs rfl); (case c5 => decide); (case c2 => exact rfl); (case c3 => exact rfl); (case c4 => exact rfl); (case hn => decide))
  (case k9 => ((intro s9 X9); first | exact BindsTo.of_eq rfl | exact binds_K X9 rfl (by k_is) rfl rfl rfl))
  intro c9 A9 base9 g9 h9 L9 ge9 dr9 tk9 os9 Q9 hdp hun F N B X T hret
  k_steps
  all_goals exact hret _ _ _ _ (RStr.of rfl) (by k_asm) (by k_asm)
set_option maxHeartbeats 8000000 in
theorem stc_str {x : Str} {t : Tok} : Does w loose mean mg mb 80 1 [.str x t] news (RStr (Str.ofString "text") news) := by
  w_top off
  refine' entry (bs := [.str x t]) [Str.ofString "v"] ?k6 ?k7 ?k9 ?kB ?c5 ?c2 ?c3 ?c4 ?hn ?kx
  ((case' kx => k_fill); (case k6 => k_is); (case k7 => k_is); (case kB => exact locs rfl); (case c5 => decide); (case c2 => exact rfl); (case c3 => exact rfl); (case c4 => exact rfl); (case hn => decide))
  (case k9 => ((intro s9 X9); first | exact BindsTo.of_eq rfl | exact binds_K X9 rfl (by k_is) rfl rfl rfl))
  intro c9 A9 base9 g9 h9 L9 ge9 dr9 tk9 os9 Q9 hdp hun F N B X T hret
  k_steps
  all_goals exact hret _ _ _ _ (RStr.of rfl) (by k_asm) (by k_asm)
set_option maxHeartbeats 8000000 in
theorem stc_bytes {x : Array UInt8} {t : Tok} : Does w loose mean mg mb 80 1 [.bytes x t] news (RStr (Str.ofString "blob") news) := by
  w_top off
  refine' entry (bs := [.bytes x t]) [Str.ofString "v"] ?k6 ?k7 ?k9 ?kB ?c5 ?c2 ?c3 ?c4 ?hn ?kx
  ((case' kx => k_fill); (case k6 => k_is); (case k7 => k_is); (case kB => exact locs rfl); (case c5 => decide); (case c2 => exact rfl); (case c3 => exact rfl); (case c4 => exact rfl); (case hn => decide))
  (case k9 => ((intro s9 X9); first | exact BindsTo.of_eq rfl | exact binds_K X9 rfl (by k_is) rfl rfl rfl))
  intro c9 A9 base9 g9 h9 L9 ge9 dr9 tk9 os9 Q9 hdp hun F N B X T hret
  k_steps
  all_goals exact hret _ _ _ _ (RStr.of rfl) (by k_asm) (by k_asm)
theorem stc_ok {v : Value} (hv : Good k v) : Does w loose mean mg mb 80 1 [v] news (RStr (stcls v) news) := by
  cases hv with
  | none => exact stc_none
  | int => exact stc_int
  | str => exact stc_str
  | bytes => exact stc_bytes
set_option maxHeartbeats 8000000 in
theorem rank_none : Does w loose mean mg mb 215 1 [.none] news (RInt (rank .none) news) := by
  w_top off
  refine' entry (bs := [.none]) [Str.ofString "value"] ?k6 ?k7 ?k9 ?kB ?c5 ?c2 ?c3 ?c4 ?hn ?kx
  ((case' kx => k_fill); (case k6 => k_is); (case k7 => k_is); (case kB => exact locs rfl); (case c5 => decide); (case c2 => exact rfl); (case c3 => exact rfl); (case c4 => exact rfl); (case hn => decide))
  (case k9 => ((intro s9 X9); first | exact BindsTo.of_eq rfl | exact binds_K X9 rfl (by k_is) rfl rfl rfl))
  intro c9 A9 base9 g9 h9 L9 ge9 dr9 tk9 os9 Q9 hdp hun F N B X T hret
  k_steps
  all_goals exact hret _ _ _ _ (RInt.of rfl) (by k_asm) (by k_asm)
set_option maxHeartbeats 8000000 in
theorem rank_int {x : Int} {t : Tok} : Does w loose mean mg mb 215 1 [.int x t] news (RInt (rank (.int x t)) news) := by
  w_top off
  refine' entry (bs := [.int x t]) [Str.ofString "value"] ?k6 ?k7 ?k9 ?kB ?c5 ?c2 ?c3 ?c4 ?hn ?kx
  ((case' kx => k_fill); (case k6 => k_is); (case k7 => k_is); (case kB => exact locs rfl); (case c5 => decide); (case c2 => exact rfl); (case c3 => exact rfl); (case c4 => exact rfl); (case hn => decide))
  (case k9 => ((intro s9 X9); first | exact BindsTo.of_eq rfl | exact binds_K X9 rfl (by k_is) rfl rfl rfl))
  intro c9 A9 base9 g9 h9 L9 ge9 dr9 tk9 os9 Q9 hdp hun F N B X T hret
  k_steps
  all_goals exact hret _ _ _ _ (RInt.of rfl) (by k_asm) (by k_asm)
set_option maxHeartbeats 8000000 in
theorem rank_str {x : Str} {t : Tok} : Does w loose mean mg mb 215 1 [.str x t] news (RInt (rank (.str x t)) news) := by
  w_top off
  refine' entry (bs := [.str x t]) [Str.ofString "value"] ?k6 ?k7 ?k9 ?kB ?c5 ?c2 ?c3 ?c4 ?hn ?kx
  ((case' kx => k_fill); (case k6 => k_is); (case k7 => k_is); (case kB => exact locs rfl); (case c5 => decide); (case c2 => exact rfl); (case c3 => exact rfl); (case c4 => exact rfl); (case hn => decide))
  (case k9 => ((intro s9 X9); first | exact BindsTo.of_eq rfl | exact binds_K X9 rfl (by k_is) rfl rfl rfl))
  intro c9 A9 base9 g9 h9 L9 ge9 dr9 tk9 os9 Q9 hdp hun F N B X T hret
  k_steps
  all_goals exact hret _ _ _ _ (RInt.of rfl) (by k_asm) (by k_asm)
set_option maxHeartbeats 8000000 in
theorem rank_bytes {x : Array UInt8} {t : Tok} : Does w loose mean mg mb 215 1 [.bytes x t] news (RInt (rank (.bytes x t)) news) := by
  w_top off
  refine' entry (bs := [.bytes x t]) [Str.ofString "value"] ?k6 ?k7 ?k9 ?kB ?c5 ?c2 ?c3 ?c4 ?hn ?kx
  ((case' kx => k_fill); (case k6 => k_is); (case k7 => k_is); (case kB => exact locs rfl); (case c5 => decide); (case c2 => exact rfl); (case c3 => exact rfl); (case c4 => exact rfl); (case hn => decide))
  (case k9 => ((intro s9 X9); first | exact BindsTo.of_eq rfl | exact binds_K X9 rfl (by k_is) rfl rfl rfl))
  intro c9 A9 base9 g9 h9 L9 ge9 dr9 tk9 os9 Q9 hdp hun F N B X T hret
  k_steps
  all_goals exact hret _ _ _ _ (RInt.of rfl) (by k_asm) (by k_asm)
theorem rank_ok {v : Value} (hv : Good k v) : Does w loose mean mg mb 215 1 [v] news (RInt (rank v) news) := by
  cases hv with
  | none => exact rank_none
  | int => exact rank_int
  | str => exact rank_str
  | bytes => exact rank_bytes
set_option maxHeartbeats 8000000 in
theorem inr_ok {x : Int} {t : Tok} (h0 : -9223372036854775808 ≤ x) (h1 : x ≤ 9223372036854775807) : Does w loose mean mg mb 87 1 [.int x t] news (RBool true news) := by
  w_top off
  refine' entry (bs := [.int x t]) [Str.ofString "n"] ?k6 ?k7 ?k9 ?kB ?c5 ?c2 ?c3 ?c4 ?hn ?kx
  ((case' kx => k_fill); (case k6 => k_is); (case k7 => k_is); (case kB => exact locs rfl); (case c5 => decide); (case c2 => exact rfl); (case c3 => exact rfl); (case c4 => exact rfl); (case hn => decide))
  (case k9 => ((intro s9 X9); first | exact BindsTo.of_eq rfl | exact binds_K X9 rfl (by k_is) rfl rfl rfl))
  intro c9 A9 base9 g9 h9 L9 ge9 dr9 tk9 os9 Q9 hdp hun F N B X T hret
  k_steps
  all_goals (refine hret _ _ _ _ (RBool.of ?_) (by k_asm) (by k_asm))
  all_goals (simp only [decide_eq_true_eq]; omega)
theorem rank_none0 : Does w loose mean mg mb 215 1 [.none] news (RInt 0 news) := rank_none
theorem rank_int1 {x : Int} {t : Tok} : Does w loose mean mg mb 215 1 [.int x t] news (RInt 1 news) := rank_int
theorem rank_str2 {x : Str} {t : Tok} : Does w loose mean mg mb 215 1 [.str x t] news (RInt 2 news) := rank_str
theorem rank_bytes3 {x : Array UInt8} {t : Tok} : Does w loose mean mg mb 215 1 [.bytes x t] news (RInt 3 news) := rank_bytes
end
section
local macro_rules | `(tactic| walk_at "t_join") => `(tactic| (rw [ones_w]; simp; omega))
set_option maxHeartbeats 8000000 in
theorem fold_ok {x : Str} {t : Tok} (hx : x.cps.size ≤ 64) (hc : ∀ c ∈ x.cps.toList, c < 1114112) : Does w loose mean mg mb 73 2 [.str x t] news (RStr (foldS x) news) := by
  w_top off
  refine' entry (bs := [.str x t]) [Str.ofString "text"] ?k6 ?k7 ?k9 ?kB ?c5 ?c2 ?c3 ?c4 ?hn ?kx
  ((case' kx => k_fill); (case k6 => k_is); (case k7 => k_is); (case kB => exact locs rfl); (case c5 => decide); (case c2 => exact rfl); (case c3 => exact rfl); (case c4 => exact rfl); (case hn => decide))
  (case k9 => ((intro s9 X9); first | exact BindsTo.of_eq rfl | exact binds_K X9 rfl (by k_is) rfl rfl rfl))
  intro c9 A9 base9 g9 h9 L9 ge9 dr9 tk9 os9 Q9 hdp hun F N B X T hret
  k_steps
  unfold Stop
  (rename Fr _ _ _ _ => F1)
  (rename News _ _ _ _ => N1)
  refine for_str (σ := List Value × Nat) (fun c => [(_, W.listOf c.1.toArray c.2)]) [Str.ofString "sign"] (fun i c _ => StrsAre c.1 (ones ((x.cps.toList.take i).map foldC))) ([], 0) rfl F1 N1 (fun _ => rfl) .nil ?_ ?_
  · rintro i d u ⟨vs, n⟩ m₁ h tk rest hd hI hu hsub hoff F2 N2
    have ho := hoff _ (List.mem_singleton.mpr rfl) (by walk_at "t_off")
    dsimp only [List.cons_append, List.nil_append] at N2
    have hi := strs_len hI
    have hv : vs.length ≤ 64 := by rw [hi]; simp [ones]; omega
    have hd' : x.cps.toList[i]? = some d := by simpa using hd
    have e : ∀ (z : Nat) (t : Tok), z = foldC d → StrsAre (vs ++ [.str ⟨#[z]⟩ t]) (ones ((x.cps.toList.take (i + 1)).map foldC)) := by
      intro z t hz
      rw [take_snoc hd', hz]
      have := strs_snoc hI ⟨#[foldC d]⟩ t
      simpa [ones] using this
    k_steps
    all_goals (refine ⟨_, _, _, _, rfl, by k_asm, by k_asm, (_, _), rfl, ?_, ?_⟩)
    all_goals (try simp only [lt_A, lt_Z, lt_A', lt_Z', Nat.not_lt] at *)
    all_goals first
      | (refine e _ _ ?_; simp only [foldC]; split <;> omega)
      | (intro y hy; (try dsimp only); rw [if_neg (by rintro rfl; exact absurd hy (by decide))]; (try rw [hy]); rfl)
  · rintro ⟨vs, n⟩ m₁ h tk hI hu F2 N2
    dsimp only [List.cons_append, List.nil_append] at N2
    have hx' : x.cps.toList.length = x.cps.size := by simp
    rw [show x.cps.toList.take x.cps.size = x.cps.toList from by rw [← hx', List.take_length]] at hI
    k_steps
    all_goals (refine hret _ _ _ _ (RStr.of ?_) (by k_asm) (news_sub (by k_asm) fun p hp => List.mem_cons_of_mem _ hp))
    all_goals (rw [join_ones]; simp only [foldS]; congr 1; apply Array.toList_inj.mp; simp)
end
section
set_option maxHeartbeats 8000000 in
theorem collate_bin {x : Str} {t u : Tok} : Does w loose mean mg mb 94 3 [.str x t, .str (Str.ofString "binary") u] news (RStr (collS (Str.ofString "binary") x) news) := by
  w_top off
  refine' entry (bs := [.str x t, .str (Str.ofString "binary") u]) [Str.ofString "text", Str.ofString "collation"] ?k6 ?k7 ?k9 ?kB ?c5 ?c2 ?c3 ?c4 ?hn ?kx
  ((case' kx => k_fill); (case k6 => k_is); (case k7 => k_is); (case kB => exact locs rfl); (case c5 => decide); (case c2 => exact rfl); (case c3 => exact rfl); (case c4 => exact rfl); (case hn => decide))
  (case k9 => ((intro s9 X9); first | exact BindsTo.of_eq rfl | exact binds_K X9 rfl (by k_is) rfl rfl rfl))
  intro c9 A9 base9 g9 h9 L9 ge9 dr9 tk9 os9 Q9 hdp hun F N B X T hret
  (k_steps; repeat (any_goals ((with_reducible refine unstop ?_); (first | ((k_dflt ((first | ((with_reducible show wpAny _ _ (call (Value.ref 73) _) _ _ _); (refine' use_RStr (fold_ok ?_ ?_) ?k1 ?k2 ?k3 ?k4 ?k5 ?kK ?kd ?ku ?_))); ((try (case k4 => walk_at "t_news")); ((case k1 => k_asm); (case k2 => k_asm); (case k3 => k_asm); (case k5 => k_asm); (case kK => first | exact rfl | assumption); (case kd => first | exact room9 (by with_reducible assumption) (by decide) | ktr_room); (case ku => first | exact unit9 (by with_reducible assumption) (by decide) | ktr_units)); (all_goals first | (fail_if_success (fail_if_success (intro (h9 : Heap)))) | (fail_if_success (refine of_prop ?_)) | with_reducible assumption | walk_at "t_prem" | assumption); k_whole))); (intros; (try k_fold))) | fail "none"); k_steps)))
  all_goals exact hret _ _ _ _ (RStr.of rfl) (by k_asm) (by k_asm)
set_option maxHeartbeats 8000000 in
theorem collate_no {x : Str} {t u : Tok} (hx : x.cps.size ≤ 64) (hc : ∀ c ∈ x.cps.toList, c < 1114112) : Does w loose mean mg mb 94 3 [.str x t, .str (Str.ofString "nocase") u] news (RStr (collS (Str.ofString "nocase") x) news) := by
  w_top off
  refine' entry (bs := [.str x t, .str (Str.ofString "nocase") u]) [Str.ofString "text", Str.ofString "collation"] ?k6 ?k7 ?k9 ?kB ?c5 ?c2 ?c3 ?c4 ?hn ?kx
  ((case' kx => k_fill); (case k6 => k_is); (case k7 => k_is); (case kB => exact locs rfl); (case c5 => decide); (case c2 => exact rfl); (case c3 => exact rfl); (case c4 => exact rfl); (case hn => decide))
  (case k9 => ((intro s9 X9); first | exact BindsTo.of_eq rfl | exact binds_K X9 rfl (by k_is) rfl rfl rfl))
  intro c9 A9 base9 g9 h9 L9 ge9 dr9 tk9 os9 Q9 hdp hun F N B X T hret
  (k_steps; repeat (any_goals ((with_reducible refine unstop ?_); (first | ((k_dflt ((first | ((with_reducible show wpAny _ _ (call (Value.ref 73) _) _ _ _); (refine' use_RStr (fold_ok ?_ ?_) ?k1 ?k2 ?k3 ?k4 ?k5 ?kK ?kd ?ku ?_))); ((try (case k4 => walk_at "t_news")); ((case k1 => k_asm); (case k2 => k_asm); (case k3 => k_asm); (case k5 => k_asm); (case kK => first | exact rfl | assumption); (case kd => first | exact room9 (by with_reducible assumption) (by decide) | ktr_room); (case ku => first | exact unit9 (by with_reducible assumption) (by decide) | ktr_units)); (all_goals first | (fail_if_success (fail_if_success (intro (h9 : Heap)))) | (fail_if_success (refine of_prop ?_)) | with_reducible assumption | walk_at "t_prem" | assumption); k_whole))); (intros; (try k_fold))) | fail "none"); k_steps)))
  all_goals exact hret _ _ _ _ (RStr.of rfl) (by k_asm) (by k_asm)
set_option maxHeartbeats 8000000 in
theorem collate_rt {x : Str} {t u : Tok} (hx : x.cps.size ≤ 64) : Does w loose mean mg mb 94 3 [.str x t, .str (Str.ofString "rtrim") u] news (RStr (collS (Str.ofString "rtrim") x) news) := by
  w_top off
  refine' entry (bs := [.str x t, .str (Str.ofString "rtrim") u]) [Str.ofString "text", Str.ofString "collation"] ?k6 ?k7 ?k9 ?kB ?c5 ?c2 ?c3 ?c4 ?hn ?kx
  ((case' kx => k_fill); (case k6 => k_is); (case k7 => k_is); (case kB => exact locs rfl); (case c5 => decide); (case c2 => exact rfl); (case c3 => exact rfl); (case c4 => exact rfl); (case hn => decide))
  (case k9 => ((intro s9 X9); first | exact BindsTo.of_eq rfl | exact binds_K X9 rfl (by k_is) rfl rfl rfl))
  intro c9 A9 base9 g9 h9 L9 ge9 dr9 tk9 os9 Q9 hdp hun F N B X T hret
  (k_steps; repeat (any_goals ((with_reducible refine unstop ?_); (first | ((k_dflt ((first | ((with_reducible show wpAny _ _ (call (Value.ref 73) _) _ _ _); (refine' use_RStr (fold_ok ?_ ?_) ?k1 ?k2 ?k3 ?k4 ?k5 ?kK ?kd ?ku ?_))); ((try (case k4 => walk_at "t_news")); ((case k1 => k_asm); (case k2 => k_asm); (case k3 => k_asm); (case k5 => k_asm); (case kK => first | exact rfl | assumption); (case kd => first | exact room9 (by with_reducible assumption) (by decide) | ktr_room); (case ku => first | exact unit9 (by with_reducible assumption) (by decide) | ktr_units)); (all_goals first | (fail_if_success (fail_if_success (intro (h9 : Heap)))) | (fail_if_success (refine of_prop ?_)) | with_reducible assumption | walk_at "t_prem" | assumption); k_whole))); (intros; (try k_fold))) | fail "none"); k_steps)))
  unfold Stop
  (rename Fr _ _ _ _ => F1)
  (rename News _ _ _ _ => N1)
  refine while_M (σ := Nat × Tok) (fun c => [(Str.ofString "end", .int (c.1 : Nat) c.2)]) (fun _ => []) (fun c => c.1 ≤ x.cps.size ∧ rtL (x.cps.toList.take c.1) = rtL x.cps.toList) (fun c => c.1) (x.cps.size, _) (by passes_own) F1 N1 ⟨Nat.le_refl _, ?_⟩ ?_
  · rw [show x.cps.size = x.cps.toList.length from by simp, List.take_length]
  · rintro ⟨e, te⟩ h tk ⟨hI, hr⟩ F2 N2
    dsimp only at F2 hI hr
    have hl : x.cps.toList.length = x.cps.size := by simp
    have step : ∀ v, 0 < (e : Int) → x.cps.toList[((e : Int) - 1).toNat]? = some v → x.cps.toList.take e = x.cps.toList.take (e - 1) ++ [v] := by
      intro v h0 hv
      have e1 : ((e : Int) - 1).toNat = e - 1 := by omega
      rw [e1] at hv
      have := take_snoc hv
      rwa [show e - 1 + 1 = e from by omega] at this
    have fin : rtL (x.cps.toList.take e) = x.cps.toList.take e → Txt.slice x none (some (e : Int)) = collS (Str.ofString "rtrim") x := by
      intro h1
      rw [slice_to x e e hI (by rw [if_neg (by first | decide | omega)]; omega)]
      show _ = (⟨(rtL x.cps.toList).toArray⟩ : Str)
      rw [← hr, h1]
    (k_steps; repeat (any_goals ((with_reducible refine unstop ?_); (first | ((k_dflt ((first | ((with_reducible show wpAny _ _ (call (Value.ref 73) _) _ _ _); (refine' use_RStr (fold_ok ?_ ?_) ?k1 ?k2 ?k3 ?k4 ?k5 ?kK ?kd ?ku ?_))); ((try (case k4 => walk_at "t_news")); ((case k1 => k_asm); (case k2 => k_asm); (case k3 => k_asm); (case k5 => k_asm); (case kK => first | exact rfl | assumption); (case kd => first | exact room9 (by with_reducible assumption) (by decide) | ktr_room); (case ku => first | exact unit9 (by with_reducible assumption) (by decide) | ktr_units)); (all_goals first | (fail_if_success (fail_if_success (intro (h9 : Heap)))) | (fail_if_success (refine of_prop ?_)) | with_reducible assumption | walk_at "t_prem" | assumption); k_whole))); (intros; (try k_fold))) | fail "none"); k_steps)))
    · have h9 := step _ (by assumption) (by assumption)
      have he : ((e - 1 : Nat) : Int) = (e : Int) - 1 := by omega
      have h32 : rtL (x.cps.toList.take (e - 1)) = rtL x.cps.toList := by
        rw [← hr, h9, rtL_snoc, if_pos (one_blank (by assumption))]
      refine ⟨_, _, (e - 1, ?wTok), rfl, ?wF, ?wN, ⟨?wA, ?wB⟩, ?wC⟩
      case wF =>
        dsimp only
        rw [he, ← put_again (u := .int (e : Int) te)]
        assumption
      case wN => k_asm
      case wA => dsimp only; omega
      case wB => exact h32
      case wC => dsimp only; omega
    · refine hret _ _ _ _ (RStr.of (fin ?_)) (by k_asm) (by k_asm)
      have h9 := step _ (by assumption) (by assumption)
      rw [h9, rtL_snoc, if_neg (not_blank (by assumption))]
    · refine hret _ _ _ _ (RStr.of (fin ?_)) (by k_asm) (by k_asm)
      rw [show e = 0 from by omega]
      rfl
theorem collate_ok {c x : Str} {t u : Tok} (hx : x.cps.size ≤ 64) (hc : ∀ d ∈ x.cps.toList, d < 1114112) (h : c = Str.ofString "binary" ∨ c = Str.ofString "nocase" ∨ c = Str.ofString "rtrim") : Does w loose mean mg mb 94 3 [.str x t, .str c u] news (RStr (collS c x) news) := by
  rcases h with rfl | rfl | rfl
  · exact collate_bin
  · exact collate_no hx hc
  · exact collate_rt hx
end
section
local macro_rules | `(tactic| walk_at "eval Call") => `(tactic| k_dflt (refine Call_ ?_))
set_option maxHeartbeats 8000000 in
theorem sign_str {x y : Str} {tx ty : Tok} : Does w loose mean mg mb 101 1 [.str x tx, .str y ty] news (RInt (sgnL x.cps.toList y.cps.toList) news) := by
  w_top off
  refine' entry (bs := [.str x tx, .str y ty]) [Str.ofString "one", Str.ofString "other"] ?k6 ?k7 ?k9 ?kB ?c5 ?c2 ?c3 ?c4 ?hn ?kx
  ((case' kx => k_fill); (case k6 => k_is); (case k7 => k_is); (case kB => exact locs rfl); (case c5 => decide); (case c2 => exact rfl); (case c3 => exact rfl); (case c4 => exact rfl); (case hn => decide))
  (case k9 => ((intro s9 X9); first | exact BindsTo.of_eq rfl | exact binds_K X9 rfl (by k_is) rfl rfl rfl))
  intro c9 A9 base9 g9 h9 L9 ge9 dr9 tk9 os9 Q9 hdp hun F N B X T hret
  (k_steps; repeat (any_goals ((with_reducible refine unstop ?_); (first | ((k_dflt ((first | ((with_reducible show wpAny _ _ (call (Value.ref 101) _) _ _ _); (first | (refine' use_RInt sign_str ?k1 ?k2 ?k3 ?k4 ?k5 ?kK ?kd ?ku ?_) | (refine' use_RInt sign_bytes ?k1 ?k2 ?k3 ?k4 ?k5 ?kK ?kd ?ku ?_) | (refine' use_RInt sign_int ?k1 ?k2 ?k3 ?k4 ?k5 ?kK ?kd ?ku ?_))) | ((with_reducible show wpAny _ _ (call (Value.ref 94) _) _ _ _); (refine' use_RStr (collate_ok ?_ ?_ ?_) ?k1 ?k2 ?k3 ?k4 ?k5 ?kK ?kd ?ku ?_)) | ((with_reducible show wpAny _ _ (call (Value.ref 80) _) _ _ _); (first | (refine' use_RStr stc_none ?k1 ?k2 ?k3 ?k4 ?k5 ?kK ?kd ?ku ?_) | (refine' use_RStr stc_int ?k1 ?k2 ?k3 ?k4 ?k5 ?kK ?kd ?ku ?_) | (refine' use_RStr stc_str ?k1 ?k2 ?k3 ?k4 ?k5 ?kK ?kd ?ku ?_) | (refine' use_RStr stc_bytes ?k1 ?k2 ?k3 ?k4 ?k5 ?kK ?kd ?ku ?_) | (refine' use_RStr (stc_ok (by assumption)) ?k1 ?k2 ?k3 ?k4 ?k5 ?kK ?kd ?ku ?_))) | ((with_reducible show wpAny _ _ (call (Value.ref 101) _) _ _ _); (refine' use_RInt (sign_int) ?k1 ?k2 ?k3 ?k4 ?k5 ?kK ?kd ?ku ?_))); ((try (case k4 => walk_at "t_news")); ((case k1 => k_asm); (case k2 => k_asm); (case k3 => k_asm); (case k5 => k_asm); (case kK => first | exact rfl | assumption); (case kd => first | exact room9 (by with_reducible assumption) (by decide) | ktr_room); (case ku => first | exact unit9 (by with_reducible assumption) (by decide) | ktr_units)); (all_goals first | (fail_if_success (fail_if_success (intro (h9 : Heap)))) | (fail_if_success (refine of_prop ?_)) | with_reducible assumption | walk_at "t_prem" | assumption); k_whole))); (intros; (try k_fold))) | fail "none"); k_steps)))
  all_goals (refine hret _ _ _ _ (RInt.of ?_) (by k_asm) (by k_asm))
  all_goals (unfold sgnL; split <;> first | rfl | contradiction | (split <;> first | rfl | contradiction))
set_option maxHeartbeats 8000000 in
theorem sign_bytes {x y : Array UInt8} {tx ty : Tok} : Does w loose mean mg mb 101 1 [.bytes x tx, .bytes y ty] news (RInt (sgnL (nats x) (nats y)) news) := by
  w_top off
  refine' entry (bs := [.bytes x tx, .bytes y ty]) [Str.ofString "one", Str.ofString "other"] ?k6 ?k7 ?k9 ?kB ?c5 ?c2 ?c3 ?c4 ?hn ?kx
  ((case' kx => k_fill); (case k6 => k_is); (case k7 => k_is); (case kB => exact locs rfl); (case c5 => decide); (case c2 => exact rfl); (case c3 => exact rfl); (case c4 => exact rfl); (case hn => decide))
  (case k9 => ((intro s9 X9); first | exact BindsTo.of_eq rfl | exact binds_K X9 rfl (by k_is) rfl rfl rfl))
  intro c9 A9 base9 g9 h9 L9 ge9 dr9 tk9 os9 Q9 hdp hun F N B X T hret
  (k_steps; repeat (any_goals ((with_reducible refine unstop ?_); (first | ((k_dflt ((first | ((with_reducible show wpAny _ _ (call (Value.ref 101) _) _ _ _); (first | (refine' use_RInt sign_str ?k1 ?k2 ?k3 ?k4 ?k5 ?kK ?kd ?ku ?_) | (refine' use_RInt sign_bytes ?k1 ?k2 ?k3 ?k4 ?k5 ?kK ?kd ?ku ?_) | (refine' use_RInt sign_int ?k1 ?k2 ?k3 ?k4 ?k5 ?kK ?kd ?ku ?_))) | ((with_reducible show wpAny _ _ (call (Value.ref 94) _) _ _ _); (refine' use_RStr (collate_ok ?_ ?_ ?_) ?k1 ?k2 ?k3 ?k4 ?k5 ?kK ?kd ?ku ?_)) | ((with_reducible show wpAny _ _ (call (Value.ref 80) _) _ _ _); (first | (refine' use_RStr stc_none ?k1 ?k2 ?k3 ?k4 ?k5 ?kK ?kd ?ku ?_) | (refine' use_RStr stc_int ?k1 ?k2 ?k3 ?k4 ?k5 ?kK ?kd ?ku ?_) | (refine' use_RStr stc_str ?k1 ?k2 ?k3 ?k4 ?k5 ?kK ?kd ?ku ?_) | (refine' use_RStr stc_bytes ?k1 ?k2 ?k3 ?k4 ?k5 ?kK ?kd ?ku ?_) | (refine' use_RStr (stc_ok (by assumption)) ?k1 ?k2 ?k3 ?k4 ?k5 ?kK ?kd ?ku ?_))) | ((with_reducible show wpAny _ _ (call (Value.ref 101) _) _ _ _); (refine' use_RInt (sign_int) ?k1 ?k2 ?k3 ?k4 ?k5 ?kK ?kd ?ku ?_))); ((try (case k4 => walk_at "t_news")); ((case k1 => k_asm); (case k2 => k_asm); (case k3 => k_asm); (case k5 => k_asm); (case kK => first | exact rfl | assumption); (case kd => first | exact room9 (by with_reducible assumption) (by decide) | ktr_room); (case ku => first | exact unit9 (by with_reducible assumption) (by decide) | ktr_units)); (all_goals first | (fail_if_success (fail_if_success (intro (h9 : Heap)))) | (fail_if_success (refine of_prop ?_)) | with_reducible assumption | walk_at "t_prem" | assumption); k_whole))); (intros; (try k_fold))) | fail "none"); k_steps)))
  all_goals (refine hret _ _ _ _ (RInt.of ?_) (by k_asm) (by k_asm))
  all_goals (unfold sgnL; split <;> first | rfl | contradiction | (split <;> first | rfl | contradiction))
noncomputable abbrev NS109 : List Str := [Str.ofString "a", Str.ofString "b", Str.ofString "collation"]
set_option maxHeartbeats 8000000 in
theorem cv_none {vs : List Value} {c : Str} {u : Tok} (hbd : Bd w.params 109 NS109 vs [.none, .none, .str c u]) : Does w loose mean mg mb 109 4 vs news (RInt (cmpV c .none .none) news) := by
  w_top off
  refine' entry (bs := [.none, .none, .str c u]) [Str.ofString "a", Str.ofString "b", Str.ofString "collation"] ?k6 ?k7 ?k9 ?kB ?c5 ?c2 ?c3 ?c4 ?hn ?kx
  ((case' kx => k_fill); (case k6 => k_is); (case k7 => k_is); (case kB => exact locs rfl); (case c5 => decide); (case c2 => exact rfl); (case c3 => exact rfl); (case c4 => exact rfl); (case hn => decide))
  (case k9 => exact hbd)
  intro c9 A9 base9 g9 h9 L9 ge9 dr9 tk9 os9 Q9 hdp hun F N B X T hret
  (k_steps; repeat (any_goals ((with_reducible refine unstop ?_); (first | ((k_dflt ((first | ((with_reducible show wpAny _ _ (call (Value.ref 101) _) _ _ _); (first | (refine' use_RInt sign_str ?k1 ?k2 ?k3 ?k4 ?k5 ?kK ?kd ?ku ?_) | (refine' use_RInt sign_bytes ?k1 ?k2 ?k3 ?k4 ?k5 ?kK ?kd ?ku ?_) | (refine' use_RInt sign_int ?k1 ?k2 ?k3 ?k4 ?k5 ?kK ?kd ?ku ?_))) | ((with_reducible show wpAny _ _ (call (Value.ref 94) _) _ _ _); (refine' use_RStr (collate_ok ?_ ?_ ?_) ?k1 ?k2 ?k3 ?k4 ?k5 ?kK ?kd ?ku ?_)) | ((with_reducible show wpAny _ _ (call (Value.ref 80) _) _ _ _); (first | (refine' use_RStr stc_none ?k1 ?k2 ?k3 ?k4 ?k5 ?kK ?kd ?ku ?_) | (refine' use_RStr stc_int ?k1 ?k2 ?k3 ?k4 ?k5 ?kK ?kd ?ku ?_) | (refine' use_RStr stc_str ?k1 ?k2 ?k3 ?k4 ?k5 ?kK ?kd ?ku ?_) | (refine' use_RStr stc_bytes ?k1 ?k2 ?k3 ?k4 ?k5 ?kK ?kd ?ku ?_) | (refine' use_RStr (stc_ok (by assumption)) ?k1 ?k2 ?k3 ?k4 ?k5 ?kK ?kd ?ku ?_))) | ((with_reducible show wpAny _ _ (call (Value.ref 101) _) _ _ _); (refine' use_RInt (sign_int) ?k1 ?k2 ?k3 ?k4 ?k5 ?kK ?kd ?ku ?_))); ((try (case k4 => walk_at "t_news")); ((case k1 => k_asm); (case k2 => k_asm); (case k3 => k_asm); (case k5 => k_asm); (case kK => first | exact rfl | assumption); (case kd => first | exact room9 (by with_reducible assumption) (by decide) | ktr_room); (case ku => first | exact unit9 (by with_reducible assumption) (by decide) | ktr_units)); (all_goals first | (fail_if_success (fail_if_success (intro (h9 : Heap)))) | (fail_if_success (refine of_prop ?_)) | with_reducible assumption | walk_at "t_prem" | assumption); k_whole))); (intros; (try k_fold))) | fail "none"); k_steps)))
  all_goals exact hret _ _ _ _ (RInt.of rfl) (by k_asm) (by k_asm)
set_option maxHeartbeats 8000000 in
theorem cv_int {vs : List Value} {x y : Int} {tx ty : Tok} {c : Str} {u : Tok} (hbd : Bd w.params 109 NS109 vs [.int x tx, .int y ty, .str c u]) : Does w loose mean mg mb 109 4 vs news (RInt (cmpV c (.int x tx) (.int y ty)) news) := by
  w_top off
  refine' entry (bs := [.int x tx, .int y ty, .str c u]) [Str.ofString "a", Str.ofString "b", Str.ofString "collation"] ?k6 ?k7 ?k9 ?kB ?c5 ?c2 ?c3 ?c4 ?hn ?kx
  ((case' kx => k_fill); (case k6 => k_is); (case k7 => k_is); (case kB => exact locs rfl); (case c5 => decide); (case c2 => exact rfl); (case c3 => exact rfl); (case c4 => exact rfl); (case hn => decide))
  (case k9 => exact hbd)
  intro c9 A9 base9 g9 h9 L9 ge9 dr9 tk9 os9 Q9 hdp hun F N B X T hret
  (k_steps; repeat (any_goals ((with_reducible refine unstop ?_); (first | ((k_dflt ((first | ((with_reducible show wpAny _ _ (call (Value.ref 101) _) _ _ _); (first | (refine' use_RInt sign_str ?k1 ?k2 ?k3 ?k4 ?k5 ?kK ?kd ?ku ?_) | (refine' use_RInt sign_bytes ?k1 ?k2 ?k3 ?k4 ?k5 ?kK ?kd ?ku ?_) | (refine' use_RInt sign_int ?k1 ?k2 ?k3 ?k4 ?k5 ?kK ?kd ?ku ?_))) | ((with_reducible show wpAny _ _ (call (Value.ref 94) _) _ _ _); (refine' use_RStr (collate_ok ?_ ?_ ?_) ?k1 ?k2 ?k3 ?k4 ?k5 ?kK ?kd ?ku ?_)) | ((with_reducible show wpAny _ _ (call (Value.ref 80) _) _ _ _); (first | (refine' use_RStr stc_none ?k1 ?k2 ?k3 ?k4 ?k5 ?kK ?kd ?ku ?_) | (refine' use_RStr stc_int ?k1 ?k2 ?k3 ?k4 ?k5 ?kK ?kd ?ku ?_) | (refine' use_RStr stc_str ?k1 ?k2 ?k3 ?k4 ?k5 ?kK ?kd ?ku ?_) | (refine' use_RStr stc_bytes ?k1 ?k2 ?k3 ?k4 ?k5 ?kK ?kd ?ku ?_) | (refine' use_RStr (stc_ok (by assumption)) ?k1 ?k2 ?k3 ?k4 ?k5 ?kK ?kd ?ku ?_))) | ((with_reducible show wpAny _ _ (call (Value.ref 101) _) _ _ _); (refine' use_RInt (sign_int) ?k1 ?k2 ?k3 ?k4 ?k5 ?kK ?kd ?ku ?_))); ((try (case k4 => walk_at "t_news")); ((case k1 => k_asm); (case k2 => k_asm); (case k3 => k_asm); (case k5 => k_asm); (case kK => first | exact rfl | assumption); (case kd => first | exact room9 (by with_reducible assumption) (by decide) | ktr_room); (case ku => first | exact unit9 (by with_reducible assumption) (by decide) | ktr_units)); (all_goals first | (fail_if_success (fail_if_success (intro (h9 : Heap)))) | (fail_if_success (refine of_prop ?_)) | with_reducible assumption | walk_at "t_prem" | assumption); k_whole))); (intros; (try k_fold))) | fail "none"); k_steps)))
  all_goals exact hret _ _ _ _ (RInt.of rfl) (by k_asm) (by k_asm)
set_option maxHeartbeats 8000000 in
theorem cv_bytes {vs : List Value} {x y : Array UInt8} {tx ty : Tok} {c : Str} {u : Tok} (hbd : Bd w.params 109 NS109 vs [.bytes x tx, .bytes y ty, .str c u]) : Does w loose mean mg mb 109 4 vs news (RInt (cmpV c (.bytes x tx) (.bytes y ty)) news) := by
  w_top off
  refine' entry (bs := [.bytes x tx, .bytes y ty, .str c u]) [Str.ofString "a", Str.ofString "b", Str.ofString "collation"] ?k6 ?k7 ?k9 ?kB ?c5 ?c2 ?c3 ?c4 ?hn ?kx
  ((case' kx => k_fill); (case k6 => k_is); (case k7 => k_is); (case kB => exact locs rfl); (case c5 => decide); (case c2 => exact rfl); (case c3 => exact rfl); (case c4 => exact rfl); (case hn => decide))
  (case k9 => exact hbd)
  intro c9 A9 base9 g9 h9 L9 ge9 dr9 tk9 os9 Q9 hdp hun F N B X T hret
  (k_steps; repeat (any_goals ((with_reducible refine unstop ?_); (first | ((k_dflt ((first | ((with_reducible show wpAny _ _ (call (Value.ref 101) _) _ _ _); (first | (refine' use_RInt sign_str ?k1 ?k2 ?k3 ?k4 ?k5 ?kK ?kd ?ku ?_) | (refine' use_RInt sign_bytes ?k1 ?k2 ?k3 ?k4 ?k5 ?kK ?kd ?ku ?_) | (refine' use_RInt sign_int ?k1 ?k2 ?k3 ?k4 ?k5 ?kK ?kd ?ku ?_))) | ((with_reducible show wpAny _ _ (call (Value.ref 94) _) _ _ _); (refine' use_RStr (collate_ok ?_ ?_ ?_) ?k1 ?k2 ?k3 ?k4 ?k5 ?kK ?kd ?ku ?_)) | ((with_reducible show wpAny _ _ (call (Value.ref 80) _) _ _ _); (first | (refine' use_RStr stc_none ?k1 ?k2 ?k3 ?k4 ?k5 ?kK ?kd ?ku ?_) | (refine' use_RStr stc_int ?k1 ?k2 ?k3 ?k4 ?k5 ?kK ?kd ?ku ?_) | (refine' use_RStr stc_str ?k1 ?k2 ?k3 ?k4 ?k5 ?kK ?kd ?ku ?_) | (refine' use_RStr stc_bytes ?k1 ?k2 ?k3 ?k4 ?k5 ?kK ?kd ?ku ?_) | (refine' use_RStr (stc_ok (by assumption)) ?k1 ?k2 ?k3 ?k4 ?k5 ?kK ?kd ?ku ?_))) | ((with_reducible show wpAny _ _ (call (Value.ref 101) _) _ _ _); (refine' use_RInt (sign_int) ?k1 ?k2 ?k3 ?k4 ?k5 ?kK ?kd ?ku ?_))); ((try (case k4 => walk_at "t_news")); ((case k1 => k_asm); (case k2 => k_asm); (case k3 => k_asm); (case k5 => k_asm); (case kK => first | exact rfl | assumption); (case kd => first | exact room9 (by with_reducible assumption) (by decide) | ktr_room); (case ku => first | exact unit9 (by with_reducible assumption) (by decide) | ktr_units)); (all_goals first | (fail_if_success (fail_if_success (intro (h9 : Heap)))) | (fail_if_success (refine of_prop ?_)) | with_reducible assumption | walk_at "t_prem" | assumption); k_whole))); (intros; (try k_fold))) | fail "none"); k_steps)))
  all_goals exact hret _ _ _ _ (RInt.of rfl) (by k_asm) (by k_asm)
set_option maxHeartbeats 8000000 in
theorem cv_str {vs : List Value} {x y : Str} {tx ty : Tok} {c : Str} {u : Tok} (hx : x.cps.size ≤ 64) (hcx : ∀ d ∈ x.cps.toList, d < 1114112) (hy : y.cps.size ≤ 64) (hcy : ∀ d ∈ y.cps.toList, d < 1114112) (hc : c = Str.ofString "binary" ∨ c = Str.ofString "nocase" ∨ c = Str.ofString "rtrim") (hbd : Bd w.params 109 NS109 vs [.str x tx, .str y ty, .str c u]) :
    Does w loose mean mg mb 109 4 vs news (RInt (cmpV c (.str x tx) (.str y ty)) news) := by
  w_top off
  refine' entry (bs := [.str x tx, .str y ty, .str c u]) [Str.ofString "a", Str.ofString "b", Str.ofString "collation"] ?k6 ?k7 ?k9 ?kB ?c5 ?c2 ?c3 ?c4 ?hn ?kx
  ((case' kx => k_fill); (case k6 => k_is); (case k7 => k_is); (case kB => exact locs rfl); (case c5 => decide); (case c2 => exact rfl); (case c3 => exact rfl); (case c4 => exact rfl); (case hn => decide))
  (case k9 => exact hbd)
  intro c9 A9 base9 g9 h9 L9 ge9 dr9 tk9 os9 Q9 hdp hun F N B X T hret
  (k_steps; repeat (any_goals ((with_reducible refine unstop ?_); (first | ((k_dflt ((first | ((with_reducible show wpAny _ _ (call (Value.ref 101) _) _ _ _); (first | (refine' use_RInt sign_str ?k1 ?k2 ?k3 ?k4 ?k5 ?kK ?kd ?ku ?_) | (refine' use_RInt sign_bytes ?k1 ?k2 ?k3 ?k4 ?k5 ?kK ?kd ?ku ?_) | (refine' use_RInt sign_int ?k1 ?k2 ?k3 ?k4 ?k5 ?kK ?kd ?ku ?_))) | ((with_reducible show wpAny _ _ (call (Value.ref 94) _) _ _ _); (refine' use_RStr (collate_ok ?_ ?_ ?_) ?k1 ?k2 ?k3 ?k4 ?k5 ?kK ?kd ?ku ?_)) | ((with_reducible show wpAny _ _ (call (Value.ref 80) _) _ _ _); (first | (refine' use_RStr stc_none ?k1 ?k2 ?k3 ?k4 ?k5 ?kK ?kd ?ku ?_) | (refine' use_RStr stc_int ?k1 ?k2 ?k3 ?k4 ?k5 ?kK ?kd ?ku ?_) | (refine' use_RStr stc_str ?k1 ?k2 ?k3 ?k4 ?k5 ?kK ?kd ?ku ?_) | (refine' use_RStr stc_bytes ?k1 ?k2 ?k3 ?k4 ?k5 ?kK ?kd ?ku ?_) | (refine' use_RStr (stc_ok (by assumption)) ?k1 ?k2 ?k3 ?k4 ?k5 ?kK ?kd ?ku ?_))) | ((with_reducible show wpAny _ _ (call (Value.ref 101) _) _ _ _); (refine' use_RInt (sign_int) ?k1 ?k2 ?k3 ?k4 ?k5 ?kK ?kd ?ku ?_))); ((try (case k4 => walk_at "t_news")); ((case k1 => k_asm); (case k2 => k_asm); (case k3 => k_asm); (case k5 => k_asm); (case kK => first | exact rfl | assumption); (case kd => first | exact room9 (by with_reducible assumption) (by decide) | ktr_room); (case ku => first | exact unit9 (by with_reducible assumption) (by decide) | ktr_units)); (all_goals first | (fail_if_success (fail_if_success (intro (h9 : Heap)))) | (fail_if_success (refine of_prop ?_)) | with_reducible assumption | walk_at "t_prem" | assumption); k_whole))); (intros; (try k_fold))) | fail "none"); k_steps)))
  all_goals exact hret _ _ _ _ (RInt.of rfl) (by k_asm) (by k_asm)
theorem ne_cls {prog : Program} {A : Around} {E : Value → Shared → Prop} {s : Shared} {x y : Str} {t u : Tok} {Q : Value → Shared → Prop} (h : x ≠ y) (hq : Q (.bool true) s) : wpAny (model prog w) A (compareOp .NotEq (.str x t) (.str y u)) Q E s := by
  refine ne_str ?_
  rw [bne_iff_ne.mpr h]
  exact hq
set_option maxHeartbeats 8000000 in
theorem rank_item {A : Around} {E : Value → Shared → Prop} {s : Shared} {g : Heap} {L : Addr} {m : Str → Option Value} {v : Value} {t : Tok} {p p' : Pos} {x y : Str} {Q : Value → Shared → Prop} (F : Fr g L s.heap m) (X : (hd.heap_39 w.params).In g) (hv : Good k v) (h : ∀ t' k', Q (.int (rank v) t') { s with toks := k' }) :
    wpAny (model PySem.Challenge.rw_nt0098_01.row.prog w) A (subscriptTail (.Name x p) (.Name y p') (.ref 59) (.str (stcls v) t)) Q E s := by
  w_top off
  k_fill
  cases hv <;> (dsimp only [stcls]; (k_steps; repeat (any_goals ((with_reducible refine unstop ?_); (first | ((k_dflt ((first | ((with_reducible show wpAny _ _ (call (Value.ref 101) _) _ _ _); (first | (refine' use_RInt sign_str ?k1 ?k2 ?k3 ?k4 ?k5 ?kK ?kd ?ku ?_) | (refine' use_RInt sign_bytes ?k1 ?k2 ?k3 ?k4 ?k5 ?kK ?kd ?ku ?_) | (refine' use_RInt sign_int ?k1 ?k2 ?k3 ?k4 ?k5 ?kK ?kd ?ku ?_))) | ((with_reducible show wpAny _ _ (call (Value.ref 94) _) _ _ _); (refine' use_RStr (collate_ok ?_ ?_ ?_) ?k1 ?k2 ?k3 ?k4 ?k5 ?kK ?kd ?ku ?_)) | ((with_reducible show wpAny _ _ (call (Value.ref 80) _) _ _ _); (first | (refine' use_RStr stc_none ?k1 ?k2 ?k3 ?k4 ?k5 ?kK ?kd ?ku ?_) | (refine' use_RStr stc_int ?k1 ?k2 ?k3 ?k4 ?k5 ?kK ?kd ?ku ?_) | (refine' use_RStr stc_str ?k1 ?k2 ?k3 ?k4 ?k5 ?kK ?kd ?ku ?_) | (refine' use_RStr stc_bytes ?k1 ?k2 ?k3 ?k4 ?k5 ?kK ?kd ?ku ?_) | (refine' use_RStr (stc_ok (by assumption)) ?k1 ?k2 ?k3 ?k4 ?k5 ?kK ?kd ?ku ?_))) | ((with_reducible show wpAny _ _ (call (Value.ref 101) _) _ _ _); (refine' use_RInt (sign_int) ?k1 ?k2 ?k3 ?k4 ?k5 ?kK ?kd ?ku ?_))); ((try (case k4 => walk_at "t_news")); ((case k1 => k_asm); (case k2 => k_asm); (case k3 => k_asm); (case k5 => k_asm); (case kK => first | exact rfl | assumption); (case kd => first | exact room9 (by with_reducible assumption) (by decide) | ktr_room); (case ku => first | exact unit9 (by with_reducible assumption) (by decide) | ktr_units)); (all_goals first | (fail_if_success (fail_if_success (intro (h9 : Heap)))) | (fail_if_success (refine of_prop ?_)) | with_reducible assumption | walk_at "t_prem" | assumption); k_whole))); (intros; (try k_fold))) | fail "none"); k_steps))); exact h _ _)
local macro_rules | `(tactic| walk_at "compareOp NotEq str str") => `(tactic| (refine ne_cls (by with_reducible assumption) ?_))
local macro_rules | `(tactic| walk_at "subscriptTail") => `(tactic| (k_here; (with_reducible show wpAny _ _ (subscriptTail _ _ (Value.ref _) (Value.str (stcls _) _)) _ _ _); k_dflt (refine' rank_item ?k1 ?k3 ?ha ?_; (case k1 => k_asm); (case k3 => k_asm); (case ha => assumption)); intro t' k'))
set_option maxHeartbeats 8000000 in
theorem cv_diff {vs : List Value} {a b : Value} {c : Str} {u : Tok} (ha : Good k a) (hb : Good k b) (hne : rank a ≠ rank b) (hbd : Bd w.params 109 NS109 vs [a, b, .str c u]) :
    Does w loose mean mg mb 109 4 vs news (RInt (cmpV c a b) news) := by
  have hst : stcls a ≠ stcls b := by cases ha <;> cases hb <;> first | exact absurd rfl hne | (dsimp only [stcls]; decide)
  w_top off
  refine' entry (bs := [a, b, .str c u]) [Str.ofString "a", Str.ofString "b", Str.ofString "collation"] ?k6 ?k7 ?k9 ?kB ?c5 ?c2 ?c3 ?c4 ?hn ?kx
  ((case' kx => k_fill); (case k6 => k_is); (case k7 => k_is); (case kB => exact locs rfl); (case c5 => decide); (case c2 => exact rfl); (case c3 => exact rfl); (case c4 => exact rfl); (case hn => decide))
  (case k9 => exact hbd)
  intro c9 A9 base9 g9 h9 L9 ge9 dr9 tk9 os9 Q9 hdp hun F N B X T hret
  (k_steps; repeat (any_goals ((with_reducible refine unstop ?_); (first | ((k_dflt ((first | ((with_reducible show wpAny _ _ (call (Value.ref 101) _) _ _ _); (first | (refine' use_RInt sign_str ?k1 ?k2 ?k3 ?k4 ?k5 ?kK ?kd ?ku ?_) | (refine' use_RInt sign_bytes ?k1 ?k2 ?k3 ?k4 ?k5 ?kK ?kd ?ku ?_) | (refine' use_RInt sign_int ?k1 ?k2 ?k3 ?k4 ?k5 ?kK ?kd ?ku ?_))) | ((with_reducible show wpAny _ _ (call (Value.ref 94) _) _ _ _); (refine' use_RStr (collate_ok ?_ ?_ ?_) ?k1 ?k2 ?k3 ?k4 ?k5 ?kK ?kd ?ku ?_)) | ((with_reducible show wpAny _ _ (call (Value.ref 80) _) _ _ _); (first | (refine' use_RStr stc_none ?k1 ?k2 ?k3 ?k4 ?k5 ?kK ?kd ?ku ?_) | (refine' use_RStr stc_int ?k1 ?k2 ?k3 ?k4 ?k5 ?kK ?kd ?ku ?_) | (refine' use_RStr stc_str ?k1 ?k2 ?k3 ?k4 ?k5 ?kK ?kd ?ku ?_) | (refine' use_RStr stc_bytes ?k1 ?k2 ?k3 ?k4 ?k5 ?kK ?kd ?ku ?_) | (refine' use_RStr (stc_ok (by assumption)) ?k1 ?k2 ?k3 ?k4 ?k5 ?kK ?kd ?ku ?_))) | ((with_reducible show wpAny _ _ (call (Value.ref 101) _) _ _ _); (refine' use_RInt (sign_int) ?k1 ?k2 ?k3 ?k4 ?k5 ?kK ?kd ?ku ?_))); ((try (case k4 => walk_at "t_news")); ((case k1 => k_asm); (case k2 => k_asm); (case k3 => k_asm); (case k5 => k_asm); (case kK => first | exact rfl | assumption); (case kd => first | exact room9 (by with_reducible assumption) (by decide) | ktr_room); (case ku => first | exact unit9 (by with_reducible assumption) (by decide) | ktr_units)); (all_goals first | (fail_if_success (fail_if_success (intro (h9 : Heap)))) | (fail_if_success (refine of_prop ?_)) | with_reducible assumption | walk_at "t_prem" | assumption); k_whole))); (intros; (try k_fold))) | fail "none"); k_steps)))
  all_goals exact hret _ _ _ _ (RInt.of (cmpV_ne hne).symm) (by k_asm) (by k_asm)
theorem cv_all {vs : List Value} {a b : Value} {c : Str} {u : Tok} (hk : k ≤ 64) (ha : Good k a) (hb : Good k b) (hc : c = Str.ofString "binary" ∨ c = Str.ofString "nocase" ∨ c = Str.ofString "rtrim") (hbd : Bd w.params 109 NS109 vs [a, b, .str c u]) :
    Does w loose mean mg mb 109 4 vs news (RInt (cmpV c a b) news) := by
  by_cases h : rank a = rank b
  · cases ha with
    | none => cases hb with
      | none => exact cv_none hbd
      | _ => (dsimp only [rank] at h; exact absurd h (by decide))
    | int => cases hb with
      | int => exact cv_int hbd
      | _ => (dsimp only [rank] at h; exact absurd h (by decide))
    | str h1 h2 => cases hb with
      | str h3 h4 => exact cv_str (Nat.le_trans h1 hk) h2 (Nat.le_trans h3 hk) h4 hc hbd
      | _ => (dsimp only [rank] at h; exact absurd h (by decide))
    | bytes => cases hb with
      | bytes => exact cv_bytes hbd
      | _ => (dsimp only [rank] at h; exact absurd h (by decide))
  · exact cv_diff ha hb h hbd
theorem bd_full {a b c : Value} : Bd w.params 109 NS109 [a, b, c] [a, b, c] := by
  intro s9 X9
  exact binds_K X9 rfl (by k_is) rfl rfl rfl
theorem cv_ok2 {a b : Value} {c : Str} {u : Tok} (ha : Good k a) (hb : Good k b) (hc : CollName c) (hk : k ≤ 64) : Does w loose mean mg mb 109 4 [a, b, .str c u] news (RInt (cmpV c a b) news) := cv_all hk ha hb hc bd_full
theorem bd_dflt {a b : Value} : Bd w.params 109 NS109 [a, b] [a, b, .str (Str.ofString "binary") 330] := by
  intro s9 X9
  exact binds_K X9 rfl (by k_is) rfl rfl rfl
theorem dv_ok2 {a b : Value} (ha : Good k a) (hb : Good k b) (hk : k ≤ 64) : Does w loose mean mg mb 109 4 [a, b] news (RInt (cmpV (Str.ofString "binary") a b) news) := cv_all (u := 330) hk ha hb (Or.inl rfl) bd_dflt
end
local macro_rules | `(tactic| walk_at "binaryOp BitAnd int int") => `(tactic| (k_here; first | (with_reducible refine and255 ?_) | (with_reducible refine and63 ?_)))
local macro_rules | `(tactic| walk_at "binaryOp BitOr int int") => `(tactic| (k_here; first | (with_reducible refine or128 (by omega) (by omega) ?_) | (with_reducible refine or192 (by omega) (by omega) ?_) | (with_reducible refine or224 (by omega) (by omega) ?_) | (with_reducible refine or240 (by omega) (by omega) ?_)))
local macro_rules | `(tactic| walk_at "binaryOp RShift int int") => `(tactic| (k_here; first | (with_reducible refine shr6 ?_) | (with_reducible refine shr12 ?_) | (with_reducible refine shr18 ?_)))
local macro_rules | `(tactic| walk_at "inplaceOp RShift int int") => `(tactic| (k_here; (with_reducible refine ishr8 ?_)))
local macro_rules | `(tactic| walk_at "r") => `(tactic| first | (refine' bytes_L ?_ ?_ rfl ?_ ?_ ?_ ?_ ?_; k_dflt walk_at "t_do") | (refine' reverse_L ?_ ?_ ?_ ?_ ?_ ?_; k_dflt walk_at "t_do"))
local macro_rules | `(tactic| walk_at "call type:bytes") => `(tactic| (walk_at "r"; intro h' t' k' F' N'; (try dsimp only)))
local macro_rules | `(tactic| walk_at "call builtin:list.reverse") => `(tactic| (walk_at "r"; intro h' F' N'; (try dsimp only)))
local macro_rules | `(tactic| walk_at "storeName") => `(tactic| (k_here; (with_reducible show wpAny _ _ (storeName (envOfC _ _ _ _ _) _ _) _ _ _); k_dflt (refine' storeX_C ?F ?N ?c (UpdF.head ?o) ?d ?_ ?a ?b; (case a => rfl); (case b => rfl); (case F => k_asm); (case c => rfl); (case N => exact news_pull (by k_asm) (by walk_at "t_pull")); (case o => walk_at "t_off"); (case d => k_asm); k_whole); intro h' o' F' N' d'; (try dsimp only at N')))
local macro_rules | `(tactic| walk_at "CompEnd") => `(tactic| (k_dflt (refine LCg.CompEnd.intro (by k_asm) (by k_asm) _ (fun p hp => hp) (by first | assumption | (simp only [LCg.Off3, and_true]; assumption)) (by lcg_src) ?_)))
local macro_rules | `(tactic| walk_at "subscriptTail Name Slice ref ref") => `(tactic| (k_here; (with_reducible show wpAny _ _ (subscriptTail _ (Expr.Slice _ _ none _) (Value.ref _) (Value.ref _)) _ _ _); k_dflt (refine' slice_L (by k_asm) (by k_asm) ?m ?p ?q ?e ?_ ?s ?t ?z; (case m => walk_at "t_mem"); (case p => kmk_part); (case q => kmk_part); (case e => first | exact pick_init (by first | rfl | decide | omega) | exact pick_take (by omega) | exact pick_drop (by omega)); (case s => with_unfolding_all rfl); (case t => kmk_pure); (case z => omega)); intro D' h' F' N' l1; (try k_lt l1); (try dsimp only)))
section
noncomputable abbrev DoesB (w : World) (loose : List Str) (mean : ExcName → Option Value) (mg mb : Str → Option Value) (f : Addr) (n : Nat) (l : Addr) (us : List Value) (vs : List Value) (news : Led) (R : Value → Led → Prop) : Prop :=
  ∀ (dp un : Nat) (gd : Option (List Code)) (cn : Str) (cs : Scope) (a : Addr) (ccd : Value) (cl : List (Str × Addr)) (outer : List Env) (A₀ : Around) (base h₀ : Heap) (L : Addr) (m : Str → Option Value) (s : Shared) (Q E : Value → Shared → Prop),
    h₀.IsList l us.toArray → Below A₀ base outer h₀ → Fr h₀ L s.heap m → (hd.heap_39 w.params).In h₀ → News h₀ L s.heap news → Top hd.view_39 loose mean mg mb h₀ → cs.kind = .function → dp + n < recursionLimit → un + 8 * n < cLine →
    (∀ r news' h' tk', R r news' → Fr h₀ L h' m → News h₀ L h' news' → Q r { s with heap := h', toks := tk' }) →
    wpAny (model PROG w) (ktrTop dp un gd cn cs L a ccd cl outer) (call (.ref f) vs) Q E s
/-- a source made -/
inductive RSrc (news : Led) : Value → Led → Prop
  | mk (n : Nat) (a b : Int) (ta tb : Tok) (l : Addr) (b0 : 0 ≤ b) (b1 : b < 2147483647) (hl : Off l news) : RSrc news (.ref l) ((l, W.listOf #[.int a ta, .int b tb] n) :: news)
theorem list_up {h₀ h : Heap} {l : Addr} {xs : Array Value} (hL : h₀.IsList l xs) (k : ∀ b o, h₀.get? b = some o → h.get? b = some o) : h.IsList l xs := let ⟨o, ho, r⟩ := hL; ⟨o, k _ _ ho, r⟩
theorem len_base {prog : Program} {A : Around} {E : Value → Shared → Prop} {s : Shared} {h₀ : Heap} {L l : Addr} {m : Str → Option Value} {vs : List Value} {Q : Value → Shared → Prop} (F : Fr h₀ L s.heap m) (hL : h₀.IsList l vs.toArray) (hz : vs.length ≤ 1000)
    (h : Q (.int vs.length (s.toks + 1)) { s with toks := s.toks + 1 + 1 }) : wpAny (model prog w) A (call (.builtin "len") [.ref l]) Q E s :=
  len_list (list_up hL F.keep) (by rw [List.size_toArray]; omega) (by rw [List.size_toArray]; exact h)
theorem item_base {prog : Program} {A : Around} {E : Value → Shared → Prop} {s : Shared} {h₀ : Heap} {L l : Addr} {m : Str → Option Value} {vs : List Value} {ns : List Int} {value slice : Expr} {j : Int} {u : Tok} {Q : Value → Shared → Prop} (F : Fr h₀ L s.heap m) (hL : h₀.IsList l vs.toArray) (hi : IntsAre vs ns) (hz : vs.length ≤ 1000) (h0 : 0 ≤ j) (h1 : j < vs.length)
    (h : ∀ z t, Q (.int z t) s)
    (hs : subscripted slice false (.ref l) (.int j u) = operate [.ref l, .int j u] (getItem (.ref l) (.int j u)) := by with_unfolding_all rfl) (hg : ∀ r, letTemporaryGo value (.ref l) r = pure () := by intro _; with_unfolding_all rfl) :
    wpAny (model prog w) A (subscriptTail value slice (.ref l) (.int j u)) Q E s := by
  have hk : j.toNat < vs.length := by omega
  refine item_list (x := vs[j.toNat]) (list_up hL F.keep) h0 (by first | decide | omega) (by simp [hk]) ?_ hs hg
  obtain ⟨z, t, e, _⟩ := IntsAre.at hi j.toNat vs[j.toNat] (List.getElem?_eq_getElem hk)
  rw [e]
  exact h z t
local macro_rules | `(tactic| walk_at "r") => `(tactic| first | (refine' len_base ?_ ?_ ?_ ?_; k_dflt walk_at "t_do") | (refine' item_base ?_ ?_ ?_ ?_ ?_ ?_ ?_; k_dflt walk_at "t_do"))
local macro_rules | `(tactic| walk_at "call builtin:len") => `(tactic| (walk_at "r"))
local macro_rules | `(tactic| walk_at "subscriptTail") => `(tactic| (walk_at "r"; intro v' t'))
theorem entryB {l : Addr} {us : List Value} {w : World} {loose : List Str} {mean : ExcName → Option Value} {mg mb : Str → Option Value} {f : Addr} {n : Nat} {vs bs : List Value} {news : Led} {R : Value → Led → Prop} {name qual : Str} {params : Arguments} {body : List Stmt} {scope : Scope} {dV kV doc pm cdv ct oc : Value} {an od : Option Addr} {osl : Array (Option Value)} (ns : List Str)
    (ho : (hd.heap_39 w.params).lookup f = some ⟨oc, od, .func (fnOf name qual params body scope dV kV doc pm an cdv ct), osl⟩) (hcd : codeIn (hd.heap_39 w.params) cdv qual = true)
    (hbind : ∀ s : Shared, (hd.heap_39 w.params).In s.heap → BindsTo s (fnOf name qual params body scope dV kV doc pm an cdv ct) ⟨vs, []⟩ (ns.zip bs))
    (hloc : ∀ y ∈ ns.zip bs, scope.names.lookup y.1 = some .local) (hcell : ∀ x ∈ scope.names, x.2 ≠ .cell) (hco : scope.isCoroutine = false) (hgen : scope.isGenerator = false) (hk : scope.kind = .function) (hn : 0 < n)
    (hbody : ∀ (c : BC) (A₀ : Around) (base g h : Heap) (L : Addr) (ge : Array GenState) (dr : Drawn) (tk : Nat) (os : OsState) (Qr : Flow → Shared → Prop), g.IsList l us.toArray → c.dp + n ≤ recursionLimit → c.un + 8 * n < cLine + 3 → Fr g L h (mapOf ns bs) → News g L h news → Below A₀ base c.outer g → (hd.heap_39 w.params).In g → Top hd.view_39 loose mean mg mb g →
      (∀ r news' h' tk' {m' : Str → Option Value}, R r news' → Fr g L h' m' → News g L h' news' → Qr (.ret r) ⟨h', ge, dr, tk', os⟩) →
      wpAny (model PySem.Challenge.rw_nt0098_01.row.prog w) (bodyA c (envOf qual scope L f cdv)) (execs body (envOf qual scope L f cdv)) Qr NoX ⟨h, ge, dr, tk, os⟩) : DoesB w loose mean mg mb f n l us vs news R := by
  intro dp un gd cn cs a ccd cl outer A₀ base h₀ L m s Q E hB B F X N T hkk hdp hun hret
  refine wpAny_call ?_
  refine code_def B F X N T rfl rfl hkk ho hcd (show dp < recursionLimit by omega) (hbind s (X.keeps F.keep)) hloc (fun g L' h₁ FG F' N' B' X' T' => ?_) hco hgen hk hcell
  refine wpAny_mono (hbody ⟨dp + 1, un + 3, gd, envX cn cs L a ccd cl :: outer⟩ _ base g h₁ L' s.gens s.drawn _ s.os (Post R g L' s.gens s.drawn s.os) (list_up hB FG.keep) (show dp + 1 + n ≤ recursionLimit by omega) (show un + 3 + 8 * n < cLine + 3 by omega) F' N' B' X' T' fun r news' h' tk' m' hR hF hN => ⟨r, news', h', tk', m', rfl, rfl, hR, hF, hN⟩) ?_ (fun _ _ e => e.elim)
  rintro fl s' ⟨r, news', h', tk', m', rfl, rfl, hR, hF, hN⟩
  exact ⟨L', m', news', hF, hN, fun hF' hN' => hret r news' h' tk' hR hF' hN'⟩
set_option maxHeartbeats 8000000 in
theorem pool_base {l : Addr} {vs : List Value} {ns : List Int} {j : Int} {tj : Tok} (hi : IntsAre vs ns) (hl : ns.length ≤ 100) (h0 : 0 ≤ j) (h1 : j ≤ 1) :
    DoesB w loose mean mg mb 194 2 l vs [.ref l, .int j tj] news (RSrc news) := by
  have hv : vs.length ≤ 100 := by have := hi.length; omega
  w_top off
  refine' entryB (bs := [.ref l, .int j tj]) [Str.ofString "script", Str.ofString "k"] ?k6 ?k7 ?k9 ?kB ?c5 ?c2 ?c3 ?c4 ?hn ?kx
  ((case' kx => k_fill); (case k6 => k_is); (case k7 => k_is); (case kB => exact locs rfl); (case c5 => decide); (case c2 => exact rfl); (case c3 => exact rfl); (case c4 => exact rfl); (case hn => decide))
  (case k9 => ((intro s9 X9); first | exact BindsTo.of_eq rfl | exact binds_K X9 rfl (by k_is) rfl rfl rfl))
  intro c9 A9 base9 g9 h9 L9 ge9 dr9 tk9 os9 Q9 hB2 hdp hun F N B X T hret
  k_steps
  all_goals (refine hret _ _ _ _ (RSrc.mk _ _ _ _ _ _ ?_ ?_ ?_) (by k_asm) (by k_asm))
  all_goals first | exact Int.fmod_nonneg_of_pos _ (by decide) | exact Int.fmod_lt_of_pos _ (by decide) | walk_at "t_off"
end
local macro_rules | `(tactic| walk_at "pad3") => `(tactic| skip)
section
set_option maxHeartbeats 8000000 in
theorem number_ok {src : Addr} {x y : Int} {tx ty : Tok} {ep : Nat} (hy : 0 ≤ y) (hy2 : y < 2147483647) (hd : Off src news) :
    Does w loose mean mg mb 241 3 [.ref src] ((src, W.listOf #[.int x tx, .int y ty] ep) :: news) (RVal k src news) := by
  w_top off
  refine' entry (bs := [.ref src]) [Str.ofString "source"] ?k6 ?k7 ?k9 ?kB ?c5 ?c2 ?c3 ?c4 ?hn ?kx
  ((case' kx => k_fill); (case k6 => k_is); (case k7 => k_is); (case kB => exact locs rfl); (case c5 => decide); (case c2 => exact rfl); (case c3 => exact rfl); (case c4 => exact rfl); (case hn => decide))
  (case k9 => ((intro s9 X9); first | exact BindsTo.of_eq rfl | exact binds_K X9 rfl (by k_is) rfl rfl rfl))
  intro c9 A9 base9 g9 h9 L9 ge9 dr9 tk9 os9 Q9 hdp hun F N B X T hret
  (k_steps; repeat (any_goals ((with_reducible refine unstop ?_); (first | ((k_dflt ((first | ((with_reducible show wpAny _ _ (call (Value.ref 208) _) _ _ _); (first | (refine' use_ROneI (one_int (lo := 0) (hi := 255) ?qm ?ql ?_ ?_ ?_ ?_ ?_) ?k1 ?k2 ?k3 ?k4 ?k5 ?kK ?kd ?ku ?_; (case k4 => walk_at "t_news"); (case qm => walk_at "t_mem"); (case ql => walk_at "t_intin")) | (refine' use_ROneS (one_str (P := CollName) ?qm ?ql ?_ ?_ ?_ ?_ ?_) ?k1 ?k2 ?k3 ?k4 ?k5 ?kK ?kd ?ku ?_; (case k4 => walk_at "t_news"); (case qm => walk_at "t_mem"); (case ql => walk_at "t_colls")) | (refine' use_RVal (one_good (by assumption) ?qm ?ql ?_ ?_ ?_ ?_ ?_) ?k1 ?k2 ?k3 ?k4 ?k5 ?kK ?kd ?ku ?_; (case k4 => walk_at "t_news"); (case qm => walk_at "t_mem"); (case ql => walk_at "t_goods")) | (refine' use_ROne (one_ok ?_ ?_ ?_ ?_ ?_ ?_) ?k1 ?k2 ?k3 ?k4 ?k5 ?kK ?kd ?ku ?_))) | ((with_reducible show wpAny _ _ (call (Value.ref 201) _) _ _ _); (refine' use_RTake (take_ok ?_ ?_ ?_ ?_ ?_) ?k1 ?k2 ?k3 ?k4 ?k5 ?kK ?kd ?ku ?_))); ((try (case k4 => walk_at "t_news")); ((case k1 => k_asm); (case k2 => k_asm); (case k3 => k_asm); (case k5 => k_asm); (case kK => first | exact rfl | assumption); (case kd => first | exact room9 (by with_reducible assumption) (by decide) | ktr_room); (case ku => first | exact unit9 (by with_reducible assumption) (by decide) | ktr_units)); (all_goals first | (fail_if_success (fail_if_success (intro (h9 : Heap)))) | (fail_if_success (refine of_prop ?_)) | with_reducible assumption | walk_at "t_prem" | assumption); k_whole))); (intros; (try k_fold))) | fail "none"); k_steps)))
  all_goals (refine hret _ _ _ _ (RVal.mk _ (Good.int ?_ ?_) _ _ _ _ _ ?_ ?_) (by k_asm) (by walk_at "t_led"))
  all_goals first | assumption | (have e9 : (2 : Int) ^ Int.toNat 63 = 9223372036854775808 := by decide
                                  rw [e9]
                                  split <;> (try split) <;> omega)
end
local macro_rules | `(tactic| walk_at "pad4") => `(tactic| skip)
section
set_option maxHeartbeats 8000000 in
theorem fixed_ok {x : Int} {t u : Tok} (h0 : 0 ≤ x) (h1 : x < 18446744073709551616) : Does w loose mean mg mb 116 2 [.int x t, .int 8 u] news (RBytes (put8 x) news) := by
  have e0 : x.fmod (256 ^ Int.toNat 8) = x := by
    rw [show (256 : Int) ^ Int.toNat 8 = 18446744073709551616 from by decide, Int.fmod_eq_emod_of_nonneg x (by decide)]
    omega
  w_top off
  refine' entry (bs := [.int x t, .int 8 u]) [Str.ofString "n", Str.ofString "size"] ?k6 ?k7 ?k9 ?kB ?c5 ?c2 ?c3 ?c4 ?hn ?kx
  ((case' kx => k_fill); (case k6 => k_is); (case k7 => k_is); (case kB => exact locs rfl); (case c5 => decide); (case c2 => exact rfl); (case c3 => exact rfl); (case c4 => exact rfl); (case hn => decide))
  (case k9 => ((intro s9 X9); first | exact BindsTo.of_eq rfl | exact binds_K X9 rfl (by k_is) rfl rfl rfl))
  intro c9 A9 base9 g9 h9 L9 ge9 dr9 tk9 os9 Q9 hdp hun F N B X T hret
  k_steps
  unfold Stop
  (rename Fr _ _ _ _ => F1)
  (rename News _ _ _ _ => N1)
  refine for_range (n := 8) (σ := List Value × Nat × Int) (fun c => [(_, W.listOf c.1.toArray c.2.1)]) [Str.ofString "rest", Str.ofString "turn"] (fun i c m => (∃ t, m (Str.ofString "rest") = some (.int c.2.2 t)) ∧ c.2.2 = x / 256 ^ i ∧ IntsAre c.1 (lows x i)) ([], 0, _) rfl (by assumption) (by first | rfl | decide) (by first | rfl | decide) F1 N1 (fun _ => rfl) ⟨⟨_, rfl⟩, e0.trans (by rw [Int.pow_zero]; omega), .nil⟩ ?_ ?_
  · rintro i u ⟨vs, n, r⟩ m₁ h tk rest hi ⟨⟨tr, hI1⟩, hI2, hI3⟩ hu hsub hoff F2 N2
    dsimp only at hI1 hI2 hI3 hoff
    rw [st_turn hI1] at F2
    have ho := hoff _ (List.mem_singleton.mpr rfl) (by walk_at "t_off")
    dsimp only [List.cons_append, List.nil_append] at N2
    have hv : vs.length ≤ 64 := by rw [hI3.length, lows_len]; omega
    clear hI1
    k_steps
    all_goals (refine ⟨_, _, _, _, rfl, by k_asm, by k_asm, (_, _, r / 256), rfl, ⟨⟨_, rfl⟩, ?_, ?_⟩, ?_⟩)
    · dsimp only; rw [hI2, ediv_pow]
    · dsimp only; rw [lows_succ, ← hI2]; exact ints_snoc hI3 _ _
    · intro y hy
      simp at hy
      simp [hy]
  · rintro ⟨vs, n, r⟩ m₁ h tk ⟨⟨tr, hI1⟩, hI2, hI3⟩ hu F2 N2
    dsimp only at hI1 hI2 hI3
    rw [st_done hI1] at F2
    dsimp only [List.cons_append, List.nil_append] at N2
    have hi := ints_rev hI3
    have hin := in_rev (lows_in x 8)
    have hv : vs.length ≤ 64 := by rw [hI3.length, lows_len]; omega
    have hl : (lows x 8).reverse.length = 8 := by simp [lows_len]
    k_steps
    all_goals (refine hret _ _ _ _ (RBytes.mk _) (by k_asm) (by walk_at "t_led"))
end
section
local macro_rules | `(tactic| walk_at "exec Assign cons ListComp") => `(tactic| (k_here; with_unfolding_all refine Assign_signs (F₀ := by k_asm) (by rfl) (by with_unfolding_all rfl) (by rfl) (by decide) (by rfl) (by decide) (by rfl) (by rfl) (by rfl) ?_))
local macro_rules | `(tactic| walk_at "CompSrc") => `(tactic| refine Mine.stop ?_)
local macro_rules | `(tactic| walk_at "subscriptTail") => `(tactic| (k_dflt (refine' item_last (by k_asm) ?k2 ?k3 ?k4 ?k5 ?_ ?k6; (case k2 => walk_at "t_mem"); (case k3 => first | rfl | decide | omega); (case k4 => assumption); (case k5 => first | assumption | (simpa using (by assumption))); (case k6 => with_unfolding_all rfl); k_whole); intro v' t' hv'))
local macro_rules | `(tactic| walk_at "compareOp NotEq ref ref") => `(tactic| (k_here; (with_reducible show wpAny _ _ (compareOp CmpOp.NotEq (Value.ref _) (Value.ref _)) _ _ _); k_dflt (refine' ne_nil_L (by k_asm) ?a ?b ?i ?u ?_; (case b => exact List.Mem.head _); (case a => walk_at "t_mem"); (case i => assumption); (case u => ktr_units); k_whole)))
set_option maxHeartbeats 8000000 in
theorem folded_bin {x : Str} {t u : Tok} (hx : x.cps.size ≤ 64) : Does w loose mean mg mb 220 16 [.str x t, .str (Str.ofString "binary") u] news (RInts (codes x) news) := by
  w_top off
  refine' entry (bs := [.str x t, .str (Str.ofString "binary") u]) [Str.ofString "text", Str.ofString "collation"] ?k6 ?k7 ?k9 ?kB ?c5 ?c2 ?c3 ?c4 ?hn ?kx
  ((case' kx => k_fill); (case k6 => k_is); (case k7 => k_is); (case kB => exact locs rfl); (case c5 => decide); (case c2 => exact rfl); (case c3 => exact rfl); (case c4 => exact rfl); (case hn => decide))
  (case k9 => ((intro s9 X9); first | exact BindsTo.of_eq rfl | exact binds_K X9 rfl (by k_is) rfl rfl rfl))
  intro c9 A9 base9 g9 h9 L9 ge9 dr9 tk9 os9 Q9 hdp hun F N B X T hret
  k_steps
  (rename Fr _ _ _ _ => F1)
  (rename News _ _ _ _ => N1)
  refine ⟨_, _, _, rfl, rfl, F1, N1, by rw [sizeLine_eq]; omega, fun g => ?_⟩
  refine comp_ints (fun i => (((x.cps[i]?).getD 0 : Nat) : Int)) trivial ?_ ?_
  · rintro i ys hi hl v I oI C oC D m₂ h tk E' ⟨c, uc, hc, rfl⟩ hC hx F N off ne
    k_steps
    all_goals exact ⟨_, _, _, by rw [hc]; rfl, rfl, by k_asm, by k_asm⟩
  · intro ys hi
    rw [codes_range] at hi
    unfold LCg.FinA
    intro D h tk F N o1
    k_steps
    all_goals exact hret _ _ _ _ (RInts.mk _ _ _ hi (off_of1 o1)) (by k_asm) (by k_asm)
set_option maxHeartbeats 8000000 in
theorem folded_no {x : Str} {t u : Tok} (hx : x.cps.size ≤ 64) : Does w loose mean mg mb 220 16 [.str x t, .str (Str.ofString "nocase") u] news (RInts (codes (foldS x)) news) := by
  w_top off
  refine' entry (bs := [.str x t, .str (Str.ofString "nocase") u]) [Str.ofString "text", Str.ofString "collation"] ?k6 ?k7 ?k9 ?kB ?c5 ?c2 ?c3 ?c4 ?hn ?kx
  ((case' kx => k_fill); (case k6 => k_is); (case k7 => k_is); (case kB => exact locs rfl); (case c5 => decide); (case c2 => exact rfl); (case c3 => exact rfl); (case c4 => exact rfl); (case hn => decide))
  (case k9 => ((intro s9 X9); first | exact BindsTo.of_eq rfl | exact binds_K X9 rfl (by k_is) rfl rfl rfl))
  intro c9 A9 base9 g9 h9 L9 ge9 dr9 tk9 os9 Q9 hdp hun F N B X T hret
  k_steps
  (rename Fr _ _ _ _ => F1)
  (rename News _ _ _ _ => N1)
  refine ⟨_, _, _, rfl, rfl, F1, N1, by rw [sizeLine_eq]; omega, fun g => ?_⟩
  refine comp_ints (fun i => (((x.cps[i]?).getD 0 : Nat) : Int)) trivial ?_ ?_
  · rintro i ys hi hl v I oI C oC D m₂ h tk E' ⟨c, uc, hc, rfl⟩ hC hx F N off ne
    k_steps
    all_goals exact ⟨_, _, _, by rw [hc]; rfl, rfl, by k_asm, by k_asm⟩
  · intro ys hi
    rw [codes_range] at hi
    unfold LCg.FinA
    intro D h tk F N o1
    have hlen := hi.length
    rw [codes_len] at hlen
    k_steps
    unfold Stop
    (rename Fr _ _ _ _ => F2)
    (rename News _ _ _ _ => N2)
    refine LCg.CompSrc.ledger rfl F2 N2 (List.Mem.head _) (by rw [List.size_toArray, sizeLine_eq]; omega) fun g2 => ?_
    refine comp_ints (fun i => lowI (((codes x)[i]?).getD 0)) (Or.inr ⟨_, List.Mem.head _, rfl, _, rfl⟩) ?_ ?_
    · intro i zs hi2 hl v I oI C oC D2 m₂ h tk E' hv hC hx F N off ne
      rw [List.getElem?_toArray] at hv
      obtain ⟨z, tz, rfl, hz⟩ := IntsAre.at hi _ _ hv
      have e1 : ((codes x)[i]?).getD 0 = z := by rw [hz]; rfl
      rw [e1]
      k_steps
      all_goals exact ⟨_, _, _, by simp only [lowI]; (first | rw [if_pos (by first | decide | omega)] | rw [if_neg (by first | decide | omega)]), rfl, by k_asm, by k_asm⟩
    · intro zs hz
      rw [map_getD lowI (by rw [List.size_toArray, hlen, codes_len]), ← codes_fold] at hz
      unfold LCg.FinE
      intro D2 h tk F N o2
      k_steps
      all_goals exact hret _ _ _ _ (RInts.mk _ _ _ hz (off_of1 o2.2)) (by k_asm) (by walk_at "t_led")
set_option maxHeartbeats 8000000 in
theorem folded_rt {x : Str} {t u : Tok} (hx : x.cps.size ≤ 64) : Does w loose mean mg mb 220 16 [.str x t, .str (Str.ofString "rtrim") u] news (RInts (codes ⟨(rtL x.cps.toList).toArray⟩) news) := by
  w_top off
  refine' entry (bs := [.str x t, .str (Str.ofString "rtrim") u]) [Str.ofString "text", Str.ofString "collation"] ?k6 ?k7 ?k9 ?kB ?c5 ?c2 ?c3 ?c4 ?hn ?kx
  ((case' kx => k_fill); (case k6 => k_is); (case k7 => k_is); (case kB => exact locs rfl); (case c5 => decide); (case c2 => exact rfl); (case c3 => exact rfl); (case c4 => exact rfl); (case hn => decide))
  (case k9 => ((intro s9 X9); first | exact BindsTo.of_eq rfl | exact binds_K X9 rfl (by k_is) rfl rfl rfl))
  intro c9 A9 base9 g9 h9 L9 ge9 dr9 tk9 os9 Q9 hdp hun F N B X T hret
  k_steps
  (rename Fr _ _ _ _ => F1)
  (rename News _ _ _ _ => N1)
  refine ⟨_, _, _, rfl, rfl, F1, N1, by rw [sizeLine_eq]; omega, fun g => ?_⟩
  refine comp_ints (fun i => (((x.cps[i]?).getD 0 : Nat) : Int)) trivial ?_ ?_
  · rintro i ys hi hl v I oI C oC D m₂ h tk E' ⟨c, uc, hc, rfl⟩ hC hx F N off ne
    k_steps
    all_goals exact ⟨_, _, _, by rw [hc]; rfl, rfl, by k_asm, by k_asm⟩
  · intro ys hi
    rw [codes_range] at hi
    unfold LCg.FinA
    intro D h tk F N o1
    have hlen := hi.length
    rw [codes_len] at hlen
    k_steps
    unfold Stop
    (rename Fr _ _ _ _ => F2)
    (rename News _ _ _ _ => N2)
    refine while_M (σ := Addr × List Value × List Int × Nat) (m₀ := _) (news0 := news) (fun c => [(Str.ofString "points", Value.ref c.1)]) (fun c => [(c.1, W.listOf c.2.1.toArray c.2.2.2)]) (fun c => IntsAre c.2.1 c.2.2.1 ∧ c.2.2.1.length ≤ 64 ∧ rtI c.2.2.1 = rtI (codes x) ∧ Off c.1 news) (fun c => c.2.2.1.length) (D, ys, codes x, ys.length) (by passes_own) F2 N2 ⟨hi, by rw [codes_len]; exact hx, rfl, off_of1 o1⟩ ?_
    rintro ⟨P, vs, ns, en⟩ h3 tk3 ⟨hi3, hl3, hr3, ho3⟩ F3 N3
    dsimp only [put, List.cons_append, List.nil_append] at F3 N3 hi3 hl3 hr3 ho3
    have fin : rtI ns = ns → IntsAre vs (codes ⟨(rtL x.cps.toList).toArray⟩) := by
      intro e
      rw [codes_rt, ← hr3, e]
      exact hi3
    k_steps
    · exact hret _ _ _ _ (RInts.mk _ _ _ (fin (rtI_stay (Or.inl (by assumption)))) ho3) (by k_asm) (by walk_at "t_led")
    · rename IntsAre _ (ns.take _) => h5
      rename _ ∧ _ ∧ AllLt _ news => h6
      have hn : ns ≠ [] := by assumption
      have hp : 0 < ns.length := List.length_pos_iff.mpr hn
      refine' ⟨_, _, (?wP, ?wV, ns.dropLast, 0), rfl, ?wF, ?wN, ⟨?wA, ?wB, ?wC, ?wD⟩, ?wE⟩
      case wF =>
        dsimp only
        rw [← put_again (u := Value.ref P)]
        assumption
      case wN => exact news_sub (by k_asm) (by walk_at "t_sub")
      case wA => dsimp only; rw [List.dropLast_eq_take]; exact h5
      case wB => dsimp only; rw [List.length_dropLast]; omega
      case wC =>
        rename ns.getLast? = some _ => h7
        rename (_ : Int) = 32 => h8
        dsimp only; rw [rtI_turn (by rw [h7, h8]), hr3]
      case wD => exact off_of_allLt h6.2.2
      case wE => dsimp only; rw [List.length_dropLast]; omega
    · exact hret _ _ _ _ (RInts.mk _ _ _ (fin (rtI_stay (Or.inr ⟨_, by assumption, by assumption⟩))) ho3) (by k_asm) (by walk_at "t_led")
theorem folded_ok {c x : Str} {t u : Tok} (hx : x.cps.size ≤ 64) (h : CollName c) : Does w loose mean mg mb 220 16 [.str x t, .str c u] news (RInts (codes (collS c x)) news) := by
  rcases h with rfl | rfl | rfl
  · exact folded_bin hx
  · exact folded_no hx
  · exact folded_rt hx
end
section
local macro_rules | `(tactic| walk_at "CompSrc") => `(tactic| (k_dflt (first
  | (refine LCg.CompSrc.ledger (by rfl) (by k_asm) (by k_asm) (by k_mem) (by first | size_fits | exact Nat.le_of_ble_eq_true rfl) ?_; intro g'; lcg_lit)
  | refine Mine.stop ?_)))
local macro_rules | `(tactic| walk_at "t_signs") => `(tactic| (repeat' first | exact List.forall_mem_nil _ | refine List.forall_mem_cons.mpr ⟨StrIn.mk (show SignP _ from ⟨by decide, by decide⟩), ?_⟩))
local macro_rules | `(tactic| walk_at "t_join") => `(tactic| exact join_w (by assumption) (by first | decide | omega))
set_option maxHeartbeats 8000000 in
theorem value_ok {src : Addr} {x y : Int} {tx ty : Tok} {ep : Nat} (hy : 0 ≤ y) (hy2 : y < 2147483647) (hd : Off src news) :
    Does w loose mean mg mb 246 5 [.ref src] ((src, W.listOf #[.int x tx, .int y ty] ep) :: news) (RVal 3 src news) := by
  have hK : KIs 3 := trivial
  w_top off
  refine' entryC (bs := [.ref src]) [Str.ofString "source"] ?k6 ?k7 ?k9 ?kB ?kD ?c2 ?c3 ?c4 ?hn ?kx
  ((case' kx => k_fill); (case k6 => k_is); (case k7 => k_is); (case kB => exact rfl); (case kD => decide +kernel); (case c2 => exact rfl); (case c3 => exact rfl); (case c4 => exact rfl); (case hn => decide))
  (case k9 => ((intro s9 X9); first | exact BindsTo.of_eq rfl | exact binds_K X9 rfl (by k_is) rfl rfl rfl))
  intro c9 A9 base9 g9 h9 L9 ge9 dr9 tk9 os9 Q9 cells9 hdp hun F N Y B X T l1 hret
  (try k_lt l1)
  k_cells Y
  (try simp only [List.cons_append, List.nil_append] at N)
  (rename _ ∧ AllLt _ _ => hl0)
  have hO2 := off_le2 hl0.2
  (k_steps; repeat (any_goals ((with_reducible refine unstop ?_); (first | ((k_dflt ((first | ((with_reducible show wpAny _ _ (call (Value.ref 208) _) _ _ _); (first | (refine' use_ROneI (one_int (lo := 0) (hi := 255) ?qm ?ql ?_ ?_ ?_ ?_ ?_) ?k1 ?k2 ?k3 ?k4 ?k5 ?kK ?kd ?ku ?_; (case k4 => walk_at "t_news"); (case qm => walk_at "t_mem"); (case ql => walk_at "t_intin")) | (refine' use_ROneS (one_str (P := SignP) ?qm ?ql ?_ ?_ ?_ ?_ ?_) ?k1 ?k2 ?k3 ?k4 ?k5 ?kK ?kd ?ku ?_; (case k4 => walk_at "t_news"); (case qm => walk_at "t_mem"); (case ql => walk_at "t_signs")))) | ((with_reducible show wpAny _ _ (call (Value.ref 241) _) _ _ _); (refine' use_RVal (number_ok (k := 3) ?_ ?_ ?_) ?k1 ?k2 ?k3 ?k4 ?k5 ?kK ?kd ?ku ?_)) | ((with_reducible show wpAny _ _ (call (Value.ref 201) _) _ _ _); (refine' use_RTake (take_ok ?_ ?_ ?_ ?_ ?_) ?k1 ?k2 ?k3 ?k4 ?k5 ?kK ?kd ?ku ?_))); ((try (case k4 => walk_at "t_news")); ((case k1 => k_asm); (case k2 => k_asm); (case k3 => k_asm); (case k5 => k_asm); (case kK => first | exact rfl | assumption); (case kd => first | exact room9 (by with_reducible assumption) (by decide) | ktr_room); (case ku => first | exact unit9 (by with_reducible assumption) (by decide) | ktr_units)); (all_goals first | (fail_if_success (fail_if_success (intro (h9 : Heap)))) | (fail_if_success (refine of_prop ?_)) | with_reducible assumption | walk_at "t_prem" | assumption); k_whole))); (intros; (try k_fold))) | fail "none"); k_steps)))
  all_goals try (refine hret _ _ _ _ (RVal.mk _ (by walk_at "t_good") _ _ _ _ _ ?_ ?_) (by k_asm) (by walk_at "t_led") <;> assumption)
  · unfold Stop
    (rename Fr _ _ _ _ => F1)
    (rename News _ _ _ _ => N1)
    refine comp_src (src := src) (StrIn SignP) rfl F1 (trim7 N1) (by assumption) (by assumption) (by assumption) (range_small (by first | decide | omega) (by first | decide | omega)) (range_size (by first | decide | omega) (by first | decide | omega)) (by rw [sizeLine_eq]; omega) ?_ ?_
    · intro g ys a b ta tb ep v I oI C oC D m₂ h tk E' hb0 hb1 hlen hP hC hx F2 N2 off ne
      simp only [LCg.Off3, and_true] at off
      (k_steps; repeat (any_goals ((with_reducible refine unstop ?_); (first | ((k_dflt ((first | ((with_reducible show wpAny _ _ (call (Value.ref 208) _) _ _ _); (first | (refine' use_ROneI (one_int (lo := 0) (hi := 255) ?qm ?ql ?_ ?_ ?_ ?_ ?_) ?k1 ?k2 ?k3 ?k4 ?k5 ?kK ?kd ?ku ?_; (case k4 => walk_at "t_news"); (case qm => walk_at "t_mem"); (case ql => walk_at "t_intin")) | (refine' use_ROneS (one_str (P := SignP) ?qm ?ql ?_ ?_ ?_ ?_ ?_) ?k1 ?k2 ?k3 ?k4 ?k5 ?kK ?kd ?ku ?_; (case k4 => walk_at "t_news"); (case qm => walk_at "t_mem"); (case ql => walk_at "t_signs")))) | ((with_reducible show wpAny _ _ (call (Value.ref 241) _) _ _ _); (refine' use_RVal (number_ok (k := 3) ?_ ?_ ?_) ?k1 ?k2 ?k3 ?k4 ?k5 ?kK ?kd ?ku ?_)) | ((with_reducible show wpAny _ _ (call (Value.ref 201) _) _ _ _); (refine' use_RTake (take_ok ?_ ?_ ?_ ?_ ?_) ?k1 ?k2 ?k3 ?k4 ?k5 ?kK ?kd ?ku ?_))); ((try (case k4 => walk_at "t_news")); ((case k1 => k_asm); (case k2 => k_asm); (case k3 => k_asm); (case k5 => k_asm); (case kK => first | exact rfl | assumption); (case kd => first | exact room9 (by with_reducible assumption) (by decide) | ktr_room); (case ku => first | exact unit9 (by with_reducible assumption) (by decide) | ktr_units)); (all_goals first | (fail_if_success (fail_if_success (intro (h9 : Heap)))) | (fail_if_success (refine of_prop ?_)) | with_reducible assumption | walk_at "t_prem" | assumption); k_whole))); (intros; (try k_fold))) | fail "none"); k_steps)))
      all_goals exact cend_of (by k_asm) (cend4 (by k_asm)) (by assumption) (by assumption) (StrIn.mk (by assumption))
    · intro g ys a b ta tb ep hl hP h0 h1
      obtain ⟨ns, hi, hr⟩ := strs_of hP
      have hl' : ns.length ≤ 3 := by have := strs_len hi; omega
      (k_steps; repeat (any_goals ((with_reducible refine unstop ?_); (first | ((k_dflt ((first | ((with_reducible show wpAny _ _ (call (Value.ref 208) _) _ _ _); (first | (refine' use_ROneI (one_int (lo := 0) (hi := 255) ?qm ?ql ?_ ?_ ?_ ?_ ?_) ?k1 ?k2 ?k3 ?k4 ?k5 ?kK ?kd ?ku ?_; (case k4 => walk_at "t_news"); (case qm => walk_at "t_mem"); (case ql => walk_at "t_intin")) | (refine' use_ROneS (one_str (P := SignP) ?qm ?ql ?_ ?_ ?_ ?_ ?_) ?k1 ?k2 ?k3 ?k4 ?k5 ?kK ?kd ?ku ?_; (case k4 => walk_at "t_news"); (case qm => walk_at "t_mem"); (case ql => walk_at "t_signs")))) | ((with_reducible show wpAny _ _ (call (Value.ref 241) _) _ _ _); (refine' use_RVal (number_ok (k := 3) ?_ ?_ ?_) ?k1 ?k2 ?k3 ?k4 ?k5 ?kK ?kd ?ku ?_)) | ((with_reducible show wpAny _ _ (call (Value.ref 201) _) _ _ _); (refine' use_RTake (take_ok ?_ ?_ ?_ ?_ ?_) ?k1 ?k2 ?k3 ?k4 ?k5 ?kK ?kd ?ku ?_))); ((try (case k4 => walk_at "t_news")); ((case k1 => k_asm); (case k2 => k_asm); (case k3 => k_asm); (case k5 => k_asm); (case kK => first | exact rfl | assumption); (case kd => first | exact room9 (by with_reducible assumption) (by decide) | ktr_room); (case ku => first | exact unit9 (by with_reducible assumption) (by decide) | ktr_units)); (all_goals first | (fail_if_success (fail_if_success (intro (h9 : Heap)))) | (fail_if_success (refine of_prop ?_)) | with_reducible assumption | walk_at "t_prem" | assumption); k_whole))); (intros; (try k_fold))) | fail "none"); k_steps)))
      all_goals (refine hret _ _ _ _ (RVal.mk _ (join_good3 hr hl') _ _ _ _ _ ?_ ?_) (by k_asm) (by walk_at "t_led") <;> assumption)
  · unfold Stop
    (rename Fr _ _ _ _ => F1)
    (rename News _ _ _ _ => N1)
    refine comp_src (src := src) (IntIn 0 255) rfl F1 (news_pull N1 (by walk_at "t_pull")) (by assumption) (by assumption) (by assumption) (range_small (by first | decide | omega) (by first | decide | omega)) (range_size (by first | decide | omega) (by first | decide | omega)) (by rw [sizeLine_eq]; omega) ?_ ?_
    · intro g ys a b ta tb ep v I oI C oC D m₂ h tk E' hb0 hb1 hlen hP hC hx F2 N2 off ne
      simp only [LCg.Off3, and_true] at off
      (k_steps; repeat (any_goals ((with_reducible refine unstop ?_); (first | ((k_dflt ((first | ((with_reducible show wpAny _ _ (call (Value.ref 208) _) _ _ _); (first | (refine' use_ROneI (one_int (lo := 0) (hi := 255) ?qm ?ql ?_ ?_ ?_ ?_ ?_) ?k1 ?k2 ?k3 ?k4 ?k5 ?kK ?kd ?ku ?_; (case k4 => walk_at "t_news"); (case qm => walk_at "t_mem"); (case ql => walk_at "t_intin")) | (refine' use_ROneS (one_str (P := SignP) ?qm ?ql ?_ ?_ ?_ ?_ ?_) ?k1 ?k2 ?k3 ?k4 ?k5 ?kK ?kd ?ku ?_; (case k4 => walk_at "t_news"); (case qm => walk_at "t_mem"); (case ql => walk_at "t_signs")))) | ((with_reducible show wpAny _ _ (call (Value.ref 241) _) _ _ _); (refine' use_RVal (number_ok (k := 3) ?_ ?_ ?_) ?k1 ?k2 ?k3 ?k4 ?k5 ?kK ?kd ?ku ?_)) | ((with_reducible show wpAny _ _ (call (Value.ref 201) _) _ _ _); (refine' use_RTake (take_ok ?_ ?_ ?_ ?_ ?_) ?k1 ?k2 ?k3 ?k4 ?k5 ?kK ?kd ?ku ?_))); ((try (case k4 => walk_at "t_news")); ((case k1 => k_asm); (case k2 => k_asm); (case k3 => k_asm); (case k5 => k_asm); (case kK => first | exact rfl | assumption); (case kd => first | exact room9 (by with_reducible assumption) (by decide) | ktr_room); (case ku => first | exact unit9 (by with_reducible assumption) (by decide) | ktr_units)); (all_goals first | (fail_if_success (fail_if_success (intro (h9 : Heap)))) | (fail_if_success (refine of_prop ?_)) | with_reducible assumption | walk_at "t_prem" | assumption); k_whole))); (intros; (try k_fold))) | fail "none"); k_steps)))
      all_goals exact cend_of (by k_asm) (cend5 (by k_asm)) (by assumption) (by assumption) (IntIn.mk (by assumption) (by assumption))
    · intro g ys a b ta tb ep hl hP h0 h1
      obtain ⟨ns, hi, hr⟩ := ints_of hP
      have hin := in_of hr
      have hl' : ns.length ≤ 3 := by have := hi.length; omega
      (k_steps; repeat (any_goals ((with_reducible refine unstop ?_); (first | ((k_dflt ((first | ((with_reducible show wpAny _ _ (call (Value.ref 208) _) _ _ _); (first | (refine' use_ROneI (one_int (lo := 0) (hi := 255) ?qm ?ql ?_ ?_ ?_ ?_ ?_) ?k1 ?k2 ?k3 ?k4 ?k5 ?kK ?kd ?ku ?_; (case k4 => walk_at "t_news"); (case qm => walk_at "t_mem"); (case ql => walk_at "t_intin")) | (refine' use_ROneS (one_str (P := SignP) ?qm ?ql ?_ ?_ ?_ ?_ ?_) ?k1 ?k2 ?k3 ?k4 ?k5 ?kK ?kd ?ku ?_; (case k4 => walk_at "t_news"); (case qm => walk_at "t_mem"); (case ql => walk_at "t_signs")))) | ((with_reducible show wpAny _ _ (call (Value.ref 241) _) _ _ _); (refine' use_RVal (number_ok (k := 3) ?_ ?_ ?_) ?k1 ?k2 ?k3 ?k4 ?k5 ?kK ?kd ?ku ?_)) | ((with_reducible show wpAny _ _ (call (Value.ref 201) _) _ _ _); (refine' use_RTake (take_ok ?_ ?_ ?_ ?_ ?_) ?k1 ?k2 ?k3 ?k4 ?k5 ?kK ?kd ?ku ?_))); ((try (case k4 => walk_at "t_news")); ((case k1 => k_asm); (case k2 => k_asm); (case k3 => k_asm); (case k5 => k_asm); (case kK => first | exact rfl | assumption); (case kd => first | exact room9 (by with_reducible assumption) (by decide) | ktr_room); (case ku => first | exact unit9 (by with_reducible assumption) (by decide) | ktr_units)); (all_goals first | (fail_if_success (fail_if_success (intro (h9 : Heap)))) | (fail_if_success (refine of_prop ?_)) | with_reducible assumption | walk_at "t_prem" | assumption); k_whole))); (intros; (try k_fold))) | fail "none"); k_steps)))
      all_goals (refine hret _ _ _ _ (RVal.mk _ (byte_good hl') _ _ _ _ _ ?_ ?_) (by k_asm) (by walk_at "t_led") <;> assumption)
end
section
set_option maxHeartbeats 8000000 in
theorem near_none {src : Addr} {x y : Int} {tx ty : Tok} {ep : Nat} (hy : 0 ≤ y) (hy2 : y < 2147483647) (hd : Off src news) :
    Does w loose mean mg mb 253 4 [.ref src, .none] ((src, W.listOf #[.int x tx, .int y ty] ep) :: news) (RVal (k + 1) src news) := by
  have hK : KIs (k + 1) := trivial
  w_top off
  refine' entry (bs := [.ref src, .none]) [Str.ofString "source", Str.ofString "value"] ?k6 ?k7 ?k9 ?kB ?c5 ?c2 ?c3 ?c4 ?hn ?kx
  ((case' kx => k_fill); (case k6 => k_is); (case k7 => k_is); (case kB => exact locs rfl); (case c5 => decide); (case c2 => exact rfl); (case c3 => exact rfl); (case c4 => exact rfl); (case hn => decide))
  (case k9 => ((intro s9 X9); first | exact BindsTo.of_eq rfl | exact binds_K X9 rfl (by k_is) rfl rfl rfl))
  intro c9 A9 base9 g9 h9 L9 ge9 dr9 tk9 os9 Q9 hdp hun F N B X T hret
  (k_steps; repeat (any_goals ((with_reducible refine unstop ?_); (first | ((k_dflt ((first | ((with_reducible show wpAny _ _ (call (Value.ref 208) _) _ _ _); (first | (refine' use_ROneI (one_int (lo := 0) (hi := 255) ?qm ?ql ?_ ?_ ?_ ?_ ?_) ?k1 ?k2 ?k3 ?k4 ?k5 ?kK ?kd ?ku ?_; (case k4 => walk_at "t_news"); (case qm => walk_at "t_mem"); (case ql => walk_at "t_intin")) | (refine' use_ROneS (one_str (P := CollName) ?qm ?ql ?_ ?_ ?_ ?_ ?_) ?k1 ?k2 ?k3 ?k4 ?k5 ?kK ?kd ?ku ?_; (case k4 => walk_at "t_news"); (case qm => walk_at "t_mem"); (case ql => walk_at "t_colls")) | (refine' use_RVal (one_good (by assumption) ?qm ?ql ?_ ?_ ?_ ?_ ?_) ?k1 ?k2 ?k3 ?k4 ?k5 ?kK ?kd ?ku ?_; (case k4 => walk_at "t_news"); (case qm => walk_at "t_mem"); (case ql => walk_at "t_goods")) | (refine' use_ROne (one_ok ?_ ?_ ?_ ?_ ?_ ?_) ?k1 ?k2 ?k3 ?k4 ?k5 ?kK ?kd ?ku ?_))) | ((with_reducible show wpAny _ _ (call (Value.ref 201) _) _ _ _); (refine' use_RTake (take_ok ?_ ?_ ?_ ?_ ?_) ?k1 ?k2 ?k3 ?k4 ?k5 ?kK ?kd ?ku ?_))); ((try (case k4 => walk_at "t_news")); ((case k1 => k_asm); (case k2 => k_asm); (case k3 => k_asm); (case k5 => k_asm); (case kK => first | exact rfl | assumption); (case kd => first | exact room9 (by with_reducible assumption) (by decide) | ktr_room); (case ku => first | exact unit9 (by with_reducible assumption) (by decide) | ktr_units)); (all_goals first | (fail_if_success (fail_if_success (intro (h9 : Heap)))) | (fail_if_success (refine of_prop ?_)) | with_reducible assumption | walk_at "t_prem" | assumption); k_whole))); (intros; (try k_fold))) | fail "none"); k_steps)))
  all_goals (refine hret _ _ _ _ (RVal.mk _ ?_ _ _ _ _ _ ?_ ?_) (by k_asm) (by walk_at "t_led"))
  all_goals first | (with_reducible assumption) | (refine Good.int ?_ ?_ <;> ((rw [show (2 : Int) ^ Int.toNat 63 = 9223372036854775808 from by decide]); split <;> (try split) <;> omega))
set_option maxHeartbeats 8000000 in
theorem near_int {src : Addr} {x y : Int} {tx ty : Tok} {ep : Nat} (hy : 0 ≤ y) (hy2 : y < 2147483647) (hd : Off src news) {v : Int} {tv : Tok} (h0 : -9223372036854775808 ≤ v) (h1 : v ≤ 9223372036854775807) :
    Does w loose mean mg mb 253 4 [.ref src, .int v tv] ((src, W.listOf #[.int x tx, .int y ty] ep) :: news) (RVal (k + 1) src news) := by
  have hK : KIs (k + 1) := trivial
  w_top off
  refine' entry (bs := [.ref src, .int v tv]) [Str.ofString "source", Str.ofString "value"] ?k6 ?k7 ?k9 ?kB ?c5 ?c2 ?c3 ?c4 ?hn ?kx
  ((case' kx => k_fill); (case k6 => k_is); (case k7 => k_is); (case kB => exact locs rfl); (case c5 => decide); (case c2 => exact rfl); (case c3 => exact rfl); (case c4 => exact rfl); (case hn => decide))
  (case k9 => ((intro s9 X9); first | exact BindsTo.of_eq rfl | exact binds_K X9 rfl (by k_is) rfl rfl rfl))
  intro c9 A9 base9 g9 h9 L9 ge9 dr9 tk9 os9 Q9 hdp hun F N B X T hret
  (k_steps; repeat (any_goals ((with_reducible refine unstop ?_); (first | ((k_dflt ((first | ((with_reducible show wpAny _ _ (call (Value.ref 208) _) _ _ _); (first | (refine' use_ROneI (one_int (lo := 0) (hi := 255) ?qm ?ql ?_ ?_ ?_ ?_ ?_) ?k1 ?k2 ?k3 ?k4 ?k5 ?kK ?kd ?ku ?_; (case k4 => walk_at "t_news"); (case qm => walk_at "t_mem"); (case ql => walk_at "t_intin")) | (refine' use_ROneS (one_str (P := CollName) ?qm ?ql ?_ ?_ ?_ ?_ ?_) ?k1 ?k2 ?k3 ?k4 ?k5 ?kK ?kd ?ku ?_; (case k4 => walk_at "t_news"); (case qm => walk_at "t_mem"); (case ql => walk_at "t_colls")) | (refine' use_RVal (one_good (by assumption) ?qm ?ql ?_ ?_ ?_ ?_ ?_) ?k1 ?k2 ?k3 ?k4 ?k5 ?kK ?kd ?ku ?_; (case k4 => walk_at "t_news"); (case qm => walk_at "t_mem"); (case ql => walk_at "t_goods")) | (refine' use_ROne (one_ok ?_ ?_ ?_ ?_ ?_ ?_) ?k1 ?k2 ?k3 ?k4 ?k5 ?kK ?kd ?ku ?_))) | ((with_reducible show wpAny _ _ (call (Value.ref 201) _) _ _ _); (refine' use_RTake (take_ok ?_ ?_ ?_ ?_ ?_) ?k1 ?k2 ?k3 ?k4 ?k5 ?kK ?kd ?ku ?_))); ((try (case k4 => walk_at "t_news")); ((case k1 => k_asm); (case k2 => k_asm); (case k3 => k_asm); (case k5 => k_asm); (case kK => first | exact rfl | assumption); (case kd => first | exact room9 (by with_reducible assumption) (by decide) | ktr_room); (case ku => first | exact unit9 (by with_reducible assumption) (by decide) | ktr_units)); (all_goals first | (fail_if_success (fail_if_success (intro (h9 : Heap)))) | (fail_if_success (refine of_prop ?_)) | with_reducible assumption | walk_at "t_prem" | assumption); k_whole))); (intros; (try k_fold))) | fail "none"); k_steps)))
  all_goals (refine hret _ _ _ _ (RVal.mk _ ?_ _ _ _ _ _ ?_ ?_) (by k_asm) (by walk_at "t_led"))
  all_goals first | (with_reducible assumption) | (refine Good.int ?_ ?_ <;> ((rw [show (2 : Int) ^ Int.toNat 63 = 9223372036854775808 from by decide]); split <;> (try split) <;> omega))
set_option maxHeartbeats 8000000 in
theorem near_bytes {src : Addr} {x y : Int} {tx ty : Tok} {ep : Nat} (hy : 0 ≤ y) (hy2 : y < 2147483647) (hd : Off src news) {v : Array UInt8} {tv : Tok} (h1 : v.size ≤ k) (hk : k ≤ 64) :
    Does w loose mean mg mb 253 4 [.ref src, .bytes v tv] ((src, W.listOf #[.int x tx, .int y ty] ep) :: news) (RVal (k + 1) src news) := by
  have hK : KIs (k + 1) := trivial
  w_top off
  refine' entry (bs := [.ref src, .bytes v tv]) [Str.ofString "source", Str.ofString "value"] ?k6 ?k7 ?k9 ?kB ?c5 ?c2 ?c3 ?c4 ?hn ?kx
  ((case' kx => k_fill); (case k6 => k_is); (case k7 => k_is); (case kB => exact locs rfl); (case c5 => decide); (case c2 => exact rfl); (case c3 => exact rfl); (case c4 => exact rfl); (case hn => decide))
  (case k9 => ((intro s9 X9); first | exact BindsTo.of_eq rfl | exact binds_K X9 rfl (by k_is) rfl rfl rfl))
  intro c9 A9 base9 g9 h9 L9 ge9 dr9 tk9 os9 Q9 hdp hun F N B X T hret
  (k_steps; repeat (any_goals ((with_reducible refine unstop ?_); (first | ((k_dflt ((first | ((with_reducible show wpAny _ _ (call (Value.ref 208) _) _ _ _); (first | (refine' use_ROneI (one_int (lo := 0) (hi := 255) ?qm ?ql ?_ ?_ ?_ ?_ ?_) ?k1 ?k2 ?k3 ?k4 ?k5 ?kK ?kd ?ku ?_; (case k4 => walk_at "t_news"); (case qm => walk_at "t_mem"); (case ql => walk_at "t_intin")) | (refine' use_ROneS (one_str (P := CollName) ?qm ?ql ?_ ?_ ?_ ?_ ?_) ?k1 ?k2 ?k3 ?k4 ?k5 ?kK ?kd ?ku ?_; (case k4 => walk_at "t_news"); (case qm => walk_at "t_mem"); (case ql => walk_at "t_colls")) | (refine' use_RVal (one_good (by assumption) ?qm ?ql ?_ ?_ ?_ ?_ ?_) ?k1 ?k2 ?k3 ?k4 ?k5 ?kK ?kd ?ku ?_; (case k4 => walk_at "t_news"); (case qm => walk_at "t_mem"); (case ql => walk_at "t_goods")) | (refine' use_ROne (one_ok ?_ ?_ ?_ ?_ ?_ ?_) ?k1 ?k2 ?k3 ?k4 ?k5 ?kK ?kd ?ku ?_))) | ((with_reducible show wpAny _ _ (call (Value.ref 201) _) _ _ _); (refine' use_RTake (take_ok ?_ ?_ ?_ ?_ ?_) ?k1 ?k2 ?k3 ?k4 ?k5 ?kK ?kd ?ku ?_))); ((try (case k4 => walk_at "t_news")); ((case k1 => k_asm); (case k2 => k_asm); (case k3 => k_asm); (case k5 => k_asm); (case kK => first | exact rfl | assumption); (case kd => first | exact room9 (by with_reducible assumption) (by decide) | ktr_room); (case ku => first | exact unit9 (by with_reducible assumption) (by decide) | ktr_units)); (all_goals first | (fail_if_success (fail_if_success (intro (h9 : Heap)))) | (fail_if_success (refine of_prop ?_)) | with_reducible assumption | walk_at "t_prem" | assumption); k_whole))); (intros; (try k_fold))) | fail "none"); k_steps)))
  all_goals (refine hret _ _ _ _ (RVal.mk _ ?_ _ _ _ _ _ ?_ ?_) (by k_asm) (by walk_at "t_led"))
  all_goals first
    | (with_reducible assumption)
    | (rename _ ∈ [_, _, _, _] => hv9
       simp only [List.mem_cons, List.not_mem_nil, or_false] at hv9
       rcases hv9 with rfl | rfl | rfl | rfl <;> exact Good.bytes (by first | omega | (rw [Array.size_append]; simp; omega)))
set_option maxHeartbeats 8000000 in
theorem near_str {src : Addr} {x y : Int} {tx ty : Tok} {ep : Nat} (hy : 0 ≤ y) (hy2 : y < 2147483647) (hd : Off src news) {v : Str} {tv : Tok} (h1 : v.cps.size ≤ k) (hk : k ≤ 64) (hc : ∀ c ∈ v.cps.toList, c < 1114112) :
    Does w loose mean mg mb 253 4 [.ref src, .str v tv] ((src, W.listOf #[.int x tx, .int y ty] ep) :: news) (RVal (k + 1) src news) := by
  have hK : KIs (k + 1) := trivial
  w_top off
  refine' entry (bs := [.ref src, .str v tv]) [Str.ofString "source", Str.ofString "value"] ?k6 ?k7 ?k9 ?kB ?c5 ?c2 ?c3 ?c4 ?hn ?kx
  ((case' kx => k_fill); (case k6 => k_is); (case k7 => k_is); (case kB => exact locs rfl); (case c5 => decide); (case c2 => exact rfl); (case c3 => exact rfl); (case c4 => exact rfl); (case hn => decide))
  (case k9 => ((intro s9 X9); first | exact BindsTo.of_eq rfl | exact binds_K X9 rfl (by k_is) rfl rfl rfl))
  intro c9 A9 base9 g9 h9 L9 ge9 dr9 tk9 os9 Q9 hdp hun F N B X T hret
  (k_steps; repeat (any_goals ((with_reducible refine unstop ?_); (first | ((k_dflt ((first | ((with_reducible show wpAny _ _ (call (Value.ref 208) _) _ _ _); (first | (refine' use_ROneI (one_int (lo := 0) (hi := 255) ?qm ?ql ?_ ?_ ?_ ?_ ?_) ?k1 ?k2 ?k3 ?k4 ?k5 ?kK ?kd ?ku ?_; (case k4 => walk_at "t_news"); (case qm => walk_at "t_mem"); (case ql => walk_at "t_intin")) | (refine' use_ROneS (one_str (P := CollName) ?qm ?ql ?_ ?_ ?_ ?_ ?_) ?k1 ?k2 ?k3 ?k4 ?k5 ?kK ?kd ?ku ?_; (case k4 => walk_at "t_news"); (case qm => walk_at "t_mem"); (case ql => walk_at "t_colls")) | (refine' use_RVal (one_good (by assumption) ?qm ?ql ?_ ?_ ?_ ?_ ?_) ?k1 ?k2 ?k3 ?k4 ?k5 ?kK ?kd ?ku ?_; (case k4 => walk_at "t_news"); (case qm => walk_at "t_mem"); (case ql => walk_at "t_goods")) | (refine' use_ROne (one_ok ?_ ?_ ?_ ?_ ?_ ?_) ?k1 ?k2 ?k3 ?k4 ?k5 ?kK ?kd ?ku ?_))) | ((with_reducible show wpAny _ _ (call (Value.ref 201) _) _ _ _); (refine' use_RTake (take_ok ?_ ?_ ?_ ?_ ?_) ?k1 ?k2 ?k3 ?k4 ?k5 ?kK ?kd ?ku ?_))); ((try (case k4 => walk_at "t_news")); ((case k1 => k_asm); (case k2 => k_asm); (case k3 => k_asm); (case k5 => k_asm); (case kK => first | exact rfl | assumption); (case kd => first | exact room9 (by with_reducible assumption) (by decide) | ktr_room); (case ku => first | exact unit9 (by with_reducible assumption) (by decide) | ktr_units)); (all_goals first | (fail_if_success (fail_if_success (intro (h9 : Heap)))) | (fail_if_success (refine of_prop ?_)) | with_reducible assumption | walk_at "t_prem" | assumption); k_whole))); (intros; (try k_fold))) | fail "none"); k_steps)))
  all_goals (refine hret _ _ _ _ (RVal.mk _ ?_ _ _ _ _ _ ?_ ?_) (by k_asm) (by walk_at "t_led"))
  all_goals first | (with_reducible assumption) | (refine Good.int ?_ ?_ <;> ((rw [show (2 : Int) ^ Int.toNat 63 = 9223372036854775808 from by decide]); split <;> (try split) <;> omega))
theorem near_ok {src : Addr} {x y : Int} {tx ty : Tok} {ep : Nat} {v : Value} (hv : Good k v) (hk : k ≤ 64) (hy : 0 ≤ y) (hy2 : y < 2147483647) (hd : Off src news) :
    Does w loose mean mg mb 253 4 [.ref src, v] ((src, W.listOf #[.int x tx, .int y ty] ep) :: news) (RVal (k + 1) src news) := by
  cases hv with
  | none => exact near_none hy hy2 hd
  | int h0 h1 => exact near_int hy hy2 hd h0 h1
  | bytes h1 => exact near_bytes hy hy2 hd h1 hk
  | str h1 hc => exact near_str hy hy2 hd h1 hk hc
end
section
local macro_rules | `(tactic| walk_at "r") => `(tactic| first | (refine' gt_L ?_ ?_ ?_ ?_ ?_ ?_ ?_; k_dflt walk_at "t_do") | (refine' lt_L ?_ ?_ ?_ ?_ ?_ ?_ ?_; k_dflt walk_at "t_do") | (refine' list_bytes_L ?_ ?_ rfl ?_ ?_; k_dflt walk_at "t_do"))
local macro_rules | `(tactic| walk_at "compareOp Gt ref ref") => `(tactic| (walk_at "r"))
local macro_rules | `(tactic| walk_at "compareOp Lt ref ref") => `(tactic| (walk_at "r"))
local macro_rules | `(tactic| walk_at "call type:list") => `(tactic| (walk_at "r"; intro D' h' tk' vs' n' F' N' l1 hI'; (try k_lt l1); (try dsimp only)))
set_option maxHeartbeats 8000000 in
theorem order_ne {a b : Value} {c : Str} {u : Tok} (ha : Good k a) (hb : Good k b) (hne : rank a ≠ rank b) : Does w loose mean mg mb 227 20 [a, b, .str c u] news (RInt (cmpV c a b) news) := by
  w_top off
  refine' entry (bs := [a, b, .str c u]) [Str.ofString "one", Str.ofString "other", Str.ofString "collation"] ?k6 ?k7 ?k9 ?kB ?c5 ?c2 ?c3 ?c4 ?hn ?kx
  ((case' kx => k_fill); (case k6 => k_is); (case k7 => k_is); (case kB => exact locs rfl); (case c5 => decide); (case c2 => exact rfl); (case c3 => exact rfl); (case c4 => exact rfl); (case hn => decide))
  (case k9 => ((intro s9 X9); first | exact BindsTo.of_eq rfl | exact binds_K X9 rfl (by k_is) rfl rfl rfl))
  intro c9 A9 base9 g9 h9 L9 ge9 dr9 tk9 os9 Q9 hdp hun F N B X T hret
  (k_steps; repeat (any_goals ((with_reducible refine unstop ?_); (first | ((k_dflt ((first | ((with_reducible show wpAny _ _ (call (Value.ref 220) _) _ _ _); (refine' use_RInts (folded_ok ?_ ?_) ?k1 ?k2 ?k3 ?k4 ?k5 ?kK ?kd ?ku ?_)) | ((with_reducible show wpAny _ _ (call (Value.ref 215) _) _ _ _); (first | (refine' use_RInt rank_none0 ?k1 ?k2 ?k3 ?k4 ?k5 ?kK ?kd ?ku ?_) | (refine' use_RInt rank_int1 ?k1 ?k2 ?k3 ?k4 ?k5 ?kK ?kd ?ku ?_) | (refine' use_RInt rank_str2 ?k1 ?k2 ?k3 ?k4 ?k5 ?kK ?kd ?ku ?_) | (refine' use_RInt rank_bytes3 ?k1 ?k2 ?k3 ?k4 ?k5 ?kK ?kd ?ku ?_) | (refine' use_RInt (rank_ok (by assumption)) ?k1 ?k2 ?k3 ?k4 ?k5 ?kK ?kd ?ku ?_)))); ((try (case k4 => walk_at "t_news")); ((case k1 => k_asm); (case k2 => k_asm); (case k3 => k_asm); (case k5 => k_asm); (case kK => first | exact rfl | assumption); (case kd => first | exact room9 (by with_reducible assumption) (by decide) | ktr_room); (case ku => first | exact unit9 (by with_reducible assumption) (by decide) | ktr_units)); (all_goals first | (fail_if_success (fail_if_success (intro (h9 : Heap)))) | (fail_if_success (refine of_prop ?_)) | with_reducible assumption | walk_at "t_prem" | assumption); k_whole))); (intros; (try k_fold))) | fail "none"); k_steps)))
  all_goals first
    | exact absurd (by assumption) hne
    | (refine hret _ _ _ _ (RInt.of ?_) (by k_asm) (by k_asm); rw [cmpV_ne hne]; simp only [sgnI]; split <;> first | rfl | omega | (split <;> first | rfl | omega))
set_option maxHeartbeats 8000000 in
theorem order_none {c : Str} {u : Tok} : Does w loose mean mg mb 227 20 [.none, .none, .str c u] news (RInt (cmpV c .none .none) news) := by
  w_top off
  refine' entry (bs := [.none, .none, .str c u]) [Str.ofString "one", Str.ofString "other", Str.ofString "collation"] ?k6 ?k7 ?k9 ?kB ?c5 ?c2 ?c3 ?c4 ?hn ?kx
  ((case' kx => k_fill); (case k6 => k_is); (case k7 => k_is); (case kB => exact locs rfl); (case c5 => decide); (case c2 => exact rfl); (case c3 => exact rfl); (case c4 => exact rfl); (case hn => decide))
  (case k9 => ((intro s9 X9); first | exact BindsTo.of_eq rfl | exact binds_K X9 rfl (by k_is) rfl rfl rfl))
  intro c9 A9 base9 g9 h9 L9 ge9 dr9 tk9 os9 Q9 hdp hun F N B X T hret
  (k_steps; repeat (any_goals ((with_reducible refine unstop ?_); (first | ((k_dflt ((first | ((with_reducible show wpAny _ _ (call (Value.ref 220) _) _ _ _); (refine' use_RInts (folded_ok ?_ ?_) ?k1 ?k2 ?k3 ?k4 ?k5 ?kK ?kd ?ku ?_)) | ((with_reducible show wpAny _ _ (call (Value.ref 215) _) _ _ _); (first | (refine' use_RInt rank_none0 ?k1 ?k2 ?k3 ?k4 ?k5 ?kK ?kd ?ku ?_) | (refine' use_RInt rank_int1 ?k1 ?k2 ?k3 ?k4 ?k5 ?kK ?kd ?ku ?_) | (refine' use_RInt rank_str2 ?k1 ?k2 ?k3 ?k4 ?k5 ?kK ?kd ?ku ?_) | (refine' use_RInt rank_bytes3 ?k1 ?k2 ?k3 ?k4 ?k5 ?kK ?kd ?ku ?_) | (refine' use_RInt (rank_ok (by assumption)) ?k1 ?k2 ?k3 ?k4 ?k5 ?kK ?kd ?ku ?_)))); ((try (case k4 => walk_at "t_news")); ((case k1 => k_asm); (case k2 => k_asm); (case k3 => k_asm); (case k5 => k_asm); (case kK => first | exact rfl | assumption); (case kd => first | exact room9 (by with_reducible assumption) (by decide) | ktr_room); (case ku => first | exact unit9 (by with_reducible assumption) (by decide) | ktr_units)); (all_goals first | (fail_if_success (fail_if_success (intro (h9 : Heap)))) | (fail_if_success (refine of_prop ?_)) | with_reducible assumption | walk_at "t_prem" | assumption); k_whole))); (intros; (try k_fold))) | fail "none"); k_steps)))
  all_goals exact hret _ _ _ _ (RInt.of rfl) (by k_asm) (by k_asm)
set_option maxHeartbeats 8000000 in
theorem order_int {x y : Int} {tx ty : Tok} {c : Str} {u : Tok} : Does w loose mean mg mb 227 20 [.int x tx, .int y ty, .str c u] news (RInt (cmpV c (.int x tx) (.int y ty)) news) := by
  w_top off
  refine' entry (bs := [.int x tx, .int y ty, .str c u]) [Str.ofString "one", Str.ofString "other", Str.ofString "collation"] ?k6 ?k7 ?k9 ?kB ?c5 ?c2 ?c3 ?c4 ?hn ?kx
  ((case' kx => k_fill); (case k6 => k_is); (case k7 => k_is); (case kB => exact locs rfl); (case c5 => decide); (case c2 => exact rfl); (case c3 => exact rfl); (case c4 => exact rfl); (case hn => decide))
  (case k9 => ((intro s9 X9); first | exact BindsTo.of_eq rfl | exact binds_K X9 rfl (by k_is) rfl rfl rfl))
  intro c9 A9 base9 g9 h9 L9 ge9 dr9 tk9 os9 Q9 hdp hun F N B X T hret
  (k_steps; repeat (any_goals ((with_reducible refine unstop ?_); (first | ((k_dflt ((first | ((with_reducible show wpAny _ _ (call (Value.ref 220) _) _ _ _); (refine' use_RInts (folded_ok ?_ ?_) ?k1 ?k2 ?k3 ?k4 ?k5 ?kK ?kd ?ku ?_)) | ((with_reducible show wpAny _ _ (call (Value.ref 215) _) _ _ _); (first | (refine' use_RInt rank_none0 ?k1 ?k2 ?k3 ?k4 ?k5 ?kK ?kd ?ku ?_) | (refine' use_RInt rank_int1 ?k1 ?k2 ?k3 ?k4 ?k5 ?kK ?kd ?ku ?_) | (refine' use_RInt rank_str2 ?k1 ?k2 ?k3 ?k4 ?k5 ?kK ?kd ?ku ?_) | (refine' use_RInt rank_bytes3 ?k1 ?k2 ?k3 ?k4 ?k5 ?kK ?kd ?ku ?_) | (refine' use_RInt (rank_ok (by assumption)) ?k1 ?k2 ?k3 ?k4 ?k5 ?kK ?kd ?ku ?_)))); ((try (case k4 => walk_at "t_news")); ((case k1 => k_asm); (case k2 => k_asm); (case k3 => k_asm); (case k5 => k_asm); (case kK => first | exact rfl | assumption); (case kd => first | exact room9 (by with_reducible assumption) (by decide) | ktr_room); (case ku => first | exact unit9 (by with_reducible assumption) (by decide) | ktr_units)); (all_goals first | (fail_if_success (fail_if_success (intro (h9 : Heap)))) | (fail_if_success (refine of_prop ?_)) | with_reducible assumption | walk_at "t_prem" | assumption); k_whole))); (intros; (try k_fold))) | fail "none"); k_steps)))
  all_goals (refine hret _ _ _ _ (RInt.of ?_) (by k_asm) (by k_asm))
  all_goals (show _ = sgnI x y; simp only [sgnI, decide_eq_true_eq]; split <;> split <;> first | rfl | omega | (split <;> first | rfl | omega))
set_option maxHeartbeats 8000000 in
theorem order_str {x y : Str} {tx ty : Tok} {c : Str} {u : Tok} (hx : x.cps.size ≤ 64) (hy : y.cps.size ≤ 64) (hc : CollName c) : Does w loose mean mg mb 227 20 [.str x tx, .str y ty, .str c u] news (RInt (cmpV c (.str x tx) (.str y ty)) news) := by
  w_top off
  refine' entry (bs := [.str x tx, .str y ty, .str c u]) [Str.ofString "one", Str.ofString "other", Str.ofString "collation"] ?k6 ?k7 ?k9 ?kB ?c5 ?c2 ?c3 ?c4 ?hn ?kx
  ((case' kx => k_fill); (case k6 => k_is); (case k7 => k_is); (case kB => exact locs rfl); (case c5 => decide); (case c2 => exact rfl); (case c3 => exact rfl); (case c4 => exact rfl); (case hn => decide))
  (case k9 => ((intro s9 X9); first | exact BindsTo.of_eq rfl | exact binds_K X9 rfl (by k_is) rfl rfl rfl))
  intro c9 A9 base9 g9 h9 L9 ge9 dr9 tk9 os9 Q9 hdp hun F N B X T hret
  (k_steps; repeat (any_goals ((with_reducible refine unstop ?_); (first | ((k_dflt ((first | ((with_reducible show wpAny _ _ (call (Value.ref 220) _) _ _ _); (refine' use_RInts (folded_ok ?_ ?_) ?k1 ?k2 ?k3 ?k4 ?k5 ?kK ?kd ?ku ?_)) | ((with_reducible show wpAny _ _ (call (Value.ref 215) _) _ _ _); (first | (refine' use_RInt rank_none0 ?k1 ?k2 ?k3 ?k4 ?k5 ?kK ?kd ?ku ?_) | (refine' use_RInt rank_int1 ?k1 ?k2 ?k3 ?k4 ?k5 ?kK ?kd ?ku ?_) | (refine' use_RInt rank_str2 ?k1 ?k2 ?k3 ?k4 ?k5 ?kK ?kd ?ku ?_) | (refine' use_RInt rank_bytes3 ?k1 ?k2 ?k3 ?k4 ?k5 ?kK ?kd ?ku ?_) | (refine' use_RInt (rank_ok (by assumption)) ?k1 ?k2 ?k3 ?k4 ?k5 ?kK ?kd ?ku ?_)))); ((try (case k4 => walk_at "t_news")); ((case k1 => k_asm); (case k2 => k_asm); (case k3 => k_asm); (case k5 => k_asm); (case kK => first | exact rfl | assumption); (case kd => first | exact room9 (by with_reducible assumption) (by decide) | ktr_room); (case ku => first | exact unit9 (by with_reducible assumption) (by decide) | ktr_units)); (all_goals first | (fail_if_success (fail_if_success (intro (h9 : Heap)))) | (fail_if_success (refine of_prop ?_)) | with_reducible assumption | walk_at "t_prem" | assumption); k_whole))); (intros; (try k_fold))) | fail "none"); k_steps)))
  all_goals (refine hret _ _ _ _ (RInt.of ?_) (by k_asm) (by walk_at "t_led"))
  all_goals (show _ = sgnL _ _; rw [← sgnL_of]; simp only [codes, sgn_ints])
set_option maxHeartbeats 8000000 in
theorem order_bytes {x y : Array UInt8} {tx ty : Tok} {c : Str} {u : Tok} (hx : x.size ≤ 64) (hy : y.size ≤ 64) : Does w loose mean mg mb 227 20 [.bytes x tx, .bytes y ty, .str c u] news (RInt (cmpV c (.bytes x tx) (.bytes y ty)) news) := by
  w_top off
  refine' entry (bs := [.bytes x tx, .bytes y ty, .str c u]) [Str.ofString "one", Str.ofString "other", Str.ofString "collation"] ?k6 ?k7 ?k9 ?kB ?c5 ?c2 ?c3 ?c4 ?hn ?kx
  ((case' kx => k_fill); (case k6 => k_is); (case k7 => k_is); (case kB => exact locs rfl); (case c5 => decide); (case c2 => exact rfl); (case c3 => exact rfl); (case c4 => exact rfl); (case hn => decide))
  (case k9 => ((intro s9 X9); first | exact BindsTo.of_eq rfl | exact binds_K X9 rfl (by k_is) rfl rfl rfl))
  intro c9 A9 base9 g9 h9 L9 ge9 dr9 tk9 os9 Q9 hdp hun F N B X T hret
  (k_steps; repeat (any_goals ((with_reducible refine unstop ?_); (first | ((k_dflt ((first | ((with_reducible show wpAny _ _ (call (Value.ref 220) _) _ _ _); (refine' use_RInts (folded_ok ?_ ?_) ?k1 ?k2 ?k3 ?k4 ?k5 ?kK ?kd ?ku ?_)) | ((with_reducible show wpAny _ _ (call (Value.ref 215) _) _ _ _); (first | (refine' use_RInt rank_none0 ?k1 ?k2 ?k3 ?k4 ?k5 ?kK ?kd ?ku ?_) | (refine' use_RInt rank_int1 ?k1 ?k2 ?k3 ?k4 ?k5 ?kK ?kd ?ku ?_) | (refine' use_RInt rank_str2 ?k1 ?k2 ?k3 ?k4 ?k5 ?kK ?kd ?ku ?_) | (refine' use_RInt rank_bytes3 ?k1 ?k2 ?k3 ?k4 ?k5 ?kK ?kd ?ku ?_) | (refine' use_RInt (rank_ok (by assumption)) ?k1 ?k2 ?k3 ?k4 ?k5 ?kK ?kd ?ku ?_)))); ((try (case k4 => walk_at "t_news")); ((case k1 => k_asm); (case k2 => k_asm); (case k3 => k_asm); (case k5 => k_asm); (case kK => first | exact rfl | assumption); (case kd => first | exact room9 (by with_reducible assumption) (by decide) | ktr_room); (case ku => first | exact unit9 (by with_reducible assumption) (by decide) | ktr_units)); (all_goals first | (fail_if_success (fail_if_success (intro (h9 : Heap)))) | (fail_if_success (refine of_prop ?_)) | with_reducible assumption | walk_at "t_prem" | assumption); k_whole))); (intros; (try k_fold))) | fail "none"); k_steps)))
  all_goals (refine hret _ _ _ _ (RInt.of ?_) (by k_asm) (by walk_at "t_led"))
  all_goals (show _ = sgnL _ _; rw [← sgnL_of]; simp only [bInts_nats, sgn_ints])
theorem order_ok {a b : Value} {c : Str} {u : Tok} (ha : Good k a) (hb : Good k b) (hk : k ≤ 64) (hc : CollName c) : Does w loose mean mg mb 227 20 [a, b, .str c u] news (RInt (cmpV c a b) news) := by
  by_cases hne : rank a = rank b
  · cases ha with
    | none => cases hb with
      | none => exact order_none
      | int => exact absurd hne (by simp [rank])
      | str => exact absurd hne (by simp [rank])
      | bytes => exact absurd hne (by simp [rank])
    | int => cases hb with
      | none => exact absurd hne (by simp [rank])
      | int => exact order_int
      | str => exact absurd hne (by simp [rank])
      | bytes => exact absurd hne (by simp [rank])
    | str h1 => cases hb with
      | none => exact absurd hne (by simp [rank])
      | int => exact absurd hne (by simp [rank])
      | str h2 => exact order_str (Nat.le_trans h1 hk) (Nat.le_trans h2 hk) hc
      | bytes => exact absurd hne (by simp [rank])
    | bytes h1 => cases hb with
      | none => exact absurd hne (by simp [rank])
      | int => exact absurd hne (by simp [rank])
      | str => exact absurd hne (by simp [rank])
      | bytes h2 => exact order_bytes (Nat.le_trans h1 hk) (Nat.le_trans h2 hk)
  · exact order_ne ha hb hne
theorem order_ok2 {a b : Value} {c : Str} {u : Tok} (ha : Good k a) (hb : Good k b) (hc : CollName c) (hk : k ≤ 64) : Does w loose mean mg mb 227 20 [a, b, .str c u] news (RInt (cmpV c a b) news) := order_ok ha hb hk hc
end
local macro_rules | `(tactic| walk_at "pad5") => `(tactic| skip)
local macro_rules | `(tactic| walk_at "pad6") => `(tactic| skip)
section
local macro_rules | `(tactic| walk_at "r") => `(tactic| first | (refine' len_T ?_ ?_ ?_ ?_; k_dflt walk_at "t_do") | (refine' tuple_T ?_ ?_ ?_; k_dflt walk_at "t_do") | (refine' item_T ?_ ?_ ?_ ?_ ?_ ?_; k_dflt walk_at "t_do"))
local macro_rules | `(tactic| walk_at "call builtin:len") => `(tactic| (walk_at "r"))
local macro_rules | `(tactic| walk_at "call type:tuple") => `(tactic| (walk_at "r"))
set_option maxHeartbeats 8000000 in
theorem info_ok {tc td : Addr} {vc vd : List Value} {n1 n2 : Nat} (hc : (tc, tupObj vc n1) ∈ news) (hd : (td, tupObj vd n2) ∈ news) (hl : vc.length = vd.length) (hl2 : vc.length ≤ 3) :
    Does w loose mean mg mb 154 8 [.ref tc, .ref td] news (RInfo w.params tc td news) := by
  delta Does PROG
  w_top off
  k_fill
  intro dp un gd cn cs a ccd cl outer A₀ base h₀ L m s Q E B F X N T hk hdp hun hret
  (k_steps; repeat (any_goals ((with_reducible refine unstop ?_); (first | ((with_reducible show wpAny _ _ (call (Value.ref 154) _) _ _ _); k_dflt (refine' call_cls (by k_asm) (by k_asm) (by k_asm) ?k4 ?k5 ?k6 ?_; (case k4 => k_is); (case k5 => k_is); (case k6 => k_is); k_whole; intro x' d' h' F' N' l1 l2; (try k_lt l1); (try k_lt2 l2)); k_dflt ktr_enter) | fail "none"); k_steps)))
  · exact absurd hl (by first | decide | omega)
  (rename ∀ p ∈ news, p.1 < _ => hl9)
  exact hret _ _ _ _ (RInfo.mk _ _ _ _ hl9 (by assumption)) (by k_asm) (by k_asm)
local macro_rules | `(tactic| walk_at "subscriptTail") => `(tactic| (walk_at "r"; intro v' hv'))
set_option maxHeartbeats 8000000 in
theorem count_ok {x : Addr} {cs : List Str} {ds : List Bool} (hI : InfoIn w.params x cs ds news) : Does w loose mean mg mb 137 4 [.ref x] news (RInt (cs.length : Int) news) := by
  obtain ⟨⟨dx, tc, td, k1, k2, vc, n1, n2, hx, hdx, hc, hd, hs⟩, hl, hf⟩ := hI
  have hlc := strs_len hs
  w_top off
  refine' entry (bs := [.ref x]) [Str.ofString "self"] ?k6 ?k7 ?k9 ?kB ?c5 ?c2 ?c3 ?c4 ?hn ?kx
  ((case' kx => k_fill); (case k6 => k_is); (case k7 => k_is); (case kB => exact locs rfl); (case c5 => decide); (case c2 => exact rfl); (case c3 => exact rfl); (case c4 => exact rfl); (case hn => decide))
  (case k9 => ((intro s9 X9); first | exact BindsTo.of_eq rfl | exact binds_K X9 rfl (by k_is) rfl rfl rfl))
  intro c9 A9 base9 g9 h9 L9 ge9 dr9 tk9 os9 Q9 hdp hun F N B X T hret
  (rename News _ _ _ _ => N0)
  have N1 := news_add (news_add (news_add N0 hc) (.tail _ hdx)) (.tail _ (.tail _ hx))
  clear N0
  (k_steps; repeat (any_goals ((with_reducible refine unstop ?_); (first | ((with_reducible show wpAny _ _ (call (Value.ref 154) _) _ _ _); k_dflt (refine' call_cls (by k_asm) (by k_asm) (by k_asm) ?k4 ?k5 ?k6 ?_; (case k4 => k_is); (case k5 => k_is); (case k6 => k_is); k_whole; intro x' d' h' F' N' l1 l2; (try k_lt l1); (try k_lt2 l2)); k_dflt ktr_enter) | fail "none"); k_steps)))
  all_goals exact hret _ _ _ _ (RInt.of (by first | decide | omega)) (by k_asm) (by walk_at "t_led")
set_option maxHeartbeats 8000000 in
theorem coll_ok {x : Addr} {cs : List Str} {ds : List Bool} {j : Int} {tj : Tok} (hI : InfoIn w.params x cs ds news) (h0 : 0 ≤ j) (h1 : j < cs.length) : Does w loose mean mg mb 144 4 [.ref x, .int j tj] news (RStr (cs.getD j.toNat Str.empty) news) := by
  obtain ⟨⟨dx, tc, td, k1, k2, vc, n1, n2, hx, hdx, hc, hd, hs⟩, hl, hf⟩ := hI
  have hlc := strs_len hs
  w_top off
  refine' entry (bs := [.ref x, .int j tj]) [Str.ofString "self", Str.ofString "place"] ?k6 ?k7 ?k9 ?kB ?c5 ?c2 ?c3 ?c4 ?hn ?kx
  ((case' kx => k_fill); (case k6 => k_is); (case k7 => k_is); (case kB => exact locs rfl); (case c5 => decide); (case c2 => exact rfl); (case c3 => exact rfl); (case c4 => exact rfl); (case hn => decide))
  (case k9 => ((intro s9 X9); first | exact BindsTo.of_eq rfl | exact binds_K X9 rfl (by k_is) rfl rfl rfl))
  intro c9 A9 base9 g9 h9 L9 ge9 dr9 tk9 os9 Q9 hdp hun F N B X T hret
  (rename News _ _ _ _ => N0)
  have N1 := news_add (news_add (news_add N0 hc) (.tail _ hdx)) (.tail _ (.tail _ hx))
  clear N0
  (k_steps; repeat (any_goals ((with_reducible refine unstop ?_); (first | ((with_reducible show wpAny _ _ (call (Value.ref 154) _) _ _ _); k_dflt (refine' call_cls (by k_asm) (by k_asm) (by k_asm) ?k4 ?k5 ?k6 ?_; (case k4 => k_is); (case k5 => k_is); (case k6 => k_is); k_whole; intro x' d' h' F' N' l1 l2; (try k_lt l1); (try k_lt2 l2)); k_dflt ktr_enter) | fail "none"); k_steps)))
  all_goals (rename vc[_]? = some _ => hv9; obtain ⟨y9, t9, rfl, hy9⟩ := strs_at hs _ _ hv9; exact hret _ _ _ _ (RStr.of (by rw [List.getD_eq_getElem?_getD, hy9]; rfl)) (by k_asm) (by walk_at "t_led"))
local macro_rules | `(tactic| walk_at "subscriptTail") => `(tactic| (walk_at "r"; intro v' hv'; obtain ⟨b9, hq9, hb9⟩ := bools_at _ _ hv'; subst hq9))
set_option maxHeartbeats 8000000 in
theorem desc_ok {x : Addr} {cs : List Str} {ds : List Bool} {j : Int} {tj : Tok} (hI : InfoIn w.params x cs ds news) (h0 : 0 ≤ j) (h1 : j < cs.length) : Does w loose mean mg mb 151 4 [.ref x, .int j tj] news (RBool (ds.getD j.toNat false) news) := by
  obtain ⟨⟨dx, tc, td, k1, k2, vc, n1, n2, hx, hdx, hc, hd, hs⟩, hl, hf⟩ := hI
  have hlc := strs_len hs
  have hld : (ds.map Value.bool).length = ds.length := by simp
  w_top off
  refine' entry (bs := [.ref x, .int j tj]) [Str.ofString "self", Str.ofString "place"] ?k6 ?k7 ?k9 ?kB ?c5 ?c2 ?c3 ?c4 ?hn ?kx
  ((case' kx => k_fill); (case k6 => k_is); (case k7 => k_is); (case kB => exact locs rfl); (case c5 => decide); (case c2 => exact rfl); (case c3 => exact rfl); (case c4 => exact rfl); (case hn => decide))
  (case k9 => ((intro s9 X9); first | exact BindsTo.of_eq rfl | exact binds_K X9 rfl (by k_is) rfl rfl rfl))
  intro c9 A9 base9 g9 h9 L9 ge9 dr9 tk9 os9 Q9 hdp hun F N B X T hret
  (rename News _ _ _ _ => N0)
  have N1 := news_add (news_add (news_add N0 hd) (.tail _ hdx)) (.tail _ (.tail _ hx))
  clear N0
  (k_steps; repeat (any_goals ((with_reducible refine unstop ?_); (first | ((with_reducible show wpAny _ _ (call (Value.ref 154) _) _ _ _); k_dflt (refine' call_cls (by k_asm) (by k_asm) (by k_asm) ?k4 ?k5 ?k6 ?_; (case k4 => k_is); (case k5 => k_is); (case k6 => k_is); k_whole; intro x' d' h' F' N' l1 l2; (try k_lt l1); (try k_lt2 l2)); k_dflt ktr_enter) | fail "none"); k_steps)))
  all_goals exact hret _ _ _ _ (RBool.of (by first | (rw [List.getD_eq_getElem?_getD, (by assumption : ds[j.toNat]? = some _)]; rfl) | omega)) (by k_asm) (by walk_at "t_led")
end
section
theorem join {α : Type} {M : Model} {A : Around} {t : Sem α} {a : α} {Q : α → Shared → Prop} {E : Value → Shared → Prop} {s : Shared} {J : Shared → Prop} (h1 : wpAny M A t (fun fl s' => fl = a ∧ J s') E s) (h2 : ∀ s', J s' → Q a s') : wpAny M A t Q E s :=
  wpAny_mono h1 (fun _ s' h => h.1 ▸ h2 s' h.2) fun _ _ e => e
theorem fr_upd2 {g h : Heap} {L : Addr} {x : Str} {a b : Value} {m : Str → Option Value} (F : Fr g L h (fun y => if y = x then some a else if y = x then some b else m y)) : Fr g L h (fun y => if y = x then some a else m y) := by
  have e : (fun y => if y = x then some a else if y = x then some b else m y) = (fun y => if y = x then some a else m y) := by
    funext y
    by_cases h : y = x
    · rw [if_pos h, if_pos h]
    · rw [if_neg h, if_neg h, if_neg h]
  rwa [e] at F
inductive UpIs (l : Nat) : Value → Nat → Prop
  | none : UpIs l .none l
  | int {n : Nat} (t : Tok) (h : n ≤ l) : UpIs l (.int (n : Int) t) n
local macro_rules | `(tactic| walk_at "exec If") => `(tactic| (k_here; (with_reducible show wpAny _ _ (exec (Stmt.If (Expr.BoolOp _ _ _) _ _ _) _) _ _ _); refine Mine.stop ?_))
noncomputable abbrev NS166 : List Str := [Str.ofString "values", Str.ofString "others", Str.ofString "info", Str.ofString "upto"]
set_option maxHeartbeats 8000000 in
theorem ck_all {vs : List Value} {la lb x : Addr} {upv : Value} {va vb : List Value} {na nb n : Nat} {ks : List Str} {ts : List Bool} (hup : UpIs va.length upv n) (hbd : Bd w.params 166 NS166 vs [.ref la, .ref lb, .ref x, upv]) (ha : (la, W.listOf va.toArray na) ∈ news) (hb : (lb, W.listOf vb.toArray nb) ∈ news) (ga : Goods k va) (gb : Goods k vb) (hk : k ≤ 64) (hI : InfoIn w.params x ks ts news) (hC : Colls ks) (h1 : va.length ≤ vb.length) (h2 : vb.length = ks.length) :
    Does w loose mean mg mb 166 12 vs news (RInt (ckI (gK ks ts va vb) n) news) := by
  have hf := hI.few
  have hld := hI.len
  w_top off
  refine' entry (bs := [.ref la, .ref lb, .ref x, upv]) [Str.ofString "values", Str.ofString "others", Str.ofString "info", Str.ofString "upto"] ?k6 ?k7 ?k9 ?kB ?c5 ?c2 ?c3 ?c4 ?hn ?kx
  ((case' kx => k_fill); (case k6 => k_is); (case k7 => k_is); (case kB => exact locs rfl); (case c5 => decide); (case c2 => exact rfl); (case c3 => exact rfl); (case c4 => exact rfl); (case hn => decide))
  (case k9 => exact hbd)
  intro c9 A9 base9 g9 h9 L9 ge9 dr9 tk9 os9 Q9 hdp hun F N B X T hret
  (k_steps; repeat (any_goals ((with_reducible refine unstop ?_); (first | ((k_dflt ((first | ((with_reducible show wpAny _ _ (call (Value.ref 109) _) _ _ _); (refine' use_RInt (cv_ok2 ?_ ?_ ?_ ?_) ?k1 ?k2 ?k3 ?k4 ?k5 ?kK ?kd ?ku ?_)) | ((with_reducible show wpAny _ _ (call (Value.ref 151) _) _ _ _); (refine' use_RBool (desc_ok ?_ ?_ ?_) ?k1 ?k2 ?k3 ?k4 ?k5 ?kK ?kd ?ku ?_)) | ((with_reducible show wpAny _ _ (call (Value.ref 144) _) _ _ _); (refine' use_RStr (coll_ok ?_ ?_ ?_) ?k1 ?k2 ?k3 ?k4 ?k5 ?kK ?kd ?ku ?_))); ((try (case k4 => walk_at "t_news")); ((case k1 => k_asm); (case k2 => k_asm); (case k3 => k_asm); (case k5 => k_asm); (case kK => first | exact rfl | assumption); (case kd => first | exact room9 (by with_reducible assumption) (by decide) | ktr_room); (case ku => first | exact unit9 (by with_reducible assumption) (by decide) | ktr_units)); (all_goals first | (fail_if_success (fail_if_success (intro (h9 : Heap)))) | (fail_if_success (refine of_prop ?_)) | with_reducible assumption | walk_at "t_prem" | assumption); k_whole))); (intros; (try k_fold))) | fail "none"); k_steps)))
  unfold Stop
  (rename Fr _ _ _ _ => F1)
  (rename News _ _ _ _ => N1)
  rw [if_neg (show ¬ ((vb.length : Int) < (va.length : Int)) by omega)] at F1
  refine join (a := Flow.next) (J := fun s' => ∃ h' tk' t', s' = ⟨h', ge9, dr9, tk', os9⟩ ∧ Fr g9 L9 h' (fun y => if y = Str.ofString "many" then some (.int (n : Int) t') else mapOf NS166 [.ref la, .ref lb, .ref x, upv] y) ∧ News g9 L9 h' news) ?_ ?_
  · cases hup with
    | none =>
      refine PySem.wpAny_If ?_
      (k_steps; repeat (any_goals ((with_reducible refine unstop ?_); (first | ((k_dflt ((first | ((with_reducible show wpAny _ _ (call (Value.ref 109) _) _ _ _); (refine' use_RInt (cv_ok2 ?_ ?_ ?_ ?_) ?k1 ?k2 ?k3 ?k4 ?k5 ?kK ?kd ?ku ?_)) | ((with_reducible show wpAny _ _ (call (Value.ref 151) _) _ _ _); (refine' use_RBool (desc_ok ?_ ?_ ?_) ?k1 ?k2 ?k3 ?k4 ?k5 ?kK ?kd ?ku ?_)) | ((with_reducible show wpAny _ _ (call (Value.ref 144) _) _ _ _); (refine' use_RStr (coll_ok ?_ ?_ ?_) ?k1 ?k2 ?k3 ?k4 ?k5 ?kK ?kd ?ku ?_))); ((try (case k4 => walk_at "t_news")); ((case k1 => k_asm); (case k2 => k_asm); (case k3 => k_asm); (case k5 => k_asm); (case kK => first | exact rfl | assumption); (case kd => first | exact room9 (by with_reducible assumption) (by decide) | ktr_room); (case ku => first | exact unit9 (by with_reducible assumption) (by decide) | ktr_units)); (all_goals first | (fail_if_success (fail_if_success (intro (h9 : Heap)))) | (fail_if_success (refine of_prop ?_)) | with_reducible assumption | walk_at "t_prem" | assumption); k_whole))); (intros; (try k_fold))) | fail "none"); k_steps)))
      all_goals first | exact F1 | exact N1
    | int t h9 =>
      refine PySem.wpAny_If ?_
      (k_steps; repeat (any_goals ((with_reducible refine unstop ?_); (first | ((k_dflt ((first | ((with_reducible show wpAny _ _ (call (Value.ref 109) _) _ _ _); (refine' use_RInt (cv_ok2 ?_ ?_ ?_ ?_) ?k1 ?k2 ?k3 ?k4 ?k5 ?kK ?kd ?ku ?_)) | ((with_reducible show wpAny _ _ (call (Value.ref 151) _) _ _ _); (refine' use_RBool (desc_ok ?_ ?_ ?_) ?k1 ?k2 ?k3 ?k4 ?k5 ?kK ?kd ?ku ?_)) | ((with_reducible show wpAny _ _ (call (Value.ref 144) _) _ _ _); (refine' use_RStr (coll_ok ?_ ?_ ?_) ?k1 ?k2 ?k3 ?k4 ?k5 ?kK ?kd ?ku ?_))); ((try (case k4 => walk_at "t_news")); ((case k1 => k_asm); (case k2 => k_asm); (case k3 => k_asm); (case k5 => k_asm); (case kK => first | exact rfl | assumption); (case kd => first | exact room9 (by with_reducible assumption) (by decide) | ktr_room); (case ku => first | exact unit9 (by with_reducible assumption) (by decide) | ktr_units)); (all_goals first | (fail_if_success (fail_if_success (intro (h9 : Heap)))) | (fail_if_success (refine of_prop ?_)) | with_reducible assumption | walk_at "t_prem" | assumption); k_whole))); (intros; (try k_fold))) | fail "none"); k_steps)))
      all_goals first
        | exact fr_upd2 (by assumption)
        | k_asm
        | (have e9 : n = va.length := by omega
           subst e9
           exact F1)
  · rintro _ ⟨h', tk', t', rfl, F1, N1⟩
    have hn : n ≤ va.length := by cases hup <;> omega
    dsimp only
    (k_steps; repeat (any_goals ((with_reducible refine unstop ?_); (first | ((k_dflt ((first | ((with_reducible show wpAny _ _ (call (Value.ref 109) _) _ _ _); (refine' use_RInt (cv_ok2 ?_ ?_ ?_ ?_) ?k1 ?k2 ?k3 ?k4 ?k5 ?kK ?kd ?ku ?_)) | ((with_reducible show wpAny _ _ (call (Value.ref 151) _) _ _ _); (refine' use_RBool (desc_ok ?_ ?_ ?_) ?k1 ?k2 ?k3 ?k4 ?k5 ?kK ?kd ?ku ?_)) | ((with_reducible show wpAny _ _ (call (Value.ref 144) _) _ _ _); (refine' use_RStr (coll_ok ?_ ?_ ?_) ?k1 ?k2 ?k3 ?k4 ?k5 ?kK ?kd ?ku ?_))); ((try (case k4 => walk_at "t_news")); ((case k1 => k_asm); (case k2 => k_asm); (case k3 => k_asm); (case k5 => k_asm); (case kK => first | exact rfl | assumption); (case kd => first | exact room9 (by with_reducible assumption) (by decide) | ktr_room); (case ku => first | exact unit9 (by with_reducible assumption) (by decide) | ktr_units)); (all_goals first | (fail_if_success (fail_if_success (intro (h9 : Heap)))) | (fail_if_success (refine of_prop ?_)) | with_reducible assumption | walk_at "t_prem" | assumption); k_whole))); (intros; (try k_fold))) | fail "none"); k_steps)))
    unfold Stop
    (rename Fr _ _ _ _ => F1)
    (rename News _ _ _ _ => N1)
    (rename IsRange _ _ _ _ _ _ _ _ => R1)
    refine for_range (n := n) (σ := Unit) (fun _ => []) [Str.ofString "sign", Str.ofString "place"] (fun i _ _ => ckI (gK ks ts va vb) i = 0) () rfl R1 (range_smallN (by first | decide | omega)) (range_sizeN (by first | decide | omega)) F1 N1 (fun _ => rfl) rfl ?_ ?_
    · skip
      rintro i u _ m₁ h tk rest hi hI0 hu hsub hoff F2 N2
      dsimp only [List.nil_append] at N2 hI0
      have ha2 := hsub _ ha
      have hb2 := hsub _ hb
      have hI2 := hI.mono hsub
      obtain ⟨⟨dx, tc, td, k1, k2, vc, n1, n2, hx, hdx, _⟩, _, _⟩ := hI2
      have N3 := news_add (news_add N2 hdx) (.tail _ hx)
      have hI3 := hI.mono (fun p hp => List.mem_cons_of_mem (x, instObj 154 dx) (List.mem_cons_of_mem (dx, infoDict w.params k1 k2 tc td) (hsub p hp)))
      clear N2 hx hdx hI
      (k_steps; repeat (any_goals ((with_reducible refine unstop ?_); (first | ((k_dflt ((first | ((with_reducible show wpAny _ _ (call (Value.ref 109) _) _ _ _); (refine' use_RInt (cv_ok2 ?_ ?_ ?_ ?_) ?k1 ?k2 ?k3 ?k4 ?k5 ?kK ?kd ?ku ?_)) | ((with_reducible show wpAny _ _ (call (Value.ref 151) _) _ _ _); (refine' use_RBool (desc_ok ?_ ?_ ?_) ?k1 ?k2 ?k3 ?k4 ?k5 ?kK ?kd ?ku ?_)) | ((with_reducible show wpAny _ _ (call (Value.ref 144) _) _ _ _); (refine' use_RStr (coll_ok ?_ ?_ ?_) ?k1 ?k2 ?k3 ?k4 ?k5 ?kK ?kd ?ku ?_))); ((try (case k4 => walk_at "t_news")); ((case k1 => k_asm); (case k2 => k_asm); (case k3 => k_asm); (case k5 => k_asm); (case kK => first | exact rfl | assumption); (case kd => first | exact room9 (by with_reducible assumption) (by decide) | ktr_room); (case ku => first | exact unit9 (by with_reducible assumption) (by decide) | ktr_units)); (all_goals first | (fail_if_success (fail_if_success (intro (h9 : Heap)))) | (fail_if_success (refine of_prop ?_)) | with_reducible assumption | walk_at "t_prem" | assumption); k_whole))); (intros; (try k_fold))) | fail "none"); k_steps)))
      all_goals (rename va[_]? = some _ => e1; rename vb[_]? = some _ => e2; rw [nat0] at *)
      all_goals first
        | (refine ⟨_, _, _, _, rfl, by k_asm, news_sub (by k_asm) (by walk_at "t_sub"), (), rfl, ckI_succ0 hI0 (gK_zero e1 e2 (by assumption)), ?_⟩; intro y hy; simp at hy; simp [hy])
        | (dsimp only [TPost]; refine hret _ _ _ _ (RInt.of (gK_turn hI0 e1 e2 (by assumption) (by assumption) (by first | decide | omega))) (by k_asm) (news_sub (by k_asm) (fun p hp => List.mem_cons_of_mem _ (List.mem_cons_of_mem _ (hsub p hp)))))
        | (dsimp only [TPost]; refine hret _ _ _ _ (RInt.of (gK_plain hI0 e1 e2 (by assumption) (by assumption) (by first | decide | omega))) (by k_asm) (news_sub (by k_asm) (fun p hp => List.mem_cons_of_mem _ (List.mem_cons_of_mem _ (hsub p hp)))))
    · rintro _ m₁ h tk hI0 hu F2 N2
      dsimp only [List.nil_append] at N2 hI0
      (k_steps; repeat (any_goals ((with_reducible refine unstop ?_); (first | ((k_dflt ((first | ((with_reducible show wpAny _ _ (call (Value.ref 109) _) _ _ _); (refine' use_RInt (cv_ok2 ?_ ?_ ?_ ?_) ?k1 ?k2 ?k3 ?k4 ?k5 ?kK ?kd ?ku ?_)) | ((with_reducible show wpAny _ _ (call (Value.ref 151) _) _ _ _); (refine' use_RBool (desc_ok ?_ ?_ ?_) ?k1 ?k2 ?k3 ?k4 ?k5 ?kK ?kd ?ku ?_)) | ((with_reducible show wpAny _ _ (call (Value.ref 144) _) _ _ _); (refine' use_RStr (coll_ok ?_ ?_ ?_) ?k1 ?k2 ?k3 ?k4 ?k5 ?kK ?kd ?ku ?_))); ((try (case k4 => walk_at "t_news")); ((case k1 => k_asm); (case k2 => k_asm); (case k3 => k_asm); (case k5 => k_asm); (case kK => first | exact rfl | assumption); (case kd => first | exact room9 (by with_reducible assumption) (by decide) | ktr_room); (case ku => first | exact unit9 (by with_reducible assumption) (by decide) | ktr_units)); (all_goals first | (fail_if_success (fail_if_success (intro (h9 : Heap)))) | (fail_if_success (refine of_prop ?_)) | with_reducible assumption | walk_at "t_prem" | assumption); k_whole))); (intros; (try k_fold))) | fail "none"); k_steps)))
      all_goals exact hret _ _ _ _ (RInt.of hI0.symm) (by k_asm) (by k_asm)
theorem bd3 {a b c : Value} : Bd w.params 166 NS166 [a, b, c] [a, b, c, .none] := by
  intro s9 X9
  exact binds_K X9 rfl (by k_is) rfl rfl rfl
theorem bd4 {a b c d : Value} : Bd w.params 166 NS166 [a, b, c, d] [a, b, c, d] := by
  intro s9 X9
  exact binds_K X9 rfl (by k_is) rfl rfl rfl
theorem ck3_ok {la lb x : Addr} {va vb : List Value} {na nb : Nat} {ks : List Str} {ts : List Bool} (ha : (la, W.listOf va.toArray na) ∈ news) (hb : (lb, W.listOf vb.toArray nb) ∈ news) (ga : Goods k va) (gb : Goods k vb) (hk : k ≤ 64) (hI : InfoIn w.params x ks ts news) (hC : Colls ks) (h1 : va.length ≤ vb.length) (h2 : vb.length = ks.length) :
    Does w loose mean mg mb 166 12 [.ref la, .ref lb, .ref x] news (RInt (ckI (gK ks ts va vb) va.length) news) := ck_all .none bd3 ha hb ga gb hk hI hC h1 h2
theorem ck4_ok {la lb x : Addr} {va vb : List Value} {na nb : Nat} {ks : List Str} {ts : List Bool} (ha : (la, W.listOf va.toArray na) ∈ news) (hb : (lb, W.listOf vb.toArray nb) ∈ news) (ga : Goods k va) (gb : Goods k vb) (hk : k ≤ 64) (hI : InfoIn w.params x ks ts news) (hC : Colls ks) (h1 : va.length ≤ vb.length) (h2 : vb.length = ks.length) {up : Int} {tu : Tok} (hu0 : 0 ≤ up) (hu1 : up ≤ va.length) :
    Does w loose mean mg mb 166 12 [.ref la, .ref lb, .ref x, .int up tu] news (RInt (ckI (gK ks ts va vb) up.toNat) news) := by
  obtain ⟨n, rfl⟩ : ∃ n : Nat, up = n := ⟨up.toNat, by omega⟩
  rw [Int.toNat_natCast]
  exact ck_all (.int tu (by first | decide | omega)) bd4 ha hb ga gb hk hI hC h1 h2
end
section
local macro_rules | `(tactic| walk_at "r") => `(tactic| first | (refine' item_TB ?_ ?_ ?_ ?_ ?_ ?_; k_dflt walk_at "t_do") | (refine' item_TS ?_ ?_ ?_ ?_ ?_ ?_ ?_; k_dflt walk_at "t_do") | (refine' item_L ?_ ?_ ?_ ?_ ?_ ?_; k_dflt walk_at "t_do"))
local macro_rules | `(tactic| walk_at "subscriptTail") => `(tactic| (walk_at "r"; intros))
set_option maxHeartbeats 8000000 in
theorem kord_ok {la lb tc td : Addr} {va vb vc : List Value} {na nb nc nd : Nat} {ks : List Str} {ts : List Bool} (ha : (la, W.listOf va.toArray na) ∈ news) (hb : (lb, W.listOf vb.toArray nb) ∈ news) (hc : (tc, tupObj vc nc) ∈ news) (hd : (td, tupObj (ts.map Value.bool) nd) ∈ news) (ga : Goods k va) (gb : Goods k vb) (hk : k ≤ 64) (hs : StrsAre vc ks) (hC : Colls ks) (hf : ks.length ≤ 3) (hld : ks.length = ts.length) (h1 : va.length = ks.length) (h2 : vb.length = ks.length) {up : Int} {tu : Tok} (hu0 : 0 ≤ up) (hu1 : up ≤ va.length) :
    Does w loose mean mg mb 234 30 [.ref la, .ref lb, .ref tc, .ref td, .int up tu] news (RInt (ckI (gK ks ts va vb) up.toNat) news) := by
  have hlc := strs_len hs
  have hlt : (ts.map Value.bool).length = ts.length := by simp
  obtain ⟨n, rfl⟩ : ∃ n : Nat, up = n := ⟨up.toNat, by omega⟩
  rw [Int.toNat_natCast]
  w_top off
  refine' entry (bs := [.ref la, .ref lb, .ref tc, .ref td, .int (n : Int) tu]) [Str.ofString "row", Str.ofString "beside", Str.ofString "collations", Str.ofString "turned", Str.ofString "many"] ?k6 ?k7 ?k9 ?kB ?c5 ?c2 ?c3 ?c4 ?hn ?kx
  ((case' kx => k_fill); (case k6 => k_is); (case k7 => k_is); (case kB => exact locs rfl); (case c5 => decide); (case c2 => exact rfl); (case c3 => exact rfl); (case c4 => exact rfl); (case hn => decide))
  (case k9 => ((intro s9 X9); first | exact BindsTo.of_eq rfl | exact binds_K X9 rfl (by k_is) rfl rfl rfl))
  intro c9 A9 base9 g9 h9 L9 ge9 dr9 tk9 os9 Q9 hdp hun F N B X T hret
  (k_steps; repeat (any_goals ((with_reducible refine unstop ?_); (first | ((k_dflt ((first | ((with_reducible show wpAny _ _ (call (Value.ref 227) _) _ _ _); (refine' use_RInt (order_ok2 ?_ ?_ ?_ ?_) ?k1 ?k2 ?k3 ?k4 ?k5 ?kK ?kd ?ku ?_))); ((try (case k4 => walk_at "t_news")); ((case k1 => k_asm); (case k2 => k_asm); (case k3 => k_asm); (case k5 => k_asm); (case kK => first | exact rfl | assumption); (case kd => first | exact room9 (by with_reducible assumption) (by decide) | ktr_room); (case ku => first | exact unit9 (by with_reducible assumption) (by decide) | ktr_units)); (all_goals first | (fail_if_success (fail_if_success (intro (h9 : Heap)))) | (fail_if_success (refine of_prop ?_)) | with_reducible assumption | walk_at "t_prem" | assumption); k_whole))); (intros; (try k_fold))) | fail "none"); k_steps)))
  unfold Stop
  (rename Fr _ _ _ _ => F1)
  (rename News _ _ _ _ => N1)
  (rename IsRange _ _ _ _ _ _ _ _ => R1)
  refine for_range (n := n) (σ := Unit) (fun _ => []) [Str.ofString "order", Str.ofString "at"] (fun i _ _ => ckI (gK ks ts va vb) i = 0) () rfl R1 (range_smallN (by first | decide | omega)) (range_sizeN (by first | decide | omega)) F1 N1 (fun _ => rfl) rfl ?_ ?_
  · rintro i u _ m₁ h tk rest hi hI0 hu hsub hoff F2 N2
    dsimp only [List.nil_append] at N2 hI0
    have ha2 := hsub _ ha
    have hb2 := hsub _ hb
    have hc2 := hsub _ hc
    have hd2 := hsub _ hd
    (k_steps; repeat (any_goals ((with_reducible refine unstop ?_); (first | ((k_dflt ((first | ((with_reducible show wpAny _ _ (call (Value.ref 227) _) _ _ _); (refine' use_RInt (order_ok2 ?_ ?_ ?_ ?_) ?k1 ?k2 ?k3 ?k4 ?k5 ?kK ?kd ?ku ?_))); ((try (case k4 => walk_at "t_news")); ((case k1 => k_asm); (case k2 => k_asm); (case k3 => k_asm); (case k5 => k_asm); (case kK => first | exact rfl | assumption); (case kd => first | exact room9 (by with_reducible assumption) (by decide) | ktr_room); (case ku => first | exact unit9 (by with_reducible assumption) (by decide) | ktr_units)); (all_goals first | (fail_if_success (fail_if_success (intro (h9 : Heap)))) | (fail_if_success (refine of_prop ?_)) | with_reducible assumption | walk_at "t_prem" | assumption); k_whole))); (intros; (try k_fold))) | fail "none"); k_steps)))
    all_goals (rename va[_]? = some _ => e1; rename vb[_]? = some _ => e2; rw [nat0] at *)
    all_goals first
      | (refine ⟨_, _, _, _, rfl, by k_asm, news_sub (by k_asm) (by walk_at "t_sub"), (), rfl, ckI_succ0 hI0 (gK_zero e1 e2 (by assumption)), ?_⟩; intro y hy; simp at hy; simp [hy])
      | (dsimp only [TPost]; (k_steps; repeat (any_goals ((with_reducible refine unstop ?_); (first | ((k_dflt ((first | ((with_reducible show wpAny _ _ (call (Value.ref 227) _) _ _ _); (refine' use_RInt (order_ok2 ?_ ?_ ?_ ?_) ?k1 ?k2 ?k3 ?k4 ?k5 ?kK ?kd ?ku ?_))); ((try (case k4 => walk_at "t_news")); ((case k1 => k_asm); (case k2 => k_asm); (case k3 => k_asm); (case k5 => k_asm); (case kK => first | exact rfl | assumption); (case kd => first | exact room9 (by with_reducible assumption) (by decide) | ktr_room); (case ku => first | exact unit9 (by with_reducible assumption) (by decide) | ktr_units)); (all_goals first | (fail_if_success (fail_if_success (intro (h9 : Heap)))) | (fail_if_success (refine of_prop ?_)) | with_reducible assumption | walk_at "t_prem" | assumption); k_whole))); (intros; (try k_fold))) | fail "none"); k_steps))); refine hret _ _ _ _ (RInt.of (gK_turn hI0 e1 e2 (by assumption) (by assumption) (by first | decide | omega))) (by k_asm) (news_sub (by k_asm) hsub))
      | (dsimp only [TPost]; (k_steps; repeat (any_goals ((with_reducible refine unstop ?_); (first | ((k_dflt ((first | ((with_reducible show wpAny _ _ (call (Value.ref 227) _) _ _ _); (refine' use_RInt (order_ok2 ?_ ?_ ?_ ?_) ?k1 ?k2 ?k3 ?k4 ?k5 ?kK ?kd ?ku ?_))); ((try (case k4 => walk_at "t_news")); ((case k1 => k_asm); (case k2 => k_asm); (case k3 => k_asm); (case k5 => k_asm); (case kK => first | exact rfl | assumption); (case kd => first | exact room9 (by with_reducible assumption) (by decide) | ktr_room); (case ku => first | exact unit9 (by with_reducible assumption) (by decide) | ktr_units)); (all_goals first | (fail_if_success (fail_if_success (intro (h9 : Heap)))) | (fail_if_success (refine of_prop ?_)) | with_reducible assumption | walk_at "t_prem" | assumption); k_whole))); (intros; (try k_fold))) | fail "none"); k_steps))); refine hret _ _ _ _ (RInt.of (gK_plain hI0 e1 e2 (by assumption) (by assumption) (by first | decide | omega))) (by k_asm) (news_sub (by k_asm) hsub))
  · rintro _ m₁ h tk hI0 hu F2 N2
    dsimp only [List.nil_append] at N2 hI0
    (k_steps; repeat (any_goals ((with_reducible refine unstop ?_); (first | ((k_dflt ((first | ((with_reducible show wpAny _ _ (call (Value.ref 227) _) _ _ _); (refine' use_RInt (order_ok2 ?_ ?_ ?_ ?_) ?k1 ?k2 ?k3 ?k4 ?k5 ?kK ?kd ?ku ?_))); ((try (case k4 => walk_at "t_news")); ((case k1 => k_asm); (case k2 => k_asm); (case k3 => k_asm); (case k5 => k_asm); (case kK => first | exact rfl | assumption); (case kd => first | exact room9 (by with_reducible assumption) (by decide) | ktr_room); (case ku => first | exact unit9 (by with_reducible assumption) (by decide) | ktr_units)); (all_goals first | (fail_if_success (fail_if_success (intro (h9 : Heap)))) | (fail_if_success (refine of_prop ?_)) | with_reducible assumption | walk_at "t_prem" | assumption); k_whole))); (intros; (try k_fold))) | fail "none"); k_steps)))
    all_goals exact hret _ _ _ _ (RInt.of hI0.symm) (by k_asm) (by k_asm)
end
section
local macro_rules | `(tactic| walk_at "call builtin:isinstance") => `(tactic| (k_here; (with_reducible show wpAny _ _ (call (Value.builtin "isinstance") [_, Value.type "str"]) _ _ _); (refine isinst_good (by assumption) ?_); intro _))
theorem coll_v {v : Value} {c : Str} {u : Tok} (hv : Good k v) (hs : isS v = true) (hk : k ≤ 64) (hc : CollName c) : Does w loose mean mg mb 94 3 [v, .str c u] news (RStr (collS c (strOf v)) news) := by
  cases hv with
  | none => exact absurd hs (by simp [isS])
  | int => exact absurd hs (by simp [isS])
  | bytes => exact absurd hs (by simp [isS])
  | str h1 h2 => exact collate_ok (Nat.le_trans h1 hk) h2 hc
set_option maxHeartbeats 8000000 in
theorem vright_ok {a b : Value} {c : Str} {lc : Addr} {tc : Tok} {nc : Nat} (ha : Good k a) (hb : Good k b) (hk : k ≤ 64) (hc : CollName c) (hoff : Off lc news) :
    Does w loose mean mg mb 265 40 [a, b, .ref lc] ((lc, W.listOf #[.str c tc] nc) :: news) (RBool true news) := by
  have hneg := cmpV_neg c a b
  have hbin : CollName (Str.ofString "binary") := Or.inl rfl
  have heq := @cmpV_eq c a b
  w_top off
  refine' entry (bs := [a, b, .ref lc]) [Str.ofString "one", Str.ofString "other", Str.ofString "collations"] ?k6 ?k7 ?k9 ?kB ?c5 ?c2 ?c3 ?c4 ?hn ?kx
  ((case' kx => k_fill); (case k6 => k_is); (case k7 => k_is); (case kB => exact locs rfl); (case c5 => decide); (case c2 => exact rfl); (case c3 => exact rfl); (case c4 => exact rfl); (case hn => decide))
  (case k9 => ((intro s9 X9); first | exact BindsTo.of_eq rfl | exact binds_K X9 rfl (by k_is) rfl rfl rfl))
  intro c9 A9 base9 g9 h9 L9 ge9 dr9 tk9 os9 Q9 hdp hun F N B X T hret
  (k_steps; repeat (any_goals ((with_reducible refine unstop ?_); (first | ((k_dflt ((first | ((with_reducible show wpAny _ _ (call (Value.ref 109) _) _ _ _); (first | (refine' use_RInt (cv_ok2 ?_ ?_ ?_ ?_) ?k1 ?k2 ?k3 ?k4 ?k5 ?kK ?kd ?ku ?_) | (refine' use_RInt (dv_ok2 ?_ ?_ ?_) ?k1 ?k2 ?k3 ?k4 ?k5 ?kK ?kd ?ku ?_))) | ((with_reducible show wpAny _ _ (call (Value.ref 94) _) _ _ _); (refine' use_RStr (coll_v ?_ ?_ ?_ ?_) ?k1 ?k2 ?k3 ?k4 ?k5 ?kK ?kd ?ku ?_)) | ((with_reducible show wpAny _ _ (call (Value.ref 109) _) _ _ _); (refine' use_RInt (cv_ok2 ?_ ?_ ?_ ?_) ?k1 ?k2 ?k3 ?k4 ?k5 ?kK ?kd ?ku ?_)) | ((with_reducible show wpAny _ _ (call (Value.ref 227) _) _ _ _); (refine' use_RInt (order_ok2 ?_ ?_ ?_ ?_) ?k1 ?k2 ?k3 ?k4 ?k5 ?kK ?kd ?ku ?_)) | ((with_reducible show wpAny _ _ (call (Value.ref 94) _) _ _ _); (refine' use_RStr (collate_ok ?_ ?_ ?_) ?k1 ?k2 ?k3 ?k4 ?k5 ?kK ?kd ?ku ?_))); ((try (case k4 => walk_at "t_news")); ((case k1 => k_asm); (case k2 => k_asm); (case k3 => k_asm); (case k5 => k_asm); (case kK => first | exact rfl | assumption); (case kd => first | exact room9 (by with_reducible assumption) (by decide) | ktr_room); (case ku => first | exact unit9 (by with_reducible assumption) (by decide) | ktr_units)); (all_goals first | (fail_if_success (fail_if_success (intro (h9 : Heap)))) | (fail_if_success (refine of_prop ?_)) | with_reducible assumption | walk_at "t_prem" | assumption); k_whole))); (intros; (try k_fold))) | fail "none"); k_steps)))
  unfold Stop
  (rename Fr _ _ _ _ => F1)
  (rename News _ _ _ _ => N1)
  refine for_list (vs := [.str c tc]) (σ := Unit) (fun _ => []) [Str.ofString "due", Str.ofString "collation"] (fun i _ _ => True) () rfl F1 N1 hoff (fun _ => rfl) trivial ?_ ?_
  · rintro i v _ m₁ h tk rest hv _ hu hsub ho F2 N2
    dsimp only [List.nil_append] at N2
    obtain rfl : v = .str c tc := by
      cases i with
      | zero => simpa using hv.symm
      | succ i => simp at hv
    (k_steps; repeat (any_goals ((with_reducible refine unstop ?_); (first | ((k_dflt ((first | ((with_reducible show wpAny _ _ (call (Value.ref 109) _) _ _ _); (first | (refine' use_RInt (cv_ok2 ?_ ?_ ?_ ?_) ?k1 ?k2 ?k3 ?k4 ?k5 ?kK ?kd ?ku ?_) | (refine' use_RInt (dv_ok2 ?_ ?_ ?_) ?k1 ?k2 ?k3 ?k4 ?k5 ?kK ?kd ?ku ?_))) | ((with_reducible show wpAny _ _ (call (Value.ref 94) _) _ _ _); (refine' use_RStr (coll_v ?_ ?_ ?_ ?_) ?k1 ?k2 ?k3 ?k4 ?k5 ?kK ?kd ?ku ?_)) | ((with_reducible show wpAny _ _ (call (Value.ref 109) _) _ _ _); (refine' use_RInt (cv_ok2 ?_ ?_ ?_ ?_) ?k1 ?k2 ?k3 ?k4 ?k5 ?kK ?kd ?ku ?_)) | ((with_reducible show wpAny _ _ (call (Value.ref 227) _) _ _ _); (refine' use_RInt (order_ok2 ?_ ?_ ?_ ?_) ?k1 ?k2 ?k3 ?k4 ?k5 ?kK ?kd ?ku ?_)) | ((with_reducible show wpAny _ _ (call (Value.ref 94) _) _ _ _); (refine' use_RStr (collate_ok ?_ ?_ ?_) ?k1 ?k2 ?k3 ?k4 ?k5 ?kK ?kd ?ku ?_))); ((try (case k4 => walk_at "t_news")); ((case k1 => k_asm); (case k2 => k_asm); (case k3 => k_asm); (case k5 => k_asm); (case kK => first | exact rfl | assumption); (case kd => first | exact room9 (by with_reducible assumption) (by decide) | ktr_room); (case ku => first | exact unit9 (by with_reducible assumption) (by decide) | ktr_units)); (all_goals first | (fail_if_success (fail_if_success (intro (h9 : Heap)))) | (fail_if_success (refine of_prop ?_)) | with_reducible assumption | walk_at "t_prem" | assumption); k_whole))); (intros; (try k_fold))) | fail "none"); k_steps)))
    all_goals first
      | exact absurd rfl (by assumption)
      | exact absurd hneg (by assumption)
      | (refine ⟨_, _, _, _, rfl, by k_asm, by k_asm, (), rfl, trivial, ?_⟩; intro y hy; simp at hy; simp [hy])
      | (have h1 := heq (by assumption) (by assumption); rename (_ != _) = true => h2; rw [h1] at h2; simp at h2)
  · rintro _ m₁ h tk _ hu F2 N2
    dsimp only [List.nil_append] at N2
    (k_steps; repeat (any_goals ((with_reducible refine unstop ?_); (first | ((k_dflt ((first | ((with_reducible show wpAny _ _ (call (Value.ref 109) _) _ _ _); (first | (refine' use_RInt (cv_ok2 ?_ ?_ ?_ ?_) ?k1 ?k2 ?k3 ?k4 ?k5 ?kK ?kd ?ku ?_) | (refine' use_RInt (dv_ok2 ?_ ?_ ?_) ?k1 ?k2 ?k3 ?k4 ?k5 ?kK ?kd ?ku ?_))) | ((with_reducible show wpAny _ _ (call (Value.ref 94) _) _ _ _); (refine' use_RStr (coll_v ?_ ?_ ?_ ?_) ?k1 ?k2 ?k3 ?k4 ?k5 ?kK ?kd ?ku ?_)) | ((with_reducible show wpAny _ _ (call (Value.ref 109) _) _ _ _); (refine' use_RInt (cv_ok2 ?_ ?_ ?_ ?_) ?k1 ?k2 ?k3 ?k4 ?k5 ?kK ?kd ?ku ?_)) | ((with_reducible show wpAny _ _ (call (Value.ref 227) _) _ _ _); (refine' use_RInt (order_ok2 ?_ ?_ ?_ ?_) ?k1 ?k2 ?k3 ?k4 ?k5 ?kK ?kd ?ku ?_)) | ((with_reducible show wpAny _ _ (call (Value.ref 94) _) _ _ _); (refine' use_RStr (collate_ok ?_ ?_ ?_) ?k1 ?k2 ?k3 ?k4 ?k5 ?kK ?kd ?ku ?_))); ((try (case k4 => walk_at "t_news")); ((case k1 => k_asm); (case k2 => k_asm); (case k3 => k_asm); (case k5 => k_asm); (case kK => first | exact rfl | assumption); (case kd => first | exact room9 (by with_reducible assumption) (by decide) | ktr_room); (case ku => first | exact unit9 (by with_reducible assumption) (by decide) | ktr_units)); (all_goals first | (fail_if_success (fail_if_success (intro (h9 : Heap)))) | (fail_if_success (refine of_prop ?_)) | with_reducible assumption | walk_at "t_prem" | assumption); k_whole))); (intros; (try k_fold))) | fail "none"); k_steps)))
    all_goals exact hret _ _ _ _ (RBool.of (by simp)) (by k_asm) (by k_asm)
end
local macro_rules | `(tactic| walk_at "t_allLt") => `(tactic| walk_at "t_leaf")
local macro_rules | `(tactic| walk_at "t_off") => `(tactic| first | (with_reducible assumption) | ((with_reducible refine' Off.cons ?oa ?ob); (case oa => k_ne); (case ob => walk_at "t_off")) | (refine off_of_allLt ?_; with_reducible (walk_at "t_allLt")))
section
theorem one_row {many : Nat} {objs : Led} {src th : Addr} {x y : Int} {tx ty : Tok} {ep n : Nat} {vs : List Value} (hm : (th, W.listOf vs.toArray n) ∈ news) (hin : RefsIn objs vs) (hrow : ∀ p ∈ objs, IsRow k many p) (hy : 0 ≤ y) (hy2 : y < 2147483647) (hlen : 0 < vs.length) (hlen2 : vs.length ≤ 100) (hd : Off src news) :
    Does w loose mean mg mb 208 2 [.ref src, .ref th] ((src, W.listOf #[.int x tx, .int y ty] ep) :: news) (RRow k many objs src news) :=
  Does.mono (one_ok hm hy hy2 hlen hlen2 hd) fun r l hr => by
    cases hr with
    | mk ta tb n a b hv b0 b1 =>
      obtain ⟨⟨a', o'⟩, hp, rfl⟩ := hin _ hv
      obtain ⟨us, n', e, hl, hg⟩ := hrow _ hp
      dsimp only at e
      subst e
      exact .mk a' us n' ta tb n a b hp hl hg b0 b1
local macro_rules | `(tactic| walk_at "r") => `(tactic| first | (refine' item_L ?_ ?_ ?_ ?_ ?_ ?_; k_dflt walk_at "t_do") | (refine' copy_L ?_ ?_ ?_ ?_ ?_; k_dflt walk_at "t_do") | (refine' set_L ?_ ?_ ?_ ?_ ?_ ?_ ?_ ?_; k_dflt walk_at "t_do"))
local macro_rules | `(tactic| walk_at "subscriptTail Name Name ref int") => `(tactic| (walk_at "r"; intro v' hv'))
local macro_rules | `(tactic| walk_at "call type:list") => `(tactic| (walk_at "r"; intro D' c' h' F' N' l1; (try k_lt l1); (try dsimp only)))
local macro_rules | `(tactic| walk_at "t_memapp") => `(tactic| first | exact List.mem_append_left _ (by assumption) | (refine List.mem_cons_of_mem _ ?_; walk_at "t_memapp"))
local macro_rules | `(tactic| walk_at "setItem ref int") => `(tactic| (walk_at "r"; intro h' F' N'; (try dsimp only)))
set_option maxHeartbeats 8000000 in
theorem rows_ok {src : Addr} {x y : Int} {tx ty tm : Tok} {ep many : Nat} (h1 : 1 ≤ many) (h3 : many ≤ 3) (hy : 0 ≤ y) (hy2 : y < 2147483647) (hd : Off src news) :
    Does w loose mean mg mb 258 12 [.ref src, .int (many : Int) tm] ((src, W.listOf #[.int x tx, .int y ty] ep) :: news) (RRows many src news) := by
  w_top off
  refine' entryC (bs := [.ref src, .int (many : Int) tm]) [Str.ofString "source", Str.ofString "many"] ?k6 ?k7 ?k9 ?kB ?kD ?c2 ?c3 ?c4 ?hn ?kx
  ((case' kx => k_fill); (case k6 => k_is); (case k7 => k_is); (case kB => exact rfl); (case kD => decide +kernel); (case c2 => exact rfl); (case c3 => exact rfl); (case c4 => exact rfl); (case hn => decide))
  (case k9 => ((intro s9 X9); first | exact BindsTo.of_eq rfl | exact binds_K X9 rfl (by k_is) rfl rfl rfl))
  intro c9 A9 base9 g9 h9 L9 ge9 dr9 tk9 os9 Q9 cells9 hdp hun F N Y B X T l1 hret
  (try k_lt l1)
  k_cells Y
  (try simp only [List.cons_append, List.nil_append] at N)
  (rename Fr _ _ _ _ => F0)
  obtain ⟨Lx, hLx⟩ := frame_addr F0
  subst hLx
  (rename _ ∧ AllLt _ _ => hl0)
  have hsL : @LT.lt Nat _ src Lx := hl0.1
  (rename Obj => oc)
  (k_steps; repeat (any_goals ((with_reducible refine unstop ?_); (first | ((k_dflt ((first | ((with_reducible show wpAny _ _ (call (Value.ref 208) _) _ _ _); (refine' use_RRow (one_row ?_ ?_ ?_ ?_ ?_ ?_ ?_ ?_) ?k1 ?k2 ?k3 ?k4 ?k5 ?kK ?kd ?ku ?_)) | ((with_reducible show wpAny _ _ (call (Value.ref 253) _) _ _ _); (refine' use_RVal (near_ok ?_ ?_ ?_ ?_ ?_) ?k1 ?k2 ?k3 ?k4 ?k5 ?kK ?kd ?ku ?_)) | ((with_reducible show wpAny _ _ (call (Value.ref 246) _) _ _ _); (refine' use_RVal (value_ok ?_ ?_ ?_) ?k1 ?k2 ?k3 ?k4 ?k5 ?kK ?kd ?ku ?_)) | ((with_reducible show wpAny _ _ (call (Value.ref 208) _) _ _ _); (first | (refine' use_ROneI (one_int (lo := 0) (hi := 255) ?qm ?ql ?_ ?_ ?_ ?_ ?_) ?k1 ?k2 ?k3 ?k4 ?k5 ?kK ?kd ?ku ?_; (case k4 => walk_at "t_news"); (case qm => walk_at "t_mem"); (case ql => walk_at "t_intin")) | (refine' use_ROneS (one_str (P := CollName) ?qm ?ql ?_ ?_ ?_ ?_ ?_) ?k1 ?k2 ?k3 ?k4 ?k5 ?kK ?kd ?ku ?_; (case k4 => walk_at "t_news"); (case qm => walk_at "t_mem"); (case ql => walk_at "t_colls")) | (refine' use_RVal (one_good (by assumption) ?qm ?ql ?_ ?_ ?_ ?_ ?_) ?k1 ?k2 ?k3 ?k4 ?k5 ?kK ?kd ?ku ?_; (case k4 => walk_at "t_news"); (case qm => walk_at "t_mem"); (case ql => walk_at "t_goods")) | (refine' use_ROne (one_ok ?_ ?_ ?_ ?_ ?_ ?_) ?k1 ?k2 ?k3 ?k4 ?k5 ?kK ?kd ?ku ?_))) | ((with_reducible show wpAny _ _ (call (Value.ref 201) _) _ _ _); (refine' use_RTake (take_ok ?_ ?_ ?_ ?_ ?_) ?k1 ?k2 ?k3 ?k4 ?k5 ?kK ?kd ?ku ?_))); ((try (case k4 => walk_at "t_news")); ((case k1 => k_asm); (case k2 => k_asm); (case k3 => k_asm); (case k5 => k_asm); (case kK => first | exact rfl | assumption); (case kd => first | exact room9 (by with_reducible assumption) (by decide) | ktr_room); (case ku => first | exact unit9 (by with_reducible assumption) (by decide) | ktr_units)); (all_goals first | (fail_if_success (fail_if_success (intro (h9 : Heap)))) | (fail_if_success (refine of_prop ?_)) | with_reducible assumption | walk_at "t_prem" | assumption); k_whole))); (intros; (try k_fold))) | fail "none"); k_steps)))
  unfold Stop
  (rename Fr _ _ _ _ => F1)
  (rename News _ _ _ _ => N1)
  refine comp_src (src := src) (n := many) (Good 3) rfl F1 (news_pull N1 (by walk_at "t_pull")) (by assumption) (by assumption) (by assumption) (range_smallN (by first | decide | omega)) (range_sizeN (by first | decide | omega)) (by rw [sizeLine_eq]; omega) ?_ ?_
  · intro g ys a b ta tb ep v I oI C oC D m₂ h tk E' hb0 hb1 hlen hP hC hx F2 N2 off ne
    simp only [LCg.Off3, and_true] at off
    (k_steps; repeat (any_goals ((with_reducible refine unstop ?_); (first | ((k_dflt ((first | ((with_reducible show wpAny _ _ (call (Value.ref 208) _) _ _ _); (refine' use_RRow (one_row ?_ ?_ ?_ ?_ ?_ ?_ ?_ ?_) ?k1 ?k2 ?k3 ?k4 ?k5 ?kK ?kd ?ku ?_)) | ((with_reducible show wpAny _ _ (call (Value.ref 253) _) _ _ _); (refine' use_RVal (near_ok ?_ ?_ ?_ ?_ ?_) ?k1 ?k2 ?k3 ?k4 ?k5 ?kK ?kd ?ku ?_)) | ((with_reducible show wpAny _ _ (call (Value.ref 246) _) _ _ _); (refine' use_RVal (value_ok ?_ ?_ ?_) ?k1 ?k2 ?k3 ?k4 ?k5 ?kK ?kd ?ku ?_)) | ((with_reducible show wpAny _ _ (call (Value.ref 208) _) _ _ _); (first | (refine' use_ROneI (one_int (lo := 0) (hi := 255) ?qm ?ql ?_ ?_ ?_ ?_ ?_) ?k1 ?k2 ?k3 ?k4 ?k5 ?kK ?kd ?ku ?_; (case k4 => walk_at "t_news"); (case qm => walk_at "t_mem"); (case ql => walk_at "t_intin")) | (refine' use_ROneS (one_str (P := CollName) ?qm ?ql ?_ ?_ ?_ ?_ ?_) ?k1 ?k2 ?k3 ?k4 ?k5 ?kK ?kd ?ku ?_; (case k4 => walk_at "t_news"); (case qm => walk_at "t_mem"); (case ql => walk_at "t_colls")) | (refine' use_RVal (one_good (by assumption) ?qm ?ql ?_ ?_ ?_ ?_ ?_) ?k1 ?k2 ?k3 ?k4 ?k5 ?kK ?kd ?ku ?_; (case k4 => walk_at "t_news"); (case qm => walk_at "t_mem"); (case ql => walk_at "t_goods")) | (refine' use_ROne (one_ok ?_ ?_ ?_ ?_ ?_ ?_) ?k1 ?k2 ?k3 ?k4 ?k5 ?kK ?kd ?ku ?_))) | ((with_reducible show wpAny _ _ (call (Value.ref 201) _) _ _ _); (refine' use_RTake (take_ok ?_ ?_ ?_ ?_ ?_) ?k1 ?k2 ?k3 ?k4 ?k5 ?kK ?kd ?ku ?_))); ((try (case k4 => walk_at "t_news")); ((case k1 => k_asm); (case k2 => k_asm); (case k3 => k_asm); (case k5 => k_asm); (case kK => first | exact rfl | assumption); (case kd => first | exact room9 (by with_reducible assumption) (by decide) | ktr_room); (case ku => first | exact unit9 (by with_reducible assumption) (by decide) | ktr_units)); (all_goals first | (fail_if_success (fail_if_success (intro (h9 : Heap)))) | (fail_if_success (refine of_prop ?_)) | with_reducible assumption | walk_at "t_prem" | assumption); k_whole))); (intros; (try k_fold))) | fail "none"); k_steps)))
    all_goals exact cend_of (by k_asm) (cend4 (by k_asm)) (by assumption) (by assumption) (by assumption)
  intro g ys a b ta tb ep2 hl hP hb0 hb1
  (k_steps; repeat (any_goals ((with_reducible refine unstop ?_); (first | ((k_dflt ((first | ((with_reducible show wpAny _ _ (call (Value.ref 208) _) _ _ _); (refine' use_RRow (one_row ?_ ?_ ?_ ?_ ?_ ?_ ?_ ?_) ?k1 ?k2 ?k3 ?k4 ?k5 ?kK ?kd ?ku ?_)) | ((with_reducible show wpAny _ _ (call (Value.ref 253) _) _ _ _); (refine' use_RVal (near_ok ?_ ?_ ?_ ?_ ?_) ?k1 ?k2 ?k3 ?k4 ?k5 ?kK ?kd ?ku ?_)) | ((with_reducible show wpAny _ _ (call (Value.ref 246) _) _ _ _); (refine' use_RVal (value_ok ?_ ?_ ?_) ?k1 ?k2 ?k3 ?k4 ?k5 ?kK ?kd ?ku ?_)) | ((with_reducible show wpAny _ _ (call (Value.ref 208) _) _ _ _); (first | (refine' use_ROneI (one_int (lo := 0) (hi := 255) ?qm ?ql ?_ ?_ ?_ ?_ ?_) ?k1 ?k2 ?k3 ?k4 ?k5 ?kK ?kd ?ku ?_; (case k4 => walk_at "t_news"); (case qm => walk_at "t_mem"); (case ql => walk_at "t_intin")) | (refine' use_ROneS (one_str (P := CollName) ?qm ?ql ?_ ?_ ?_ ?_ ?_) ?k1 ?k2 ?k3 ?k4 ?k5 ?kK ?kd ?ku ?_; (case k4 => walk_at "t_news"); (case qm => walk_at "t_mem"); (case ql => walk_at "t_colls")) | (refine' use_RVal (one_good (by assumption) ?qm ?ql ?_ ?_ ?_ ?_ ?_) ?k1 ?k2 ?k3 ?k4 ?k5 ?kK ?kd ?ku ?_; (case k4 => walk_at "t_news"); (case qm => walk_at "t_mem"); (case ql => walk_at "t_goods")) | (refine' use_ROne (one_ok ?_ ?_ ?_ ?_ ?_ ?_) ?k1 ?k2 ?k3 ?k4 ?k5 ?kK ?kd ?ku ?_))) | ((with_reducible show wpAny _ _ (call (Value.ref 201) _) _ _ _); (refine' use_RTake (take_ok ?_ ?_ ?_ ?_ ?_) ?k1 ?k2 ?k3 ?k4 ?k5 ?kK ?kd ?ku ?_))); ((try (case k4 => walk_at "t_news")); ((case k1 => k_asm); (case k2 => k_asm); (case k3 => k_asm); (case k5 => k_asm); (case kK => first | exact rfl | assumption); (case kd => first | exact room9 (by with_reducible assumption) (by decide) | ktr_room); (case ku => first | exact unit9 (by with_reducible assumption) (by decide) | ktr_units)); (all_goals first | (fail_if_success (fail_if_success (intro (h9 : Heap)))) | (fail_if_success (refine of_prop ?_)) | with_reducible assumption | walk_at "t_prem" | assumption); k_whole))); (intros; (try k_fold))) | fail "none"); k_steps)))
  unfold Stop
  (rename Fr _ _ _ _ => F1)
  (rename News _ _ _ _ => N1)
  (rename IsRange _ _ _ _ _ _ _ _ => R1)
  refine range_grow (n := 2) (RowInv src many tm (Lx + 1, oc) news) rfl R1 (by first | rfl | decide) (by first | rfl | decide) F1 (news := (_, _) :: (src, _) :: (Lx + 1, oc) :: ([(_, LCg.lst ys)] ++ news)) (news_sub N1 (by walk_at "t_sub")) ?_ ?_ ?_
  · refine ⟨_, _, _, _, _, _, _, _, [_], rfl, rfl, ?_, ?_, ?_, ?_, ?_, ?_, hb0, hb1, rfl, rfl⟩
    · exact fun v hv => ⟨_, .head _, List.mem_singleton.mp hv⟩
    · exact fun p hp => by rw [List.mem_singleton.mp hp]; exact ⟨ys, _, rfl, hl, hP⟩
    · walk_at "t_off"
    · k_ne
    · show Off _ (_ :: news)
      walk_at "t_off"
    · k_ne
  · rintro i m nx I it t h tk hi ⟨R, ep, es, a, b, ta, tb, objs, rs, rfl, hlen, hrs, hrow, hso, hRs, hRo, hRc, hb0, hb1, hm1, hm2⟩ hoff F2 N2
    rw [map_two hm1 hm2] at F2
    dsimp only at F2 hRc
    have hsa : Off src (objs ++ news) := hso.app hd
    have hRs' : @Ne Nat R src := hRs
    have hRc' : @Ne Nat R (Lx + 1) := hRc
    have hIR : @Ne Nat R I := hoff _ (.head _)
    have hIs : @Ne Nat src I := hoff _ (.tail _ (.head _))
    have hIc : @Ne Nat (Lx + 1) I := hoff _ (.tail _ (.tail _ (.head _)))
    have hoI : Off I (objs ++ news) := fun p hp => hoff p (.tail _ (.tail _ (.tail _ hp)))
    (k_steps; repeat (any_goals ((with_reducible refine unstop ?_); (first | ((k_dflt ((first | ((with_reducible show wpAny _ _ (call (Value.ref 208) _) _ _ _); (refine' use_RRow (one_row ?_ ?_ ?_ ?_ ?_ ?_ ?_ ?_) ?k1 ?k2 ?k3 ?k4 ?k5 ?kK ?kd ?ku ?_)) | ((with_reducible show wpAny _ _ (call (Value.ref 253) _) _ _ _); (refine' use_RVal (near_ok ?_ ?_ ?_ ?_ ?_) ?k1 ?k2 ?k3 ?k4 ?k5 ?kK ?kd ?ku ?_)) | ((with_reducible show wpAny _ _ (call (Value.ref 246) _) _ _ _); (refine' use_RVal (value_ok ?_ ?_ ?_) ?k1 ?k2 ?k3 ?k4 ?k5 ?kK ?kd ?ku ?_)) | ((with_reducible show wpAny _ _ (call (Value.ref 208) _) _ _ _); (first | (refine' use_ROneI (one_int (lo := 0) (hi := 255) ?qm ?ql ?_ ?_ ?_ ?_ ?_) ?k1 ?k2 ?k3 ?k4 ?k5 ?kK ?kd ?ku ?_; (case k4 => walk_at "t_news"); (case qm => walk_at "t_mem"); (case ql => walk_at "t_intin")) | (refine' use_ROneS (one_str (P := CollName) ?qm ?ql ?_ ?_ ?_ ?_ ?_) ?k1 ?k2 ?k3 ?k4 ?k5 ?kK ?kd ?ku ?_; (case k4 => walk_at "t_news"); (case qm => walk_at "t_mem"); (case ql => walk_at "t_colls")) | (refine' use_RVal (one_good (by assumption) ?qm ?ql ?_ ?_ ?_ ?_ ?_) ?k1 ?k2 ?k3 ?k4 ?k5 ?kK ?kd ?ku ?_; (case k4 => walk_at "t_news"); (case qm => walk_at "t_mem"); (case ql => walk_at "t_goods")) | (refine' use_ROne (one_ok ?_ ?_ ?_ ?_ ?_ ?_) ?k1 ?k2 ?k3 ?k4 ?k5 ?kK ?kd ?ku ?_))) | ((with_reducible show wpAny _ _ (call (Value.ref 201) _) _ _ _); (refine' use_RTake (take_ok ?_ ?_ ?_ ?_ ?_) ?k1 ?k2 ?k3 ?k4 ?k5 ?kK ?kd ?ku ?_))); ((try (case k4 => walk_at "t_news")); ((case k1 => k_asm); (case k2 => k_asm); (case k3 => k_asm); (case k5 => k_asm); (case kK => first | exact rfl | assumption); (case kd => first | exact room9 (by with_reducible assumption) (by decide) | ktr_room); (case ku => first | exact unit9 (by with_reducible assumption) (by decide) | ktr_units)); (all_goals first | (fail_if_success (fail_if_success (intro (h9 : Heap)))) | (fail_if_success (refine of_prop ?_)) | with_reducible assumption | walk_at "t_prem" | assumption); k_whole))); (intros; (try k_fold))) | fail "none"); k_steps)))
    · skip
      unfold Stop
      (rename Fr _ _ _ _ => F1)
      (rename News _ _ _ _ => N1)
      refine comp_src (src := src) (n := many) (Good 3) rfl F1 (news_pull N1 (by walk_at "t_pull")) (by assumption) (by assumption) (by assumption) (range_smallN (by first | decide | omega)) (range_sizeN (by first | decide | omega)) (by rw [sizeLine_eq]; omega) ?_ ?_
      · intro g ys a b ta tb ep v I oI C oC D m₂ h tk E' hb0 hb1 hlen hP hC hx F2 N2 off ne
        simp only [LCg.Off3, and_true] at off
        (k_steps; repeat (any_goals ((with_reducible refine unstop ?_); (first | ((k_dflt ((first | ((with_reducible show wpAny _ _ (call (Value.ref 208) _) _ _ _); (refine' use_RRow (one_row ?_ ?_ ?_ ?_ ?_ ?_ ?_ ?_) ?k1 ?k2 ?k3 ?k4 ?k5 ?kK ?kd ?ku ?_)) | ((with_reducible show wpAny _ _ (call (Value.ref 253) _) _ _ _); (refine' use_RVal (near_ok ?_ ?_ ?_ ?_ ?_) ?k1 ?k2 ?k3 ?k4 ?k5 ?kK ?kd ?ku ?_)) | ((with_reducible show wpAny _ _ (call (Value.ref 246) _) _ _ _); (refine' use_RVal (value_ok ?_ ?_ ?_) ?k1 ?k2 ?k3 ?k4 ?k5 ?kK ?kd ?ku ?_)) | ((with_reducible show wpAny _ _ (call (Value.ref 208) _) _ _ _); (first | (refine' use_ROneI (one_int (lo := 0) (hi := 255) ?qm ?ql ?_ ?_ ?_ ?_ ?_) ?k1 ?k2 ?k3 ?k4 ?k5 ?kK ?kd ?ku ?_; (case k4 => walk_at "t_news"); (case qm => walk_at "t_mem"); (case ql => walk_at "t_intin")) | (refine' use_ROneS (one_str (P := CollName) ?qm ?ql ?_ ?_ ?_ ?_ ?_) ?k1 ?k2 ?k3 ?k4 ?k5 ?kK ?kd ?ku ?_; (case k4 => walk_at "t_news"); (case qm => walk_at "t_mem"); (case ql => walk_at "t_colls")) | (refine' use_RVal (one_good (by assumption) ?qm ?ql ?_ ?_ ?_ ?_ ?_) ?k1 ?k2 ?k3 ?k4 ?k5 ?kK ?kd ?ku ?_; (case k4 => walk_at "t_news"); (case qm => walk_at "t_mem"); (case ql => walk_at "t_goods")) | (refine' use_ROne (one_ok ?_ ?_ ?_ ?_ ?_ ?_) ?k1 ?k2 ?k3 ?k4 ?k5 ?kK ?kd ?ku ?_))) | ((with_reducible show wpAny _ _ (call (Value.ref 201) _) _ _ _); (refine' use_RTake (take_ok ?_ ?_ ?_ ?_ ?_) ?k1 ?k2 ?k3 ?k4 ?k5 ?kK ?kd ?ku ?_))); ((try (case k4 => walk_at "t_news")); ((case k1 => k_asm); (case k2 => k_asm); (case k3 => k_asm); (case k5 => k_asm); (case kK => first | exact rfl | assumption); (case kd => first | exact room9 (by with_reducible assumption) (by decide) | ktr_room); (case ku => first | exact unit9 (by with_reducible assumption) (by decide) | ktr_units)); (all_goals first | (fail_if_success (fail_if_success (intro (h9 : Heap)))) | (fail_if_success (refine of_prop ?_)) | with_reducible assumption | walk_at "t_prem" | assumption); k_whole))); (intros; (try k_fold))) | fail "none"); k_steps)))
        all_goals exact cend_of (by k_asm) (cend4 (by k_asm)) (by assumption) (by assumption) (by assumption)
      intro g2 ys2 a2 b2 ta2 tb2 ep3 hl2 hP2 hb2 hb3
      (k_steps; repeat (any_goals ((with_reducible refine unstop ?_); (first | ((k_dflt ((first | ((with_reducible show wpAny _ _ (call (Value.ref 208) _) _ _ _); (refine' use_RRow (one_row ?_ ?_ ?_ ?_ ?_ ?_ ?_ ?_) ?k1 ?k2 ?k3 ?k4 ?k5 ?kK ?kd ?ku ?_)) | ((with_reducible show wpAny _ _ (call (Value.ref 253) _) _ _ _); (refine' use_RVal (near_ok ?_ ?_ ?_ ?_ ?_) ?k1 ?k2 ?k3 ?k4 ?k5 ?kK ?kd ?ku ?_)) | ((with_reducible show wpAny _ _ (call (Value.ref 246) _) _ _ _); (refine' use_RVal (value_ok ?_ ?_ ?_) ?k1 ?k2 ?k3 ?k4 ?k5 ?kK ?kd ?ku ?_)) | ((with_reducible show wpAny _ _ (call (Value.ref 208) _) _ _ _); (first | (refine' use_ROneI (one_int (lo := 0) (hi := 255) ?qm ?ql ?_ ?_ ?_ ?_ ?_) ?k1 ?k2 ?k3 ?k4 ?k5 ?kK ?kd ?ku ?_; (case k4 => walk_at "t_news"); (case qm => walk_at "t_mem"); (case ql => walk_at "t_intin")) | (refine' use_ROneS (one_str (P := CollName) ?qm ?ql ?_ ?_ ?_ ?_ ?_) ?k1 ?k2 ?k3 ?k4 ?k5 ?kK ?kd ?ku ?_; (case k4 => walk_at "t_news"); (case qm => walk_at "t_mem"); (case ql => walk_at "t_colls")) | (refine' use_RVal (one_good (by assumption) ?qm ?ql ?_ ?_ ?_ ?_ ?_) ?k1 ?k2 ?k3 ?k4 ?k5 ?kK ?kd ?ku ?_; (case k4 => walk_at "t_news"); (case qm => walk_at "t_mem"); (case ql => walk_at "t_goods")) | (refine' use_ROne (one_ok ?_ ?_ ?_ ?_ ?_ ?_) ?k1 ?k2 ?k3 ?k4 ?k5 ?kK ?kd ?ku ?_))) | ((with_reducible show wpAny _ _ (call (Value.ref 201) _) _ _ _); (refine' use_RTake (take_ok ?_ ?_ ?_ ?_ ?_) ?k1 ?k2 ?k3 ?k4 ?k5 ?kK ?kd ?ku ?_))); ((try (case k4 => walk_at "t_news")); ((case k1 => k_asm); (case k2 => k_asm); (case k3 => k_asm); (case k5 => k_asm); (case kK => first | exact rfl | assumption); (case kd => first | exact room9 (by with_reducible assumption) (by decide) | ktr_room); (case ku => first | exact unit9 (by with_reducible assumption) (by decide) | ktr_units)); (all_goals first | (fail_if_success (fail_if_success (intro (h9 : Heap)))) | (fail_if_success (refine of_prop ?_)) | with_reducible assumption | walk_at "t_prem" | assumption); k_whole))); (intros; (try k_fold))) | fail "none"); k_steps)))
      refine' ⟨_, _, _, (R, W.listOf (List.toArray (rs ++ [Value.ref ?DA])) (ep + 1)) :: (src, W.listOf #[.int ?aA ?taA, .int ?bA ?tbA] ?esA) :: (Lx + 1, oc) :: (((?DA, W.listOf (List.toArray ?VA) ?nA) :: objs) ++ news), rfl, ?wF, ?wN, ?wO, R, ep + 1, _, _, _, _, _, (?DA, W.listOf (List.toArray ?VA) ?nA) :: objs, rs ++ [Value.ref ?DA], rfl, ?e1, hrs.snoc, rows_grow hrow ?e2, ?e3, hRs, ?e4, hRc, ?e5, ?e6, ?e7, ?e8⟩
      case wF => k_asm
      case wN => exact news_sub (by k_asm) (by walk_at "t_sub")
      case wO =>
        show Off I (_ :: _ :: _ :: _ :: (objs ++ news))
        walk_at "t_off"
      case e1 => simp; omega
      case e3 => walk_at "t_off"
      case e4 =>
        show Off R (_ :: (objs ++ news))
        walk_at "t_off"
      case e5 => assumption
      case e6 => assumption
      case e7 => rfl
      case e8 => rfl
      case e2 => exact ⟨_, _, rfl, hl2, goods_up hP2 (by first | decide | omega)⟩
    · skip
      refine' ⟨_, _, _, (R, W.listOf (List.toArray (rs ++ [Value.ref ?DB])) (ep + 1)) :: (src, W.listOf #[.int ?aB ?taB, .int ?bB ?tbB] ?esB) :: (Lx + 1, oc) :: (((?DB, W.listOf (List.toArray ?VB) ?nB) :: objs) ++ news), rfl, ?wF, ?wN, ?wO, R, ep + 1, _, _, _, _, _, (?DB, W.listOf (List.toArray ?VB) ?nB) :: objs, rs ++ [Value.ref ?DB], rfl, ?e1, hrs.snoc, rows_grow hrow ?e2, ?e3, hRs, ?e4, hRc, ?e5, ?e6, ?e7, ?e8⟩
      case wF => k_asm
      case wN => exact news_sub (by k_asm) (by walk_at "t_sub")
      case wO =>
        show Off I (_ :: _ :: _ :: _ :: (objs ++ news))
        walk_at "t_off"
      case e1 => simp; omega
      case e3 => walk_at "t_off"
      case e4 =>
        show Off R (_ :: (objs ++ news))
        walk_at "t_off"
      case e5 => assumption
      case e6 => assumption
      case e7 => rfl
      case e8 => rfl
      case e2 => exact ⟨_, _, rfl, by rw [List.length_set]; omega, goods_set (by assumption) (Nat.le_succ _) (by assumption)⟩
  · rintro m nx h tk ⟨R, ep, es, a, b, ta, tb, objs, rs, rfl, hlen, hrs, hrow, hso, hRs, hRo, hRc, hb0, hb1, hm1, hm2⟩ F2 N2
    rw [map_two hm1 hm2] at F2
    (k_steps; repeat (any_goals ((with_reducible refine unstop ?_); (first | ((k_dflt ((first | ((with_reducible show wpAny _ _ (call (Value.ref 208) _) _ _ _); (refine' use_RRow (one_row ?_ ?_ ?_ ?_ ?_ ?_ ?_ ?_) ?k1 ?k2 ?k3 ?k4 ?k5 ?kK ?kd ?ku ?_)) | ((with_reducible show wpAny _ _ (call (Value.ref 253) _) _ _ _); (refine' use_RVal (near_ok ?_ ?_ ?_ ?_ ?_) ?k1 ?k2 ?k3 ?k4 ?k5 ?kK ?kd ?ku ?_)) | ((with_reducible show wpAny _ _ (call (Value.ref 246) _) _ _ _); (refine' use_RVal (value_ok ?_ ?_ ?_) ?k1 ?k2 ?k3 ?k4 ?k5 ?kK ?kd ?ku ?_)) | ((with_reducible show wpAny _ _ (call (Value.ref 208) _) _ _ _); (first | (refine' use_ROneI (one_int (lo := 0) (hi := 255) ?qm ?ql ?_ ?_ ?_ ?_ ?_) ?k1 ?k2 ?k3 ?k4 ?k5 ?kK ?kd ?ku ?_; (case k4 => walk_at "t_news"); (case qm => walk_at "t_mem"); (case ql => walk_at "t_intin")) | (refine' use_ROneS (one_str (P := CollName) ?qm ?ql ?_ ?_ ?_ ?_ ?_) ?k1 ?k2 ?k3 ?k4 ?k5 ?kK ?kd ?ku ?_; (case k4 => walk_at "t_news"); (case qm => walk_at "t_mem"); (case ql => walk_at "t_colls")) | (refine' use_RVal (one_good (by assumption) ?qm ?ql ?_ ?_ ?_ ?_ ?_) ?k1 ?k2 ?k3 ?k4 ?k5 ?kK ?kd ?ku ?_; (case k4 => walk_at "t_news"); (case qm => walk_at "t_mem"); (case ql => walk_at "t_goods")) | (refine' use_ROne (one_ok ?_ ?_ ?_ ?_ ?_ ?_) ?k1 ?k2 ?k3 ?k4 ?k5 ?kK ?kd ?ku ?_))) | ((with_reducible show wpAny _ _ (call (Value.ref 201) _) _ _ _); (refine' use_RTake (take_ok ?_ ?_ ?_ ?_ ?_) ?k1 ?k2 ?k3 ?k4 ?k5 ?kK ?kd ?ku ?_))); ((try (case k4 => walk_at "t_news")); ((case k1 => k_asm); (case k2 => k_asm); (case k3 => k_asm); (case k5 => k_asm); (case kK => first | exact rfl | assumption); (case kd => first | exact room9 (by with_reducible assumption) (by decide) | ktr_room); (case ku => first | exact unit9 (by with_reducible assumption) (by decide) | ktr_units)); (all_goals first | (fail_if_success (fail_if_success (intro (h9 : Heap)))) | (fail_if_success (refine of_prop ?_)) | with_reducible assumption | walk_at "t_prem" | assumption); k_whole))); (intros; (try k_fold))) | fail "none"); k_steps)))
    all_goals exact hret _ _ _ _ (RRows.mk R ep es a b ta tb objs rs hlen hrs hrow hso hRs hb0 hb1) (by k_asm) (news_sub (by k_asm) (by walk_at "t_sub"))
end
local macro_rules | `(tactic| walk_at "t_size") => `(tactic| first | omega | (simp; done) | (simp only [Array.size_push, Array.size_append, Array.size_empty]; omega) | (simp only [Array.size_push, Array.size_append, Array.size_empty] at *; omega))
local macro_rules | `(tactic| walk_at "call type:bytes") => `(tactic| (k_here; (with_reducible show wpAny _ _ (call (Value.type "bytes") [Value.ref _]) _ _ _); (k_dflt (refine' bytes_B (by k_asm) ?m ?z ?_; (case m => walk_at "t_memba"); (case z => walk_at "t_size"); k_whole)); intro t' k'; (try dsimp only)))
local macro_rules | `(tactic| walk_at "t_memba") => `(tactic| first | exact (show (_, baObj _) ∈ _ from List.Mem.head _) | (refine List.mem_cons_of_mem _ ?_; walk_at "t_memba"))
section
set_option maxHeartbeats 8000000 in
theorem utf8_ok {x : Str} {t : Tok} (hx : x.cps.size ≤ 64) (hc : ∀ c ∈ x.cps.toList, c < 1114112) : DoesC w loose mean mg mb 66 2 [.str x t] news (RBytes (utf8S x) news) := by
  w_top off
  refine' entryK (bs := [.str x t]) [Str.ofString "text"] ?k6 ?k7 ?k9 ?kB ?c5 ?c2 ?c3 ?c4 ?hn ?kx
  ((case' kx => k_fill); (case k6 => k_is); (case k7 => k_is); (case kB => exact locs rfl); (case c5 => decide); (case c2 => exact rfl); (case c3 => exact rfl); (case c4 => exact rfl); (case hn => decide))
  (case k9 => ((intro s9 X9); first | exact BindsTo.of_eq rfl | exact binds_K X9 rfl (by k_is) rfl rfl rfl))
  intro c9 A9 base9 g9 h9 L9 ge9 dr9 tk9 os9 Q9 hdp hun F N B X T hret
  (refine cSet (cCall_Name ?_); k_steps; (show wpC _ _ (callWith _ (Value.type "bytearray") [] [] []) _ _); refine cCallWith_0 (by intro a h; cases h) (newba_L (by k_asm) (by k_asm) ?_); intro D' h' F' N' l1; (try k_lt l1); k_steps; (try dsimp only))
  refine cForS ?_
  k_steps
  unfold Stop
  (rename Fr _ _ _ _ => F1)
  (rename News _ _ _ _ => N1)
  refine for_strC (σ := List Nat) (fun c => [(_, baObj (octs c))]) [Str.ofString "code", Str.ofString "sign"] (fun i c _ => c = (x.cps.toList.take i).flatMap enc) [] rfl rfl rfl F1 N1 (fun _ => rfl) rfl ?_ ?_
  · rintro i d u hd l m₁ h tk rest hI hu hsub hoff F2 N2
    have ho := hoff _ (List.mem_singleton.mpr rfl) (by walk_at "t_off")
    dsimp only [List.cons_append, List.nil_append] at N2 hI
    have hd' : x.cps.toList[i]? = some d := by simpa using hd
    have hd0 : d < 1114112 := hc d (List.mem_of_getElem? hd')
    have hil : (octs l).size ≤ 256 := by
      rw [octs_size, hI]
      have := encs_len (x.cps.toList.take i)
      simp only [List.length_take] at this
      have h2 : x.cps.toList.length = x.cps.size := by simp
      omega
    have nxt : (x.cps.toList.take (i + 1)).flatMap enc = l ++ enc d := by rw [take_snoc hd', List.flatMap_append, hI]; simp
    (refine cStep ?_; k_steps; (try dsimp only))
    refine cCase ?_
    k_steps
    · (rename _ < _ => g1)
      (refine cBa BA.slot_append ty_append ?_; (k_steps; (rename News _ _ _ _ => N'); (refine' ⟨_, _, rfl, ?z, cCallWith_1 (by intro a h; cases h) (cAny ?_)⟩; (case z => exact (N' (_, _) (by walk_at "t_mem")).1)); k_steps); (show wpC _ _ (call _ [Value.ref _, Value.int _ _]) _ _); (refine' append_B (by k_asm) (by k_asm) ?P ?o ?a ?b ?z ?_; (case P => walk_at "t_pull"); (case o => walk_at "t_off"); (case a => omega); (case b => omega); (case z => walk_at "t_size")); intro h' F' N'; refine ⟨rfl, ?_⟩)
      (repeat (refine cExecs_nil ?_; (try dsimp only)))
      refine ⟨_, _, _, _, rfl, by k_asm, ?_, l ++ enc d, rfl, nxt.symm, ?_⟩
      · rw [← enc1 g1]
        k_asm
      · intro y hy
        simp at hy
        simp [hy]
    · (rename ¬ _ < _ => g1)
      refine cCase ?_
      k_steps
      · (rename _ < _ => g2)
        (refine cBa BA.slot_append ty_append ?_; (k_steps; (rename News _ _ _ _ => N'); (refine' ⟨_, _, rfl, ?z, cCallWith_1 (by intro a h; cases h) (cAny ?_)⟩; (case z => exact (N' (_, _) (by walk_at "t_mem")).1)); k_steps); (show wpC _ _ (call _ [Value.ref _, Value.int _ _]) _ _); (refine' append_B (by k_asm) (by k_asm) ?P ?o ?a ?b ?z ?_; (case P => walk_at "t_pull"); (case o => walk_at "t_off"); (case a => omega); (case b => omega); (case z => walk_at "t_size")); intro h' F' N'; refine ⟨rfl, ?_⟩)
        (refine cBa BA.slot_append ty_append ?_; (k_steps; (rename News _ _ _ _ => N'); (refine' ⟨_, _, rfl, ?z, cCallWith_1 (by intro a h; cases h) (cAny ?_)⟩; (case z => exact (N' (_, _) (by walk_at "t_mem")).1)); k_steps); (show wpC _ _ (call _ [Value.ref _, Value.int _ _]) _ _); (refine' append_B (by k_asm) (by k_asm) ?P ?o ?a ?b ?z ?_; (case P => walk_at "t_pull"); (case o => walk_at "t_off"); (case a => omega); (case b => omega); (case z => walk_at "t_size")); intro h' F' N'; refine ⟨rfl, ?_⟩)
        (repeat (refine cExecs_nil ?_; (try dsimp only)))
        refine ⟨_, _, _, _, rfl, by k_asm, ?_, l ++ enc d, rfl, nxt.symm, ?_⟩
        · rw [← enc2 g1 g2]
          k_asm
        · intro y hy
          simp at hy
          simp [hy]
      · (rename ¬ _ < _ => g2)
        refine cCase ?_
        k_steps
        · (rename _ < _ => g3)
          (refine cBa BA.slot_append ty_append ?_; (k_steps; (rename News _ _ _ _ => N'); (refine' ⟨_, _, rfl, ?z, cCallWith_1 (by intro a h; cases h) (cAny ?_)⟩; (case z => exact (N' (_, _) (by walk_at "t_mem")).1)); k_steps); (show wpC _ _ (call _ [Value.ref _, Value.int _ _]) _ _); (refine' append_B (by k_asm) (by k_asm) ?P ?o ?a ?b ?z ?_; (case P => walk_at "t_pull"); (case o => walk_at "t_off"); (case a => omega); (case b => omega); (case z => walk_at "t_size")); intro h' F' N'; refine ⟨rfl, ?_⟩)
          (refine cBa BA.slot_append ty_append ?_; (k_steps; (rename News _ _ _ _ => N'); (refine' ⟨_, _, rfl, ?z, cCallWith_1 (by intro a h; cases h) (cAny ?_)⟩; (case z => exact (N' (_, _) (by walk_at "t_mem")).1)); k_steps); (show wpC _ _ (call _ [Value.ref _, Value.int _ _]) _ _); (refine' append_B (by k_asm) (by k_asm) ?P ?o ?a ?b ?z ?_; (case P => walk_at "t_pull"); (case o => walk_at "t_off"); (case a => omega); (case b => omega); (case z => walk_at "t_size")); intro h' F' N'; refine ⟨rfl, ?_⟩)
          (refine cBa BA.slot_append ty_append ?_; (k_steps; (rename News _ _ _ _ => N'); (refine' ⟨_, _, rfl, ?z, cCallWith_1 (by intro a h; cases h) (cAny ?_)⟩; (case z => exact (N' (_, _) (by walk_at "t_mem")).1)); k_steps); (show wpC _ _ (call _ [Value.ref _, Value.int _ _]) _ _); (refine' append_B (by k_asm) (by k_asm) ?P ?o ?a ?b ?z ?_; (case P => walk_at "t_pull"); (case o => walk_at "t_off"); (case a => omega); (case b => omega); (case z => walk_at "t_size")); intro h' F' N'; refine ⟨rfl, ?_⟩)
          (repeat (refine cExecs_nil ?_; (try dsimp only)))
          refine ⟨_, _, _, _, rfl, by k_asm, ?_, l ++ enc d, rfl, nxt.symm, ?_⟩
          · rw [← enc3 g1 g2 g3]
            k_asm
          · intro y hy
            simp at hy
            simp [hy]
        · (rename ¬ _ < _ => g3)
          (refine cBa BA.slot_append ty_append ?_; (k_steps; (rename News _ _ _ _ => N'); (refine' ⟨_, _, rfl, ?z, cCallWith_1 (by intro a h; cases h) (cAny ?_)⟩; (case z => exact (N' (_, _) (by walk_at "t_mem")).1)); k_steps); (show wpC _ _ (call _ [Value.ref _, Value.int _ _]) _ _); (refine' append_B (by k_asm) (by k_asm) ?P ?o ?a ?b ?z ?_; (case P => walk_at "t_pull"); (case o => walk_at "t_off"); (case a => omega); (case b => omega); (case z => walk_at "t_size")); intro h' F' N'; refine ⟨rfl, ?_⟩)
          (refine cBa BA.slot_append ty_append ?_; (k_steps; (rename News _ _ _ _ => N'); (refine' ⟨_, _, rfl, ?z, cCallWith_1 (by intro a h; cases h) (cAny ?_)⟩; (case z => exact (N' (_, _) (by walk_at "t_mem")).1)); k_steps); (show wpC _ _ (call _ [Value.ref _, Value.int _ _]) _ _); (refine' append_B (by k_asm) (by k_asm) ?P ?o ?a ?b ?z ?_; (case P => walk_at "t_pull"); (case o => walk_at "t_off"); (case a => omega); (case b => omega); (case z => walk_at "t_size")); intro h' F' N'; refine ⟨rfl, ?_⟩)
          (refine cBa BA.slot_append ty_append ?_; (k_steps; (rename News _ _ _ _ => N'); (refine' ⟨_, _, rfl, ?z, cCallWith_1 (by intro a h; cases h) (cAny ?_)⟩; (case z => exact (N' (_, _) (by walk_at "t_mem")).1)); k_steps); (show wpC _ _ (call _ [Value.ref _, Value.int _ _]) _ _); (refine' append_B (by k_asm) (by k_asm) ?P ?o ?a ?b ?z ?_; (case P => walk_at "t_pull"); (case o => walk_at "t_off"); (case a => omega); (case b => omega); (case z => walk_at "t_size")); intro h' F' N'; refine ⟨rfl, ?_⟩)
          (refine cBa BA.slot_append ty_append ?_; (k_steps; (rename News _ _ _ _ => N'); (refine' ⟨_, _, rfl, ?z, cCallWith_1 (by intro a h; cases h) (cAny ?_)⟩; (case z => exact (N' (_, _) (by walk_at "t_mem")).1)); k_steps); (show wpC _ _ (call _ [Value.ref _, Value.int _ _]) _ _); (refine' append_B (by k_asm) (by k_asm) ?P ?o ?a ?b ?z ?_; (case P => walk_at "t_pull"); (case o => walk_at "t_off"); (case a => omega); (case b => omega); (case z => walk_at "t_size")); intro h' F' N'; refine ⟨rfl, ?_⟩)
          (repeat (refine cExecs_nil ?_; (try dsimp only)))
          refine ⟨_, _, _, _, rfl, by k_asm, ?_, l ++ enc d, rfl, nxt.symm, ?_⟩
          · rw [← enc4 g1 g2 g3]
            k_asm
          · intro y hy
            simp at hy
            simp [hy]
  · rintro l m₁ h tk hI hu F2 N2
    dsimp only [List.cons_append, List.nil_append] at N2 hI
    have hil : (octs l).size ≤ 256 := by
      rw [octs_size, hI]
      have := encs_len (x.cps.toList.take x.cps.size)
      simp only [List.length_take] at this
      omega
    dsimp only
    (refine cStep ?_; k_steps; (try dsimp only))
    all_goals (refine hret _ _ _ _ (RBytes.of ?_) (by k_asm) (news_sub (by k_asm) fun p hp => List.mem_cons_of_mem _ hp))
    rw [hI, utf8S, show x.cps.size = x.cps.toList.length from by simp, List.take_length]
end
local macro_rules | `(tactic| walk_at "pad7") => `(tactic| skip)
section
set_option maxHeartbeats 8000000 in
theorem ended_ok {o : Array UInt8} {t : Tok} (hx : o.size ≤ 1000) : DoesC w loose mean mg mb 173 2 [.bytes o t] news (RBA (endedA o) news) := by
  w_top off
  refine' entryK (bs := [.bytes o t]) [Str.ofString "octets"] ?k6 ?k7 ?k9 ?kB ?c5 ?c2 ?c3 ?c4 ?hn ?kx
  ((case' kx => k_fill); (case k6 => k_is); (case k7 => k_is); (case kB => exact locs rfl); (case c5 => decide); (case c2 => exact rfl); (case c3 => exact rfl); (case c4 => exact rfl); (case hn => decide))
  (case k9 => ((intro s9 X9); first | exact BindsTo.of_eq rfl | exact binds_K X9 rfl (by k_is) rfl rfl rfl))
  intro c9 A9 base9 g9 h9 L9 ge9 dr9 tk9 os9 Q9 hdp hun F N B X T hret
  (refine cSet (cCall_Name ?_); k_steps; (show wpC _ _ (callWith _ (Value.type "bytearray") [] [] []) _ _); refine cCallWith_0 (by intro a h; cases h) (newba_L (by k_asm) (by k_asm) ?_); intro D' h' F' N' l1; (try k_lt l1); k_steps; (try dsimp only))
  have hol : o.toList.length = o.size := by simp
  refine cForS ?_
  k_steps
  unfold Stop
  (rename Fr _ _ _ _ => F1)
  (rename News _ _ _ _ => N1)
  refine for_bytesC (σ := List UInt8) (fun c => [(_, baObj c.toArray)]) [Str.ofString "octet"] (fun i c _ => c = endL (o.toList.take i)) [] rfl rfl rfl F1 N1 (fun _ => rfl) rfl ?_ ?_
  · rintro i c u hd l m₁ h tk rest hI hu hsub hoff F2 N2
    have ho := hoff _ (List.mem_singleton.mpr rfl) (by walk_at "t_off")
    dsimp only [List.cons_append, List.nil_append] at N2 hI
    have hd' : o.toList[i]? = some c := by simpa using hd
    have hc1 := c.toNat_lt
    have hil : l.toArray.size ≤ 2000 := by
      have := endL_len (o.toList.take i)
      simp only [List.length_take] at this
      rw [List.size_toArray, hI]
      omega
    (refine cBa BA.slot_append ty_append ?_; (k_steps; (rename News _ _ _ _ => N'); (refine' ⟨_, _, rfl, ?z, cCallWith_1 (by intro a h; cases h) (cAny ?_)⟩; (case z => exact (N' (_, _) (by walk_at "t_mem")).1)); k_steps); (show wpC _ _ (call _ [Value.ref _, Value.int _ _]) _ _); (refine' append_B (by k_asm) (by k_asm) ?P ?o ?a ?b ?z ?_; (case P => walk_at "t_pull"); (case o => walk_at "t_off"); (case a => omega); (case b => omega); (case z => walk_at "t_size")); intro h' F' N'; refine ⟨rfl, ?_⟩)
    refine cCase ?_
    k_steps
    · (rename ((_ : Nat) : Int) = 0 => g1)
      (refine cBa BA.slot_append ty_append ?_; (k_steps; (rename News _ _ _ _ => N'); (refine' ⟨_, _, rfl, ?z, cCallWith_1 (by intro a h; cases h) (cAny ?_)⟩; (case z => exact (N' (_, _) (by walk_at "t_mem")).1)); k_steps); (show wpC _ _ (call _ [Value.ref _, Value.int _ _]) _ _); (refine' append_B (by k_asm) (by k_asm) ?P ?o ?a ?b ?z ?_; (case P => walk_at "t_pull"); (case o => walk_at "t_off"); (case a => omega); (case b => omega); (case z => walk_at "t_size")); intro h' F' N'; refine ⟨rfl, ?_⟩)
      (repeat (refine cExecs_nil ?_; (try dsimp only)))
      refine ⟨_, _, _, _, rfl, by k_asm, ?_, l ++ (if c = 0 then [0, 255] else [c]), rfl, by rw [take_snoc hd', endL_snoc, hI], ?_⟩
      · rw [← end1 g1]
        k_asm
      · intro y hy
        simp at hy
        simp [hy]
    · (rename ((_ : Nat) : Int) ≠ 0 => g1)
      (repeat (refine cExecs_nil ?_; (try dsimp only)))
      refine ⟨_, _, _, _, rfl, by k_asm, ?_, l ++ (if c = 0 then [0, 255] else [c]), rfl, by rw [take_snoc hd', endL_snoc, hI], ?_⟩
      · rw [← end2 g1]
        k_asm
      · intro y hy
        simp at hy
        simp [hy]
  · rintro l m₁ h tk hI hu F2 N2
    dsimp only [List.cons_append, List.nil_append] at N2 hI
    have hil : l.toArray.size ≤ 2000 := by
      have := endL_len (o.toList.take o.size)
      simp only [List.length_take] at this
      rw [List.size_toArray, hI]
      omega
    dsimp only
    (refine cBa BA.slot_append ty_append ?_; (k_steps; (rename News _ _ _ _ => N'); (refine' ⟨_, _, rfl, ?z, cCallWith_1 (by intro a h; cases h) (cAny ?_)⟩; (case z => exact (N' (_, _) (by walk_at "t_mem")).1)); k_steps); (show wpC _ _ (call _ [Value.ref _, Value.int _ _]) _ _); (refine' append_B (by k_asm) (by k_asm) ?P ?o ?a ?b ?z ?_; (case P => walk_at "t_pull"); (case o => walk_at "t_off"); (case a => omega); (case b => omega); (case z => walk_at "t_size")); intro h' F' N'; refine ⟨rfl, ?_⟩)
    (refine cBa BA.slot_append ty_append ?_; (k_steps; (rename News _ _ _ _ => N'); (refine' ⟨_, _, rfl, ?z, cCallWith_1 (by intro a h; cases h) (cAny ?_)⟩; (case z => exact (N' (_, _) (by walk_at "t_mem")).1)); k_steps); (show wpC _ _ (call _ [Value.ref _, Value.int _ _]) _ _); (refine' append_B (by k_asm) (by k_asm) ?P ?o ?a ?b ?z ?_; (case P => walk_at "t_pull"); (case o => walk_at "t_off"); (case a => omega); (case b => omega); (case z => walk_at "t_size")); intro h' F' N'; refine ⟨rfl, ?_⟩)
    (refine cStep ?_; k_steps; (try dsimp only))
    all_goals exact hret _ _ _ _ (RBA.mk _ _ (end3 hI) (by walk_at "t_off")) (by k_asm) (by k_asm)
end
local macro_rules | `(tactic| walk_at "pad8") => `(tactic| skip)
section
set_option maxHeartbeats 8000000 in
theorem part_none {c : Str} {u : Tok} : DoesC w loose mean mg mb 180 6 [.none, .str c u] news (RBA (partV c .none) news) := by
  w_top off
  refine' entryK (bs := [.none, .str c u]) [Str.ofString "v", Str.ofString "collation"] ?k6 ?k7 ?k9 ?kB ?c5 ?c2 ?c3 ?c4 ?hn ?kx
  ((case' kx => k_fill); (case k6 => k_is); (case k7 => k_is); (case kB => exact locs rfl); (case c5 => decide); (case c2 => exact rfl); (case c3 => exact rfl); (case c4 => exact rfl); (case hn => decide))
  (case k9 => ((intro s9 X9); first | exact BindsTo.of_eq rfl | exact binds_K X9 rfl (by k_is) rfl rfl rfl))
  intro c9 A9 base9 g9 h9 L9 ge9 dr9 tk9 os9 Q9 hdp hun F N B X T hret
  (refine cStep ?_; (k_steps; repeat (any_goals ((with_reducible refine unstop ?_); (first | ((k_dflt ((first | ((with_reducible show wpAny _ _ (call (Value.ref 116) _) _ _ _); (refine' use_RBytes (fixed_ok ?qa ?qb) ?k1 ?k2 ?k3 ?k4 ?k5 ?kK ?kd ?ku ?_; (case qa => (rw [show Int.fdiv 18446744073709551616 2 = 9223372036854775808 from by decide]; omega)); (case qb => (rw [show Int.fdiv 18446744073709551616 2 = 9223372036854775808 from by decide]; omega)))) | ((with_reducible show wpAny _ _ (call (Value.ref 87) _) _ _ _); (refine' use_RBool (inr_ok ?_ ?_) ?k1 ?k2 ?k3 ?k4 ?k5 ?kK ?kd ?ku ?_)) | ((with_reducible show wpAny _ _ (call (Value.ref 94) _) _ _ _); (refine' use_RStr (collate_ok ?_ ?_ ?_) ?k1 ?k2 ?k3 ?k4 ?k5 ?kK ?kd ?ku ?_)) | ((with_reducible show wpAny _ _ (call (Value.ref 80) _) _ _ _); (first | (refine' use_RStr stc_none ?k1 ?k2 ?k3 ?k4 ?k5 ?kK ?kd ?ku ?_) | (refine' use_RStr stc_int ?k1 ?k2 ?k3 ?k4 ?k5 ?kK ?kd ?ku ?_) | (refine' use_RStr stc_str ?k1 ?k2 ?k3 ?k4 ?k5 ?kK ?kd ?ku ?_) | (refine' use_RStr stc_bytes ?k1 ?k2 ?k3 ?k4 ?k5 ?kK ?kd ?ku ?_) | (refine' use_RStr (stc_ok (by assumption)) ?k1 ?k2 ?k3 ?k4 ?k5 ?kK ?kd ?ku ?_)))); ((try (case k4 => walk_at "t_news")); ((case k1 => k_asm); (case k2 => k_asm); (case k3 => k_asm); (case k5 => k_asm); (case kK => first | exact rfl | assumption); (case kd => first | exact room9 (by with_reducible assumption) (by decide) | ktr_room); (case ku => first | exact unit9 (by with_reducible assumption) (by decide) | ktr_units)); (all_goals first | (fail_if_success (fail_if_success (intro (h9 : Heap)))) | (fail_if_success (refine of_prop ?_)) | with_reducible assumption | walk_at "t_prem" | assumption); k_whole))); (intros; (try k_fold))) | fail "none"); k_steps))); (try dsimp only))
  (refine cSet (cCall_Name ?_); k_steps; (show wpC _ _ (callWith _ (Value.type "bytearray") [] [] []) _ _); refine cCallWith_0 (by intro a h; cases h) (newba_L (by k_asm) (by k_asm) ?_); intro D' h' F' N' l1; (try k_lt l1); k_steps; (try dsimp only))
  refine cCase ?_
  (k_steps; repeat (any_goals ((with_reducible refine unstop ?_); (first | ((k_dflt ((first | ((with_reducible show wpAny _ _ (call (Value.ref 116) _) _ _ _); (refine' use_RBytes (fixed_ok ?qa ?qb) ?k1 ?k2 ?k3 ?k4 ?k5 ?kK ?kd ?ku ?_; (case qa => (rw [show Int.fdiv 18446744073709551616 2 = 9223372036854775808 from by decide]; omega)); (case qb => (rw [show Int.fdiv 18446744073709551616 2 = 9223372036854775808 from by decide]; omega)))) | ((with_reducible show wpAny _ _ (call (Value.ref 87) _) _ _ _); (refine' use_RBool (inr_ok ?_ ?_) ?k1 ?k2 ?k3 ?k4 ?k5 ?kK ?kd ?ku ?_)) | ((with_reducible show wpAny _ _ (call (Value.ref 94) _) _ _ _); (refine' use_RStr (collate_ok ?_ ?_ ?_) ?k1 ?k2 ?k3 ?k4 ?k5 ?kK ?kd ?ku ?_)) | ((with_reducible show wpAny _ _ (call (Value.ref 80) _) _ _ _); (first | (refine' use_RStr stc_none ?k1 ?k2 ?k3 ?k4 ?k5 ?kK ?kd ?ku ?_) | (refine' use_RStr stc_int ?k1 ?k2 ?k3 ?k4 ?k5 ?kK ?kd ?ku ?_) | (refine' use_RStr stc_str ?k1 ?k2 ?k3 ?k4 ?k5 ?kK ?kd ?ku ?_) | (refine' use_RStr stc_bytes ?k1 ?k2 ?k3 ?k4 ?k5 ?kK ?kd ?ku ?_) | (refine' use_RStr (stc_ok (by assumption)) ?k1 ?k2 ?k3 ?k4 ?k5 ?kK ?kd ?ku ?_)))); ((try (case k4 => walk_at "t_news")); ((case k1 => k_asm); (case k2 => k_asm); (case k3 => k_asm); (case k5 => k_asm); (case kK => first | exact rfl | assumption); (case kd => first | exact room9 (by with_reducible assumption) (by decide) | ktr_room); (case ku => first | exact unit9 (by with_reducible assumption) (by decide) | ktr_units)); (all_goals first | (fail_if_success (fail_if_success (intro (h9 : Heap)))) | (fail_if_success (refine of_prop ?_)) | with_reducible assumption | walk_at "t_prem" | assumption); k_whole))); (intros; (try k_fold))) | fail "none"); k_steps)))
  (refine cBa BA.slot_append ty_append ?_; (k_steps; (rename News _ _ _ _ => N'); (refine' ⟨_, _, rfl, ?z, cCallWith_1 (by intro a h; cases h) (cAny ?_)⟩; (case z => exact (N' (_, _) (by walk_at "t_mem")).1)); k_steps); (show wpC _ _ (call _ [Value.ref _, Value.int _ _]) _ _); (refine' append_B (by k_asm) (by k_asm) ?P ?o ?a ?b ?z ?_; (case P => walk_at "t_pull"); (case o => walk_at "t_off"); (case a => omega); (case b => omega); (case z => walk_at "t_size")); intro h' F' N'; refine ⟨rfl, ?_⟩)
  (repeat (refine cExecs_nil ?_; (try dsimp only)))
  (refine cStep ?_; (k_steps; repeat (any_goals ((with_reducible refine unstop ?_); (first | ((k_dflt ((first | ((with_reducible show wpAny _ _ (call (Value.ref 116) _) _ _ _); (refine' use_RBytes (fixed_ok ?qa ?qb) ?k1 ?k2 ?k3 ?k4 ?k5 ?kK ?kd ?ku ?_; (case qa => (rw [show Int.fdiv 18446744073709551616 2 = 9223372036854775808 from by decide]; omega)); (case qb => (rw [show Int.fdiv 18446744073709551616 2 = 9223372036854775808 from by decide]; omega)))) | ((with_reducible show wpAny _ _ (call (Value.ref 87) _) _ _ _); (refine' use_RBool (inr_ok ?_ ?_) ?k1 ?k2 ?k3 ?k4 ?k5 ?kK ?kd ?ku ?_)) | ((with_reducible show wpAny _ _ (call (Value.ref 94) _) _ _ _); (refine' use_RStr (collate_ok ?_ ?_ ?_) ?k1 ?k2 ?k3 ?k4 ?k5 ?kK ?kd ?ku ?_)) | ((with_reducible show wpAny _ _ (call (Value.ref 80) _) _ _ _); (first | (refine' use_RStr stc_none ?k1 ?k2 ?k3 ?k4 ?k5 ?kK ?kd ?ku ?_) | (refine' use_RStr stc_int ?k1 ?k2 ?k3 ?k4 ?k5 ?kK ?kd ?ku ?_) | (refine' use_RStr stc_str ?k1 ?k2 ?k3 ?k4 ?k5 ?kK ?kd ?ku ?_) | (refine' use_RStr stc_bytes ?k1 ?k2 ?k3 ?k4 ?k5 ?kK ?kd ?ku ?_) | (refine' use_RStr (stc_ok (by assumption)) ?k1 ?k2 ?k3 ?k4 ?k5 ?kK ?kd ?ku ?_)))); ((try (case k4 => walk_at "t_news")); ((case k1 => k_asm); (case k2 => k_asm); (case k3 => k_asm); (case k5 => k_asm); (case kK => first | exact rfl | assumption); (case kd => first | exact room9 (by with_reducible assumption) (by decide) | ktr_room); (case ku => first | exact unit9 (by with_reducible assumption) (by decide) | ktr_units)); (all_goals first | (fail_if_success (fail_if_success (intro (h9 : Heap)))) | (fail_if_success (refine of_prop ?_)) | with_reducible assumption | walk_at "t_prem" | assumption); k_whole))); (intros; (try k_fold))) | fail "none"); k_steps))); (try dsimp only))
  all_goals exact hret _ _ _ _ (RBA.mk _ _ (rfl) (by walk_at "t_off")) (by k_asm) (news_sub (by k_asm) (by walk_at "t_sub"))
set_option maxHeartbeats 8000000 in
theorem part_int {i : Int} {t : Tok} {c : Str} {u : Tok} (h0 : -9223372036854775808 ≤ i) (h1 : i ≤ 9223372036854775807) : DoesC w loose mean mg mb 180 6 [.int i t, .str c u] news (RBA (partV c (.int i t)) news) := by
  have hz := put8_size (i + Int.fdiv 18446744073709551616 2)
  w_top off
  refine' entryK (bs := [.int i t, .str c u]) [Str.ofString "v", Str.ofString "collation"] ?k6 ?k7 ?k9 ?kB ?c5 ?c2 ?c3 ?c4 ?hn ?kx
  ((case' kx => k_fill); (case k6 => k_is); (case k7 => k_is); (case kB => exact locs rfl); (case c5 => decide); (case c2 => exact rfl); (case c3 => exact rfl); (case c4 => exact rfl); (case hn => decide))
  (case k9 => ((intro s9 X9); first | exact BindsTo.of_eq rfl | exact binds_K X9 rfl (by k_is) rfl rfl rfl))
  intro c9 A9 base9 g9 h9 L9 ge9 dr9 tk9 os9 Q9 hdp hun F N B X T hret
  (refine cStep ?_; (k_steps; repeat (any_goals ((with_reducible refine unstop ?_); (first | ((k_dflt ((first | ((with_reducible show wpAny _ _ (call (Value.ref 116) _) _ _ _); (refine' use_RBytes (fixed_ok ?qa ?qb) ?k1 ?k2 ?k3 ?k4 ?k5 ?kK ?kd ?ku ?_; (case qa => (rw [show Int.fdiv 18446744073709551616 2 = 9223372036854775808 from by decide]; omega)); (case qb => (rw [show Int.fdiv 18446744073709551616 2 = 9223372036854775808 from by decide]; omega)))) | ((with_reducible show wpAny _ _ (call (Value.ref 87) _) _ _ _); (refine' use_RBool (inr_ok ?_ ?_) ?k1 ?k2 ?k3 ?k4 ?k5 ?kK ?kd ?ku ?_)) | ((with_reducible show wpAny _ _ (call (Value.ref 94) _) _ _ _); (refine' use_RStr (collate_ok ?_ ?_ ?_) ?k1 ?k2 ?k3 ?k4 ?k5 ?kK ?kd ?ku ?_)) | ((with_reducible show wpAny _ _ (call (Value.ref 80) _) _ _ _); (first | (refine' use_RStr stc_none ?k1 ?k2 ?k3 ?k4 ?k5 ?kK ?kd ?ku ?_) | (refine' use_RStr stc_int ?k1 ?k2 ?k3 ?k4 ?k5 ?kK ?kd ?ku ?_) | (refine' use_RStr stc_str ?k1 ?k2 ?k3 ?k4 ?k5 ?kK ?kd ?ku ?_) | (refine' use_RStr stc_bytes ?k1 ?k2 ?k3 ?k4 ?k5 ?kK ?kd ?ku ?_) | (refine' use_RStr (stc_ok (by assumption)) ?k1 ?k2 ?k3 ?k4 ?k5 ?kK ?kd ?ku ?_)))); ((try (case k4 => walk_at "t_news")); ((case k1 => k_asm); (case k2 => k_asm); (case k3 => k_asm); (case k5 => k_asm); (case kK => first | exact rfl | assumption); (case kd => first | exact room9 (by with_reducible assumption) (by decide) | ktr_room); (case ku => first | exact unit9 (by with_reducible assumption) (by decide) | ktr_units)); (all_goals first | (fail_if_success (fail_if_success (intro (h9 : Heap)))) | (fail_if_success (refine of_prop ?_)) | with_reducible assumption | walk_at "t_prem" | assumption); k_whole))); (intros; (try k_fold))) | fail "none"); k_steps))); (try dsimp only))
  (refine cSet (cCall_Name ?_); k_steps; (show wpC _ _ (callWith _ (Value.type "bytearray") [] [] []) _ _); refine cCallWith_0 (by intro a h; cases h) (newba_L (by k_asm) (by k_asm) ?_); intro D' h' F' N' l1; (try k_lt l1); k_steps; (try dsimp only))
  refine cCase ?_
  (k_steps; repeat (any_goals ((with_reducible refine unstop ?_); (first | ((k_dflt ((first | ((with_reducible show wpAny _ _ (call (Value.ref 116) _) _ _ _); (refine' use_RBytes (fixed_ok ?qa ?qb) ?k1 ?k2 ?k3 ?k4 ?k5 ?kK ?kd ?ku ?_; (case qa => (rw [show Int.fdiv 18446744073709551616 2 = 9223372036854775808 from by decide]; omega)); (case qb => (rw [show Int.fdiv 18446744073709551616 2 = 9223372036854775808 from by decide]; omega)))) | ((with_reducible show wpAny _ _ (call (Value.ref 87) _) _ _ _); (refine' use_RBool (inr_ok ?_ ?_) ?k1 ?k2 ?k3 ?k4 ?k5 ?kK ?kd ?ku ?_)) | ((with_reducible show wpAny _ _ (call (Value.ref 94) _) _ _ _); (refine' use_RStr (collate_ok ?_ ?_ ?_) ?k1 ?k2 ?k3 ?k4 ?k5 ?kK ?kd ?ku ?_)) | ((with_reducible show wpAny _ _ (call (Value.ref 80) _) _ _ _); (first | (refine' use_RStr stc_none ?k1 ?k2 ?k3 ?k4 ?k5 ?kK ?kd ?ku ?_) | (refine' use_RStr stc_int ?k1 ?k2 ?k3 ?k4 ?k5 ?kK ?kd ?ku ?_) | (refine' use_RStr stc_str ?k1 ?k2 ?k3 ?k4 ?k5 ?kK ?kd ?ku ?_) | (refine' use_RStr stc_bytes ?k1 ?k2 ?k3 ?k4 ?k5 ?kK ?kd ?ku ?_) | (refine' use_RStr (stc_ok (by assumption)) ?k1 ?k2 ?k3 ?k4 ?k5 ?kK ?kd ?ku ?_)))); ((try (case k4 => walk_at "t_news")); ((case k1 => k_asm); (case k2 => k_asm); (case k3 => k_asm); (case k5 => k_asm); (case kK => first | exact rfl | assumption); (case kd => first | exact room9 (by with_reducible assumption) (by decide) | ktr_room); (case ku => first | exact unit9 (by with_reducible assumption) (by decide) | ktr_units)); (all_goals first | (fail_if_success (fail_if_success (intro (h9 : Heap)))) | (fail_if_success (refine of_prop ?_)) | with_reducible assumption | walk_at "t_prem" | assumption); k_whole))); (intros; (try k_fold))) | fail "none"); k_steps)))
  refine cCase ?_
  (k_steps; repeat (any_goals ((with_reducible refine unstop ?_); (first | ((k_dflt ((first | ((with_reducible show wpAny _ _ (call (Value.ref 116) _) _ _ _); (refine' use_RBytes (fixed_ok ?qa ?qb) ?k1 ?k2 ?k3 ?k4 ?k5 ?kK ?kd ?ku ?_; (case qa => (rw [show Int.fdiv 18446744073709551616 2 = 9223372036854775808 from by decide]; omega)); (case qb => (rw [show Int.fdiv 18446744073709551616 2 = 9223372036854775808 from by decide]; omega)))) | ((with_reducible show wpAny _ _ (call (Value.ref 87) _) _ _ _); (refine' use_RBool (inr_ok ?_ ?_) ?k1 ?k2 ?k3 ?k4 ?k5 ?kK ?kd ?ku ?_)) | ((with_reducible show wpAny _ _ (call (Value.ref 94) _) _ _ _); (refine' use_RStr (collate_ok ?_ ?_ ?_) ?k1 ?k2 ?k3 ?k4 ?k5 ?kK ?kd ?ku ?_)) | ((with_reducible show wpAny _ _ (call (Value.ref 80) _) _ _ _); (first | (refine' use_RStr stc_none ?k1 ?k2 ?k3 ?k4 ?k5 ?kK ?kd ?ku ?_) | (refine' use_RStr stc_int ?k1 ?k2 ?k3 ?k4 ?k5 ?kK ?kd ?ku ?_) | (refine' use_RStr stc_str ?k1 ?k2 ?k3 ?k4 ?k5 ?kK ?kd ?ku ?_) | (refine' use_RStr stc_bytes ?k1 ?k2 ?k3 ?k4 ?k5 ?kK ?kd ?ku ?_) | (refine' use_RStr (stc_ok (by assumption)) ?k1 ?k2 ?k3 ?k4 ?k5 ?kK ?kd ?ku ?_)))); ((try (case k4 => walk_at "t_news")); ((case k1 => k_asm); (case k2 => k_asm); (case k3 => k_asm); (case k5 => k_asm); (case kK => first | exact rfl | assumption); (case kd => first | exact room9 (by with_reducible assumption) (by decide) | ktr_room); (case ku => first | exact unit9 (by with_reducible assumption) (by decide) | ktr_units)); (all_goals first | (fail_if_success (fail_if_success (intro (h9 : Heap)))) | (fail_if_success (refine of_prop ?_)) | with_reducible assumption | walk_at "t_prem" | assumption); k_whole))); (intros; (try k_fold))) | fail "none"); k_steps)))
  refine cCase ?_
  (k_steps; repeat (any_goals ((with_reducible refine unstop ?_); (first | ((k_dflt ((first | ((with_reducible show wpAny _ _ (call (Value.ref 116) _) _ _ _); (refine' use_RBytes (fixed_ok ?qa ?qb) ?k1 ?k2 ?k3 ?k4 ?k5 ?kK ?kd ?ku ?_; (case qa => (rw [show Int.fdiv 18446744073709551616 2 = 9223372036854775808 from by decide]; omega)); (case qb => (rw [show Int.fdiv 18446744073709551616 2 = 9223372036854775808 from by decide]; omega)))) | ((with_reducible show wpAny _ _ (call (Value.ref 87) _) _ _ _); (refine' use_RBool (inr_ok ?_ ?_) ?k1 ?k2 ?k3 ?k4 ?k5 ?kK ?kd ?ku ?_)) | ((with_reducible show wpAny _ _ (call (Value.ref 94) _) _ _ _); (refine' use_RStr (collate_ok ?_ ?_ ?_) ?k1 ?k2 ?k3 ?k4 ?k5 ?kK ?kd ?ku ?_)) | ((with_reducible show wpAny _ _ (call (Value.ref 80) _) _ _ _); (first | (refine' use_RStr stc_none ?k1 ?k2 ?k3 ?k4 ?k5 ?kK ?kd ?ku ?_) | (refine' use_RStr stc_int ?k1 ?k2 ?k3 ?k4 ?k5 ?kK ?kd ?ku ?_) | (refine' use_RStr stc_str ?k1 ?k2 ?k3 ?k4 ?k5 ?kK ?kd ?ku ?_) | (refine' use_RStr stc_bytes ?k1 ?k2 ?k3 ?k4 ?k5 ?kK ?kd ?ku ?_) | (refine' use_RStr (stc_ok (by assumption)) ?k1 ?k2 ?k3 ?k4 ?k5 ?kK ?kd ?ku ?_)))); ((try (case k4 => walk_at "t_news")); ((case k1 => k_asm); (case k2 => k_asm); (case k3 => k_asm); (case k5 => k_asm); (case kK => first | exact rfl | assumption); (case kd => first | exact room9 (by with_reducible assumption) (by decide) | ktr_room); (case ku => first | exact unit9 (by with_reducible assumption) (by decide) | ktr_units)); (all_goals first | (fail_if_success (fail_if_success (intro (h9 : Heap)))) | (fail_if_success (refine of_prop ?_)) | with_reducible assumption | walk_at "t_prem" | assumption); k_whole))); (intros; (try k_fold))) | fail "none"); k_steps)))
  (repeat (refine cExecs_nil ?_; (try dsimp only)))
  (refine cBa BA.slot_append ty_append ?_; (k_steps; (rename News _ _ _ _ => N'); (refine' ⟨_, _, rfl, ?z, cCallWith_1 (by intro a h; cases h) (cAny ?_)⟩; (case z => exact (N' (_, _) (by walk_at "t_mem")).1)); k_steps); (show wpC _ _ (call _ [Value.ref _, Value.int _ _]) _ _); (refine' append_B (by k_asm) (by k_asm) ?P ?o ?a ?b ?z ?_; (case P => walk_at "t_pull"); (case o => walk_at "t_off"); (case a => omega); (case b => omega); (case z => walk_at "t_size")); intro h' F' N'; refine ⟨rfl, ?_⟩)
  (refine cBa BA.slot_extend ty_extend ?_; k_steps; (rename News _ _ _ _ => N'); (refine' ⟨_, _, rfl, ?z, cCallWith_1 (by intro a h; cases h) ?_⟩; (case z => exact (N' (_, _) (by walk_at "t_mem")).1)))
  refine cAny ?_
  (k_steps; repeat (any_goals ((with_reducible refine unstop ?_); (first | ((k_dflt ((first | ((with_reducible show wpAny _ _ (call (Value.ref 116) _) _ _ _); (refine' use_RBytes (fixed_ok ?qa ?qb) ?k1 ?k2 ?k3 ?k4 ?k5 ?kK ?kd ?ku ?_; (case qa => (rw [show Int.fdiv 18446744073709551616 2 = 9223372036854775808 from by decide]; omega)); (case qb => (rw [show Int.fdiv 18446744073709551616 2 = 9223372036854775808 from by decide]; omega)))) | ((with_reducible show wpAny _ _ (call (Value.ref 87) _) _ _ _); (refine' use_RBool (inr_ok ?_ ?_) ?k1 ?k2 ?k3 ?k4 ?k5 ?kK ?kd ?ku ?_)) | ((with_reducible show wpAny _ _ (call (Value.ref 94) _) _ _ _); (refine' use_RStr (collate_ok ?_ ?_ ?_) ?k1 ?k2 ?k3 ?k4 ?k5 ?kK ?kd ?ku ?_)) | ((with_reducible show wpAny _ _ (call (Value.ref 80) _) _ _ _); (first | (refine' use_RStr stc_none ?k1 ?k2 ?k3 ?k4 ?k5 ?kK ?kd ?ku ?_) | (refine' use_RStr stc_int ?k1 ?k2 ?k3 ?k4 ?k5 ?kK ?kd ?ku ?_) | (refine' use_RStr stc_str ?k1 ?k2 ?k3 ?k4 ?k5 ?kK ?kd ?ku ?_) | (refine' use_RStr stc_bytes ?k1 ?k2 ?k3 ?k4 ?k5 ?kK ?kd ?ku ?_) | (refine' use_RStr (stc_ok (by assumption)) ?k1 ?k2 ?k3 ?k4 ?k5 ?kK ?kd ?ku ?_)))); ((try (case k4 => walk_at "t_news")); ((case k1 => k_asm); (case k2 => k_asm); (case k3 => k_asm); (case k5 => k_asm); (case kK => first | exact rfl | assumption); (case kd => first | exact room9 (by with_reducible assumption) (by decide) | ktr_room); (case ku => first | exact unit9 (by with_reducible assumption) (by decide) | ktr_units)); (all_goals first | (fail_if_success (fail_if_success (intro (h9 : Heap)))) | (fail_if_success (refine of_prop ?_)) | with_reducible assumption | walk_at "t_prem" | assumption); k_whole))); (intros; (try k_fold))) | fail "none"); k_steps)))
  ((show wpC _ _ (call _ [Value.ref _, Value.bytes _ _]) _ _); (refine' extend_B (by k_asm) (by k_asm) ?P ?o ?z ?_; (case P => walk_at "t_pull"); (case o => walk_at "t_off"); (case z => walk_at "t_size")); intro h' F' N'; refine ⟨rfl, ?_⟩)
  (repeat (refine cExecs_nil ?_; (try dsimp only)))
  (refine cStep ?_; (k_steps; repeat (any_goals ((with_reducible refine unstop ?_); (first | ((k_dflt ((first | ((with_reducible show wpAny _ _ (call (Value.ref 116) _) _ _ _); (refine' use_RBytes (fixed_ok ?qa ?qb) ?k1 ?k2 ?k3 ?k4 ?k5 ?kK ?kd ?ku ?_; (case qa => (rw [show Int.fdiv 18446744073709551616 2 = 9223372036854775808 from by decide]; omega)); (case qb => (rw [show Int.fdiv 18446744073709551616 2 = 9223372036854775808 from by decide]; omega)))) | ((with_reducible show wpAny _ _ (call (Value.ref 87) _) _ _ _); (refine' use_RBool (inr_ok ?_ ?_) ?k1 ?k2 ?k3 ?k4 ?k5 ?kK ?kd ?ku ?_)) | ((with_reducible show wpAny _ _ (call (Value.ref 94) _) _ _ _); (refine' use_RStr (collate_ok ?_ ?_ ?_) ?k1 ?k2 ?k3 ?k4 ?k5 ?kK ?kd ?ku ?_)) | ((with_reducible show wpAny _ _ (call (Value.ref 80) _) _ _ _); (first | (refine' use_RStr stc_none ?k1 ?k2 ?k3 ?k4 ?k5 ?kK ?kd ?ku ?_) | (refine' use_RStr stc_int ?k1 ?k2 ?k3 ?k4 ?k5 ?kK ?kd ?ku ?_) | (refine' use_RStr stc_str ?k1 ?k2 ?k3 ?k4 ?k5 ?kK ?kd ?ku ?_) | (refine' use_RStr stc_bytes ?k1 ?k2 ?k3 ?k4 ?k5 ?kK ?kd ?ku ?_) | (refine' use_RStr (stc_ok (by assumption)) ?k1 ?k2 ?k3 ?k4 ?k5 ?kK ?kd ?ku ?_)))); ((try (case k4 => walk_at "t_news")); ((case k1 => k_asm); (case k2 => k_asm); (case k3 => k_asm); (case k5 => k_asm); (case kK => first | exact rfl | assumption); (case kd => first | exact room9 (by with_reducible assumption) (by decide) | ktr_room); (case ku => first | exact unit9 (by with_reducible assumption) (by decide) | ktr_units)); (all_goals first | (fail_if_success (fail_if_success (intro (h9 : Heap)))) | (fail_if_success (refine of_prop ?_)) | with_reducible assumption | walk_at "t_prem" | assumption); k_whole))); (intros; (try k_fold))) | fail "none"); k_steps))); (try dsimp only))
  all_goals exact hret _ _ _ _ (RBA.mk _ _ (rfl) (by walk_at "t_off")) (by k_asm) (news_sub (by k_asm) (by walk_at "t_sub"))
set_option maxHeartbeats 8000000 in
theorem part_str {x : Str} {t : Tok} {c : Str} {u : Tok} (hx : x.cps.size ≤ 64) (hc : ∀ d ∈ x.cps.toList, d < 1114112) (hcc : CollName c) : DoesC w loose mean mg mb 180 6 [.str x t, .str c u] news (RBA (partV c (.str x t)) news) := by
  have hs := coll_size c x
  have hcs := @coll_chars c x hc
  have hus := utf8_size (collS c x)
  have hes := ended_size (utf8S (collS c x))
  w_top off
  refine' entryK (bs := [.str x t, .str c u]) [Str.ofString "v", Str.ofString "collation"] ?k6 ?k7 ?k9 ?kB ?c5 ?c2 ?c3 ?c4 ?hn ?kx
  ((case' kx => k_fill); (case k6 => k_is); (case k7 => k_is); (case kB => exact locs rfl); (case c5 => decide); (case c2 => exact rfl); (case c3 => exact rfl); (case c4 => exact rfl); (case hn => decide))
  (case k9 => ((intro s9 X9); first | exact BindsTo.of_eq rfl | exact binds_K X9 rfl (by k_is) rfl rfl rfl))
  intro c9 A9 base9 g9 h9 L9 ge9 dr9 tk9 os9 Q9 hdp hun F N B X T hret
  (refine cStep ?_; (k_steps; repeat (any_goals ((with_reducible refine unstop ?_); (first | ((k_dflt ((first | ((with_reducible show wpAny _ _ (call (Value.ref 116) _) _ _ _); (refine' use_RBytes (fixed_ok ?qa ?qb) ?k1 ?k2 ?k3 ?k4 ?k5 ?kK ?kd ?ku ?_; (case qa => (rw [show Int.fdiv 18446744073709551616 2 = 9223372036854775808 from by decide]; omega)); (case qb => (rw [show Int.fdiv 18446744073709551616 2 = 9223372036854775808 from by decide]; omega)))) | ((with_reducible show wpAny _ _ (call (Value.ref 87) _) _ _ _); (refine' use_RBool (inr_ok ?_ ?_) ?k1 ?k2 ?k3 ?k4 ?k5 ?kK ?kd ?ku ?_)) | ((with_reducible show wpAny _ _ (call (Value.ref 94) _) _ _ _); (refine' use_RStr (collate_ok ?_ ?_ ?_) ?k1 ?k2 ?k3 ?k4 ?k5 ?kK ?kd ?ku ?_)) | ((with_reducible show wpAny _ _ (call (Value.ref 80) _) _ _ _); (first | (refine' use_RStr stc_none ?k1 ?k2 ?k3 ?k4 ?k5 ?kK ?kd ?ku ?_) | (refine' use_RStr stc_int ?k1 ?k2 ?k3 ?k4 ?k5 ?kK ?kd ?ku ?_) | (refine' use_RStr stc_str ?k1 ?k2 ?k3 ?k4 ?k5 ?kK ?kd ?ku ?_) | (refine' use_RStr stc_bytes ?k1 ?k2 ?k3 ?k4 ?k5 ?kK ?kd ?ku ?_) | (refine' use_RStr (stc_ok (by assumption)) ?k1 ?k2 ?k3 ?k4 ?k5 ?kK ?kd ?ku ?_)))); ((try (case k4 => walk_at "t_news")); ((case k1 => k_asm); (case k2 => k_asm); (case k3 => k_asm); (case k5 => k_asm); (case kK => first | exact rfl | assumption); (case kd => first | exact room9 (by with_reducible assumption) (by decide) | ktr_room); (case ku => first | exact unit9 (by with_reducible assumption) (by decide) | ktr_units)); (all_goals first | (fail_if_success (fail_if_success (intro (h9 : Heap)))) | (fail_if_success (refine of_prop ?_)) | with_reducible assumption | walk_at "t_prem" | assumption); k_whole))); (intros; (try k_fold))) | fail "none"); k_steps))); (try dsimp only))
  (refine cSet (cCall_Name ?_); k_steps; (show wpC _ _ (callWith _ (Value.type "bytearray") [] [] []) _ _); refine cCallWith_0 (by intro a h; cases h) (newba_L (by k_asm) (by k_asm) ?_); intro D' h' F' N' l1; (try k_lt l1); k_steps; (try dsimp only))
  refine cCase ?_
  (k_steps; repeat (any_goals ((with_reducible refine unstop ?_); (first | ((k_dflt ((first | ((with_reducible show wpAny _ _ (call (Value.ref 116) _) _ _ _); (refine' use_RBytes (fixed_ok ?qa ?qb) ?k1 ?k2 ?k3 ?k4 ?k5 ?kK ?kd ?ku ?_; (case qa => (rw [show Int.fdiv 18446744073709551616 2 = 9223372036854775808 from by decide]; omega)); (case qb => (rw [show Int.fdiv 18446744073709551616 2 = 9223372036854775808 from by decide]; omega)))) | ((with_reducible show wpAny _ _ (call (Value.ref 87) _) _ _ _); (refine' use_RBool (inr_ok ?_ ?_) ?k1 ?k2 ?k3 ?k4 ?k5 ?kK ?kd ?ku ?_)) | ((with_reducible show wpAny _ _ (call (Value.ref 94) _) _ _ _); (refine' use_RStr (collate_ok ?_ ?_ ?_) ?k1 ?k2 ?k3 ?k4 ?k5 ?kK ?kd ?ku ?_)) | ((with_reducible show wpAny _ _ (call (Value.ref 80) _) _ _ _); (first | (refine' use_RStr stc_none ?k1 ?k2 ?k3 ?k4 ?k5 ?kK ?kd ?ku ?_) | (refine' use_RStr stc_int ?k1 ?k2 ?k3 ?k4 ?k5 ?kK ?kd ?ku ?_) | (refine' use_RStr stc_str ?k1 ?k2 ?k3 ?k4 ?k5 ?kK ?kd ?ku ?_) | (refine' use_RStr stc_bytes ?k1 ?k2 ?k3 ?k4 ?k5 ?kK ?kd ?ku ?_) | (refine' use_RStr (stc_ok (by assumption)) ?k1 ?k2 ?k3 ?k4 ?k5 ?kK ?kd ?ku ?_)))); ((try (case k4 => walk_at "t_news")); ((case k1 => k_asm); (case k2 => k_asm); (case k3 => k_asm); (case k5 => k_asm); (case kK => first | exact rfl | assumption); (case kd => first | exact room9 (by with_reducible assumption) (by decide) | ktr_room); (case ku => first | exact unit9 (by with_reducible assumption) (by decide) | ktr_units)); (all_goals first | (fail_if_success (fail_if_success (intro (h9 : Heap)))) | (fail_if_success (refine of_prop ?_)) | with_reducible assumption | walk_at "t_prem" | assumption); k_whole))); (intros; (try k_fold))) | fail "none"); k_steps)))
  refine cCase ?_
  (k_steps; repeat (any_goals ((with_reducible refine unstop ?_); (first | ((k_dflt ((first | ((with_reducible show wpAny _ _ (call (Value.ref 116) _) _ _ _); (refine' use_RBytes (fixed_ok ?qa ?qb) ?k1 ?k2 ?k3 ?k4 ?k5 ?kK ?kd ?ku ?_; (case qa => (rw [show Int.fdiv 18446744073709551616 2 = 9223372036854775808 from by decide]; omega)); (case qb => (rw [show Int.fdiv 18446744073709551616 2 = 9223372036854775808 from by decide]; omega)))) | ((with_reducible show wpAny _ _ (call (Value.ref 87) _) _ _ _); (refine' use_RBool (inr_ok ?_ ?_) ?k1 ?k2 ?k3 ?k4 ?k5 ?kK ?kd ?ku ?_)) | ((with_reducible show wpAny _ _ (call (Value.ref 94) _) _ _ _); (refine' use_RStr (collate_ok ?_ ?_ ?_) ?k1 ?k2 ?k3 ?k4 ?k5 ?kK ?kd ?ku ?_)) | ((with_reducible show wpAny _ _ (call (Value.ref 80) _) _ _ _); (first | (refine' use_RStr stc_none ?k1 ?k2 ?k3 ?k4 ?k5 ?kK ?kd ?ku ?_) | (refine' use_RStr stc_int ?k1 ?k2 ?k3 ?k4 ?k5 ?kK ?kd ?ku ?_) | (refine' use_RStr stc_str ?k1 ?k2 ?k3 ?k4 ?k5 ?kK ?kd ?ku ?_) | (refine' use_RStr stc_bytes ?k1 ?k2 ?k3 ?k4 ?k5 ?kK ?kd ?ku ?_) | (refine' use_RStr (stc_ok (by assumption)) ?k1 ?k2 ?k3 ?k4 ?k5 ?kK ?kd ?ku ?_)))); ((try (case k4 => walk_at "t_news")); ((case k1 => k_asm); (case k2 => k_asm); (case k3 => k_asm); (case k5 => k_asm); (case kK => first | exact rfl | assumption); (case kd => first | exact room9 (by with_reducible assumption) (by decide) | ktr_room); (case ku => first | exact unit9 (by with_reducible assumption) (by decide) | ktr_units)); (all_goals first | (fail_if_success (fail_if_success (intro (h9 : Heap)))) | (fail_if_success (refine of_prop ?_)) | with_reducible assumption | walk_at "t_prem" | assumption); k_whole))); (intros; (try k_fold))) | fail "none"); k_steps)))
  refine cCase ?_
  (k_steps; repeat (any_goals ((with_reducible refine unstop ?_); (first | ((k_dflt ((first | ((with_reducible show wpAny _ _ (call (Value.ref 116) _) _ _ _); (refine' use_RBytes (fixed_ok ?qa ?qb) ?k1 ?k2 ?k3 ?k4 ?k5 ?kK ?kd ?ku ?_; (case qa => (rw [show Int.fdiv 18446744073709551616 2 = 9223372036854775808 from by decide]; omega)); (case qb => (rw [show Int.fdiv 18446744073709551616 2 = 9223372036854775808 from by decide]; omega)))) | ((with_reducible show wpAny _ _ (call (Value.ref 87) _) _ _ _); (refine' use_RBool (inr_ok ?_ ?_) ?k1 ?k2 ?k3 ?k4 ?k5 ?kK ?kd ?ku ?_)) | ((with_reducible show wpAny _ _ (call (Value.ref 94) _) _ _ _); (refine' use_RStr (collate_ok ?_ ?_ ?_) ?k1 ?k2 ?k3 ?k4 ?k5 ?kK ?kd ?ku ?_)) | ((with_reducible show wpAny _ _ (call (Value.ref 80) _) _ _ _); (first | (refine' use_RStr stc_none ?k1 ?k2 ?k3 ?k4 ?k5 ?kK ?kd ?ku ?_) | (refine' use_RStr stc_int ?k1 ?k2 ?k3 ?k4 ?k5 ?kK ?kd ?ku ?_) | (refine' use_RStr stc_str ?k1 ?k2 ?k3 ?k4 ?k5 ?kK ?kd ?ku ?_) | (refine' use_RStr stc_bytes ?k1 ?k2 ?k3 ?k4 ?k5 ?kK ?kd ?ku ?_) | (refine' use_RStr (stc_ok (by assumption)) ?k1 ?k2 ?k3 ?k4 ?k5 ?kK ?kd ?ku ?_)))); ((try (case k4 => walk_at "t_news")); ((case k1 => k_asm); (case k2 => k_asm); (case k3 => k_asm); (case k5 => k_asm); (case kK => first | exact rfl | assumption); (case kd => first | exact room9 (by with_reducible assumption) (by decide) | ktr_room); (case ku => first | exact unit9 (by with_reducible assumption) (by decide) | ktr_units)); (all_goals first | (fail_if_success (fail_if_success (intro (h9 : Heap)))) | (fail_if_success (refine of_prop ?_)) | with_reducible assumption | walk_at "t_prem" | assumption); k_whole))); (intros; (try k_fold))) | fail "none"); k_steps)))
  (refine cBa BA.slot_append ty_append ?_; (k_steps; (rename News _ _ _ _ => N'); (refine' ⟨_, _, rfl, ?z, cCallWith_1 (by intro a h; cases h) (cAny ?_)⟩; (case z => exact (N' (_, _) (by walk_at "t_mem")).1)); k_steps); (show wpC _ _ (call _ [Value.ref _, Value.int _ _]) _ _); (refine' append_B (by k_asm) (by k_asm) ?P ?o ?a ?b ?z ?_; (case P => walk_at "t_pull"); (case o => walk_at "t_off"); (case a => omega); (case b => omega); (case z => walk_at "t_size")); intro h' F' N'; refine ⟨rfl, ?_⟩)
  (refine cBa BA.slot_extend ty_extend ?_; k_steps; (rename News _ _ _ _ => N'); (refine' ⟨_, _, rfl, ?z, cCallWith_1 (by intro a h; cases h) ?_⟩; (case z => exact (N' (_, _) (by walk_at "t_mem")).1)))
  (refine cCall_Name ?_; k_steps; refine cCallWith_K (K := Mine.hd.heap_39 w.params) (by k_is) rfl (cSpliced_cons ?_))
  (refine cCall_Name ?_; k_steps; refine cCallWith_K (K := Mine.hd.heap_39 w.params) (by k_is) rfl (cSpliced_cons ?_))
  refine cAny (show wpAny _ _ (eval _ _) _ _ _ from ?_)
  (k_steps; repeat (any_goals ((with_reducible refine unstop ?_); (first | ((k_dflt ((first | ((with_reducible show wpAny _ _ (call (Value.ref 116) _) _ _ _); (refine' use_RBytes (fixed_ok ?qa ?qb) ?k1 ?k2 ?k3 ?k4 ?k5 ?kK ?kd ?ku ?_; (case qa => (rw [show Int.fdiv 18446744073709551616 2 = 9223372036854775808 from by decide]; omega)); (case qb => (rw [show Int.fdiv 18446744073709551616 2 = 9223372036854775808 from by decide]; omega)))) | ((with_reducible show wpAny _ _ (call (Value.ref 87) _) _ _ _); (refine' use_RBool (inr_ok ?_ ?_) ?k1 ?k2 ?k3 ?k4 ?k5 ?kK ?kd ?ku ?_)) | ((with_reducible show wpAny _ _ (call (Value.ref 94) _) _ _ _); (refine' use_RStr (collate_ok ?_ ?_ ?_) ?k1 ?k2 ?k3 ?k4 ?k5 ?kK ?kd ?ku ?_)) | ((with_reducible show wpAny _ _ (call (Value.ref 80) _) _ _ _); (first | (refine' use_RStr stc_none ?k1 ?k2 ?k3 ?k4 ?k5 ?kK ?kd ?ku ?_) | (refine' use_RStr stc_int ?k1 ?k2 ?k3 ?k4 ?k5 ?kK ?kd ?ku ?_) | (refine' use_RStr stc_str ?k1 ?k2 ?k3 ?k4 ?k5 ?kK ?kd ?ku ?_) | (refine' use_RStr stc_bytes ?k1 ?k2 ?k3 ?k4 ?k5 ?kK ?kd ?ku ?_) | (refine' use_RStr (stc_ok (by assumption)) ?k1 ?k2 ?k3 ?k4 ?k5 ?kK ?kd ?ku ?_)))); ((try (case k4 => walk_at "t_news")); ((case k1 => k_asm); (case k2 => k_asm); (case k3 => k_asm); (case k5 => k_asm); (case kK => first | exact rfl | assumption); (case kd => first | exact room9 (by with_reducible assumption) (by decide) | ktr_room); (case ku => first | exact unit9 (by with_reducible assumption) (by decide) | ktr_units)); (all_goals first | (fail_if_success (fail_if_success (intro (h9 : Heap)))) | (fail_if_success (refine of_prop ?_)) | with_reducible assumption | walk_at "t_prem" | assumption); k_whole))); (intros; (try k_fold))) | fail "none"); k_steps)))
  refine cSpliced_nil ?_
  refine ⟨by k_in, ?_⟩
  ((k_dflt ((first | ((with_reducible show wpC _ _ (call (Value.ref 66) _) _ _); (refine' use_RBytesC (utf8_ok ?_ ?_) ?k1 ?k2 ?k3 ?k4 ?k5 ?kK ?kd ?ku ?_)) | ((with_reducible show wpC _ _ (call (Value.ref 173) _) _ _); (refine' use_RBAC (ended_ok ?_) ?k1 ?k2 ?k3 ?k4 ?k5 ?kK ?kd ?ku ?_))); ((try (case k4 => walk_at "t_news")); ((case k1 => k_asm); (case k2 => k_asm); (case k3 => k_asm); (case k5 => k_asm); (case kK => first | exact rfl | assumption); (case kd => first | exact room9 (by with_reducible assumption) (by decide) | ktr_room); (case ku => first | exact unit9 (by with_reducible assumption) (by decide) | ktr_units)); (all_goals first | (fail_if_success (fail_if_success (intro (h9 : Heap)))) | (fail_if_success (refine of_prop ?_)) | with_reducible assumption | walk_at "t_prem" | assumption); k_whole))); (intros; (try k_fold)))
  refine cSpliced_nil ?_
  refine ⟨by k_in, ?_⟩
  ((k_dflt ((first | ((with_reducible show wpC _ _ (call (Value.ref 66) _) _ _); (refine' use_RBytesC (utf8_ok ?_ ?_) ?k1 ?k2 ?k3 ?k4 ?k5 ?kK ?kd ?ku ?_)) | ((with_reducible show wpC _ _ (call (Value.ref 173) _) _ _); (refine' use_RBAC (ended_ok ?_) ?k1 ?k2 ?k3 ?k4 ?k5 ?kK ?kd ?ku ?_))); ((try (case k4 => walk_at "t_news")); ((case k1 => k_asm); (case k2 => k_asm); (case k3 => k_asm); (case k5 => k_asm); (case kK => first | exact rfl | assumption); (case kd => first | exact room9 (by with_reducible assumption) (by decide) | ktr_room); (case ku => first | exact unit9 (by with_reducible assumption) (by decide) | ktr_units)); (all_goals first | (fail_if_success (fail_if_success (intro (h9 : Heap)))) | (fail_if_success (refine of_prop ?_)) | with_reducible assumption | walk_at "t_prem" | assumption); k_whole))); (intros; (try k_fold)))
  subst_vars
  (rename Off _ (_ :: _) => ho9)
  have hne9 := off_head ho9
  ((show wpC _ _ (call _ [Value.ref _, Value.ref _]) _ _); (refine' extend_BA (by k_asm) (by k_asm) ?c ?P ?o ?z ?_; (case c => walk_at "t_mem"); (case P => walk_at "t_pull"); (case o => walk_at "t_off"); (case z => walk_at "t_size")); intro h' F' N'; refine ⟨rfl, ?_⟩)
  (repeat (refine cExecs_nil ?_; (try dsimp only)))
  (refine cStep ?_; (k_steps; repeat (any_goals ((with_reducible refine unstop ?_); (first | ((k_dflt ((first | ((with_reducible show wpAny _ _ (call (Value.ref 116) _) _ _ _); (refine' use_RBytes (fixed_ok ?qa ?qb) ?k1 ?k2 ?k3 ?k4 ?k5 ?kK ?kd ?ku ?_; (case qa => (rw [show Int.fdiv 18446744073709551616 2 = 9223372036854775808 from by decide]; omega)); (case qb => (rw [show Int.fdiv 18446744073709551616 2 = 9223372036854775808 from by decide]; omega)))) | ((with_reducible show wpAny _ _ (call (Value.ref 87) _) _ _ _); (refine' use_RBool (inr_ok ?_ ?_) ?k1 ?k2 ?k3 ?k4 ?k5 ?kK ?kd ?ku ?_)) | ((with_reducible show wpAny _ _ (call (Value.ref 94) _) _ _ _); (refine' use_RStr (collate_ok ?_ ?_ ?_) ?k1 ?k2 ?k3 ?k4 ?k5 ?kK ?kd ?ku ?_)) | ((with_reducible show wpAny _ _ (call (Value.ref 80) _) _ _ _); (first | (refine' use_RStr stc_none ?k1 ?k2 ?k3 ?k4 ?k5 ?kK ?kd ?ku ?_) | (refine' use_RStr stc_int ?k1 ?k2 ?k3 ?k4 ?k5 ?kK ?kd ?ku ?_) | (refine' use_RStr stc_str ?k1 ?k2 ?k3 ?k4 ?k5 ?kK ?kd ?ku ?_) | (refine' use_RStr stc_bytes ?k1 ?k2 ?k3 ?k4 ?k5 ?kK ?kd ?ku ?_) | (refine' use_RStr (stc_ok (by assumption)) ?k1 ?k2 ?k3 ?k4 ?k5 ?kK ?kd ?ku ?_)))); ((try (case k4 => walk_at "t_news")); ((case k1 => k_asm); (case k2 => k_asm); (case k3 => k_asm); (case k5 => k_asm); (case kK => first | exact rfl | assumption); (case kd => first | exact room9 (by with_reducible assumption) (by decide) | ktr_room); (case ku => first | exact unit9 (by with_reducible assumption) (by decide) | ktr_units)); (all_goals first | (fail_if_success (fail_if_success (intro (h9 : Heap)))) | (fail_if_success (refine of_prop ?_)) | with_reducible assumption | walk_at "t_prem" | assumption); k_whole))); (intros; (try k_fold))) | fail "none"); k_steps))); (try dsimp only))
  all_goals exact hret _ _ _ _ (RBA.mk _ _ (rfl) (by walk_at "t_off")) (by k_asm) (news_sub (by k_asm) (by walk_at "t_sub"))
set_option maxHeartbeats 8000000 in
theorem part_bytes {x : Array UInt8} {t : Tok} {c : Str} {u : Tok} (hx : x.size ≤ 64) : DoesC w loose mean mg mb 180 6 [.bytes x t, .str c u] news (RBA (partV c (.bytes x t)) news) := by
  have hes := ended_size x
  w_top off
  refine' entryK (bs := [.bytes x t, .str c u]) [Str.ofString "v", Str.ofString "collation"] ?k6 ?k7 ?k9 ?kB ?c5 ?c2 ?c3 ?c4 ?hn ?kx
  ((case' kx => k_fill); (case k6 => k_is); (case k7 => k_is); (case kB => exact locs rfl); (case c5 => decide); (case c2 => exact rfl); (case c3 => exact rfl); (case c4 => exact rfl); (case hn => decide))
  (case k9 => ((intro s9 X9); first | exact BindsTo.of_eq rfl | exact binds_K X9 rfl (by k_is) rfl rfl rfl))
  intro c9 A9 base9 g9 h9 L9 ge9 dr9 tk9 os9 Q9 hdp hun F N B X T hret
  (refine cStep ?_; (k_steps; repeat (any_goals ((with_reducible refine unstop ?_); (first | ((k_dflt ((first | ((with_reducible show wpAny _ _ (call (Value.ref 116) _) _ _ _); (refine' use_RBytes (fixed_ok ?qa ?qb) ?k1 ?k2 ?k3 ?k4 ?k5 ?kK ?kd ?ku ?_; (case qa => (rw [show Int.fdiv 18446744073709551616 2 = 9223372036854775808 from by decide]; omega)); (case qb => (rw [show Int.fdiv 18446744073709551616 2 = 9223372036854775808 from by decide]; omega)))) | ((with_reducible show wpAny _ _ (call (Value.ref 87) _) _ _ _); (refine' use_RBool (inr_ok ?_ ?_) ?k1 ?k2 ?k3 ?k4 ?k5 ?kK ?kd ?ku ?_)) | ((with_reducible show wpAny _ _ (call (Value.ref 94) _) _ _ _); (refine' use_RStr (collate_ok ?_ ?_ ?_) ?k1 ?k2 ?k3 ?k4 ?k5 ?kK ?kd ?ku ?_)) | ((with_reducible show wpAny _ _ (call (Value.ref 80) _) _ _ _); (first | (refine' use_RStr stc_none ?k1 ?k2 ?k3 ?k4 ?k5 ?kK ?kd ?ku ?_) | (refine' use_RStr stc_int ?k1 ?k2 ?k3 ?k4 ?k5 ?kK ?kd ?ku ?_) | (refine' use_RStr stc_str ?k1 ?k2 ?k3 ?k4 ?k5 ?kK ?kd ?ku ?_) | (refine' use_RStr stc_bytes ?k1 ?k2 ?k3 ?k4 ?k5 ?kK ?kd ?ku ?_) | (refine' use_RStr (stc_ok (by assumption)) ?k1 ?k2 ?k3 ?k4 ?k5 ?kK ?kd ?ku ?_)))); ((try (case k4 => walk_at "t_news")); ((case k1 => k_asm); (case k2 => k_asm); (case k3 => k_asm); (case k5 => k_asm); (case kK => first | exact rfl | assumption); (case kd => first | exact room9 (by with_reducible assumption) (by decide) | ktr_room); (case ku => first | exact unit9 (by with_reducible assumption) (by decide) | ktr_units)); (all_goals first | (fail_if_success (fail_if_success (intro (h9 : Heap)))) | (fail_if_success (refine of_prop ?_)) | with_reducible assumption | walk_at "t_prem" | assumption); k_whole))); (intros; (try k_fold))) | fail "none"); k_steps))); (try dsimp only))
  (refine cSet (cCall_Name ?_); k_steps; (show wpC _ _ (callWith _ (Value.type "bytearray") [] [] []) _ _); refine cCallWith_0 (by intro a h; cases h) (newba_L (by k_asm) (by k_asm) ?_); intro D' h' F' N' l1; (try k_lt l1); k_steps; (try dsimp only))
  refine cCase ?_
  (k_steps; repeat (any_goals ((with_reducible refine unstop ?_); (first | ((k_dflt ((first | ((with_reducible show wpAny _ _ (call (Value.ref 116) _) _ _ _); (refine' use_RBytes (fixed_ok ?qa ?qb) ?k1 ?k2 ?k3 ?k4 ?k5 ?kK ?kd ?ku ?_; (case qa => (rw [show Int.fdiv 18446744073709551616 2 = 9223372036854775808 from by decide]; omega)); (case qb => (rw [show Int.fdiv 18446744073709551616 2 = 9223372036854775808 from by decide]; omega)))) | ((with_reducible show wpAny _ _ (call (Value.ref 87) _) _ _ _); (refine' use_RBool (inr_ok ?_ ?_) ?k1 ?k2 ?k3 ?k4 ?k5 ?kK ?kd ?ku ?_)) | ((with_reducible show wpAny _ _ (call (Value.ref 94) _) _ _ _); (refine' use_RStr (collate_ok ?_ ?_ ?_) ?k1 ?k2 ?k3 ?k4 ?k5 ?kK ?kd ?ku ?_)) | ((with_reducible show wpAny _ _ (call (Value.ref 80) _) _ _ _); (first | (refine' use_RStr stc_none ?k1 ?k2 ?k3 ?k4 ?k5 ?kK ?kd ?ku ?_) | (refine' use_RStr stc_int ?k1 ?k2 ?k3 ?k4 ?k5 ?kK ?kd ?ku ?_) | (refine' use_RStr stc_str ?k1 ?k2 ?k3 ?k4 ?k5 ?kK ?kd ?ku ?_) | (refine' use_RStr stc_bytes ?k1 ?k2 ?k3 ?k4 ?k5 ?kK ?kd ?ku ?_) | (refine' use_RStr (stc_ok (by assumption)) ?k1 ?k2 ?k3 ?k4 ?k5 ?kK ?kd ?ku ?_)))); ((try (case k4 => walk_at "t_news")); ((case k1 => k_asm); (case k2 => k_asm); (case k3 => k_asm); (case k5 => k_asm); (case kK => first | exact rfl | assumption); (case kd => first | exact room9 (by with_reducible assumption) (by decide) | ktr_room); (case ku => first | exact unit9 (by with_reducible assumption) (by decide) | ktr_units)); (all_goals first | (fail_if_success (fail_if_success (intro (h9 : Heap)))) | (fail_if_success (refine of_prop ?_)) | with_reducible assumption | walk_at "t_prem" | assumption); k_whole))); (intros; (try k_fold))) | fail "none"); k_steps)))
  refine cCase ?_
  (k_steps; repeat (any_goals ((with_reducible refine unstop ?_); (first | ((k_dflt ((first | ((with_reducible show wpAny _ _ (call (Value.ref 116) _) _ _ _); (refine' use_RBytes (fixed_ok ?qa ?qb) ?k1 ?k2 ?k3 ?k4 ?k5 ?kK ?kd ?ku ?_; (case qa => (rw [show Int.fdiv 18446744073709551616 2 = 9223372036854775808 from by decide]; omega)); (case qb => (rw [show Int.fdiv 18446744073709551616 2 = 9223372036854775808 from by decide]; omega)))) | ((with_reducible show wpAny _ _ (call (Value.ref 87) _) _ _ _); (refine' use_RBool (inr_ok ?_ ?_) ?k1 ?k2 ?k3 ?k4 ?k5 ?kK ?kd ?ku ?_)) | ((with_reducible show wpAny _ _ (call (Value.ref 94) _) _ _ _); (refine' use_RStr (collate_ok ?_ ?_ ?_) ?k1 ?k2 ?k3 ?k4 ?k5 ?kK ?kd ?ku ?_)) | ((with_reducible show wpAny _ _ (call (Value.ref 80) _) _ _ _); (first | (refine' use_RStr stc_none ?k1 ?k2 ?k3 ?k4 ?k5 ?kK ?kd ?ku ?_) | (refine' use_RStr stc_int ?k1 ?k2 ?k3 ?k4 ?k5 ?kK ?kd ?ku ?_) | (refine' use_RStr stc_str ?k1 ?k2 ?k3 ?k4 ?k5 ?kK ?kd ?ku ?_) | (refine' use_RStr stc_bytes ?k1 ?k2 ?k3 ?k4 ?k5 ?kK ?kd ?ku ?_) | (refine' use_RStr (stc_ok (by assumption)) ?k1 ?k2 ?k3 ?k4 ?k5 ?kK ?kd ?ku ?_)))); ((try (case k4 => walk_at "t_news")); ((case k1 => k_asm); (case k2 => k_asm); (case k3 => k_asm); (case k5 => k_asm); (case kK => first | exact rfl | assumption); (case kd => first | exact room9 (by with_reducible assumption) (by decide) | ktr_room); (case ku => first | exact unit9 (by with_reducible assumption) (by decide) | ktr_units)); (all_goals first | (fail_if_success (fail_if_success (intro (h9 : Heap)))) | (fail_if_success (refine of_prop ?_)) | with_reducible assumption | walk_at "t_prem" | assumption); k_whole))); (intros; (try k_fold))) | fail "none"); k_steps)))
  refine cCase ?_
  (k_steps; repeat (any_goals ((with_reducible refine unstop ?_); (first | ((k_dflt ((first | ((with_reducible show wpAny _ _ (call (Value.ref 116) _) _ _ _); (refine' use_RBytes (fixed_ok ?qa ?qb) ?k1 ?k2 ?k3 ?k4 ?k5 ?kK ?kd ?ku ?_; (case qa => (rw [show Int.fdiv 18446744073709551616 2 = 9223372036854775808 from by decide]; omega)); (case qb => (rw [show Int.fdiv 18446744073709551616 2 = 9223372036854775808 from by decide]; omega)))) | ((with_reducible show wpAny _ _ (call (Value.ref 87) _) _ _ _); (refine' use_RBool (inr_ok ?_ ?_) ?k1 ?k2 ?k3 ?k4 ?k5 ?kK ?kd ?ku ?_)) | ((with_reducible show wpAny _ _ (call (Value.ref 94) _) _ _ _); (refine' use_RStr (collate_ok ?_ ?_ ?_) ?k1 ?k2 ?k3 ?k4 ?k5 ?kK ?kd ?ku ?_)) | ((with_reducible show wpAny _ _ (call (Value.ref 80) _) _ _ _); (first | (refine' use_RStr stc_none ?k1 ?k2 ?k3 ?k4 ?k5 ?kK ?kd ?ku ?_) | (refine' use_RStr stc_int ?k1 ?k2 ?k3 ?k4 ?k5 ?kK ?kd ?ku ?_) | (refine' use_RStr stc_str ?k1 ?k2 ?k3 ?k4 ?k5 ?kK ?kd ?ku ?_) | (refine' use_RStr stc_bytes ?k1 ?k2 ?k3 ?k4 ?k5 ?kK ?kd ?ku ?_) | (refine' use_RStr (stc_ok (by assumption)) ?k1 ?k2 ?k3 ?k4 ?k5 ?kK ?kd ?ku ?_)))); ((try (case k4 => walk_at "t_news")); ((case k1 => k_asm); (case k2 => k_asm); (case k3 => k_asm); (case k5 => k_asm); (case kK => first | exact rfl | assumption); (case kd => first | exact room9 (by with_reducible assumption) (by decide) | ktr_room); (case ku => first | exact unit9 (by with_reducible assumption) (by decide) | ktr_units)); (all_goals first | (fail_if_success (fail_if_success (intro (h9 : Heap)))) | (fail_if_success (refine of_prop ?_)) | with_reducible assumption | walk_at "t_prem" | assumption); k_whole))); (intros; (try k_fold))) | fail "none"); k_steps)))
  (refine cBa BA.slot_append ty_append ?_; (k_steps; (rename News _ _ _ _ => N'); (refine' ⟨_, _, rfl, ?z, cCallWith_1 (by intro a h; cases h) (cAny ?_)⟩; (case z => exact (N' (_, _) (by walk_at "t_mem")).1)); k_steps); (show wpC _ _ (call _ [Value.ref _, Value.int _ _]) _ _); (refine' append_B (by k_asm) (by k_asm) ?P ?o ?a ?b ?z ?_; (case P => walk_at "t_pull"); (case o => walk_at "t_off"); (case a => omega); (case b => omega); (case z => walk_at "t_size")); intro h' F' N'; refine ⟨rfl, ?_⟩)
  (refine cBa BA.slot_extend ty_extend ?_; k_steps; (rename News _ _ _ _ => N'); (refine' ⟨_, _, rfl, ?z, cCallWith_1 (by intro a h; cases h) ?_⟩; (case z => exact (N' (_, _) (by walk_at "t_mem")).1)))
  (refine cCall_Name ?_; k_steps; refine cCallWith_K (K := Mine.hd.heap_39 w.params) (by k_is) rfl (cSpliced_cons ?_))
  refine cAny (show wpAny _ _ (eval _ _) _ _ _ from ?_)
  (k_steps; repeat (any_goals ((with_reducible refine unstop ?_); (first | ((k_dflt ((first | ((with_reducible show wpAny _ _ (call (Value.ref 116) _) _ _ _); (refine' use_RBytes (fixed_ok ?qa ?qb) ?k1 ?k2 ?k3 ?k4 ?k5 ?kK ?kd ?ku ?_; (case qa => (rw [show Int.fdiv 18446744073709551616 2 = 9223372036854775808 from by decide]; omega)); (case qb => (rw [show Int.fdiv 18446744073709551616 2 = 9223372036854775808 from by decide]; omega)))) | ((with_reducible show wpAny _ _ (call (Value.ref 87) _) _ _ _); (refine' use_RBool (inr_ok ?_ ?_) ?k1 ?k2 ?k3 ?k4 ?k5 ?kK ?kd ?ku ?_)) | ((with_reducible show wpAny _ _ (call (Value.ref 94) _) _ _ _); (refine' use_RStr (collate_ok ?_ ?_ ?_) ?k1 ?k2 ?k3 ?k4 ?k5 ?kK ?kd ?ku ?_)) | ((with_reducible show wpAny _ _ (call (Value.ref 80) _) _ _ _); (first | (refine' use_RStr stc_none ?k1 ?k2 ?k3 ?k4 ?k5 ?kK ?kd ?ku ?_) | (refine' use_RStr stc_int ?k1 ?k2 ?k3 ?k4 ?k5 ?kK ?kd ?ku ?_) | (refine' use_RStr stc_str ?k1 ?k2 ?k3 ?k4 ?k5 ?kK ?kd ?ku ?_) | (refine' use_RStr stc_bytes ?k1 ?k2 ?k3 ?k4 ?k5 ?kK ?kd ?ku ?_) | (refine' use_RStr (stc_ok (by assumption)) ?k1 ?k2 ?k3 ?k4 ?k5 ?kK ?kd ?ku ?_)))); ((try (case k4 => walk_at "t_news")); ((case k1 => k_asm); (case k2 => k_asm); (case k3 => k_asm); (case k5 => k_asm); (case kK => first | exact rfl | assumption); (case kd => first | exact room9 (by with_reducible assumption) (by decide) | ktr_room); (case ku => first | exact unit9 (by with_reducible assumption) (by decide) | ktr_units)); (all_goals first | (fail_if_success (fail_if_success (intro (h9 : Heap)))) | (fail_if_success (refine of_prop ?_)) | with_reducible assumption | walk_at "t_prem" | assumption); k_whole))); (intros; (try k_fold))) | fail "none"); k_steps)))
  refine cSpliced_nil ?_
  refine ⟨by k_in, ?_⟩
  ((k_dflt ((first | ((with_reducible show wpC _ _ (call (Value.ref 66) _) _ _); (refine' use_RBytesC (utf8_ok ?_ ?_) ?k1 ?k2 ?k3 ?k4 ?k5 ?kK ?kd ?ku ?_)) | ((with_reducible show wpC _ _ (call (Value.ref 173) _) _ _); (refine' use_RBAC (ended_ok ?_) ?k1 ?k2 ?k3 ?k4 ?k5 ?kK ?kd ?ku ?_))); ((try (case k4 => walk_at "t_news")); ((case k1 => k_asm); (case k2 => k_asm); (case k3 => k_asm); (case k5 => k_asm); (case kK => first | exact rfl | assumption); (case kd => first | exact room9 (by with_reducible assumption) (by decide) | ktr_room); (case ku => first | exact unit9 (by with_reducible assumption) (by decide) | ktr_units)); (all_goals first | (fail_if_success (fail_if_success (intro (h9 : Heap)))) | (fail_if_success (refine of_prop ?_)) | with_reducible assumption | walk_at "t_prem" | assumption); k_whole))); (intros; (try k_fold)))
  subst_vars
  (rename Off _ (_ :: _) => ho9)
  have hne9 := off_head ho9
  ((show wpC _ _ (call _ [Value.ref _, Value.ref _]) _ _); (refine' extend_BA (by k_asm) (by k_asm) ?c ?P ?o ?z ?_; (case c => walk_at "t_mem"); (case P => walk_at "t_pull"); (case o => walk_at "t_off"); (case z => walk_at "t_size")); intro h' F' N'; refine ⟨rfl, ?_⟩)
  (repeat (refine cExecs_nil ?_; (try dsimp only)))
  (refine cStep ?_; (k_steps; repeat (any_goals ((with_reducible refine unstop ?_); (first | ((k_dflt ((first | ((with_reducible show wpAny _ _ (call (Value.ref 116) _) _ _ _); (refine' use_RBytes (fixed_ok ?qa ?qb) ?k1 ?k2 ?k3 ?k4 ?k5 ?kK ?kd ?ku ?_; (case qa => (rw [show Int.fdiv 18446744073709551616 2 = 9223372036854775808 from by decide]; omega)); (case qb => (rw [show Int.fdiv 18446744073709551616 2 = 9223372036854775808 from by decide]; omega)))) | ((with_reducible show wpAny _ _ (call (Value.ref 87) _) _ _ _); (refine' use_RBool (inr_ok ?_ ?_) ?k1 ?k2 ?k3 ?k4 ?k5 ?kK ?kd ?ku ?_)) | ((with_reducible show wpAny _ _ (call (Value.ref 94) _) _ _ _); (refine' use_RStr (collate_ok ?_ ?_ ?_) ?k1 ?k2 ?k3 ?k4 ?k5 ?kK ?kd ?ku ?_)) | ((with_reducible show wpAny _ _ (call (Value.ref 80) _) _ _ _); (first | (refine' use_RStr stc_none ?k1 ?k2 ?k3 ?k4 ?k5 ?kK ?kd ?ku ?_) | (refine' use_RStr stc_int ?k1 ?k2 ?k3 ?k4 ?k5 ?kK ?kd ?ku ?_) | (refine' use_RStr stc_str ?k1 ?k2 ?k3 ?k4 ?k5 ?kK ?kd ?ku ?_) | (refine' use_RStr stc_bytes ?k1 ?k2 ?k3 ?k4 ?k5 ?kK ?kd ?ku ?_) | (refine' use_RStr (stc_ok (by assumption)) ?k1 ?k2 ?k3 ?k4 ?k5 ?kK ?kd ?ku ?_)))); ((try (case k4 => walk_at "t_news")); ((case k1 => k_asm); (case k2 => k_asm); (case k3 => k_asm); (case k5 => k_asm); (case kK => first | exact rfl | assumption); (case kd => first | exact room9 (by with_reducible assumption) (by decide) | ktr_room); (case ku => first | exact unit9 (by with_reducible assumption) (by decide) | ktr_units)); (all_goals first | (fail_if_success (fail_if_success (intro (h9 : Heap)))) | (fail_if_success (refine of_prop ?_)) | with_reducible assumption | walk_at "t_prem" | assumption); k_whole))); (intros; (try k_fold))) | fail "none"); k_steps))); (try dsimp only))
  all_goals exact hret _ _ _ _ (RBA.mk _ _ (rfl) (by walk_at "t_off")) (by k_asm) (news_sub (by k_asm) (by walk_at "t_sub"))
theorem part_ok {v : Value} {c : Str} {u : Tok} (hv : Good k v) (hk : k ≤ 64) (hc : CollName c) : DoesC w loose mean mg mb 180 6 [v, .str c u] news (RBA (partV c v) news) := by
  cases hv with
  | none => exact part_none
  | int h0 h1 => exact part_int h0 h1
  | bytes h1 => exact part_bytes (Nat.le_trans h1 hk)
  | str h1 h2 => exact part_str (Nat.le_trans h1 hk) h2 hc
end
local macro_rules | `(tactic| walk_at "pad9") => `(tactic| skip)
section
set_option maxHeartbeats 8000000 in
theorem oct_ok {la x : Addr} {va : List Value} {na : Nat} {ks : List Str} {ts : List Bool} (ha : (la, W.listOf va.toArray na) ∈ news) (ga : Goods k va) (hk : k ≤ 64) (hI : InfoIn w.params x ks ts news) (hC : Colls ks) (h1 : va.length = ks.length) :
    DoesC w loose mean mg mb 187 12 [.ref la, .ref x] news (RBytes (octA ks ts va va.length) news) := by
  have hf := hI.few
  have hld := hI.len
  have hsz := oct_size (ks := ks) (ts := ts) ga hk
  w_top off
  refine' entryK (bs := [.ref la, .ref x]) [Str.ofString "values", Str.ofString "info"] ?k6 ?k7 ?k9 ?kB ?c5 ?c2 ?c3 ?c4 ?hn ?kx
  ((case' kx => k_fill); (case k6 => k_is); (case k7 => k_is); (case kB => exact locs rfl); (case c5 => decide); (case c2 => exact rfl); (case c3 => exact rfl); (case c4 => exact rfl); (case hn => decide))
  (case k9 => ((intro s9 X9); first | exact BindsTo.of_eq rfl | exact binds_K X9 rfl (by k_is) rfl rfl rfl))
  intro c9 A9 base9 g9 h9 L9 ge9 dr9 tk9 os9 Q9 hdp hun F N B X T hret
  (refine cSet (cCall_Name ?_); k_steps; (show wpC _ _ (callWith _ (Value.type "bytearray") [] [] []) _ _); refine cCallWith_0 (by intro a h; cases h) (newba_L (by k_asm) (by k_asm) ?_); intro D' h' F' N' l1; (try k_lt l1); k_steps; (try dsimp only))
  (rename Addr => D)
  refine cForS ?_
  (k_steps; repeat (any_goals ((with_reducible refine unstop ?_); (first | ((k_dflt ((first | ((with_reducible show wpAny _ _ (call (Value.ref 151) _) _ _ _); (refine' use_RBool (desc_ok ?_ ?_ ?_) ?k1 ?k2 ?k3 ?k4 ?k5 ?kK ?kd ?ku ?_)) | ((with_reducible show wpAny _ _ (call (Value.ref 144) _) _ _ _); (refine' use_RStr (coll_ok ?_ ?_ ?_) ?k1 ?k2 ?k3 ?k4 ?k5 ?kK ?kd ?ku ?_))); ((try (case k4 => walk_at "t_news")); ((case k1 => k_asm); (case k2 => k_asm); (case k3 => k_asm); (case k5 => k_asm); (case kK => first | exact rfl | assumption); (case kd => first | exact room9 (by with_reducible assumption) (by decide) | ktr_room); (case ku => first | exact unit9 (by with_reducible assumption) (by decide) | ktr_units)); (all_goals first | (fail_if_success (fail_if_success (intro (h9 : Heap)))) | (fail_if_success (refine of_prop ?_)) | with_reducible assumption | walk_at "t_prem" | assumption); k_whole))); (intros; (try k_fold))) | fail "none"); k_steps)))
  unfold Stop
  (rename Fr _ _ _ _ => F1)
  (rename News _ _ _ _ => N1)
  (rename IsRange _ _ _ _ _ _ _ _ => R1)
  refine for_rangeC (n := va.length) (σ := Array UInt8) (fun c => [(_, baObj c)]) [Str.ofString "part", Str.ofString "octet", Str.ofString "place"] (fun i c _ => c = octA ks ts va i) #[] rfl rfl rfl R1 (range_smallN (by first | decide | omega)) (range_sizeN (by first | decide | omega)) F1 N1 (fun _ => rfl) rfl ?_ ?_
  · rintro i u hi c m₁ h tk rest hI0 hu hsub hoff F2 N2
    have ho := hoff _ (List.mem_singleton.mpr rfl) (by walk_at "t_off")
    dsimp only [List.cons_append, List.nil_append] at N2 hI0
    have hsi := hsz i (Nat.le_of_lt hi)
    have ha2 := hsub _ ha
    have hI2 := hI.mono hsub
    obtain ⟨⟨dx, tc, td, k1, k2, vc, n1, n2, hx, hdx, _⟩, _, _⟩ := hI2
    have N3 := news_add (news_add N2 (.tail _ hdx)) (.tail _ (.tail _ hx))
    have hI3 := hI.mono (fun p hp => List.mem_cons_of_mem (x, instObj 154 dx) (List.mem_cons_of_mem (dx, infoDict w.params k1 k2 tc td) (List.mem_cons_of_mem (D, baObj c) (hsub p hp))))
    have hxD : @Ne Nat x D := ho _ hx
    have hdD : @Ne Nat dx D := ho _ hdx
    clear N2 hx hdx hI
    refine cSet ?_
    (refine cCall_Name ?_; k_steps; refine cCallWith_K (K := Mine.hd.heap_39 w.params) (by k_is) rfl (cSpliced_cons ?_))
    refine cAny (show wpAny _ _ (eval _ _) _ _ _ from ?_)
    (k_steps; repeat (any_goals ((with_reducible refine unstop ?_); (first | ((k_dflt ((first | ((with_reducible show wpAny _ _ (call (Value.ref 151) _) _ _ _); (refine' use_RBool (desc_ok ?_ ?_ ?_) ?k1 ?k2 ?k3 ?k4 ?k5 ?kK ?kd ?ku ?_)) | ((with_reducible show wpAny _ _ (call (Value.ref 144) _) _ _ _); (refine' use_RStr (coll_ok ?_ ?_ ?_) ?k1 ?k2 ?k3 ?k4 ?k5 ?kK ?kd ?ku ?_))); ((try (case k4 => walk_at "t_news")); ((case k1 => k_asm); (case k2 => k_asm); (case k3 => k_asm); (case k5 => k_asm); (case kK => first | exact rfl | assumption); (case kd => first | exact room9 (by with_reducible assumption) (by decide) | ktr_room); (case ku => first | exact unit9 (by with_reducible assumption) (by decide) | ktr_units)); (all_goals first | (fail_if_success (fail_if_success (intro (h9 : Heap)))) | (fail_if_success (refine of_prop ?_)) | with_reducible assumption | walk_at "t_prem" | assumption); k_whole))); (intros; (try k_fold))) | fail "none"); k_steps)))
    refine cSpliced_cons ?_
    refine cAny (show wpAny _ _ (eval _ _) _ _ _ from ?_)
    (k_steps; repeat (any_goals ((with_reducible refine unstop ?_); (first | ((k_dflt ((first | ((with_reducible show wpAny _ _ (call (Value.ref 151) _) _ _ _); (refine' use_RBool (desc_ok ?_ ?_ ?_) ?k1 ?k2 ?k3 ?k4 ?k5 ?kK ?kd ?ku ?_)) | ((with_reducible show wpAny _ _ (call (Value.ref 144) _) _ _ _); (refine' use_RStr (coll_ok ?_ ?_ ?_) ?k1 ?k2 ?k3 ?k4 ?k5 ?kK ?kd ?ku ?_))); ((try (case k4 => walk_at "t_news")); ((case k1 => k_asm); (case k2 => k_asm); (case k3 => k_asm); (case k5 => k_asm); (case kK => first | exact rfl | assumption); (case kd => first | exact room9 (by with_reducible assumption) (by decide) | ktr_room); (case ku => first | exact unit9 (by with_reducible assumption) (by decide) | ktr_units)); (all_goals first | (fail_if_success (fail_if_success (intro (h9 : Heap)))) | (fail_if_success (refine of_prop ?_)) | with_reducible assumption | walk_at "t_prem" | assumption); k_whole))); (intros; (try k_fold))) | fail "none"); k_steps)))
    refine cSpliced_nil ?_
    refine ⟨by k_in, ?_⟩
    ((k_dflt (((with_reducible show wpC _ _ (call (Value.ref 180) _) _ _); (refine' use_RBAC (part_ok ?_ ?_ ?_) ?k1 ?k2 ?k3 ?k4 ?k5 ?kK ?kd ?ku ?_)); ((try (case k4 => walk_at "t_news")); ((case k1 => k_asm); (case k2 => k_asm); (case k3 => k_asm); (case k5 => k_asm); (case kK => first | exact rfl | assumption); (case kd => first | exact room9 (by with_reducible assumption) (by decide) | ktr_room); (case ku => first | exact unit9 (by with_reducible assumption) (by decide) | ktr_units)); (all_goals first | (fail_if_success (fail_if_success (intro (h9 : Heap)))) | (fail_if_success (refine of_prop ?_)) | with_reducible assumption | walk_at "t_prem" | assumption); k_whole))); (intros; (try k_fold)))
    subst_vars
    (rename Off _ (_ :: _) => ho9)
    (rename Addr => D9)
    have hne9 : @Ne Nat D D9 := ho9 (D, _) (.tail _ (.tail _ (.head _)))
    have ho8 : Off D9 rest := fun p hp => ho9 p (.tail _ (.tail _ (.tail _ hp)))
    have hne8 : @Ne Nat D9 D := Ne.symm hne9
    (rename va[_]? = some _ => e9)
    (rename Value => v9)
    have hps := part_size (c := ks.getD (i : Int).toNat Str.empty) (good_at ga e9) (by assumption)
    have hI4 := hI3.mono (fun p hp => List.mem_cons_of_mem (D9, baObj (partV (ks.getD (i : Int).toNat Str.empty) v9)) hp)
    clear hI3
    (k_steps; repeat (any_goals ((with_reducible refine unstop ?_); (first | ((k_dflt ((first | ((with_reducible show wpAny _ _ (call (Value.ref 151) _) _ _ _); (refine' use_RBool (desc_ok ?_ ?_ ?_) ?k1 ?k2 ?k3 ?k4 ?k5 ?kK ?kd ?ku ?_)) | ((with_reducible show wpAny _ _ (call (Value.ref 144) _) _ _ _); (refine' use_RStr (coll_ok ?_ ?_ ?_) ?k1 ?k2 ?k3 ?k4 ?k5 ?kK ?kd ?ku ?_))); ((try (case k4 => walk_at "t_news")); ((case k1 => k_asm); (case k2 => k_asm); (case k3 => k_asm); (case k5 => k_asm); (case kK => first | exact rfl | assumption); (case kd => first | exact room9 (by with_reducible assumption) (by decide) | ktr_room); (case ku => first | exact unit9 (by with_reducible assumption) (by decide) | ktr_units)); (all_goals first | (fail_if_success (fail_if_success (intro (h9 : Heap)))) | (fail_if_success (refine of_prop ?_)) | with_reducible assumption | walk_at "t_prem" | assumption); k_whole))); (intros; (try k_fold))) | fail "none"); k_steps)))
    refine cCase ?_
    (k_steps; repeat (any_goals ((with_reducible refine unstop ?_); (first | ((k_dflt ((first | ((with_reducible show wpAny _ _ (call (Value.ref 151) _) _ _ _); (refine' use_RBool (desc_ok ?_ ?_ ?_) ?k1 ?k2 ?k3 ?k4 ?k5 ?kK ?kd ?ku ?_)) | ((with_reducible show wpAny _ _ (call (Value.ref 144) _) _ _ _); (refine' use_RStr (coll_ok ?_ ?_ ?_) ?k1 ?k2 ?k3 ?k4 ?k5 ?kK ?kd ?ku ?_))); ((try (case k4 => walk_at "t_news")); ((case k1 => k_asm); (case k2 => k_asm); (case k3 => k_asm); (case k5 => k_asm); (case kK => first | exact rfl | assumption); (case kd => first | exact room9 (by with_reducible assumption) (by decide) | ktr_room); (case ku => first | exact unit9 (by with_reducible assumption) (by decide) | ktr_units)); (all_goals first | (fail_if_success (fail_if_success (intro (h9 : Heap)))) | (fail_if_success (refine of_prop ?_)) | with_reducible assumption | walk_at "t_prem" | assumption); k_whole))); (intros; (try k_fold))) | fail "none"); k_steps)))
    · (rename ts.getD _ _ = true => g1)
      refine cForS ?_
      (k_steps; repeat (any_goals ((with_reducible refine unstop ?_); (first | ((k_dflt ((first | ((with_reducible show wpAny _ _ (call (Value.ref 151) _) _ _ _); (refine' use_RBool (desc_ok ?_ ?_ ?_) ?k1 ?k2 ?k3 ?k4 ?k5 ?kK ?kd ?ku ?_)) | ((with_reducible show wpAny _ _ (call (Value.ref 144) _) _ _ _); (refine' use_RStr (coll_ok ?_ ?_ ?_) ?k1 ?k2 ?k3 ?k4 ?k5 ?kK ?kd ?ku ?_))); ((try (case k4 => walk_at "t_news")); ((case k1 => k_asm); (case k2 => k_asm); (case k3 => k_asm); (case k5 => k_asm); (case kK => first | exact rfl | assumption); (case kd => first | exact room9 (by with_reducible assumption) (by decide) | ktr_room); (case ku => first | exact unit9 (by with_reducible assumption) (by decide) | ktr_units)); (all_goals first | (fail_if_success (fail_if_success (intro (h9 : Heap)))) | (fail_if_success (refine of_prop ?_)) | with_reducible assumption | walk_at "t_prem" | assumption); k_whole))); (intros; (try k_fold))) | fail "none"); k_steps)))
      unfold Stop
      (rename Fr _ _ _ _ => F3)
      (rename News _ _ _ _ => N3)
      have N4 := news_sub (r := (D9, baObj (partV (ks.getD (i : Int).toNat Str.empty) v9)) :: ([(D, baObj (octA ks ts va i))] ++ rest)) N3 (by walk_at "t_sub")
      clear N3
      generalize hpv : partV (ks.getD (i : Int).toNat Str.empty) v9 = pv at N4 hps hI4
      generalize hov : octA ks ts va i = ov at N4 hsi hI4
      refine for_baC (σ := Array UInt8) (fun c => [(D, baObj c)]) [Str.ofString "octet"] (fun j c _ => c = ov ++ ((pv.toList.take j).map flip8).toArray) ov rfl rfl rfl F3 N4 (by walk_at "t_off") (fun _ => rfl) (by simp) ?_ ?_
      · rintro j c u2 hd c2 m₂ h2 tk2 rest2 hI5 hu2 hsub2 hoff2 F4 N5
        have ho2 := hoff2 _ (List.mem_singleton.mpr rfl) (by walk_at "t_off")
        dsimp only [List.cons_append, List.nil_append] at N5 hI5
        have hd' : pv.toList[j]? = some c := by simpa using hd
        have hc1 := c.toNat_lt
        have hil : c2.size ≤ 3000 := by
          rw [hI5]
          simp
          omega
        (refine cBa BA.slot_append ty_append ?_; (k_steps; (rename News _ _ _ _ => N'); (refine' ⟨_, _, rfl, ?z, cCallWith_1 (by intro a h; cases h) (cAny ?_)⟩; (case z => exact (N' (_, _) (by walk_at "t_mem")).1)); k_steps); (show wpC _ _ (call _ [Value.ref _, Value.int _ _]) _ _); (refine' append_B (by k_asm) (by k_asm) ?P ?o ?a ?b ?z ?_; (case P => walk_at "t_pull"); (case o => walk_at "t_off"); (case a => omega); (case b => omega); (case z => walk_at "t_size")); intro h' F' N'; refine ⟨rfl, ?_⟩)
        (repeat (refine cExecs_nil ?_; (try dsimp only)))
        refine ⟨_, _, _, _, rfl, by k_asm, ?_, ov ++ ((pv.toList.take (j + 1)).map flip8).toArray, rfl, rfl, ?_⟩
        · rw [← flip_step hd', ← hI5]
          k_asm
        · intro y hy
          simp at hy
          simp [hy]
      · rintro c2 m₂ h2 tk2 hI5 hu2 F4 N5
        dsimp only [List.cons_append, List.nil_append] at N5 hI5
        rw [flip_all] at hI5
        dsimp only
        (repeat (refine cExecs_nil ?_; (try dsimp only)))
        rw [Int.toNat_natCast] at e9 g1 hpv
        refine ⟨_, _, _, _, rfl, by k_asm, by k_asm, c2, rfl, ?_, ?_⟩
        · rw [oct_step e9 g1 rfl, hov, hI5, hpv]
          rfl
        · intro y hy
          simp at hy
          simp [hy]
    · (rename ts.getD _ _ = false => g1)
      (refine cBa BA.slot_extend ty_extend ?_; k_steps; (rename News _ _ _ _ => N'); (refine' ⟨_, _, rfl, ?z, cCallWith_1 (by intro a h; cases h) ?_⟩; (case z => exact (N' (_, _) (by walk_at "t_mem")).1)))
      refine cAny (show wpAny _ _ (eval _ _) _ _ _ from ?_)
      (k_steps; repeat (any_goals ((with_reducible refine unstop ?_); (first | ((k_dflt ((first | ((with_reducible show wpAny _ _ (call (Value.ref 151) _) _ _ _); (refine' use_RBool (desc_ok ?_ ?_ ?_) ?k1 ?k2 ?k3 ?k4 ?k5 ?kK ?kd ?ku ?_)) | ((with_reducible show wpAny _ _ (call (Value.ref 144) _) _ _ _); (refine' use_RStr (coll_ok ?_ ?_ ?_) ?k1 ?k2 ?k3 ?k4 ?k5 ?kK ?kd ?ku ?_))); ((try (case k4 => walk_at "t_news")); ((case k1 => k_asm); (case k2 => k_asm); (case k3 => k_asm); (case k5 => k_asm); (case kK => first | exact rfl | assumption); (case kd => first | exact room9 (by with_reducible assumption) (by decide) | ktr_room); (case ku => first | exact unit9 (by with_reducible assumption) (by decide) | ktr_units)); (all_goals first | (fail_if_success (fail_if_success (intro (h9 : Heap)))) | (fail_if_success (refine of_prop ?_)) | with_reducible assumption | walk_at "t_prem" | assumption); k_whole))); (intros; (try k_fold))) | fail "none"); k_steps)))
      ((show wpC _ _ (call _ [Value.ref _, Value.ref _]) _ _); (refine' extend_BA (by k_asm) (by k_asm) ?c ?P ?o ?z ?_; (case c => walk_at "t_mem"); (case P => walk_at "t_pull"); (case o => walk_at "t_off"); (case z => walk_at "t_size")); intro h' F' N'; refine ⟨rfl, ?_⟩)
      (repeat (refine cExecs_nil ?_; (try dsimp only)))
      rw [Int.toNat_natCast] at e9 g1
      refine ⟨_, _, _, _, rfl, by k_asm, news_sub (by k_asm) (by walk_at "t_sub"), octA ks ts va i ++ partV (ks.getD (i : Int).toNat Str.empty) v9, rfl, ?_, ?_⟩
      · rw [Int.toNat_natCast, oct_step e9 g1 rfl]
        rfl
      · intro y hy
        simp at hy
        simp [hy]
  · rintro c m₁ h tk hI0 hu F2 N2
    dsimp only [List.cons_append, List.nil_append] at N2 hI0
    have hsi := hsz va.length (Nat.le_refl _)
    subst hI0
    dsimp only
    (refine cStep ?_; (k_steps; repeat (any_goals ((with_reducible refine unstop ?_); (first | ((k_dflt ((first | ((with_reducible show wpAny _ _ (call (Value.ref 151) _) _ _ _); (refine' use_RBool (desc_ok ?_ ?_ ?_) ?k1 ?k2 ?k3 ?k4 ?k5 ?kK ?kd ?ku ?_)) | ((with_reducible show wpAny _ _ (call (Value.ref 144) _) _ _ _); (refine' use_RStr (coll_ok ?_ ?_ ?_) ?k1 ?k2 ?k3 ?k4 ?k5 ?kK ?kd ?ku ?_))); ((try (case k4 => walk_at "t_news")); ((case k1 => k_asm); (case k2 => k_asm); (case k3 => k_asm); (case k5 => k_asm); (case kK => first | exact rfl | assumption); (case kd => first | exact room9 (by with_reducible assumption) (by decide) | ktr_room); (case ku => first | exact unit9 (by with_reducible assumption) (by decide) | ktr_units)); (all_goals first | (fail_if_success (fail_if_success (intro (h9 : Heap)))) | (fail_if_success (refine of_prop ?_)) | with_reducible assumption | walk_at "t_prem" | assumption); k_whole))); (intros; (try k_fold))) | fail "none"); k_steps))); (try dsimp only))
    all_goals exact hret _ _ _ _ (RBytes.of rfl) (by k_asm) (by walk_at "t_led")
end
section
local macro_rules | `(tactic| walk_at "t_infox") => `(tactic| first | assumption | (refine' InfoIn.mono ?mA ?mB; (case mA => assumption); (case mB => (intro p hp; walk_at "t_tail"))))
local macro_rules | `(tactic| walk_at "t_goodsx") => `(tactic| first | assumption | exact goods_take (by assumption))
local macro_rules | `(tactic| walk_at "call type:bytes") => `(tactic| (k_here; (with_reducible show wpAny _ _ (call (Value.type "bytes") [Value.bytes _ _]) _ _ _); (with_reducible refine bytes_b ?_)))
set_option maxHeartbeats 8000000 in
theorem pair_ok {src la lb x tc td : Addr} {va vb vc : List Value} {na nb nc nd ep : Nat} {ks : List Str} {ts : List Bool} {y0 y1 : Int} {ty tz : Tok} (ha : (la, W.listOf va.toArray na) ∈ news) (hb : (lb, W.listOf vb.toArray nb) ∈ news) (hc : (tc, tupObj vc nc) ∈ news) (hd : (td, tupObj (ts.map Value.bool) nd) ∈ news) (ga : Goods k va) (gb : Goods k vb) (hk : k ≤ 64) (hs : StrsAre vc ks) (hI : InfoIn w.params x ks ts news) (hC : Colls ks) (h1 : va.length = ks.length) (h2 : vb.length = ks.length) (h0 : 1 ≤ ks.length) (hy0 : 0 ≤ y1) (hy1 : y1 < 2147483647) (hoff : Off src news) :
    DoesC w loose mean mg mb 272 40 [.ref src, .ref la, .ref lb, .ref x, .ref tc, .ref td] ((src, W.listOf #[.int y0 ty, .int y1 tz] ep) :: news) (RYes src news) := by
  have hf := hI.few
  have hld := hI.len
  have hneg := ck_neg ks ts va vb
  have hle : va.length ≤ vb.length := by omega
  have hle2 : vb.length ≤ va.length := by omega
  have e1 : vb.length = va.length := by omega
  w_top off
  refine' entryK (bs := [.ref src, .ref la, .ref lb, .ref x, .ref tc, .ref td]) [Str.ofString "source", Str.ofString "row", Str.ofString "beside", Str.ofString "info", Str.ofString "collations", Str.ofString "turned"] ?k6 ?k7 ?k9 ?kB ?c5 ?c2 ?c3 ?c4 ?hn ?kx
  ((case' kx => k_fill); (case k6 => k_is); (case k7 => k_is); (case kB => exact locs rfl); (case c5 => decide); (case c2 => exact rfl); (case c3 => exact rfl); (case c4 => exact rfl); (case hn => decide))
  (case k9 => ((intro s9 X9); first | exact BindsTo.of_eq rfl | exact binds_K X9 rfl (by k_is) rfl rfl rfl))
  intro c9 A9 base9 g9 h9 L9 ge9 dr9 tk9 os9 Q9 hdp hun F N B X T hret
  (refine cStep ?_; (k_steps; repeat (any_goals ((with_reducible refine unstop ?_); (first | ((k_dflt ((first | ((with_reducible show wpAny _ _ (call (Value.ref 234) _) _ _ _); (refine' use_RInt (kord_ok ?_ ?_ ?_ ?_ ?_ ?_ ?_ ?_ ?_ ?_ ?_ ?_ ?_ ?_ ?_) ?k1 ?k2 ?k3 ?k4 ?k5 ?kK ?kd ?ku ?_)) | ((with_reducible show wpAny _ _ (call (Value.ref 166) _) _ _ _); (first | (refine' use_RInt (ck4_ok ?_ ?_ ?_ ?_ ?_ ?_ ?_ ?_ ?_ ?_ ?_) ?k1 ?k2 ?k3 ?k4 ?k5 ?kK ?kd ?ku ?_) | (refine' use_RInt (ck3_ok ?_ ?_ ?_ ?_ ?_ ?_ ?_ ?_ ?_) ?k1 ?k2 ?k3 ?k4 ?k5 ?kK ?kd ?ku ?_))) | ((with_reducible show wpAny _ _ (call (Value.ref 201) _) _ _ _); (refine' use_RTake (take_ok ?_ ?_ ?_ ?_ ?_) ?k1 ?k2 ?k3 ?k4 ?k5 ?kK ?kd ?ku ?_))); ((try (case k4 => walk_at "t_news")); ((case k1 => k_asm); (case k2 => k_asm); (case k3 => k_asm); (case k5 => k_asm); (case kK => first | exact rfl | assumption); (case kd => first | exact room9 (by with_reducible assumption) (by decide) | ktr_room); (case ku => first | exact unit9 (by with_reducible assumption) (by decide) | ktr_units)); (all_goals first | (fail_if_success (fail_if_success (intro (h9 : Heap)))) | (fail_if_success (refine of_prop ?_)) | with_reducible assumption | walk_at "t_prem" | assumption); k_whole))); (intros; (try k_fold))) | fail "none"); k_steps))); (try dsimp only))
  (refine cStep ?_; (k_steps; repeat (any_goals ((with_reducible refine unstop ?_); (first | ((k_dflt ((first | ((with_reducible show wpAny _ _ (call (Value.ref 234) _) _ _ _); (refine' use_RInt (kord_ok ?_ ?_ ?_ ?_ ?_ ?_ ?_ ?_ ?_ ?_ ?_ ?_ ?_ ?_ ?_) ?k1 ?k2 ?k3 ?k4 ?k5 ?kK ?kd ?ku ?_)) | ((with_reducible show wpAny _ _ (call (Value.ref 166) _) _ _ _); (first | (refine' use_RInt (ck4_ok ?_ ?_ ?_ ?_ ?_ ?_ ?_ ?_ ?_ ?_ ?_) ?k1 ?k2 ?k3 ?k4 ?k5 ?kK ?kd ?ku ?_) | (refine' use_RInt (ck3_ok ?_ ?_ ?_ ?_ ?_ ?_ ?_ ?_ ?_) ?k1 ?k2 ?k3 ?k4 ?k5 ?kK ?kd ?ku ?_))) | ((with_reducible show wpAny _ _ (call (Value.ref 201) _) _ _ _); (refine' use_RTake (take_ok ?_ ?_ ?_ ?_ ?_) ?k1 ?k2 ?k3 ?k4 ?k5 ?kK ?kd ?ku ?_))); ((try (case k4 => walk_at "t_news")); ((case k1 => k_asm); (case k2 => k_asm); (case k3 => k_asm); (case k5 => k_asm); (case kK => first | exact rfl | assumption); (case kd => first | exact room9 (by with_reducible assumption) (by decide) | ktr_room); (case ku => first | exact unit9 (by with_reducible assumption) (by decide) | ktr_units)); (all_goals first | (fail_if_success (fail_if_success (intro (h9 : Heap)))) | (fail_if_success (refine of_prop ?_)) | with_reducible assumption | walk_at "t_prem" | assumption); k_whole))); (intros; (try k_fold))) | fail "none"); k_steps))); (try dsimp only))
  (refine cStep ?_; (k_steps; repeat (any_goals ((with_reducible refine unstop ?_); (first | ((k_dflt ((first | ((with_reducible show wpAny _ _ (call (Value.ref 234) _) _ _ _); (refine' use_RInt (kord_ok ?_ ?_ ?_ ?_ ?_ ?_ ?_ ?_ ?_ ?_ ?_ ?_ ?_ ?_ ?_) ?k1 ?k2 ?k3 ?k4 ?k5 ?kK ?kd ?ku ?_)) | ((with_reducible show wpAny _ _ (call (Value.ref 166) _) _ _ _); (first | (refine' use_RInt (ck4_ok ?_ ?_ ?_ ?_ ?_ ?_ ?_ ?_ ?_ ?_ ?_) ?k1 ?k2 ?k3 ?k4 ?k5 ?kK ?kd ?ku ?_) | (refine' use_RInt (ck3_ok ?_ ?_ ?_ ?_ ?_ ?_ ?_ ?_ ?_) ?k1 ?k2 ?k3 ?k4 ?k5 ?kK ?kd ?ku ?_))) | ((with_reducible show wpAny _ _ (call (Value.ref 201) _) _ _ _); (refine' use_RTake (take_ok ?_ ?_ ?_ ?_ ?_) ?k1 ?k2 ?k3 ?k4 ?k5 ?kK ?kd ?ku ?_))); ((try (case k4 => walk_at "t_news")); ((case k1 => k_asm); (case k2 => k_asm); (case k3 => k_asm); (case k5 => k_asm); (case kK => first | exact rfl | assumption); (case kd => first | exact room9 (by with_reducible assumption) (by decide) | ktr_room); (case ku => first | exact unit9 (by with_reducible assumption) (by decide) | ktr_units)); (all_goals first | (fail_if_success (fail_if_success (intro (h9 : Heap)))) | (fail_if_success (refine of_prop ?_)) | with_reducible assumption | walk_at "t_prem" | assumption); k_whole))); (intros; (try k_fold))) | fail "none"); k_steps))); (try dsimp only))
  · (rename ckI _ _ ≠ ckI _ _ => e)
    exact absurd (by rw [Int.toNat_natCast]) e
  · (rename ckI _ _ ≠ - ckI _ _ => e)
    exact absurd (by rw [Int.toNat_natCast, hneg, e1]) e
  (refine cStep ?_; (k_steps; repeat (any_goals ((with_reducible refine unstop ?_); (first | ((k_dflt ((first | ((with_reducible show wpAny _ _ (call (Value.ref 234) _) _ _ _); (refine' use_RInt (kord_ok ?_ ?_ ?_ ?_ ?_ ?_ ?_ ?_ ?_ ?_ ?_ ?_ ?_ ?_ ?_) ?k1 ?k2 ?k3 ?k4 ?k5 ?kK ?kd ?ku ?_)) | ((with_reducible show wpAny _ _ (call (Value.ref 166) _) _ _ _); (first | (refine' use_RInt (ck4_ok ?_ ?_ ?_ ?_ ?_ ?_ ?_ ?_ ?_ ?_ ?_) ?k1 ?k2 ?k3 ?k4 ?k5 ?kK ?kd ?ku ?_) | (refine' use_RInt (ck3_ok ?_ ?_ ?_ ?_ ?_ ?_ ?_ ?_ ?_) ?k1 ?k2 ?k3 ?k4 ?k5 ?kK ?kd ?ku ?_))) | ((with_reducible show wpAny _ _ (call (Value.ref 201) _) _ _ _); (refine' use_RTake (take_ok ?_ ?_ ?_ ?_ ?_) ?k1 ?k2 ?k3 ?k4 ?k5 ?kK ?kd ?ku ?_))); ((try (case k4 => walk_at "t_news")); ((case k1 => k_asm); (case k2 => k_asm); (case k3 => k_asm); (case k5 => k_asm); (case kK => first | exact rfl | assumption); (case kd => first | exact room9 (by with_reducible assumption) (by decide) | ktr_room); (case ku => first | exact unit9 (by with_reducible assumption) (by decide) | ktr_units)); (all_goals first | (fail_if_success (fail_if_success (intro (h9 : Heap)))) | (fail_if_success (refine of_prop ?_)) | with_reducible assumption | walk_at "t_prem" | assumption); k_whole))); (intros; (try k_fold))) | fail "none"); k_steps))); (try dsimp only))
  (refine cStep ?_; (k_steps; repeat (any_goals ((with_reducible refine unstop ?_); (first | ((k_dflt ((first | ((with_reducible show wpAny _ _ (call (Value.ref 234) _) _ _ _); (refine' use_RInt (kord_ok ?_ ?_ ?_ ?_ ?_ ?_ ?_ ?_ ?_ ?_ ?_ ?_ ?_ ?_ ?_) ?k1 ?k2 ?k3 ?k4 ?k5 ?kK ?kd ?ku ?_)) | ((with_reducible show wpAny _ _ (call (Value.ref 166) _) _ _ _); (first | (refine' use_RInt (ck4_ok ?_ ?_ ?_ ?_ ?_ ?_ ?_ ?_ ?_ ?_ ?_) ?k1 ?k2 ?k3 ?k4 ?k5 ?kK ?kd ?ku ?_) | (refine' use_RInt (ck3_ok ?_ ?_ ?_ ?_ ?_ ?_ ?_ ?_ ?_) ?k1 ?k2 ?k3 ?k4 ?k5 ?kK ?kd ?ku ?_))) | ((with_reducible show wpAny _ _ (call (Value.ref 201) _) _ _ _); (refine' use_RTake (take_ok ?_ ?_ ?_ ?_ ?_) ?k1 ?k2 ?k3 ?k4 ?k5 ?kK ?kd ?ku ?_))); ((try (case k4 => walk_at "t_news")); ((case k1 => k_asm); (case k2 => k_asm); (case k3 => k_asm); (case k5 => k_asm); (case kK => first | exact rfl | assumption); (case kd => first | exact room9 (by with_reducible assumption) (by decide) | ktr_room); (case ku => first | exact unit9 (by with_reducible assumption) (by decide) | ktr_units)); (all_goals first | (fail_if_success (fail_if_success (intro (h9 : Heap)))) | (fail_if_success (refine of_prop ?_)) | with_reducible assumption | walk_at "t_prem" | assumption); k_whole))); (intros; (try k_fold))) | fail "none"); k_steps))); (try dsimp only))
  · (rename ckI _ _ ≠ ckI _ _ => e)
    exact absurd rfl e
  (refine cStep ?_; (k_steps; repeat (any_goals ((with_reducible refine unstop ?_); (first | ((k_dflt ((first | ((with_reducible show wpAny _ _ (call (Value.ref 234) _) _ _ _); (refine' use_RInt (kord_ok ?_ ?_ ?_ ?_ ?_ ?_ ?_ ?_ ?_ ?_ ?_ ?_ ?_ ?_ ?_) ?k1 ?k2 ?k3 ?k4 ?k5 ?kK ?kd ?ku ?_)) | ((with_reducible show wpAny _ _ (call (Value.ref 166) _) _ _ _); (first | (refine' use_RInt (ck4_ok ?_ ?_ ?_ ?_ ?_ ?_ ?_ ?_ ?_ ?_ ?_) ?k1 ?k2 ?k3 ?k4 ?k5 ?kK ?kd ?ku ?_) | (refine' use_RInt (ck3_ok ?_ ?_ ?_ ?_ ?_ ?_ ?_ ?_ ?_) ?k1 ?k2 ?k3 ?k4 ?k5 ?kK ?kd ?ku ?_))) | ((with_reducible show wpAny _ _ (call (Value.ref 201) _) _ _ _); (refine' use_RTake (take_ok ?_ ?_ ?_ ?_ ?_) ?k1 ?k2 ?k3 ?k4 ?k5 ?kK ?kd ?ku ?_))); ((try (case k4 => walk_at "t_news")); ((case k1 => k_asm); (case k2 => k_asm); (case k3 => k_asm); (case k5 => k_asm); (case kK => first | exact rfl | assumption); (case kd => first | exact room9 (by with_reducible assumption) (by decide) | ktr_room); (case ku => first | exact unit9 (by with_reducible assumption) (by decide) | ktr_units)); (all_goals first | (fail_if_success (fail_if_success (intro (h9 : Heap)))) | (fail_if_success (refine of_prop ?_)) | with_reducible assumption | walk_at "t_prem" | assumption); k_whole))); (intros; (try k_fold))) | fail "none"); k_steps))); (try dsimp only))
  · (rename ckI _ _ ≠ ckI _ _ => e)
    exact absurd (ck_take (by first | decide | omega)) e
  (try dsimp only)
  first
    | refine cTup_swapped ?_
    | refine cTup ?_
  refine cTuple ?_
  refine cSpliced_cons ?_
  refine show wpC _ _ (eval _ _) _ _ from ?_
  refine cCall_Name ?_
  (k_steps; repeat (any_goals ((with_reducible refine unstop ?_); (first | ((k_dflt ((first | ((with_reducible show wpAny _ _ (call (Value.ref 234) _) _ _ _); (refine' use_RInt (kord_ok ?_ ?_ ?_ ?_ ?_ ?_ ?_ ?_ ?_ ?_ ?_ ?_ ?_ ?_ ?_) ?k1 ?k2 ?k3 ?k4 ?k5 ?kK ?kd ?ku ?_)) | ((with_reducible show wpAny _ _ (call (Value.ref 166) _) _ _ _); (first | (refine' use_RInt (ck4_ok ?_ ?_ ?_ ?_ ?_ ?_ ?_ ?_ ?_ ?_ ?_) ?k1 ?k2 ?k3 ?k4 ?k5 ?kK ?kd ?ku ?_) | (refine' use_RInt (ck3_ok ?_ ?_ ?_ ?_ ?_ ?_ ?_ ?_ ?_) ?k1 ?k2 ?k3 ?k4 ?k5 ?kK ?kd ?ku ?_))) | ((with_reducible show wpAny _ _ (call (Value.ref 201) _) _ _ _); (refine' use_RTake (take_ok ?_ ?_ ?_ ?_ ?_) ?k1 ?k2 ?k3 ?k4 ?k5 ?kK ?kd ?ku ?_))); ((try (case k4 => walk_at "t_news")); ((case k1 => k_asm); (case k2 => k_asm); (case k3 => k_asm); (case k5 => k_asm); (case kK => first | exact rfl | assumption); (case kd => first | exact room9 (by with_reducible assumption) (by decide) | ktr_room); (case ku => first | exact unit9 (by with_reducible assumption) (by decide) | ktr_units)); (all_goals first | (fail_if_success (fail_if_success (intro (h9 : Heap)))) | (fail_if_success (refine of_prop ?_)) | with_reducible assumption | walk_at "t_prem" | assumption); k_whole))); (intros; (try k_fold))) | fail "none"); k_steps)))
  refine cCallWith_1 (by intro a h; cases h) ?_
  (refine cCall_Name ?_; k_steps; refine cCallWith_K (K := Mine.hd.heap_39 w.params) (by k_is) rfl (cSpliced_cons ?_))
  refine cAny (show wpAny _ _ (eval _ _) _ _ _ from ?_)
  (k_steps; repeat (any_goals ((with_reducible refine unstop ?_); (first | ((k_dflt ((first | ((with_reducible show wpAny _ _ (call (Value.ref 234) _) _ _ _); (refine' use_RInt (kord_ok ?_ ?_ ?_ ?_ ?_ ?_ ?_ ?_ ?_ ?_ ?_ ?_ ?_ ?_ ?_) ?k1 ?k2 ?k3 ?k4 ?k5 ?kK ?kd ?ku ?_)) | ((with_reducible show wpAny _ _ (call (Value.ref 166) _) _ _ _); (first | (refine' use_RInt (ck4_ok ?_ ?_ ?_ ?_ ?_ ?_ ?_ ?_ ?_ ?_ ?_) ?k1 ?k2 ?k3 ?k4 ?k5 ?kK ?kd ?ku ?_) | (refine' use_RInt (ck3_ok ?_ ?_ ?_ ?_ ?_ ?_ ?_ ?_ ?_) ?k1 ?k2 ?k3 ?k4 ?k5 ?kK ?kd ?ku ?_))) | ((with_reducible show wpAny _ _ (call (Value.ref 201) _) _ _ _); (refine' use_RTake (take_ok ?_ ?_ ?_ ?_ ?_) ?k1 ?k2 ?k3 ?k4 ?k5 ?kK ?kd ?ku ?_))); ((try (case k4 => walk_at "t_news")); ((case k1 => k_asm); (case k2 => k_asm); (case k3 => k_asm); (case k5 => k_asm); (case kK => first | exact rfl | assumption); (case kd => first | exact room9 (by with_reducible assumption) (by decide) | ktr_room); (case ku => first | exact unit9 (by with_reducible assumption) (by decide) | ktr_units)); (all_goals first | (fail_if_success (fail_if_success (intro (h9 : Heap)))) | (fail_if_success (refine of_prop ?_)) | with_reducible assumption | walk_at "t_prem" | assumption); k_whole))); (intros; (try k_fold))) | fail "none"); k_steps)))
  refine cSpliced_cons ?_
  refine cAny (show wpAny _ _ (eval _ _) _ _ _ from ?_)
  (k_steps; repeat (any_goals ((with_reducible refine unstop ?_); (first | ((k_dflt ((first | ((with_reducible show wpAny _ _ (call (Value.ref 234) _) _ _ _); (refine' use_RInt (kord_ok ?_ ?_ ?_ ?_ ?_ ?_ ?_ ?_ ?_ ?_ ?_ ?_ ?_ ?_ ?_) ?k1 ?k2 ?k3 ?k4 ?k5 ?kK ?kd ?ku ?_)) | ((with_reducible show wpAny _ _ (call (Value.ref 166) _) _ _ _); (first | (refine' use_RInt (ck4_ok ?_ ?_ ?_ ?_ ?_ ?_ ?_ ?_ ?_ ?_ ?_) ?k1 ?k2 ?k3 ?k4 ?k5 ?kK ?kd ?ku ?_) | (refine' use_RInt (ck3_ok ?_ ?_ ?_ ?_ ?_ ?_ ?_ ?_ ?_) ?k1 ?k2 ?k3 ?k4 ?k5 ?kK ?kd ?ku ?_))) | ((with_reducible show wpAny _ _ (call (Value.ref 201) _) _ _ _); (refine' use_RTake (take_ok ?_ ?_ ?_ ?_ ?_) ?k1 ?k2 ?k3 ?k4 ?k5 ?kK ?kd ?ku ?_))); ((try (case k4 => walk_at "t_news")); ((case k1 => k_asm); (case k2 => k_asm); (case k3 => k_asm); (case k5 => k_asm); (case kK => first | exact rfl | assumption); (case kd => first | exact room9 (by with_reducible assumption) (by decide) | ktr_room); (case ku => first | exact unit9 (by with_reducible assumption) (by decide) | ktr_units)); (all_goals first | (fail_if_success (fail_if_success (intro (h9 : Heap)))) | (fail_if_success (refine of_prop ?_)) | with_reducible assumption | walk_at "t_prem" | assumption); k_whole))); (intros; (try k_fold))) | fail "none"); k_steps)))
  refine cSpliced_nil ?_
  refine ⟨by k_in, ?_⟩
  ((k_dflt (((with_reducible show wpC _ _ (call (Value.ref 187) _) _ _); (refine' use_RBytesC (oct_ok ?_ ?_ ?_ ?_ ?_ ?_) ?k1 ?k2 ?k3 ?k4 ?k5 ?kK ?kd ?ku ?_)); ((try (case k4 => walk_at "t_news")); ((case k1 => k_asm); (case k2 => k_asm); (case k3 => k_asm); (case k5 => k_asm); (case kK => first | exact rfl | assumption); (case kd => first | exact room9 (by with_reducible assumption) (by decide) | ktr_room); (case ku => first | exact unit9 (by with_reducible assumption) (by decide) | ktr_units)); (all_goals first | (fail_if_success (fail_if_success (intro (h9 : Heap)))) | (fail_if_success (refine of_prop ?_)) | with_reducible assumption | walk_at "t_prem" | assumption); k_whole))); (intros; (try k_fold)))
  subst_vars
  refine cAny (show wpAny _ _ (call _ [Value.bytes _ _]) _ _ _ from ?_)
  (k_steps; repeat (any_goals ((with_reducible refine unstop ?_); (first | ((k_dflt ((first | ((with_reducible show wpAny _ _ (call (Value.ref 234) _) _ _ _); (refine' use_RInt (kord_ok ?_ ?_ ?_ ?_ ?_ ?_ ?_ ?_ ?_ ?_ ?_ ?_ ?_ ?_ ?_) ?k1 ?k2 ?k3 ?k4 ?k5 ?kK ?kd ?ku ?_)) | ((with_reducible show wpAny _ _ (call (Value.ref 166) _) _ _ _); (first | (refine' use_RInt (ck4_ok ?_ ?_ ?_ ?_ ?_ ?_ ?_ ?_ ?_ ?_ ?_) ?k1 ?k2 ?k3 ?k4 ?k5 ?kK ?kd ?ku ?_) | (refine' use_RInt (ck3_ok ?_ ?_ ?_ ?_ ?_ ?_ ?_ ?_ ?_) ?k1 ?k2 ?k3 ?k4 ?k5 ?kK ?kd ?ku ?_))) | ((with_reducible show wpAny _ _ (call (Value.ref 201) _) _ _ _); (refine' use_RTake (take_ok ?_ ?_ ?_ ?_ ?_) ?k1 ?k2 ?k3 ?k4 ?k5 ?kK ?kd ?ku ?_))); ((try (case k4 => walk_at "t_news")); ((case k1 => k_asm); (case k2 => k_asm); (case k3 => k_asm); (case k5 => k_asm); (case kK => first | exact rfl | assumption); (case kd => first | exact room9 (by with_reducible assumption) (by decide) | ktr_room); (case ku => first | exact unit9 (by with_reducible assumption) (by decide) | ktr_units)); (all_goals first | (fail_if_success (fail_if_success (intro (h9 : Heap)))) | (fail_if_success (refine of_prop ?_)) | with_reducible assumption | walk_at "t_prem" | assumption); k_whole))); (intros; (try k_fold))) | fail "none"); k_steps)))
  refine cSpliced_cons ?_
  refine show wpC _ _ (eval _ _) _ _ from ?_
  refine cCall_Name ?_
  (k_steps; repeat (any_goals ((with_reducible refine unstop ?_); (first | ((k_dflt ((first | ((with_reducible show wpAny _ _ (call (Value.ref 234) _) _ _ _); (refine' use_RInt (kord_ok ?_ ?_ ?_ ?_ ?_ ?_ ?_ ?_ ?_ ?_ ?_ ?_ ?_ ?_ ?_) ?k1 ?k2 ?k3 ?k4 ?k5 ?kK ?kd ?ku ?_)) | ((with_reducible show wpAny _ _ (call (Value.ref 166) _) _ _ _); (first | (refine' use_RInt (ck4_ok ?_ ?_ ?_ ?_ ?_ ?_ ?_ ?_ ?_ ?_ ?_) ?k1 ?k2 ?k3 ?k4 ?k5 ?kK ?kd ?ku ?_) | (refine' use_RInt (ck3_ok ?_ ?_ ?_ ?_ ?_ ?_ ?_ ?_ ?_) ?k1 ?k2 ?k3 ?k4 ?k5 ?kK ?kd ?ku ?_))) | ((with_reducible show wpAny _ _ (call (Value.ref 201) _) _ _ _); (refine' use_RTake (take_ok ?_ ?_ ?_ ?_ ?_) ?k1 ?k2 ?k3 ?k4 ?k5 ?kK ?kd ?ku ?_))); ((try (case k4 => walk_at "t_news")); ((case k1 => k_asm); (case k2 => k_asm); (case k3 => k_asm); (case k5 => k_asm); (case kK => first | exact rfl | assumption); (case kd => first | exact room9 (by with_reducible assumption) (by decide) | ktr_room); (case ku => first | exact unit9 (by with_reducible assumption) (by decide) | ktr_units)); (all_goals first | (fail_if_success (fail_if_success (intro (h9 : Heap)))) | (fail_if_success (refine of_prop ?_)) | with_reducible assumption | walk_at "t_prem" | assumption); k_whole))); (intros; (try k_fold))) | fail "none"); k_steps)))
  refine cCallWith_1 (by intro a h; cases h) ?_
  (refine cCall_Name ?_; k_steps; refine cCallWith_K (K := Mine.hd.heap_39 w.params) (by k_is) rfl (cSpliced_cons ?_))
  refine cAny (show wpAny _ _ (eval _ _) _ _ _ from ?_)
  (k_steps; repeat (any_goals ((with_reducible refine unstop ?_); (first | ((k_dflt ((first | ((with_reducible show wpAny _ _ (call (Value.ref 234) _) _ _ _); (refine' use_RInt (kord_ok ?_ ?_ ?_ ?_ ?_ ?_ ?_ ?_ ?_ ?_ ?_ ?_ ?_ ?_ ?_) ?k1 ?k2 ?k3 ?k4 ?k5 ?kK ?kd ?ku ?_)) | ((with_reducible show wpAny _ _ (call (Value.ref 166) _) _ _ _); (first | (refine' use_RInt (ck4_ok ?_ ?_ ?_ ?_ ?_ ?_ ?_ ?_ ?_ ?_ ?_) ?k1 ?k2 ?k3 ?k4 ?k5 ?kK ?kd ?ku ?_) | (refine' use_RInt (ck3_ok ?_ ?_ ?_ ?_ ?_ ?_ ?_ ?_ ?_) ?k1 ?k2 ?k3 ?k4 ?k5 ?kK ?kd ?ku ?_))) | ((with_reducible show wpAny _ _ (call (Value.ref 201) _) _ _ _); (refine' use_RTake (take_ok ?_ ?_ ?_ ?_ ?_) ?k1 ?k2 ?k3 ?k4 ?k5 ?kK ?kd ?ku ?_))); ((try (case k4 => walk_at "t_news")); ((case k1 => k_asm); (case k2 => k_asm); (case k3 => k_asm); (case k5 => k_asm); (case kK => first | exact rfl | assumption); (case kd => first | exact room9 (by with_reducible assumption) (by decide) | ktr_room); (case ku => first | exact unit9 (by with_reducible assumption) (by decide) | ktr_units)); (all_goals first | (fail_if_success (fail_if_success (intro (h9 : Heap)))) | (fail_if_success (refine of_prop ?_)) | with_reducible assumption | walk_at "t_prem" | assumption); k_whole))); (intros; (try k_fold))) | fail "none"); k_steps)))
  refine cSpliced_cons ?_
  refine cAny (show wpAny _ _ (eval _ _) _ _ _ from ?_)
  (k_steps; repeat (any_goals ((with_reducible refine unstop ?_); (first | ((k_dflt ((first | ((with_reducible show wpAny _ _ (call (Value.ref 234) _) _ _ _); (refine' use_RInt (kord_ok ?_ ?_ ?_ ?_ ?_ ?_ ?_ ?_ ?_ ?_ ?_ ?_ ?_ ?_ ?_) ?k1 ?k2 ?k3 ?k4 ?k5 ?kK ?kd ?ku ?_)) | ((with_reducible show wpAny _ _ (call (Value.ref 166) _) _ _ _); (first | (refine' use_RInt (ck4_ok ?_ ?_ ?_ ?_ ?_ ?_ ?_ ?_ ?_ ?_ ?_) ?k1 ?k2 ?k3 ?k4 ?k5 ?kK ?kd ?ku ?_) | (refine' use_RInt (ck3_ok ?_ ?_ ?_ ?_ ?_ ?_ ?_ ?_ ?_) ?k1 ?k2 ?k3 ?k4 ?k5 ?kK ?kd ?ku ?_))) | ((with_reducible show wpAny _ _ (call (Value.ref 201) _) _ _ _); (refine' use_RTake (take_ok ?_ ?_ ?_ ?_ ?_) ?k1 ?k2 ?k3 ?k4 ?k5 ?kK ?kd ?ku ?_))); ((try (case k4 => walk_at "t_news")); ((case k1 => k_asm); (case k2 => k_asm); (case k3 => k_asm); (case k5 => k_asm); (case kK => first | exact rfl | assumption); (case kd => first | exact room9 (by with_reducible assumption) (by decide) | ktr_room); (case ku => first | exact unit9 (by with_reducible assumption) (by decide) | ktr_units)); (all_goals first | (fail_if_success (fail_if_success (intro (h9 : Heap)))) | (fail_if_success (refine of_prop ?_)) | with_reducible assumption | walk_at "t_prem" | assumption); k_whole))); (intros; (try k_fold))) | fail "none"); k_steps)))
  refine cSpliced_nil ?_
  refine ⟨by k_in, ?_⟩
  ((k_dflt (((with_reducible show wpC _ _ (call (Value.ref 187) _) _ _); (refine' use_RBytesC (oct_ok ?_ ?_ ?_ ?_ ?_ ?_) ?k1 ?k2 ?k3 ?k4 ?k5 ?kK ?kd ?ku ?_)); ((try (case k4 => walk_at "t_news")); ((case k1 => k_asm); (case k2 => k_asm); (case k3 => k_asm); (case k5 => k_asm); (case kK => first | exact rfl | assumption); (case kd => first | exact room9 (by with_reducible assumption) (by decide) | ktr_room); (case ku => first | exact unit9 (by with_reducible assumption) (by decide) | ktr_units)); (all_goals first | (fail_if_success (fail_if_success (intro (h9 : Heap)))) | (fail_if_success (refine of_prop ?_)) | with_reducible assumption | walk_at "t_prem" | assumption); k_whole))); (intros; (try k_fold)))
  subst_vars
  refine cAny (show wpAny _ _ (call _ [Value.bytes _ _]) _ _ _ from ?_)
  (k_steps; repeat (any_goals ((with_reducible refine unstop ?_); (first | ((k_dflt ((first | ((with_reducible show wpAny _ _ (call (Value.ref 234) _) _ _ _); (refine' use_RInt (kord_ok ?_ ?_ ?_ ?_ ?_ ?_ ?_ ?_ ?_ ?_ ?_ ?_ ?_ ?_ ?_) ?k1 ?k2 ?k3 ?k4 ?k5 ?kK ?kd ?ku ?_)) | ((with_reducible show wpAny _ _ (call (Value.ref 166) _) _ _ _); (first | (refine' use_RInt (ck4_ok ?_ ?_ ?_ ?_ ?_ ?_ ?_ ?_ ?_ ?_ ?_) ?k1 ?k2 ?k3 ?k4 ?k5 ?kK ?kd ?ku ?_) | (refine' use_RInt (ck3_ok ?_ ?_ ?_ ?_ ?_ ?_ ?_ ?_ ?_) ?k1 ?k2 ?k3 ?k4 ?k5 ?kK ?kd ?ku ?_))) | ((with_reducible show wpAny _ _ (call (Value.ref 201) _) _ _ _); (refine' use_RTake (take_ok ?_ ?_ ?_ ?_ ?_) ?k1 ?k2 ?k3 ?k4 ?k5 ?kK ?kd ?ku ?_))); ((try (case k4 => walk_at "t_news")); ((case k1 => k_asm); (case k2 => k_asm); (case k3 => k_asm); (case k5 => k_asm); (case kK => first | exact rfl | assumption); (case kd => first | exact room9 (by with_reducible assumption) (by decide) | ktr_room); (case ku => first | exact unit9 (by with_reducible assumption) (by decide) | ktr_units)); (all_goals first | (fail_if_success (fail_if_success (intro (h9 : Heap)))) | (fail_if_success (refine of_prop ?_)) | with_reducible assumption | walk_at "t_prem" | assumption); k_whole))); (intros; (try k_fold))) | fail "none"); k_steps)))
  refine cSpliced_nil ?_
  (k_steps; repeat (any_goals ((with_reducible refine unstop ?_); (first | ((k_dflt ((first | ((with_reducible show wpAny _ _ (call (Value.ref 234) _) _ _ _); (refine' use_RInt (kord_ok ?_ ?_ ?_ ?_ ?_ ?_ ?_ ?_ ?_ ?_ ?_ ?_ ?_ ?_ ?_) ?k1 ?k2 ?k3 ?k4 ?k5 ?kK ?kd ?ku ?_)) | ((with_reducible show wpAny _ _ (call (Value.ref 166) _) _ _ _); (first | (refine' use_RInt (ck4_ok ?_ ?_ ?_ ?_ ?_ ?_ ?_ ?_ ?_ ?_ ?_) ?k1 ?k2 ?k3 ?k4 ?k5 ?kK ?kd ?ku ?_) | (refine' use_RInt (ck3_ok ?_ ?_ ?_ ?_ ?_ ?_ ?_ ?_ ?_) ?k1 ?k2 ?k3 ?k4 ?k5 ?kK ?kd ?ku ?_))) | ((with_reducible show wpAny _ _ (call (Value.ref 201) _) _ _ _); (refine' use_RTake (take_ok ?_ ?_ ?_ ?_ ?_) ?k1 ?k2 ?k3 ?k4 ?k5 ?kK ?kd ?ku ?_))); ((try (case k4 => walk_at "t_news")); ((case k1 => k_asm); (case k2 => k_asm); (case k3 => k_asm); (case k5 => k_asm); (case kK => first | exact rfl | assumption); (case kd => first | exact room9 (by with_reducible assumption) (by decide) | ktr_room); (case ku => first | exact unit9 (by with_reducible assumption) (by decide) | ktr_units)); (all_goals first | (fail_if_success (fail_if_success (intro (h9 : Heap)))) | (fail_if_success (refine of_prop ?_)) | with_reducible assumption | walk_at "t_prem" | assumption); k_whole))); (intros; (try k_fold))) | fail "none"); k_steps)))
  (try dsimp only)
  (refine cStep ?_; (k_steps; repeat (any_goals ((with_reducible refine unstop ?_); (first | ((k_dflt ((first | ((with_reducible show wpAny _ _ (call (Value.ref 234) _) _ _ _); (refine' use_RInt (kord_ok ?_ ?_ ?_ ?_ ?_ ?_ ?_ ?_ ?_ ?_ ?_ ?_ ?_ ?_ ?_) ?k1 ?k2 ?k3 ?k4 ?k5 ?kK ?kd ?ku ?_)) | ((with_reducible show wpAny _ _ (call (Value.ref 166) _) _ _ _); (first | (refine' use_RInt (ck4_ok ?_ ?_ ?_ ?_ ?_ ?_ ?_ ?_ ?_ ?_ ?_) ?k1 ?k2 ?k3 ?k4 ?k5 ?kK ?kd ?ku ?_) | (refine' use_RInt (ck3_ok ?_ ?_ ?_ ?_ ?_ ?_ ?_ ?_ ?_) ?k1 ?k2 ?k3 ?k4 ?k5 ?kK ?kd ?ku ?_))) | ((with_reducible show wpAny _ _ (call (Value.ref 201) _) _ _ _); (refine' use_RTake (take_ok ?_ ?_ ?_ ?_ ?_) ?k1 ?k2 ?k3 ?k4 ?k5 ?kK ?kd ?ku ?_))); ((try (case k4 => walk_at "t_news")); ((case k1 => k_asm); (case k2 => k_asm); (case k3 => k_asm); (case k5 => k_asm); (case kK => first | exact rfl | assumption); (case kd => first | exact room9 (by with_reducible assumption) (by decide) | ktr_room); (case ku => first | exact unit9 (by with_reducible assumption) (by decide) | ktr_units)); (all_goals first | (fail_if_success (fail_if_success (intro (h9 : Heap)))) | (fail_if_success (refine of_prop ?_)) | with_reducible assumption | walk_at "t_prem" | assumption); k_whole))); (intros; (try k_fold))) | fail "none"); k_steps))); (try dsimp only))
  refine' hret _ _ _ _ (yes_of ?re ?rb0 ?rb1) ?rF ?rN
  case rF => k_asm
  case rN => walk_at "t_led"
  case rb0 => assumption
  case rb1 => assumption
  case re => rw [e1, oct_sgn ga gb, Int.toNat_natCast]; simp
end
section
local macro_rules | `(tactic| walk_at "t_offS") => `(tactic| first | walk_at "t_off" | (refine' Off.cons ?oa ?ob; (case oa => exact Ne.symm (off_head (by assumption))); (case ob => walk_at "t_off")))
local macro_rules | `(tactic| walk_at "storeName") => `(tactic| (k_here; (with_reducible show wpAny _ _ (storeName (envOfC _ _ _ _ _) _ _) _ _ _); k_dflt (refine' storeX_C ?F ?N ?c (UpdF.head ?o) ?d ?_ ?a ?b; (case a => rfl); (case b => rfl); (case F => k_asm); (case c => rfl); (case N => exact news_pull (by k_asm) (by walk_at "t_pull")); (case o => walk_at "t_offS"); (case d => k_asm); k_whole); intro h' o' F' N' d'; (try dsimp only at N')))
theorem off_tail {a : Addr} {p : Addr × Obj} {r : Led} (h : Off a (p :: r)) : Off a r := fun q hq => h q (.tail _ hq)
theorem nat_of {d : Int} (h0 : 0 ≤ d) (h1 : d < 3) : ∃ many : Nat, 1 + d = (many : Int) ∧ 1 ≤ many ∧ many ≤ 3 := ⟨(1 + d).toNat, by omega, by omega, by omega⟩
theorem turns_of (n : Nat) : ∃ k : Nat, (if (if (2 : Int) < (n : Int) then 2 else (n : Int)) > 1 then if (2 : Int) < (n : Int) then 2 else (n : Int) else 1) = (k : Int) ∧ k ≤ 2 := by
  by_cases h : (2 : Int) < (n : Int)
  · exact ⟨2, by rw [if_pos h]; rfl, by omega⟩
  · rw [if_neg h]
    by_cases h2 : (n : Int) > 1
    · exact ⟨n, by rw [if_pos h2], by omega⟩
    · exact ⟨1, by rw [if_neg h2]; rfl, by omega⟩
local macro_rules | `(tactic| walk_at "r") => `(tactic| first | (refine' tuple_T ?_ ?_ ?_; k_dflt walk_at "t_do") | (refine' tuple_L ?_ ?_ ?_ ?_ ?_; k_dflt walk_at "t_do") | (refine' ne_same_T ?_ ?_ ?_ ?_; k_dflt walk_at "t_do") | (refine' item_row ?_ ?_ ?_ ?_ ?_ ?_ ?_ ?_ ?_; k_dflt walk_at "t_do"))
local macro_rules | `(tactic| walk_at "call type:tuple") => `(tactic| (walk_at "r"))
local macro_rules | `(tactic| walk_at "call type:tuple") => `(tactic| (walk_at "r"; intro D' h' F' N' l1; (try k_lt l1); (try dsimp only)))
local macro_rules | `(tactic| walk_at "compareOp NotEq ref ref") => `(tactic| (walk_at "r"))
local macro_rules | `(tactic| walk_at "t_infox") => `(tactic| first | assumption | (refine' InfoIn.mono ?mA ?mB; (case mA => assumption); (case mB => (intro p hp; walk_at "t_tail"))))
local macro_rules | `(tactic| walk_at "subscriptTail") => `(tactic| (first | (k_dflt (refine' item_end (by k_asm) ?k2 ?k3 ?kg ?k4 ?k5 ?_ ?k6; (case k3 => with_unfolding_all rfl); (case k2 => walk_at "t_mem"); (case kg => assumption); (case k4 => omega); (case k5 => omega); (case k6 => with_unfolding_all rfl); k_whole); intro v' hv') | (walk_at "r"; intro a' vs' n' hma' hla' hga')))
structure Sr where
  x : Int
  y : Int
  tx : Tok
  ty : Tok
  n : Nat
noncomputable def IsB (v : Value) : Prop := ∃ b, v = .bool b
theorem bools_of : ∀ {vs : List Value}, (∀ v ∈ vs, IsB v) → ∃ ts : List Bool, vs = ts.map Value.bool
  | [], _ => ⟨[], rfl⟩
  | v :: r, h => by
    obtain ⟨b, rfl⟩ := h v (.head _)
    obtain ⟨ts, e⟩ := bools_of (vs := r) fun v hv => h v (.tail _ hv)
    exact ⟨b :: ts, by rw [e]; rfl⟩
set_option maxHeartbeats 8000000 in
theorem final : PySem.Challenge.rw_nt0098_01.Holds := by
  refine holds_law said0 fun said => ?_
  refine holds_clean (q := hd.view_39) (loose := LOOSE) (Xt := XT) (XP := XL hd.view_39 LVS) (Yf := Hook.obs (kHook hd.heap_39 AS AS_eq)) (Ya := Hook.val (kHook hd.heap_39 AS AS_eq)) (YP := Hook.says (kHook hd.heap_39 AS AS_eq)) (N := 4088) left (Hook.of (kHook hd.heap_39 AS AS_eq)) (Hook.keeps (kHook hd.heap_39 AS AS_eq)) (fun s e => xl_of s (Bool.and_eq_true_iff.mp e).1) XL.keeps (by rfl) (by rfl) (by rfl) (fun s e => recFacts_of (Bool.and_eq_true_iff.mp e).2) (by rfl) said ok0 ⟨rfl, rfl, rfl, rfl, rfl, by decide +kernel⟩ ?hw ?hc
  case hw =>
    clear said
    w_witness2
  clear said
  w_top off
  k_fill
  intro w s₀ s₁ mg mb G Y fa o pm cd doc dV kV ho hd hcd hD hmg hg args vals as hpre hlay hrd hwl hlo
  have KX := kIn_of Y
  have X := (Ground.X G).1
  have V := (Ground.X G).2
  refine Ground.open G ?_
  intro T B D TE TW
  try (refine guard_noD D (by decide +kernel) ?_; clear D)
  obtain ⟨_, _, M⟩ := bmod_of_top T
  have TA := at_of_top T
  try (obtain ⟨_, _, he, B0⟩ := based_of_top T rfl hmg ho hd; have he' : cd = _ := he; subst he'; clear he)
  clear hmg
  wrow_args hpre hlay hrd hwl hlo
  refine any_inClean ?_ (wpAny_pure ?_)
  · refine cCall (codeC_mono (R := fun r s' => match r with | .ok (.ret (.bool true)) => (∀ b o, s₁.heap.get? b = some o → s'.heap.get? b = some o) ∧ s'.os = s₁.os ∧ s'.gens = s₁.gens | _ => False) ?_ ?_)
    · w_top on
      have K0 := below_caller (Top.heap T)
      have he := Dflts.none hD rfl
      subst he
      have he := Dflts.noKw hD
      subst he
      refine codeC_top (by decide) ho (fd_plain hd) (Top.nolimit T) hcd rfl (kinds_of (by kinds_ok)) (by decide) fun h₁ tk₁ cells F N0 X0 => ?_
      cells_open X0
      clear hd TA
      k_drop
      (try dsimp only)
      (try dsimp only at *)
      (try k_fold)
      refine cForS ?_
      (k_steps; repeat (any_goals ((with_reducible refine unstop ?_); (first | ((with_reducible show wpAny _ _ (call (Value.ref 194) [_, _]) _ _ _); (k_dflt (refine' (pool_base ?q1 ?q2 ?q3 ?q4) _ _ _ _ _ _ _ _ _ _ _ _ _ _ _ _ _ ?qB ?k1 ?k2 ?k3 (by k_asm) ?k5 ?kK ?kd ?ku ?_; ((case k1 => k_asm); (case k2 => k_asm); (case k3 => k_asm); (case k5 => k_asm); (case kK => first | exact rfl | assumption); (case kd => first | exact room9 (by with_reducible assumption) (by decide) | ktr_room); (case ku => first | exact unit9 (by with_reducible assumption) (by decide) | ktr_units)); (case qB => assumption); (case q1 => assumption); (case q2 => omega); (case q3 => omega); (case q4 => omega); k_whole)); (intro r9 n9 h9 tk9 hR9 F9 N9; cases hR9; (try dsimp only); (try k_fold))) | ((k_dflt ((first | ((with_reducible show wpAny _ _ (call (Value.ref 265) _) _ _ _); (refine' use_RBool (vright_ok ?_ ?_ ?_ ?_ ?_) ?k1 ?k2 ?k3 ?k4 ?k5 ?kK ?kd ?ku ?_)) | ((with_reducible show wpAny _ _ (call (Value.ref 258) _) _ _ _); (refine' use_RRows (rows_ok ?_ ?_ ?_ ?_ ?_) ?k1 ?k2 ?k3 ?k4 ?k5 ?kK ?kd ?ku ?_)) | ((with_reducible show wpAny _ _ (call (Value.ref 137) _) _ _ _); (refine' use_RInt (count_ok ?_) ?k1 ?k2 ?k3 ?k4 ?k5 ?kK ?kd ?ku ?_)) | ((with_reducible show wpAny _ _ (call (Value.ref 154) _) _ _ _); (refine' use_RInfo (info_ok ?_ ?_ ?_ ?_) ?k1 ?k2 ?k3 ?k4 ?k5 ?kK ?kd ?ku ?_)) | ((with_reducible show wpAny _ _ (call (Value.ref 208) _) _ _ _); (first | (refine' use_ROneI (one_int (lo := 0) (hi := 255) ?qm ?ql ?_ ?_ ?_ ?_ ?_) ?k1 ?k2 ?k3 ?k4 ?k5 ?kK ?kd ?ku ?_; (case k4 => walk_at "t_news"); (case qm => walk_at "t_mem"); (case ql => walk_at "t_intin")) | (refine' use_ROneS (one_str (P := CollName) ?qm ?ql ?_ ?_ ?_ ?_ ?_) ?k1 ?k2 ?k3 ?k4 ?k5 ?kK ?kd ?ku ?_; (case k4 => walk_at "t_news"); (case qm => walk_at "t_mem"); (case ql => walk_at "t_colls")) | (refine' use_RVal (one_good (by assumption) ?qm ?ql ?_ ?_ ?_ ?_ ?_) ?k1 ?k2 ?k3 ?k4 ?k5 ?kK ?kd ?ku ?_; (case k4 => walk_at "t_news"); (case qm => walk_at "t_mem"); (case ql => walk_at "t_goods")) | (refine' use_ROne (one_ok ?_ ?_ ?_ ?_ ?_ ?_) ?k1 ?k2 ?k3 ?k4 ?k5 ?kK ?kd ?ku ?_))) | ((with_reducible show wpAny _ _ (call (Value.ref 201) _) _ _ _); (refine' use_RTake (take_ok ?_ ?_ ?_ ?_ ?_) ?k1 ?k2 ?k3 ?k4 ?k5 ?kK ?kd ?ku ?_))); ((try (case k4 => walk_at "t_news")); ((case k1 => k_asm); (case k2 => k_asm); (case k3 => k_asm); (case k5 => k_asm); (case kK => first | exact rfl | assumption); (case kd => first | exact room9 (by with_reducible assumption) (by decide) | ktr_room); (case ku => first | exact unit9 (by with_reducible assumption) (by decide) | ktr_units)); (all_goals first | (fail_if_success (fail_if_success (intro (h9 : Heap)))) | (fail_if_success (refine of_prop ?_)) | with_reducible assumption | walk_at "t_prem" | assumption); k_whole))); (intros; (try k_fold))) | fail "none"); k_steps)))
      unfold Stop
      (rename Fr _ _ _ _ => F1)
      (rename News _ _ _ _ => N1)
      (rename IsRange _ _ _ _ _ _ _ _ => R1)
      (rename List Int => ns)
      obtain ⟨n, en, hn2⟩ := turns_of ns.length
      rw [en] at R1
      (rename _ = Data.cell _ => hc0)
      refine for_rangeC (n := n) (σ := Obj) (fun c => [(s₁.heap.objs.size + 1, c)]) [Str.ofString "many", Str.ofString "collations", Str.ofString "turned", Str.ofString "info", Str.ofString "rows", Str.ofString "at", Str.ofString "row", Str.ofString "k"] (fun i c _ => ∃ v₀, c.data = .cell v₀) _ rfl rfl rfl R1 (range_smallN (by first | decide | omega)) (range_sizeN (by first | decide | omega)) F1 (news0 := []) N1 (fun _ => rfl) ⟨_, hc0⟩ ?_ ?_
      · rintro i u hi c m₁ h tk rest ⟨v₀, hc1⟩ hu hsub hoff F2 N2
        have hoC := hoff _ (List.mem_singleton.mpr rfl) Off.nil
        dsimp only [List.cons_append, List.nil_append] at N2 hoC
        clear R1 F1 N1 hc0
        (refine cStep ?_; (k_steps; repeat (any_goals ((with_reducible refine unstop ?_); (first | ((with_reducible show wpAny _ _ (call (Value.ref 194) [_, _]) _ _ _); (k_dflt (refine' (pool_base ?q1 ?q2 ?q3 ?q4) _ _ _ _ _ _ _ _ _ _ _ _ _ _ _ _ _ ?qB ?k1 ?k2 ?k3 (by k_asm) ?k5 ?kK ?kd ?ku ?_; ((case k1 => k_asm); (case k2 => k_asm); (case k3 => k_asm); (case k5 => k_asm); (case kK => first | exact rfl | assumption); (case kd => first | exact room9 (by with_reducible assumption) (by decide) | ktr_room); (case ku => first | exact unit9 (by with_reducible assumption) (by decide) | ktr_units)); (case qB => assumption); (case q1 => assumption); (case q2 => omega); (case q3 => omega); (case q4 => omega); k_whole)); (intro r9 n9 h9 tk9 hR9 F9 N9; cases hR9; (try dsimp only); (try k_fold))) | ((k_dflt ((first | ((with_reducible show wpAny _ _ (call (Value.ref 265) _) _ _ _); (refine' use_RBool (vright_ok ?_ ?_ ?_ ?_ ?_) ?k1 ?k2 ?k3 ?k4 ?k5 ?kK ?kd ?ku ?_)) | ((with_reducible show wpAny _ _ (call (Value.ref 258) _) _ _ _); (refine' use_RRows (rows_ok ?_ ?_ ?_ ?_ ?_) ?k1 ?k2 ?k3 ?k4 ?k5 ?kK ?kd ?ku ?_)) | ((with_reducible show wpAny _ _ (call (Value.ref 137) _) _ _ _); (refine' use_RInt (count_ok ?_) ?k1 ?k2 ?k3 ?k4 ?k5 ?kK ?kd ?ku ?_)) | ((with_reducible show wpAny _ _ (call (Value.ref 154) _) _ _ _); (refine' use_RInfo (info_ok ?_ ?_ ?_ ?_) ?k1 ?k2 ?k3 ?k4 ?k5 ?kK ?kd ?ku ?_)) | ((with_reducible show wpAny _ _ (call (Value.ref 208) _) _ _ _); (first | (refine' use_ROneI (one_int (lo := 0) (hi := 255) ?qm ?ql ?_ ?_ ?_ ?_ ?_) ?k1 ?k2 ?k3 ?k4 ?k5 ?kK ?kd ?ku ?_; (case k4 => walk_at "t_news"); (case qm => walk_at "t_mem"); (case ql => walk_at "t_intin")) | (refine' use_ROneS (one_str (P := CollName) ?qm ?ql ?_ ?_ ?_ ?_ ?_) ?k1 ?k2 ?k3 ?k4 ?k5 ?kK ?kd ?ku ?_; (case k4 => walk_at "t_news"); (case qm => walk_at "t_mem"); (case ql => walk_at "t_colls")) | (refine' use_RVal (one_good (by assumption) ?qm ?ql ?_ ?_ ?_ ?_ ?_) ?k1 ?k2 ?k3 ?k4 ?k5 ?kK ?kd ?ku ?_; (case k4 => walk_at "t_news"); (case qm => walk_at "t_mem"); (case ql => walk_at "t_goods")) | (refine' use_ROne (one_ok ?_ ?_ ?_ ?_ ?_ ?_) ?k1 ?k2 ?k3 ?k4 ?k5 ?kK ?kd ?ku ?_))) | ((with_reducible show wpAny _ _ (call (Value.ref 201) _) _ _ _); (refine' use_RTake (take_ok ?_ ?_ ?_ ?_ ?_) ?k1 ?k2 ?k3 ?k4 ?k5 ?kK ?kd ?ku ?_))); ((try (case k4 => walk_at "t_news")); ((case k1 => k_asm); (case k2 => k_asm); (case k3 => k_asm); (case k5 => k_asm); (case kK => first | exact rfl | assumption); (case kd => first | exact room9 (by with_reducible assumption) (by decide) | ktr_room); (case ku => first | exact unit9 (by with_reducible assumption) (by decide) | ktr_units)); (all_goals first | (fail_if_success (fail_if_success (intro (h9 : Heap)))) | (fail_if_success (refine of_prop ?_)) | with_reducible assumption | walk_at "t_prem" | assumption); k_whole))); (intros; (try k_fold))) | fail "none"); k_steps))); (try dsimp only))
        rename_i hA oc FA NA hoc
        (rename Off _ (_ :: _) => hl9)
        (rename Addr => src)
        have hsC := off_head hl9
        have hCs : @Ne Nat src (s₁.heap.objs.size + 1) := Ne.symm hsC
        have hsr := off_tail hl9
        clear hl9
        (refine cStep ?_; (k_steps; repeat (any_goals ((with_reducible refine unstop ?_); (first | ((with_reducible show wpAny _ _ (call (Value.ref 194) [_, _]) _ _ _); (k_dflt (refine' (pool_base ?q1 ?q2 ?q3 ?q4) _ _ _ _ _ _ _ _ _ _ _ _ _ _ _ _ _ ?qB ?k1 ?k2 ?k3 (by k_asm) ?k5 ?kK ?kd ?ku ?_; ((case k1 => k_asm); (case k2 => k_asm); (case k3 => k_asm); (case k5 => k_asm); (case kK => first | exact rfl | assumption); (case kd => first | exact room9 (by with_reducible assumption) (by decide) | ktr_room); (case ku => first | exact unit9 (by with_reducible assumption) (by decide) | ktr_units)); (case qB => assumption); (case q1 => assumption); (case q2 => omega); (case q3 => omega); (case q4 => omega); k_whole)); (intro r9 n9 h9 tk9 hR9 F9 N9; cases hR9; (try dsimp only); (try k_fold))) | ((k_dflt ((first | ((with_reducible show wpAny _ _ (call (Value.ref 265) _) _ _ _); (refine' use_RBool (vright_ok ?_ ?_ ?_ ?_ ?_) ?k1 ?k2 ?k3 ?k4 ?k5 ?kK ?kd ?ku ?_)) | ((with_reducible show wpAny _ _ (call (Value.ref 258) _) _ _ _); (refine' use_RRows (rows_ok ?_ ?_ ?_ ?_ ?_) ?k1 ?k2 ?k3 ?k4 ?k5 ?kK ?kd ?ku ?_)) | ((with_reducible show wpAny _ _ (call (Value.ref 137) _) _ _ _); (refine' use_RInt (count_ok ?_) ?k1 ?k2 ?k3 ?k4 ?k5 ?kK ?kd ?ku ?_)) | ((with_reducible show wpAny _ _ (call (Value.ref 154) _) _ _ _); (refine' use_RInfo (info_ok ?_ ?_ ?_ ?_) ?k1 ?k2 ?k3 ?k4 ?k5 ?kK ?kd ?ku ?_)) | ((with_reducible show wpAny _ _ (call (Value.ref 208) _) _ _ _); (first | (refine' use_ROneI (one_int (lo := 0) (hi := 255) ?qm ?ql ?_ ?_ ?_ ?_ ?_) ?k1 ?k2 ?k3 ?k4 ?k5 ?kK ?kd ?ku ?_; (case k4 => walk_at "t_news"); (case qm => walk_at "t_mem"); (case ql => walk_at "t_intin")) | (refine' use_ROneS (one_str (P := CollName) ?qm ?ql ?_ ?_ ?_ ?_ ?_) ?k1 ?k2 ?k3 ?k4 ?k5 ?kK ?kd ?ku ?_; (case k4 => walk_at "t_news"); (case qm => walk_at "t_mem"); (case ql => walk_at "t_colls")) | (refine' use_RVal (one_good (by assumption) ?qm ?ql ?_ ?_ ?_ ?_ ?_) ?k1 ?k2 ?k3 ?k4 ?k5 ?kK ?kd ?ku ?_; (case k4 => walk_at "t_news"); (case qm => walk_at "t_mem"); (case ql => walk_at "t_goods")) | (refine' use_ROne (one_ok ?_ ?_ ?_ ?_ ?_ ?_) ?k1 ?k2 ?k3 ?k4 ?k5 ?kK ?kd ?ku ?_))) | ((with_reducible show wpAny _ _ (call (Value.ref 201) _) _ _ _); (refine' use_RTake (take_ok ?_ ?_ ?_ ?_ ?_) ?k1 ?k2 ?k3 ?k4 ?k5 ?kK ?kd ?ku ?_))); ((try (case k4 => walk_at "t_news")); ((case k1 => k_asm); (case k2 => k_asm); (case k3 => k_asm); (case k5 => k_asm); (case kK => first | exact rfl | assumption); (case kd => first | exact room9 (by with_reducible assumption) (by decide) | ktr_room); (case ku => first | exact unit9 (by with_reducible assumption) (by decide) | ktr_units)); (all_goals first | (fail_if_success (fail_if_success (intro (h9 : Heap)))) | (fail_if_success (refine of_prop ?_)) | with_reducible assumption | walk_at "t_prem" | assumption); k_whole))); (intros; (try k_fold))) | fail "none"); k_steps))); (try dsimp only))
        (rename (_ : Int) < 3 => hd3)
        obtain ⟨many, em, hm1, hm3⟩ := nat_of (by assumption) hd3
        (rename Fr _ _ _ _ => F3)
        (rename News _ _ _ _ => N3)
        rw [em] at F3
        (refine cStep ?_; (k_steps; repeat (any_goals ((with_reducible refine unstop ?_); (first | ((with_reducible show wpAny _ _ (call (Value.ref 194) [_, _]) _ _ _); (k_dflt (refine' (pool_base ?q1 ?q2 ?q3 ?q4) _ _ _ _ _ _ _ _ _ _ _ _ _ _ _ _ _ ?qB ?k1 ?k2 ?k3 (by k_asm) ?k5 ?kK ?kd ?ku ?_; ((case k1 => k_asm); (case k2 => k_asm); (case k3 => k_asm); (case k5 => k_asm); (case kK => first | exact rfl | assumption); (case kd => first | exact room9 (by with_reducible assumption) (by decide) | ktr_room); (case ku => first | exact unit9 (by with_reducible assumption) (by decide) | ktr_units)); (case qB => assumption); (case q1 => assumption); (case q2 => omega); (case q3 => omega); (case q4 => omega); k_whole)); (intro r9 n9 h9 tk9 hR9 F9 N9; cases hR9; (try dsimp only); (try k_fold))) | ((k_dflt ((first | ((with_reducible show wpAny _ _ (call (Value.ref 265) _) _ _ _); (refine' use_RBool (vright_ok ?_ ?_ ?_ ?_ ?_) ?k1 ?k2 ?k3 ?k4 ?k5 ?kK ?kd ?ku ?_)) | ((with_reducible show wpAny _ _ (call (Value.ref 258) _) _ _ _); (refine' use_RRows (rows_ok ?_ ?_ ?_ ?_ ?_) ?k1 ?k2 ?k3 ?k4 ?k5 ?kK ?kd ?ku ?_)) | ((with_reducible show wpAny _ _ (call (Value.ref 137) _) _ _ _); (refine' use_RInt (count_ok ?_) ?k1 ?k2 ?k3 ?k4 ?k5 ?kK ?kd ?ku ?_)) | ((with_reducible show wpAny _ _ (call (Value.ref 154) _) _ _ _); (refine' use_RInfo (info_ok ?_ ?_ ?_ ?_) ?k1 ?k2 ?k3 ?k4 ?k5 ?kK ?kd ?ku ?_)) | ((with_reducible show wpAny _ _ (call (Value.ref 208) _) _ _ _); (first | (refine' use_ROneI (one_int (lo := 0) (hi := 255) ?qm ?ql ?_ ?_ ?_ ?_ ?_) ?k1 ?k2 ?k3 ?k4 ?k5 ?kK ?kd ?ku ?_; (case k4 => walk_at "t_news"); (case qm => walk_at "t_mem"); (case ql => walk_at "t_intin")) | (refine' use_ROneS (one_str (P := CollName) ?qm ?ql ?_ ?_ ?_ ?_ ?_) ?k1 ?k2 ?k3 ?k4 ?k5 ?kK ?kd ?ku ?_; (case k4 => walk_at "t_news"); (case qm => walk_at "t_mem"); (case ql => walk_at "t_colls")) | (refine' use_RVal (one_good (by assumption) ?qm ?ql ?_ ?_ ?_ ?_ ?_) ?k1 ?k2 ?k3 ?k4 ?k5 ?kK ?kd ?ku ?_; (case k4 => walk_at "t_news"); (case qm => walk_at "t_mem"); (case ql => walk_at "t_goods")) | (refine' use_ROne (one_ok ?_ ?_ ?_ ?_ ?_ ?_) ?k1 ?k2 ?k3 ?k4 ?k5 ?kK ?kd ?ku ?_))) | ((with_reducible show wpAny _ _ (call (Value.ref 201) _) _ _ _); (refine' use_RTake (take_ok ?_ ?_ ?_ ?_ ?_) ?k1 ?k2 ?k3 ?k4 ?k5 ?kK ?kd ?ku ?_))); ((try (case k4 => walk_at "t_news")); ((case k1 => k_asm); (case k2 => k_asm); (case k3 => k_asm); (case k5 => k_asm); (case kK => first | exact rfl | assumption); (case kd => first | exact room9 (by with_reducible assumption) (by decide) | ktr_room); (case ku => first | exact unit9 (by with_reducible assumption) (by decide) | ktr_units)); (all_goals first | (fail_if_success (fail_if_success (intro (h9 : Heap)))) | (fail_if_success (refine of_prop ?_)) | with_reducible assumption | walk_at "t_prem" | assumption); k_whole))); (intros; (try k_fold))) | fail "none"); k_steps))); (try dsimp only))
        unfold Stop
        (rename Fr _ _ _ _ => F4)
        (rename News _ _ _ _ => N4)
        refine comp_src (src := src) (n := many) (StrIn CollName) rfl F4 (news_pull N4 (by walk_at "t_pull")) (by assumption) (by assumption) (by assumption) (range_smallN (by first | decide | omega)) (range_sizeN (by first | decide | omega)) (by rw [sizeLine_eq]; omega) ?_ ?_
        · intro g ys a b ta tb ep v I oI C oC D m₂ h tk E' hb0 hb1 hlen hP hC hx F2 N2 off ne
          simp only [LCg.Off3, and_true] at off
          (k_steps; repeat (any_goals ((with_reducible refine unstop ?_); (first | ((with_reducible show wpAny _ _ (call (Value.ref 194) [_, _]) _ _ _); (k_dflt (refine' (pool_base ?q1 ?q2 ?q3 ?q4) _ _ _ _ _ _ _ _ _ _ _ _ _ _ _ _ _ ?qB ?k1 ?k2 ?k3 (by k_asm) ?k5 ?kK ?kd ?ku ?_; ((case k1 => k_asm); (case k2 => k_asm); (case k3 => k_asm); (case k5 => k_asm); (case kK => first | exact rfl | assumption); (case kd => first | exact room9 (by with_reducible assumption) (by decide) | ktr_room); (case ku => first | exact unit9 (by with_reducible assumption) (by decide) | ktr_units)); (case qB => assumption); (case q1 => assumption); (case q2 => omega); (case q3 => omega); (case q4 => omega); k_whole)); (intro r9 n9 h9 tk9 hR9 F9 N9; cases hR9; (try dsimp only); (try k_fold))) | ((k_dflt ((first | ((with_reducible show wpAny _ _ (call (Value.ref 265) _) _ _ _); (refine' use_RBool (vright_ok ?_ ?_ ?_ ?_ ?_) ?k1 ?k2 ?k3 ?k4 ?k5 ?kK ?kd ?ku ?_)) | ((with_reducible show wpAny _ _ (call (Value.ref 258) _) _ _ _); (refine' use_RRows (rows_ok ?_ ?_ ?_ ?_ ?_) ?k1 ?k2 ?k3 ?k4 ?k5 ?kK ?kd ?ku ?_)) | ((with_reducible show wpAny _ _ (call (Value.ref 137) _) _ _ _); (refine' use_RInt (count_ok ?_) ?k1 ?k2 ?k3 ?k4 ?k5 ?kK ?kd ?ku ?_)) | ((with_reducible show wpAny _ _ (call (Value.ref 154) _) _ _ _); (refine' use_RInfo (info_ok ?_ ?_ ?_ ?_) ?k1 ?k2 ?k3 ?k4 ?k5 ?kK ?kd ?ku ?_)) | ((with_reducible show wpAny _ _ (call (Value.ref 208) _) _ _ _); (first | (refine' use_ROneI (one_int (lo := 0) (hi := 255) ?qm ?ql ?_ ?_ ?_ ?_ ?_) ?k1 ?k2 ?k3 ?k4 ?k5 ?kK ?kd ?ku ?_; (case k4 => walk_at "t_news"); (case qm => walk_at "t_mem"); (case ql => walk_at "t_intin")) | (refine' use_ROneS (one_str (P := CollName) ?qm ?ql ?_ ?_ ?_ ?_ ?_) ?k1 ?k2 ?k3 ?k4 ?k5 ?kK ?kd ?ku ?_; (case k4 => walk_at "t_news"); (case qm => walk_at "t_mem"); (case ql => walk_at "t_colls")) | (refine' use_RVal (one_good (by assumption) ?qm ?ql ?_ ?_ ?_ ?_ ?_) ?k1 ?k2 ?k3 ?k4 ?k5 ?kK ?kd ?ku ?_; (case k4 => walk_at "t_news"); (case qm => walk_at "t_mem"); (case ql => walk_at "t_goods")) | (refine' use_ROne (one_ok ?_ ?_ ?_ ?_ ?_ ?_) ?k1 ?k2 ?k3 ?k4 ?k5 ?kK ?kd ?ku ?_))) | ((with_reducible show wpAny _ _ (call (Value.ref 201) _) _ _ _); (refine' use_RTake (take_ok ?_ ?_ ?_ ?_ ?_) ?k1 ?k2 ?k3 ?k4 ?k5 ?kK ?kd ?ku ?_))); ((try (case k4 => walk_at "t_news")); ((case k1 => k_asm); (case k2 => k_asm); (case k3 => k_asm); (case k5 => k_asm); (case kK => first | exact rfl | assumption); (case kd => first | exact room9 (by with_reducible assumption) (by decide) | ktr_room); (case ku => first | exact unit9 (by with_reducible assumption) (by decide) | ktr_units)); (all_goals first | (fail_if_success (fail_if_success (intro (h9 : Heap)))) | (fail_if_success (refine of_prop ?_)) | with_reducible assumption | walk_at "t_prem" | assumption); k_whole))); (intros; (try k_fold))) | fail "none"); k_steps)))
          refine' cend_of ?cF ?cN ?c0 ?c1 ?cP
          case cF => k_asm
          case cN => exact cend5 (by k_asm)
          case c0 => assumption
          case c1 => assumption
          case cP => exact (StrIn.mk (by assumption))
        intro g1 ys a1 b1 ta1 tb1 ep1 hl1 hP1 hb0 hb1
        (k_steps; repeat (any_goals ((with_reducible refine unstop ?_); (first | ((with_reducible show wpAny _ _ (call (Value.ref 194) [_, _]) _ _ _); (k_dflt (refine' (pool_base ?q1 ?q2 ?q3 ?q4) _ _ _ _ _ _ _ _ _ _ _ _ _ _ _ _ _ ?qB ?k1 ?k2 ?k3 (by k_asm) ?k5 ?kK ?kd ?ku ?_; ((case k1 => k_asm); (case k2 => k_asm); (case k3 => k_asm); (case k5 => k_asm); (case kK => first | exact rfl | assumption); (case kd => first | exact room9 (by with_reducible assumption) (by decide) | ktr_room); (case ku => first | exact unit9 (by with_reducible assumption) (by decide) | ktr_units)); (case qB => assumption); (case q1 => assumption); (case q2 => omega); (case q3 => omega); (case q4 => omega); k_whole)); (intro r9 n9 h9 tk9 hR9 F9 N9; cases hR9; (try dsimp only); (try k_fold))) | ((k_dflt ((first | ((with_reducible show wpAny _ _ (call (Value.ref 265) _) _ _ _); (refine' use_RBool (vright_ok ?_ ?_ ?_ ?_ ?_) ?k1 ?k2 ?k3 ?k4 ?k5 ?kK ?kd ?ku ?_)) | ((with_reducible show wpAny _ _ (call (Value.ref 258) _) _ _ _); (refine' use_RRows (rows_ok ?_ ?_ ?_ ?_ ?_) ?k1 ?k2 ?k3 ?k4 ?k5 ?kK ?kd ?ku ?_)) | ((with_reducible show wpAny _ _ (call (Value.ref 137) _) _ _ _); (refine' use_RInt (count_ok ?_) ?k1 ?k2 ?k3 ?k4 ?k5 ?kK ?kd ?ku ?_)) | ((with_reducible show wpAny _ _ (call (Value.ref 154) _) _ _ _); (refine' use_RInfo (info_ok ?_ ?_ ?_ ?_) ?k1 ?k2 ?k3 ?k4 ?k5 ?kK ?kd ?ku ?_)) | ((with_reducible show wpAny _ _ (call (Value.ref 208) _) _ _ _); (first | (refine' use_ROneI (one_int (lo := 0) (hi := 255) ?qm ?ql ?_ ?_ ?_ ?_ ?_) ?k1 ?k2 ?k3 ?k4 ?k5 ?kK ?kd ?ku ?_; (case k4 => walk_at "t_news"); (case qm => walk_at "t_mem"); (case ql => walk_at "t_intin")) | (refine' use_ROneS (one_str (P := CollName) ?qm ?ql ?_ ?_ ?_ ?_ ?_) ?k1 ?k2 ?k3 ?k4 ?k5 ?kK ?kd ?ku ?_; (case k4 => walk_at "t_news"); (case qm => walk_at "t_mem"); (case ql => walk_at "t_colls")) | (refine' use_RVal (one_good (by assumption) ?qm ?ql ?_ ?_ ?_ ?_ ?_) ?k1 ?k2 ?k3 ?k4 ?k5 ?kK ?kd ?ku ?_; (case k4 => walk_at "t_news"); (case qm => walk_at "t_mem"); (case ql => walk_at "t_goods")) | (refine' use_ROne (one_ok ?_ ?_ ?_ ?_ ?_ ?_) ?k1 ?k2 ?k3 ?k4 ?k5 ?kK ?kd ?ku ?_))) | ((with_reducible show wpAny _ _ (call (Value.ref 201) _) _ _ _); (refine' use_RTake (take_ok ?_ ?_ ?_ ?_ ?_) ?k1 ?k2 ?k3 ?k4 ?k5 ?kK ?kd ?ku ?_))); ((try (case k4 => walk_at "t_news")); ((case k1 => k_asm); (case k2 => k_asm); (case k3 => k_asm); (case k5 => k_asm); (case kK => first | exact rfl | assumption); (case kd => first | exact room9 (by with_reducible assumption) (by decide) | ktr_room); (case ku => first | exact unit9 (by with_reducible assumption) (by decide) | ktr_units)); (all_goals first | (fail_if_success (fail_if_success (intro (h9 : Heap)))) | (fail_if_success (refine of_prop ?_)) | with_reducible assumption | walk_at "t_prem" | assumption); k_whole))); (intros; (try k_fold))) | fail "none"); k_steps)))
        (rename Addr => tc)
        obtain ⟨ks, hs1, hC1⟩ := strs_of hP1
        (refine cStep ?_; (k_steps; repeat (any_goals ((with_reducible refine unstop ?_); (first | ((with_reducible show wpAny _ _ (call (Value.ref 194) [_, _]) _ _ _); (k_dflt (refine' (pool_base ?q1 ?q2 ?q3 ?q4) _ _ _ _ _ _ _ _ _ _ _ _ _ _ _ _ _ ?qB ?k1 ?k2 ?k3 (by k_asm) ?k5 ?kK ?kd ?ku ?_; ((case k1 => k_asm); (case k2 => k_asm); (case k3 => k_asm); (case k5 => k_asm); (case kK => first | exact rfl | assumption); (case kd => first | exact room9 (by with_reducible assumption) (by decide) | ktr_room); (case ku => first | exact unit9 (by with_reducible assumption) (by decide) | ktr_units)); (case qB => assumption); (case q1 => assumption); (case q2 => omega); (case q3 => omega); (case q4 => omega); k_whole)); (intro r9 n9 h9 tk9 hR9 F9 N9; cases hR9; (try dsimp only); (try k_fold))) | ((k_dflt ((first | ((with_reducible show wpAny _ _ (call (Value.ref 265) _) _ _ _); (refine' use_RBool (vright_ok ?_ ?_ ?_ ?_ ?_) ?k1 ?k2 ?k3 ?k4 ?k5 ?kK ?kd ?ku ?_)) | ((with_reducible show wpAny _ _ (call (Value.ref 258) _) _ _ _); (refine' use_RRows (rows_ok ?_ ?_ ?_ ?_ ?_) ?k1 ?k2 ?k3 ?k4 ?k5 ?kK ?kd ?ku ?_)) | ((with_reducible show wpAny _ _ (call (Value.ref 137) _) _ _ _); (refine' use_RInt (count_ok ?_) ?k1 ?k2 ?k3 ?k4 ?k5 ?kK ?kd ?ku ?_)) | ((with_reducible show wpAny _ _ (call (Value.ref 154) _) _ _ _); (refine' use_RInfo (info_ok ?_ ?_ ?_ ?_) ?k1 ?k2 ?k3 ?k4 ?k5 ?kK ?kd ?ku ?_)) | ((with_reducible show wpAny _ _ (call (Value.ref 208) _) _ _ _); (first | (refine' use_ROneI (one_int (lo := 0) (hi := 255) ?qm ?ql ?_ ?_ ?_ ?_ ?_) ?k1 ?k2 ?k3 ?k4 ?k5 ?kK ?kd ?ku ?_; (case k4 => walk_at "t_news"); (case qm => walk_at "t_mem"); (case ql => walk_at "t_intin")) | (refine' use_ROneS (one_str (P := CollName) ?qm ?ql ?_ ?_ ?_ ?_ ?_) ?k1 ?k2 ?k3 ?k4 ?k5 ?kK ?kd ?ku ?_; (case k4 => walk_at "t_news"); (case qm => walk_at "t_mem"); (case ql => walk_at "t_colls")) | (refine' use_RVal (one_good (by assumption) ?qm ?ql ?_ ?_ ?_ ?_ ?_) ?k1 ?k2 ?k3 ?k4 ?k5 ?kK ?kd ?ku ?_; (case k4 => walk_at "t_news"); (case qm => walk_at "t_mem"); (case ql => walk_at "t_goods")) | (refine' use_ROne (one_ok ?_ ?_ ?_ ?_ ?_ ?_) ?k1 ?k2 ?k3 ?k4 ?k5 ?kK ?kd ?ku ?_))) | ((with_reducible show wpAny _ _ (call (Value.ref 201) _) _ _ _); (refine' use_RTake (take_ok ?_ ?_ ?_ ?_ ?_) ?k1 ?k2 ?k3 ?k4 ?k5 ?kK ?kd ?ku ?_))); ((try (case k4 => walk_at "t_news")); ((case k1 => k_asm); (case k2 => k_asm); (case k3 => k_asm); (case k5 => k_asm); (case kK => first | exact rfl | assumption); (case kd => first | exact room9 (by with_reducible assumption) (by decide) | ktr_room); (case ku => first | exact unit9 (by with_reducible assumption) (by decide) | ktr_units)); (all_goals first | (fail_if_success (fail_if_success (intro (h9 : Heap)))) | (fail_if_success (refine of_prop ?_)) | with_reducible assumption | walk_at "t_prem" | assumption); k_whole))); (intros; (try k_fold))) | fail "none"); k_steps))); (try dsimp only))
        unfold Stop
        (rename Fr _ _ _ _ => F4)
        (rename News _ _ _ _ => N4)
        refine comp_src (src := src) (n := many) IsB rfl F4 (news_pull N4 (by walk_at "t_pull")) (by assumption) (by assumption) (by assumption) (range_smallN (by first | decide | omega)) (range_sizeN (by first | decide | omega)) (by rw [sizeLine_eq]; omega) ?_ ?_
        · intro g ys a b ta tb ep v I oI C oC D m₂ h tk E' hb0 hb1 hlen hP hC hx F2 N2 off ne
          simp only [LCg.Off3, and_true] at off
          (k_steps; repeat (any_goals ((with_reducible refine unstop ?_); (first | ((with_reducible show wpAny _ _ (call (Value.ref 194) [_, _]) _ _ _); (k_dflt (refine' (pool_base ?q1 ?q2 ?q3 ?q4) _ _ _ _ _ _ _ _ _ _ _ _ _ _ _ _ _ ?qB ?k1 ?k2 ?k3 (by k_asm) ?k5 ?kK ?kd ?ku ?_; ((case k1 => k_asm); (case k2 => k_asm); (case k3 => k_asm); (case k5 => k_asm); (case kK => first | exact rfl | assumption); (case kd => first | exact room9 (by with_reducible assumption) (by decide) | ktr_room); (case ku => first | exact unit9 (by with_reducible assumption) (by decide) | ktr_units)); (case qB => assumption); (case q1 => assumption); (case q2 => omega); (case q3 => omega); (case q4 => omega); k_whole)); (intro r9 n9 h9 tk9 hR9 F9 N9; cases hR9; (try dsimp only); (try k_fold))) | ((k_dflt ((first | ((with_reducible show wpAny _ _ (call (Value.ref 265) _) _ _ _); (refine' use_RBool (vright_ok ?_ ?_ ?_ ?_ ?_) ?k1 ?k2 ?k3 ?k4 ?k5 ?kK ?kd ?ku ?_)) | ((with_reducible show wpAny _ _ (call (Value.ref 258) _) _ _ _); (refine' use_RRows (rows_ok ?_ ?_ ?_ ?_ ?_) ?k1 ?k2 ?k3 ?k4 ?k5 ?kK ?kd ?ku ?_)) | ((with_reducible show wpAny _ _ (call (Value.ref 137) _) _ _ _); (refine' use_RInt (count_ok ?_) ?k1 ?k2 ?k3 ?k4 ?k5 ?kK ?kd ?ku ?_)) | ((with_reducible show wpAny _ _ (call (Value.ref 154) _) _ _ _); (refine' use_RInfo (info_ok ?_ ?_ ?_ ?_) ?k1 ?k2 ?k3 ?k4 ?k5 ?kK ?kd ?ku ?_)) | ((with_reducible show wpAny _ _ (call (Value.ref 208) _) _ _ _); (first | (refine' use_ROneI (one_int (lo := 0) (hi := 255) ?qm ?ql ?_ ?_ ?_ ?_ ?_) ?k1 ?k2 ?k3 ?k4 ?k5 ?kK ?kd ?ku ?_; (case k4 => walk_at "t_news"); (case qm => walk_at "t_mem"); (case ql => walk_at "t_intin")) | (refine' use_ROneS (one_str (P := CollName) ?qm ?ql ?_ ?_ ?_ ?_ ?_) ?k1 ?k2 ?k3 ?k4 ?k5 ?kK ?kd ?ku ?_; (case k4 => walk_at "t_news"); (case qm => walk_at "t_mem"); (case ql => walk_at "t_colls")) | (refine' use_RVal (one_good (by assumption) ?qm ?ql ?_ ?_ ?_ ?_ ?_) ?k1 ?k2 ?k3 ?k4 ?k5 ?kK ?kd ?ku ?_; (case k4 => walk_at "t_news"); (case qm => walk_at "t_mem"); (case ql => walk_at "t_goods")) | (refine' use_ROne (one_ok ?_ ?_ ?_ ?_ ?_ ?_) ?k1 ?k2 ?k3 ?k4 ?k5 ?kK ?kd ?ku ?_))) | ((with_reducible show wpAny _ _ (call (Value.ref 201) _) _ _ _); (refine' use_RTake (take_ok ?_ ?_ ?_ ?_ ?_) ?k1 ?k2 ?k3 ?k4 ?k5 ?kK ?kd ?ku ?_))); ((try (case k4 => walk_at "t_news")); ((case k1 => k_asm); (case k2 => k_asm); (case k3 => k_asm); (case k5 => k_asm); (case kK => first | exact rfl | assumption); (case kd => first | exact room9 (by with_reducible assumption) (by decide) | ktr_room); (case ku => first | exact unit9 (by with_reducible assumption) (by decide) | ktr_units)); (all_goals first | (fail_if_success (fail_if_success (intro (h9 : Heap)))) | (fail_if_success (refine of_prop ?_)) | with_reducible assumption | walk_at "t_prem" | assumption); k_whole))); (intros; (try k_fold))) | fail "none"); k_steps)))
          refine' cend_of ?cF ?cN ?c0 ?c1 ?cP
          case cF => k_asm
          case cN => exact cend4 (by k_asm)
          case c0 => assumption
          case c1 => assumption
          case cP => exact ⟨_, rfl⟩
        intro g2 ys2 a2 b2 ta2 tb2 ep2 hl2 hP2 hb2 hb3
        (k_steps; repeat (any_goals ((with_reducible refine unstop ?_); (first | ((with_reducible show wpAny _ _ (call (Value.ref 194) [_, _]) _ _ _); (k_dflt (refine' (pool_base ?q1 ?q2 ?q3 ?q4) _ _ _ _ _ _ _ _ _ _ _ _ _ _ _ _ _ ?qB ?k1 ?k2 ?k3 (by k_asm) ?k5 ?kK ?kd ?ku ?_; ((case k1 => k_asm); (case k2 => k_asm); (case k3 => k_asm); (case k5 => k_asm); (case kK => first | exact rfl | assumption); (case kd => first | exact room9 (by with_reducible assumption) (by decide) | ktr_room); (case ku => first | exact unit9 (by with_reducible assumption) (by decide) | ktr_units)); (case qB => assumption); (case q1 => assumption); (case q2 => omega); (case q3 => omega); (case q4 => omega); k_whole)); (intro r9 n9 h9 tk9 hR9 F9 N9; cases hR9; (try dsimp only); (try k_fold))) | ((k_dflt ((first | ((with_reducible show wpAny _ _ (call (Value.ref 265) _) _ _ _); (refine' use_RBool (vright_ok ?_ ?_ ?_ ?_ ?_) ?k1 ?k2 ?k3 ?k4 ?k5 ?kK ?kd ?ku ?_)) | ((with_reducible show wpAny _ _ (call (Value.ref 258) _) _ _ _); (refine' use_RRows (rows_ok ?_ ?_ ?_ ?_ ?_) ?k1 ?k2 ?k3 ?k4 ?k5 ?kK ?kd ?ku ?_)) | ((with_reducible show wpAny _ _ (call (Value.ref 137) _) _ _ _); (refine' use_RInt (count_ok ?_) ?k1 ?k2 ?k3 ?k4 ?k5 ?kK ?kd ?ku ?_)) | ((with_reducible show wpAny _ _ (call (Value.ref 154) _) _ _ _); (refine' use_RInfo (info_ok ?_ ?_ ?_ ?_) ?k1 ?k2 ?k3 ?k4 ?k5 ?kK ?kd ?ku ?_)) | ((with_reducible show wpAny _ _ (call (Value.ref 208) _) _ _ _); (first | (refine' use_ROneI (one_int (lo := 0) (hi := 255) ?qm ?ql ?_ ?_ ?_ ?_ ?_) ?k1 ?k2 ?k3 ?k4 ?k5 ?kK ?kd ?ku ?_; (case k4 => walk_at "t_news"); (case qm => walk_at "t_mem"); (case ql => walk_at "t_intin")) | (refine' use_ROneS (one_str (P := CollName) ?qm ?ql ?_ ?_ ?_ ?_ ?_) ?k1 ?k2 ?k3 ?k4 ?k5 ?kK ?kd ?ku ?_; (case k4 => walk_at "t_news"); (case qm => walk_at "t_mem"); (case ql => walk_at "t_colls")) | (refine' use_RVal (one_good (by assumption) ?qm ?ql ?_ ?_ ?_ ?_ ?_) ?k1 ?k2 ?k3 ?k4 ?k5 ?kK ?kd ?ku ?_; (case k4 => walk_at "t_news"); (case qm => walk_at "t_mem"); (case ql => walk_at "t_goods")) | (refine' use_ROne (one_ok ?_ ?_ ?_ ?_ ?_ ?_) ?k1 ?k2 ?k3 ?k4 ?k5 ?kK ?kd ?ku ?_))) | ((with_reducible show wpAny _ _ (call (Value.ref 201) _) _ _ _); (refine' use_RTake (take_ok ?_ ?_ ?_ ?_ ?_) ?k1 ?k2 ?k3 ?k4 ?k5 ?kK ?kd ?ku ?_))); ((try (case k4 => walk_at "t_news")); ((case k1 => k_asm); (case k2 => k_asm); (case k3 => k_asm); (case k5 => k_asm); (case kK => first | exact rfl | assumption); (case kd => first | exact room9 (by with_reducible assumption) (by decide) | ktr_room); (case ku => first | exact unit9 (by with_reducible assumption) (by decide) | ktr_units)); (all_goals first | (fail_if_success (fail_if_success (intro (h9 : Heap)))) | (fail_if_success (refine of_prop ?_)) | with_reducible assumption | walk_at "t_prem" | assumption); k_whole))); (intros; (try k_fold))) | fail "none"); k_steps)))
        (rename Addr => td)
        obtain ⟨ts, rfl⟩ := bools_of hP2
        (refine cStep ?_; (k_steps; repeat (any_goals ((with_reducible refine unstop ?_); (first | ((with_reducible show wpAny _ _ (call (Value.ref 194) [_, _]) _ _ _); (k_dflt (refine' (pool_base ?q1 ?q2 ?q3 ?q4) _ _ _ _ _ _ _ _ _ _ _ _ _ _ _ _ _ ?qB ?k1 ?k2 ?k3 (by k_asm) ?k5 ?kK ?kd ?ku ?_; ((case k1 => k_asm); (case k2 => k_asm); (case k3 => k_asm); (case k5 => k_asm); (case kK => first | exact rfl | assumption); (case kd => first | exact room9 (by with_reducible assumption) (by decide) | ktr_room); (case ku => first | exact unit9 (by with_reducible assumption) (by decide) | ktr_units)); (case qB => assumption); (case q1 => assumption); (case q2 => omega); (case q3 => omega); (case q4 => omega); k_whole)); (intro r9 n9 h9 tk9 hR9 F9 N9; cases hR9; (try dsimp only); (try k_fold))) | ((k_dflt ((first | ((with_reducible show wpAny _ _ (call (Value.ref 265) _) _ _ _); (refine' use_RBool (vright_ok ?_ ?_ ?_ ?_ ?_) ?k1 ?k2 ?k3 ?k4 ?k5 ?kK ?kd ?ku ?_)) | ((with_reducible show wpAny _ _ (call (Value.ref 258) _) _ _ _); (refine' use_RRows (rows_ok ?_ ?_ ?_ ?_ ?_) ?k1 ?k2 ?k3 ?k4 ?k5 ?kK ?kd ?ku ?_)) | ((with_reducible show wpAny _ _ (call (Value.ref 137) _) _ _ _); (refine' use_RInt (count_ok ?_) ?k1 ?k2 ?k3 ?k4 ?k5 ?kK ?kd ?ku ?_)) | ((with_reducible show wpAny _ _ (call (Value.ref 154) _) _ _ _); (refine' use_RInfo (info_ok ?_ ?_ ?_ ?_) ?k1 ?k2 ?k3 ?k4 ?k5 ?kK ?kd ?ku ?_)) | ((with_reducible show wpAny _ _ (call (Value.ref 208) _) _ _ _); (first | (refine' use_ROneI (one_int (lo := 0) (hi := 255) ?qm ?ql ?_ ?_ ?_ ?_ ?_) ?k1 ?k2 ?k3 ?k4 ?k5 ?kK ?kd ?ku ?_; (case k4 => walk_at "t_news"); (case qm => walk_at "t_mem"); (case ql => walk_at "t_intin")) | (refine' use_ROneS (one_str (P := CollName) ?qm ?ql ?_ ?_ ?_ ?_ ?_) ?k1 ?k2 ?k3 ?k4 ?k5 ?kK ?kd ?ku ?_; (case k4 => walk_at "t_news"); (case qm => walk_at "t_mem"); (case ql => walk_at "t_colls")) | (refine' use_RVal (one_good (by assumption) ?qm ?ql ?_ ?_ ?_ ?_ ?_) ?k1 ?k2 ?k3 ?k4 ?k5 ?kK ?kd ?ku ?_; (case k4 => walk_at "t_news"); (case qm => walk_at "t_mem"); (case ql => walk_at "t_goods")) | (refine' use_ROne (one_ok ?_ ?_ ?_ ?_ ?_ ?_) ?k1 ?k2 ?k3 ?k4 ?k5 ?kK ?kd ?ku ?_))) | ((with_reducible show wpAny _ _ (call (Value.ref 201) _) _ _ _); (refine' use_RTake (take_ok ?_ ?_ ?_ ?_ ?_) ?k1 ?k2 ?k3 ?k4 ?k5 ?kK ?kd ?ku ?_))); ((try (case k4 => walk_at "t_news")); ((case k1 => k_asm); (case k2 => k_asm); (case k3 => k_asm); (case k5 => k_asm); (case kK => first | exact rfl | assumption); (case kd => first | exact room9 (by with_reducible assumption) (by decide) | ktr_room); (case ku => first | exact unit9 (by with_reducible assumption) (by decide) | ktr_units)); (all_goals first | (fail_if_success (fail_if_success (intro (h9 : Heap)))) | (fail_if_success (refine of_prop ?_)) | with_reducible assumption | walk_at "t_prem" | assumption); k_whole))); (intros; (try k_fold))) | fail "none"); k_steps))); (try dsimp only))
        rename_i x dx k1 k2 hi1 hi2 h5 F5 N5
        have hkl := strs_len hs1
        have htl : (List.map Value.bool ts).length = ts.length := by simp
        have hI : InfoIn w.params x ks ts ((x, instObj 154 dx) :: (dx, infoDict w.params k1 k2 tc td) :: (tc, tupObj ys 0) :: (td, tupObj (List.map Value.bool ts) 0) :: (src, SO a2 b2 ta2 tb2 ep2) :: (s₁.heap.objs.size + 1, oc) :: rest) := ⟨⟨dx, tc, td, k1, k2, ys, 0, 0, .head _, .tail _ (.head _), .tail _ (.tail _ (.head _)), .tail _ (.tail _ (.tail _ (.head _))), hs1⟩, by omega, by omega⟩
        have N6 := news_sub (r := (x, instObj 154 dx) :: (dx, infoDict w.params k1 k2 tc td) :: (tc, tupObj ys 0) :: (td, tupObj (List.map Value.bool ts) 0) :: (src, SO a2 b2 ta2 tb2 ep2) :: (s₁.heap.objs.size + 1, oc) :: rest) N5 (by walk_at "t_sub")
        clear N5
        (refine cStep ?_; (k_steps; repeat (any_goals ((with_reducible refine unstop ?_); (first | ((with_reducible show wpAny _ _ (call (Value.ref 194) [_, _]) _ _ _); (k_dflt (refine' (pool_base ?q1 ?q2 ?q3 ?q4) _ _ _ _ _ _ _ _ _ _ _ _ _ _ _ _ _ ?qB ?k1 ?k2 ?k3 (by k_asm) ?k5 ?kK ?kd ?ku ?_; ((case k1 => k_asm); (case k2 => k_asm); (case k3 => k_asm); (case k5 => k_asm); (case kK => first | exact rfl | assumption); (case kd => first | exact room9 (by with_reducible assumption) (by decide) | ktr_room); (case ku => first | exact unit9 (by with_reducible assumption) (by decide) | ktr_units)); (case qB => assumption); (case q1 => assumption); (case q2 => omega); (case q3 => omega); (case q4 => omega); k_whole)); (intro r9 n9 h9 tk9 hR9 F9 N9; cases hR9; (try dsimp only); (try k_fold))) | ((k_dflt ((first | ((with_reducible show wpAny _ _ (call (Value.ref 265) _) _ _ _); (refine' use_RBool (vright_ok ?_ ?_ ?_ ?_ ?_) ?k1 ?k2 ?k3 ?k4 ?k5 ?kK ?kd ?ku ?_)) | ((with_reducible show wpAny _ _ (call (Value.ref 258) _) _ _ _); (refine' use_RRows (rows_ok ?_ ?_ ?_ ?_ ?_) ?k1 ?k2 ?k3 ?k4 ?k5 ?kK ?kd ?ku ?_)) | ((with_reducible show wpAny _ _ (call (Value.ref 137) _) _ _ _); (refine' use_RInt (count_ok ?_) ?k1 ?k2 ?k3 ?k4 ?k5 ?kK ?kd ?ku ?_)) | ((with_reducible show wpAny _ _ (call (Value.ref 154) _) _ _ _); (refine' use_RInfo (info_ok ?_ ?_ ?_ ?_) ?k1 ?k2 ?k3 ?k4 ?k5 ?kK ?kd ?ku ?_)) | ((with_reducible show wpAny _ _ (call (Value.ref 208) _) _ _ _); (first | (refine' use_ROneI (one_int (lo := 0) (hi := 255) ?qm ?ql ?_ ?_ ?_ ?_ ?_) ?k1 ?k2 ?k3 ?k4 ?k5 ?kK ?kd ?ku ?_; (case k4 => walk_at "t_news"); (case qm => walk_at "t_mem"); (case ql => walk_at "t_intin")) | (refine' use_ROneS (one_str (P := CollName) ?qm ?ql ?_ ?_ ?_ ?_ ?_) ?k1 ?k2 ?k3 ?k4 ?k5 ?kK ?kd ?ku ?_; (case k4 => walk_at "t_news"); (case qm => walk_at "t_mem"); (case ql => walk_at "t_colls")) | (refine' use_RVal (one_good (by assumption) ?qm ?ql ?_ ?_ ?_ ?_ ?_) ?k1 ?k2 ?k3 ?k4 ?k5 ?kK ?kd ?ku ?_; (case k4 => walk_at "t_news"); (case qm => walk_at "t_mem"); (case ql => walk_at "t_goods")) | (refine' use_ROne (one_ok ?_ ?_ ?_ ?_ ?_ ?_) ?k1 ?k2 ?k3 ?k4 ?k5 ?kK ?kd ?ku ?_))) | ((with_reducible show wpAny _ _ (call (Value.ref 201) _) _ _ _); (refine' use_RTake (take_ok ?_ ?_ ?_ ?_ ?_) ?k1 ?k2 ?k3 ?k4 ?k5 ?kK ?kd ?ku ?_))); ((try (case k4 => walk_at "t_news")); ((case k1 => k_asm); (case k2 => k_asm); (case k3 => k_asm); (case k5 => k_asm); (case kK => first | exact rfl | assumption); (case kd => first | exact room9 (by with_reducible assumption) (by decide) | ktr_room); (case ku => first | exact unit9 (by with_reducible assumption) (by decide) | ktr_units)); (all_goals first | (fail_if_success (fail_if_success (intro (h9 : Heap)))) | (fail_if_success (refine of_prop ?_)) | with_reducible assumption | walk_at "t_prem" | assumption); k_whole))); (intros; (try k_fold))) | fail "none"); k_steps))); (try dsimp only))
        · exfalso
          omega
        (try dsimp only)
        have hsdx : @LT.lt Nat _ src dx := hi1 (src, SO a2 b2 ta2 tb2 ep2) (by walk_at "t_mem")
        have hdx : @LT.lt Nat _ dx x := hi2
        have hsn : Off src ((x, instObj 154 dx) :: (dx, infoDict w.params k1 k2 tc td) :: (tc, tupObj ys 0) :: (td, tupObj (List.map Value.bool ts) 0) :: rest) := Off.cons (show @Ne Nat x src by omega) (Off.cons (show @Ne Nat dx src by omega) (Off.cons (show @Ne Nat tc src by k_ne) (Off.cons (show @Ne Nat td src by k_ne) hsr)))
        (rename Fr _ _ _ _ => F7)
        (rename News _ _ _ _ => N7)
        have hI7 : InfoIn w.params x ks ts ((x, instObj 154 dx) :: (dx, infoDict w.params k1 k2 tc td) :: (tc, tupObj ys 0) :: (td, tupObj (List.map Value.bool ts) 0) :: rest) := ⟨⟨dx, tc, td, k1, k2, ys, 0, 0, .head _, .tail _ (.head _), .tail _ (.tail _ (.head _)), .tail _ (.tail _ (.tail _ (.head _))), hs1⟩, by omega, by omega⟩
        have N8 := news_sub (r := (src, SO a2 b2 ta2 tb2 ep2) :: (s₁.heap.objs.size + 1, oc) :: ((x, instObj 154 dx) :: (dx, infoDict w.params k1 k2 tc td) :: (tc, tupObj ys 0) :: (td, tupObj (List.map Value.bool ts) 0) :: rest)) N7 (by walk_at "t_sub")
        have htc7 : (tc, tupObj ys 0) ∈ ((x, instObj 154 dx) :: (dx, infoDict w.params k1 k2 tc td) :: (tc, tupObj ys 0) :: (td, tupObj (List.map Value.bool ts) 0) :: rest) := .tail _ (.tail _ (.head _))
        have htd7 : (td, tupObj (List.map Value.bool ts) 0) ∈ ((x, instObj 154 dx) :: (dx, infoDict w.params k1 k2 tc td) :: (tc, tupObj ys 0) :: (td, tupObj (List.map Value.bool ts) 0) :: rest) := .tail _ (.tail _ (.tail _ (.head _)))
        have hrn7 : ∀ p ∈ rest, p ∈ ((x, instObj 154 dx) :: (dx, infoDict w.params k1 k2 tc td) :: (tc, tupObj ys 0) :: (td, tupObj (List.map Value.bool ts) 0) :: rest) := fun p hp => .tail _ (.tail _ (.tail _ (.tail _ hp)))
        generalize ((x, instObj 154 dx) :: (dx, infoDict w.params k1 k2 tc td) :: (tc, tupObj ys 0) :: (td, tupObj (List.map Value.bool ts) 0) :: rest) = nl at hsn hI7 N8 htc7 htd7 hrn7
        clear N7 N6 hI hi1
        (refine cStep ?_; (k_steps; repeat (any_goals ((with_reducible refine unstop ?_); (first | ((with_reducible show wpAny _ _ (call (Value.ref 194) [_, _]) _ _ _); (k_dflt (refine' (pool_base ?q1 ?q2 ?q3 ?q4) _ _ _ _ _ _ _ _ _ _ _ _ _ _ _ _ _ ?qB ?k1 ?k2 ?k3 (by k_asm) ?k5 ?kK ?kd ?ku ?_; ((case k1 => k_asm); (case k2 => k_asm); (case k3 => k_asm); (case k5 => k_asm); (case kK => first | exact rfl | assumption); (case kd => first | exact room9 (by with_reducible assumption) (by decide) | ktr_room); (case ku => first | exact unit9 (by with_reducible assumption) (by decide) | ktr_units)); (case qB => assumption); (case q1 => assumption); (case q2 => omega); (case q3 => omega); (case q4 => omega); k_whole)); (intro r9 n9 h9 tk9 hR9 F9 N9; cases hR9; (try dsimp only); (try k_fold))) | ((k_dflt ((first | ((with_reducible show wpAny _ _ (call (Value.ref 265) _) _ _ _); (refine' use_RBool (vright_ok ?_ ?_ ?_ ?_ ?_) ?k1 ?k2 ?k3 ?k4 ?k5 ?kK ?kd ?ku ?_)) | ((with_reducible show wpAny _ _ (call (Value.ref 258) _) _ _ _); (refine' use_RRows (rows_ok ?_ ?_ ?_ ?_ ?_) ?k1 ?k2 ?k3 ?k4 ?k5 ?kK ?kd ?ku ?_)) | ((with_reducible show wpAny _ _ (call (Value.ref 137) _) _ _ _); (refine' use_RInt (count_ok ?_) ?k1 ?k2 ?k3 ?k4 ?k5 ?kK ?kd ?ku ?_)) | ((with_reducible show wpAny _ _ (call (Value.ref 154) _) _ _ _); (refine' use_RInfo (info_ok ?_ ?_ ?_ ?_) ?k1 ?k2 ?k3 ?k4 ?k5 ?kK ?kd ?ku ?_)) | ((with_reducible show wpAny _ _ (call (Value.ref 208) _) _ _ _); (first | (refine' use_ROneI (one_int (lo := 0) (hi := 255) ?qm ?ql ?_ ?_ ?_ ?_ ?_) ?k1 ?k2 ?k3 ?k4 ?k5 ?kK ?kd ?ku ?_; (case k4 => walk_at "t_news"); (case qm => walk_at "t_mem"); (case ql => walk_at "t_intin")) | (refine' use_ROneS (one_str (P := CollName) ?qm ?ql ?_ ?_ ?_ ?_ ?_) ?k1 ?k2 ?k3 ?k4 ?k5 ?kK ?kd ?ku ?_; (case k4 => walk_at "t_news"); (case qm => walk_at "t_mem"); (case ql => walk_at "t_colls")) | (refine' use_RVal (one_good (by assumption) ?qm ?ql ?_ ?_ ?_ ?_ ?_) ?k1 ?k2 ?k3 ?k4 ?k5 ?kK ?kd ?ku ?_; (case k4 => walk_at "t_news"); (case qm => walk_at "t_mem"); (case ql => walk_at "t_goods")) | (refine' use_ROne (one_ok ?_ ?_ ?_ ?_ ?_ ?_) ?k1 ?k2 ?k3 ?k4 ?k5 ?kK ?kd ?ku ?_))) | ((with_reducible show wpAny _ _ (call (Value.ref 201) _) _ _ _); (refine' use_RTake (take_ok ?_ ?_ ?_ ?_ ?_) ?k1 ?k2 ?k3 ?k4 ?k5 ?kK ?kd ?ku ?_))); ((try (case k4 => walk_at "t_news")); ((case k1 => k_asm); (case k2 => k_asm); (case k3 => k_asm); (case k5 => k_asm); (case kK => first | exact rfl | assumption); (case kd => first | exact room9 (by with_reducible assumption) (by decide) | ktr_room); (case ku => first | exact unit9 (by with_reducible assumption) (by decide) | ktr_units)); (all_goals first | (fail_if_success (fail_if_success (intro (h9 : Heap)))) | (fail_if_success (refine of_prop ?_)) | with_reducible assumption | walk_at "t_prem" | assumption); k_whole))); (intros; (try k_fold))) | fail "none"); k_steps))); (try dsimp only))
        rename_i R ep es a3 b3 ta3 tb3 objs rs hr3 hrs hrow hso hRs hb4 hb5 h6 F6 N6
        have hRn : (R, W.listOf rs.toArray ep) ∈ (R, W.listOf rs.toArray ep) :: (objs ++ nl) := .head _
        have hob : ∀ p ∈ objs, p ∈ (R, W.listOf rs.toArray ep) :: (objs ++ nl) := fun p hp => .tail _ (List.mem_append_left _ hp)
        have hnl : ∀ p ∈ nl, p ∈ (R, W.listOf rs.toArray ep) :: (objs ++ nl) := fun p hp => .tail _ (List.mem_append_right _ hp)
        have hsnn : Off src ((R, W.listOf rs.toArray ep) :: (objs ++ nl)) := Off.cons hRs (hso.app hsn)
        have N9 : News _ _ _ ((src, SO a3 b3 ta3 tb3 es) :: (s₁.heap.objs.size + 1, oc) :: ((R, W.listOf rs.toArray ep) :: (objs ++ nl))) := fun p hp => N6 p (by
          simp only [List.mem_cons, List.mem_append] at hp ⊢
          rcases hp with h | h | h | h | h <;> simp [h])
        generalize (R, W.listOf rs.toArray ep) :: (objs ++ nl) = nn at hRn hob hnl hsnn N9
        clear N6
        refine cForS ?_
        (k_steps; repeat (any_goals ((with_reducible refine unstop ?_); (first | ((with_reducible show wpAny _ _ (call (Value.ref 194) [_, _]) _ _ _); (k_dflt (refine' (pool_base ?q1 ?q2 ?q3 ?q4) _ _ _ _ _ _ _ _ _ _ _ _ _ _ _ _ _ ?qB ?k1 ?k2 ?k3 (by k_asm) ?k5 ?kK ?kd ?ku ?_; ((case k1 => k_asm); (case k2 => k_asm); (case k3 => k_asm); (case k5 => k_asm); (case kK => first | exact rfl | assumption); (case kd => first | exact room9 (by with_reducible assumption) (by decide) | ktr_room); (case ku => first | exact unit9 (by with_reducible assumption) (by decide) | ktr_units)); (case qB => assumption); (case q1 => assumption); (case q2 => omega); (case q3 => omega); (case q4 => omega); k_whole)); (intro r9 n9 h9 tk9 hR9 F9 N9; cases hR9; (try dsimp only); (try k_fold))) | ((k_dflt ((first | ((with_reducible show wpAny _ _ (call (Value.ref 265) _) _ _ _); (refine' use_RBool (vright_ok ?_ ?_ ?_ ?_ ?_) ?k1 ?k2 ?k3 ?k4 ?k5 ?kK ?kd ?ku ?_)) | ((with_reducible show wpAny _ _ (call (Value.ref 258) _) _ _ _); (refine' use_RRows (rows_ok ?_ ?_ ?_ ?_ ?_) ?k1 ?k2 ?k3 ?k4 ?k5 ?kK ?kd ?ku ?_)) | ((with_reducible show wpAny _ _ (call (Value.ref 137) _) _ _ _); (refine' use_RInt (count_ok ?_) ?k1 ?k2 ?k3 ?k4 ?k5 ?kK ?kd ?ku ?_)) | ((with_reducible show wpAny _ _ (call (Value.ref 154) _) _ _ _); (refine' use_RInfo (info_ok ?_ ?_ ?_ ?_) ?k1 ?k2 ?k3 ?k4 ?k5 ?kK ?kd ?ku ?_)) | ((with_reducible show wpAny _ _ (call (Value.ref 208) _) _ _ _); (first | (refine' use_ROneI (one_int (lo := 0) (hi := 255) ?qm ?ql ?_ ?_ ?_ ?_ ?_) ?k1 ?k2 ?k3 ?k4 ?k5 ?kK ?kd ?ku ?_; (case k4 => walk_at "t_news"); (case qm => walk_at "t_mem"); (case ql => walk_at "t_intin")) | (refine' use_ROneS (one_str (P := CollName) ?qm ?ql ?_ ?_ ?_ ?_ ?_) ?k1 ?k2 ?k3 ?k4 ?k5 ?kK ?kd ?ku ?_; (case k4 => walk_at "t_news"); (case qm => walk_at "t_mem"); (case ql => walk_at "t_colls")) | (refine' use_RVal (one_good (by assumption) ?qm ?ql ?_ ?_ ?_ ?_ ?_) ?k1 ?k2 ?k3 ?k4 ?k5 ?kK ?kd ?ku ?_; (case k4 => walk_at "t_news"); (case qm => walk_at "t_mem"); (case ql => walk_at "t_goods")) | (refine' use_ROne (one_ok ?_ ?_ ?_ ?_ ?_ ?_) ?k1 ?k2 ?k3 ?k4 ?k5 ?kK ?kd ?ku ?_))) | ((with_reducible show wpAny _ _ (call (Value.ref 201) _) _ _ _); (refine' use_RTake (take_ok ?_ ?_ ?_ ?_ ?_) ?k1 ?k2 ?k3 ?k4 ?k5 ?kK ?kd ?ku ?_))); ((try (case k4 => walk_at "t_news")); ((case k1 => k_asm); (case k2 => k_asm); (case k3 => k_asm); (case k5 => k_asm); (case kK => first | exact rfl | assumption); (case kd => first | exact room9 (by with_reducible assumption) (by decide) | ktr_room); (case ku => first | exact unit9 (by with_reducible assumption) (by decide) | ktr_units)); (all_goals first | (fail_if_success (fail_if_success (intro (h9 : Heap)))) | (fail_if_success (refine of_prop ?_)) | with_reducible assumption | walk_at "t_prem" | assumption); k_whole))); (intros; (try k_fold))) | fail "none"); k_steps)))
        unfold Stop
        (rename Fr _ _ _ _ => F10)
        (rename News _ _ _ _ => N10)
        (rename IsRange _ _ _ _ _ _ _ _ => R10)
        rw [hr3] at R10
        refine for_rangeC (n := 3) (σ := Sr) (fun c => [(src, SO c.x c.y c.tx c.ty c.n)]) [Str.ofString "at", Str.ofString "row"] (fun _ c _ => 0 ≤ c.y ∧ c.y < 2147483647) ⟨a3, b3, ta3, tb3, es⟩ rfl rfl rfl R10 (range_smallN (by first | decide | omega)) (range_sizeN (by first | decide | omega)) F10 (news0 := (s₁.heap.objs.size + 1, oc) :: nn) N10 (fun _ => rfl) ⟨hb4, hb5⟩ ?_ ?_
        · rintro j u2 hj ⟨a4, b4, ta4, tb4, es4⟩ m₂ h7 tk7 rest2 ⟨hb6, hb7⟩ hu2 hsub2 hoff2 F11 N11
          have hs2 := hoff2 src (List.mem_singleton.mpr rfl) (Off.cons hsC hsnn)
          dsimp only [List.cons_append, List.nil_append] at N11 hb6 hb7
          have hcell := hsub2 _ (.head _)
          have N12 := news_add N11 (.tail _ hcell)
          have hR2 := hsub2 _ (.tail _ hRn)
          have hob2 : ∀ p ∈ objs, p ∈ rest2 := fun p hp => hsub2 _ (.tail _ (hob p hp))
          have hI12 : InfoIn w.params x ks ts rest2 := hI7.mono fun p hp => hsub2 _ (.tail _ (hnl p hp))
          have htc2 := hsub2 _ (.tail _ (hnl _ htc7))
          have htd2 := hsub2 _ (.tail _ (hnl _ htd7))
          clear N11
          refine cCaseC (cNotCall ?_)
          refine cCall_Name ?_
          (k_steps; repeat (any_goals ((with_reducible refine unstop ?_); (first | ((with_reducible show wpAny _ _ (call (Value.ref 194) [_, _]) _ _ _); (k_dflt (refine' (pool_base ?q1 ?q2 ?q3 ?q4) _ _ _ _ _ _ _ _ _ _ _ _ _ _ _ _ _ ?qB ?k1 ?k2 ?k3 (by k_asm) ?k5 ?kK ?kd ?ku ?_; ((case k1 => k_asm); (case k2 => k_asm); (case k3 => k_asm); (case k5 => k_asm); (case kK => first | exact rfl | assumption); (case kd => first | exact room9 (by with_reducible assumption) (by decide) | ktr_room); (case ku => first | exact unit9 (by with_reducible assumption) (by decide) | ktr_units)); (case qB => assumption); (case q1 => assumption); (case q2 => omega); (case q3 => omega); (case q4 => omega); k_whole)); (intro r9 n9 h9 tk9 hR9 F9 N9; cases hR9; (try dsimp only); (try k_fold))) | ((k_dflt ((first | ((with_reducible show wpAny _ _ (call (Value.ref 265) _) _ _ _); (refine' use_RBool (vright_ok ?_ ?_ ?_ ?_ ?_) ?k1 ?k2 ?k3 ?k4 ?k5 ?kK ?kd ?ku ?_)) | ((with_reducible show wpAny _ _ (call (Value.ref 258) _) _ _ _); (refine' use_RRows (rows_ok ?_ ?_ ?_ ?_ ?_) ?k1 ?k2 ?k3 ?k4 ?k5 ?kK ?kd ?ku ?_)) | ((with_reducible show wpAny _ _ (call (Value.ref 137) _) _ _ _); (refine' use_RInt (count_ok ?_) ?k1 ?k2 ?k3 ?k4 ?k5 ?kK ?kd ?ku ?_)) | ((with_reducible show wpAny _ _ (call (Value.ref 154) _) _ _ _); (refine' use_RInfo (info_ok ?_ ?_ ?_ ?_) ?k1 ?k2 ?k3 ?k4 ?k5 ?kK ?kd ?ku ?_)) | ((with_reducible show wpAny _ _ (call (Value.ref 208) _) _ _ _); (first | (refine' use_ROneI (one_int (lo := 0) (hi := 255) ?qm ?ql ?_ ?_ ?_ ?_ ?_) ?k1 ?k2 ?k3 ?k4 ?k5 ?kK ?kd ?ku ?_; (case k4 => walk_at "t_news"); (case qm => walk_at "t_mem"); (case ql => walk_at "t_intin")) | (refine' use_ROneS (one_str (P := CollName) ?qm ?ql ?_ ?_ ?_ ?_ ?_) ?k1 ?k2 ?k3 ?k4 ?k5 ?kK ?kd ?ku ?_; (case k4 => walk_at "t_news"); (case qm => walk_at "t_mem"); (case ql => walk_at "t_colls")) | (refine' use_RVal (one_good (by assumption) ?qm ?ql ?_ ?_ ?_ ?_ ?_) ?k1 ?k2 ?k3 ?k4 ?k5 ?kK ?kd ?ku ?_; (case k4 => walk_at "t_news"); (case qm => walk_at "t_mem"); (case ql => walk_at "t_goods")) | (refine' use_ROne (one_ok ?_ ?_ ?_ ?_ ?_ ?_) ?k1 ?k2 ?k3 ?k4 ?k5 ?kK ?kd ?ku ?_))) | ((with_reducible show wpAny _ _ (call (Value.ref 201) _) _ _ _); (refine' use_RTake (take_ok ?_ ?_ ?_ ?_ ?_) ?k1 ?k2 ?k3 ?k4 ?k5 ?kK ?kd ?ku ?_))); ((try (case k4 => walk_at "t_news")); ((case k1 => k_asm); (case k2 => k_asm); (case k3 => k_asm); (case k5 => k_asm); (case kK => first | exact rfl | assumption); (case kd => first | exact room9 (by with_reducible assumption) (by decide) | ktr_room); (case ku => first | exact unit9 (by with_reducible assumption) (by decide) | ktr_units)); (all_goals first | (fail_if_success (fail_if_success (intro (h9 : Heap)))) | (fail_if_success (refine of_prop ?_)) | with_reducible assumption | walk_at "t_prem" | assumption); k_whole))); (intros; (try k_fold))) | fail "none"); k_steps)))
          refine cCallWith_K (K := hd.heap_39 w.params) (by k_is) rfl (cSpliced_cons ?_)
          refine cAny (show wpAny _ _ (eval _ _) _ _ _ from ?_)
          (k_steps; repeat (any_goals ((with_reducible refine unstop ?_); (first | ((with_reducible show wpAny _ _ (call (Value.ref 194) [_, _]) _ _ _); (k_dflt (refine' (pool_base ?q1 ?q2 ?q3 ?q4) _ _ _ _ _ _ _ _ _ _ _ _ _ _ _ _ _ ?qB ?k1 ?k2 ?k3 (by k_asm) ?k5 ?kK ?kd ?ku ?_; ((case k1 => k_asm); (case k2 => k_asm); (case k3 => k_asm); (case k5 => k_asm); (case kK => first | exact rfl | assumption); (case kd => first | exact room9 (by with_reducible assumption) (by decide) | ktr_room); (case ku => first | exact unit9 (by with_reducible assumption) (by decide) | ktr_units)); (case qB => assumption); (case q1 => assumption); (case q2 => omega); (case q3 => omega); (case q4 => omega); k_whole)); (intro r9 n9 h9 tk9 hR9 F9 N9; cases hR9; (try dsimp only); (try k_fold))) | ((k_dflt ((first | ((with_reducible show wpAny _ _ (call (Value.ref 265) _) _ _ _); (refine' use_RBool (vright_ok ?_ ?_ ?_ ?_ ?_) ?k1 ?k2 ?k3 ?k4 ?k5 ?kK ?kd ?ku ?_)) | ((with_reducible show wpAny _ _ (call (Value.ref 258) _) _ _ _); (refine' use_RRows (rows_ok ?_ ?_ ?_ ?_ ?_) ?k1 ?k2 ?k3 ?k4 ?k5 ?kK ?kd ?ku ?_)) | ((with_reducible show wpAny _ _ (call (Value.ref 137) _) _ _ _); (refine' use_RInt (count_ok ?_) ?k1 ?k2 ?k3 ?k4 ?k5 ?kK ?kd ?ku ?_)) | ((with_reducible show wpAny _ _ (call (Value.ref 154) _) _ _ _); (refine' use_RInfo (info_ok ?_ ?_ ?_ ?_) ?k1 ?k2 ?k3 ?k4 ?k5 ?kK ?kd ?ku ?_)) | ((with_reducible show wpAny _ _ (call (Value.ref 208) _) _ _ _); (first | (refine' use_ROneI (one_int (lo := 0) (hi := 255) ?qm ?ql ?_ ?_ ?_ ?_ ?_) ?k1 ?k2 ?k3 ?k4 ?k5 ?kK ?kd ?ku ?_; (case k4 => walk_at "t_news"); (case qm => walk_at "t_mem"); (case ql => walk_at "t_intin")) | (refine' use_ROneS (one_str (P := CollName) ?qm ?ql ?_ ?_ ?_ ?_ ?_) ?k1 ?k2 ?k3 ?k4 ?k5 ?kK ?kd ?ku ?_; (case k4 => walk_at "t_news"); (case qm => walk_at "t_mem"); (case ql => walk_at "t_colls")) | (refine' use_RVal (one_good (by assumption) ?qm ?ql ?_ ?_ ?_ ?_ ?_) ?k1 ?k2 ?k3 ?k4 ?k5 ?kK ?kd ?ku ?_; (case k4 => walk_at "t_news"); (case qm => walk_at "t_mem"); (case ql => walk_at "t_goods")) | (refine' use_ROne (one_ok ?_ ?_ ?_ ?_ ?_ ?_) ?k1 ?k2 ?k3 ?k4 ?k5 ?kK ?kd ?ku ?_))) | ((with_reducible show wpAny _ _ (call (Value.ref 201) _) _ _ _); (refine' use_RTake (take_ok ?_ ?_ ?_ ?_ ?_) ?k1 ?k2 ?k3 ?k4 ?k5 ?kK ?kd ?ku ?_))); ((try (case k4 => walk_at "t_news")); ((case k1 => k_asm); (case k2 => k_asm); (case k3 => k_asm); (case k5 => k_asm); (case kK => first | exact rfl | assumption); (case kd => first | exact room9 (by with_reducible assumption) (by decide) | ktr_room); (case ku => first | exact unit9 (by with_reducible assumption) (by decide) | ktr_units)); (all_goals first | (fail_if_success (fail_if_success (intro (h9 : Heap)))) | (fail_if_success (refine of_prop ?_)) | with_reducible assumption | walk_at "t_prem" | assumption); k_whole))); (intros; (try k_fold))) | fail "none"); k_steps)))
          refine cSpliced_cons ?_
          refine cAny (show wpAny _ _ (eval _ _) _ _ _ from ?_)
          (k_steps; repeat (any_goals ((with_reducible refine unstop ?_); (first | ((with_reducible show wpAny _ _ (call (Value.ref 194) [_, _]) _ _ _); (k_dflt (refine' (pool_base ?q1 ?q2 ?q3 ?q4) _ _ _ _ _ _ _ _ _ _ _ _ _ _ _ _ _ ?qB ?k1 ?k2 ?k3 (by k_asm) ?k5 ?kK ?kd ?ku ?_; ((case k1 => k_asm); (case k2 => k_asm); (case k3 => k_asm); (case k5 => k_asm); (case kK => first | exact rfl | assumption); (case kd => first | exact room9 (by with_reducible assumption) (by decide) | ktr_room); (case ku => first | exact unit9 (by with_reducible assumption) (by decide) | ktr_units)); (case qB => assumption); (case q1 => assumption); (case q2 => omega); (case q3 => omega); (case q4 => omega); k_whole)); (intro r9 n9 h9 tk9 hR9 F9 N9; cases hR9; (try dsimp only); (try k_fold))) | ((k_dflt ((first | ((with_reducible show wpAny _ _ (call (Value.ref 265) _) _ _ _); (refine' use_RBool (vright_ok ?_ ?_ ?_ ?_ ?_) ?k1 ?k2 ?k3 ?k4 ?k5 ?kK ?kd ?ku ?_)) | ((with_reducible show wpAny _ _ (call (Value.ref 258) _) _ _ _); (refine' use_RRows (rows_ok ?_ ?_ ?_ ?_ ?_) ?k1 ?k2 ?k3 ?k4 ?k5 ?kK ?kd ?ku ?_)) | ((with_reducible show wpAny _ _ (call (Value.ref 137) _) _ _ _); (refine' use_RInt (count_ok ?_) ?k1 ?k2 ?k3 ?k4 ?k5 ?kK ?kd ?ku ?_)) | ((with_reducible show wpAny _ _ (call (Value.ref 154) _) _ _ _); (refine' use_RInfo (info_ok ?_ ?_ ?_ ?_) ?k1 ?k2 ?k3 ?k4 ?k5 ?kK ?kd ?ku ?_)) | ((with_reducible show wpAny _ _ (call (Value.ref 208) _) _ _ _); (first | (refine' use_ROneI (one_int (lo := 0) (hi := 255) ?qm ?ql ?_ ?_ ?_ ?_ ?_) ?k1 ?k2 ?k3 ?k4 ?k5 ?kK ?kd ?ku ?_; (case k4 => walk_at "t_news"); (case qm => walk_at "t_mem"); (case ql => walk_at "t_intin")) | (refine' use_ROneS (one_str (P := CollName) ?qm ?ql ?_ ?_ ?_ ?_ ?_) ?k1 ?k2 ?k3 ?k4 ?k5 ?kK ?kd ?ku ?_; (case k4 => walk_at "t_news"); (case qm => walk_at "t_mem"); (case ql => walk_at "t_colls")) | (refine' use_RVal (one_good (by assumption) ?qm ?ql ?_ ?_ ?_ ?_ ?_) ?k1 ?k2 ?k3 ?k4 ?k5 ?kK ?kd ?ku ?_; (case k4 => walk_at "t_news"); (case qm => walk_at "t_mem"); (case ql => walk_at "t_goods")) | (refine' use_ROne (one_ok ?_ ?_ ?_ ?_ ?_ ?_) ?k1 ?k2 ?k3 ?k4 ?k5 ?kK ?kd ?ku ?_))) | ((with_reducible show wpAny _ _ (call (Value.ref 201) _) _ _ _); (refine' use_RTake (take_ok ?_ ?_ ?_ ?_ ?_) ?k1 ?k2 ?k3 ?k4 ?k5 ?kK ?kd ?ku ?_))); ((try (case k4 => walk_at "t_news")); ((case k1 => k_asm); (case k2 => k_asm); (case k3 => k_asm); (case k5 => k_asm); (case kK => first | exact rfl | assumption); (case kd => first | exact room9 (by with_reducible assumption) (by decide) | ktr_room); (case ku => first | exact unit9 (by with_reducible assumption) (by decide) | ktr_units)); (all_goals first | (fail_if_success (fail_if_success (intro (h9 : Heap)))) | (fail_if_success (refine of_prop ?_)) | with_reducible assumption | walk_at "t_prem" | assumption); k_whole))); (intros; (try k_fold))) | fail "none"); k_steps)))
          refine cSpliced_cons ?_
          refine cAny (show wpAny _ _ (eval _ _) _ _ _ from ?_)
          (k_steps; repeat (any_goals ((with_reducible refine unstop ?_); (first | ((with_reducible show wpAny _ _ (call (Value.ref 194) [_, _]) _ _ _); (k_dflt (refine' (pool_base ?q1 ?q2 ?q3 ?q4) _ _ _ _ _ _ _ _ _ _ _ _ _ _ _ _ _ ?qB ?k1 ?k2 ?k3 (by k_asm) ?k5 ?kK ?kd ?ku ?_; ((case k1 => k_asm); (case k2 => k_asm); (case k3 => k_asm); (case k5 => k_asm); (case kK => first | exact rfl | assumption); (case kd => first | exact room9 (by with_reducible assumption) (by decide) | ktr_room); (case ku => first | exact unit9 (by with_reducible assumption) (by decide) | ktr_units)); (case qB => assumption); (case q1 => assumption); (case q2 => omega); (case q3 => omega); (case q4 => omega); k_whole)); (intro r9 n9 h9 tk9 hR9 F9 N9; cases hR9; (try dsimp only); (try k_fold))) | ((k_dflt ((first | ((with_reducible show wpAny _ _ (call (Value.ref 265) _) _ _ _); (refine' use_RBool (vright_ok ?_ ?_ ?_ ?_ ?_) ?k1 ?k2 ?k3 ?k4 ?k5 ?kK ?kd ?ku ?_)) | ((with_reducible show wpAny _ _ (call (Value.ref 258) _) _ _ _); (refine' use_RRows (rows_ok ?_ ?_ ?_ ?_ ?_) ?k1 ?k2 ?k3 ?k4 ?k5 ?kK ?kd ?ku ?_)) | ((with_reducible show wpAny _ _ (call (Value.ref 137) _) _ _ _); (refine' use_RInt (count_ok ?_) ?k1 ?k2 ?k3 ?k4 ?k5 ?kK ?kd ?ku ?_)) | ((with_reducible show wpAny _ _ (call (Value.ref 154) _) _ _ _); (refine' use_RInfo (info_ok ?_ ?_ ?_ ?_) ?k1 ?k2 ?k3 ?k4 ?k5 ?kK ?kd ?ku ?_)) | ((with_reducible show wpAny _ _ (call (Value.ref 208) _) _ _ _); (first | (refine' use_ROneI (one_int (lo := 0) (hi := 255) ?qm ?ql ?_ ?_ ?_ ?_ ?_) ?k1 ?k2 ?k3 ?k4 ?k5 ?kK ?kd ?ku ?_; (case k4 => walk_at "t_news"); (case qm => walk_at "t_mem"); (case ql => walk_at "t_intin")) | (refine' use_ROneS (one_str (P := CollName) ?qm ?ql ?_ ?_ ?_ ?_ ?_) ?k1 ?k2 ?k3 ?k4 ?k5 ?kK ?kd ?ku ?_; (case k4 => walk_at "t_news"); (case qm => walk_at "t_mem"); (case ql => walk_at "t_colls")) | (refine' use_RVal (one_good (by assumption) ?qm ?ql ?_ ?_ ?_ ?_ ?_) ?k1 ?k2 ?k3 ?k4 ?k5 ?kK ?kd ?ku ?_; (case k4 => walk_at "t_news"); (case qm => walk_at "t_mem"); (case ql => walk_at "t_goods")) | (refine' use_ROne (one_ok ?_ ?_ ?_ ?_ ?_ ?_) ?k1 ?k2 ?k3 ?k4 ?k5 ?kK ?kd ?ku ?_))) | ((with_reducible show wpAny _ _ (call (Value.ref 201) _) _ _ _); (refine' use_RTake (take_ok ?_ ?_ ?_ ?_ ?_) ?k1 ?k2 ?k3 ?k4 ?k5 ?kK ?kd ?ku ?_))); ((try (case k4 => walk_at "t_news")); ((case k1 => k_asm); (case k2 => k_asm); (case k3 => k_asm); (case k5 => k_asm); (case kK => first | exact rfl | assumption); (case kd => first | exact room9 (by with_reducible assumption) (by decide) | ktr_room); (case ku => first | exact unit9 (by with_reducible assumption) (by decide) | ktr_units)); (all_goals first | (fail_if_success (fail_if_success (intro (h9 : Heap)))) | (fail_if_success (refine of_prop ?_)) | with_reducible assumption | walk_at "t_prem" | assumption); k_whole))); (intros; (try k_fold))) | fail "none"); k_steps)))
          refine cSpliced_cons ?_
          refine cAny (show wpAny _ _ (eval _ _) _ _ _ from ?_)
          (k_steps; repeat (any_goals ((with_reducible refine unstop ?_); (first | ((with_reducible show wpAny _ _ (call (Value.ref 194) [_, _]) _ _ _); (k_dflt (refine' (pool_base ?q1 ?q2 ?q3 ?q4) _ _ _ _ _ _ _ _ _ _ _ _ _ _ _ _ _ ?qB ?k1 ?k2 ?k3 (by k_asm) ?k5 ?kK ?kd ?ku ?_; ((case k1 => k_asm); (case k2 => k_asm); (case k3 => k_asm); (case k5 => k_asm); (case kK => first | exact rfl | assumption); (case kd => first | exact room9 (by with_reducible assumption) (by decide) | ktr_room); (case ku => first | exact unit9 (by with_reducible assumption) (by decide) | ktr_units)); (case qB => assumption); (case q1 => assumption); (case q2 => omega); (case q3 => omega); (case q4 => omega); k_whole)); (intro r9 n9 h9 tk9 hR9 F9 N9; cases hR9; (try dsimp only); (try k_fold))) | ((k_dflt ((first | ((with_reducible show wpAny _ _ (call (Value.ref 265) _) _ _ _); (refine' use_RBool (vright_ok ?_ ?_ ?_ ?_ ?_) ?k1 ?k2 ?k3 ?k4 ?k5 ?kK ?kd ?ku ?_)) | ((with_reducible show wpAny _ _ (call (Value.ref 258) _) _ _ _); (refine' use_RRows (rows_ok ?_ ?_ ?_ ?_ ?_) ?k1 ?k2 ?k3 ?k4 ?k5 ?kK ?kd ?ku ?_)) | ((with_reducible show wpAny _ _ (call (Value.ref 137) _) _ _ _); (refine' use_RInt (count_ok ?_) ?k1 ?k2 ?k3 ?k4 ?k5 ?kK ?kd ?ku ?_)) | ((with_reducible show wpAny _ _ (call (Value.ref 154) _) _ _ _); (refine' use_RInfo (info_ok ?_ ?_ ?_ ?_) ?k1 ?k2 ?k3 ?k4 ?k5 ?kK ?kd ?ku ?_)) | ((with_reducible show wpAny _ _ (call (Value.ref 208) _) _ _ _); (first | (refine' use_ROneI (one_int (lo := 0) (hi := 255) ?qm ?ql ?_ ?_ ?_ ?_ ?_) ?k1 ?k2 ?k3 ?k4 ?k5 ?kK ?kd ?ku ?_; (case k4 => walk_at "t_news"); (case qm => walk_at "t_mem"); (case ql => walk_at "t_intin")) | (refine' use_ROneS (one_str (P := CollName) ?qm ?ql ?_ ?_ ?_ ?_ ?_) ?k1 ?k2 ?k3 ?k4 ?k5 ?kK ?kd ?ku ?_; (case k4 => walk_at "t_news"); (case qm => walk_at "t_mem"); (case ql => walk_at "t_colls")) | (refine' use_RVal (one_good (by assumption) ?qm ?ql ?_ ?_ ?_ ?_ ?_) ?k1 ?k2 ?k3 ?k4 ?k5 ?kK ?kd ?ku ?_; (case k4 => walk_at "t_news"); (case qm => walk_at "t_mem"); (case ql => walk_at "t_goods")) | (refine' use_ROne (one_ok ?_ ?_ ?_ ?_ ?_ ?_) ?k1 ?k2 ?k3 ?k4 ?k5 ?kK ?kd ?ku ?_))) | ((with_reducible show wpAny _ _ (call (Value.ref 201) _) _ _ _); (refine' use_RTake (take_ok ?_ ?_ ?_ ?_ ?_) ?k1 ?k2 ?k3 ?k4 ?k5 ?kK ?kd ?ku ?_))); ((try (case k4 => walk_at "t_news")); ((case k1 => k_asm); (case k2 => k_asm); (case k3 => k_asm); (case k5 => k_asm); (case kK => first | exact rfl | assumption); (case kd => first | exact room9 (by with_reducible assumption) (by decide) | ktr_room); (case ku => first | exact unit9 (by with_reducible assumption) (by decide) | ktr_units)); (all_goals first | (fail_if_success (fail_if_success (intro (h9 : Heap)))) | (fail_if_success (refine of_prop ?_)) | with_reducible assumption | walk_at "t_prem" | assumption); k_whole))); (intros; (try k_fold))) | fail "none"); k_steps)))
          refine cSpliced_cons ?_
          refine cAny (show wpAny _ _ (eval _ _) _ _ _ from ?_)
          (k_steps; repeat (any_goals ((with_reducible refine unstop ?_); (first | ((with_reducible show wpAny _ _ (call (Value.ref 194) [_, _]) _ _ _); (k_dflt (refine' (pool_base ?q1 ?q2 ?q3 ?q4) _ _ _ _ _ _ _ _ _ _ _ _ _ _ _ _ _ ?qB ?k1 ?k2 ?k3 (by k_asm) ?k5 ?kK ?kd ?ku ?_; ((case k1 => k_asm); (case k2 => k_asm); (case k3 => k_asm); (case k5 => k_asm); (case kK => first | exact rfl | assumption); (case kd => first | exact room9 (by with_reducible assumption) (by decide) | ktr_room); (case ku => first | exact unit9 (by with_reducible assumption) (by decide) | ktr_units)); (case qB => assumption); (case q1 => assumption); (case q2 => omega); (case q3 => omega); (case q4 => omega); k_whole)); (intro r9 n9 h9 tk9 hR9 F9 N9; cases hR9; (try dsimp only); (try k_fold))) | ((k_dflt ((first | ((with_reducible show wpAny _ _ (call (Value.ref 265) _) _ _ _); (refine' use_RBool (vright_ok ?_ ?_ ?_ ?_ ?_) ?k1 ?k2 ?k3 ?k4 ?k5 ?kK ?kd ?ku ?_)) | ((with_reducible show wpAny _ _ (call (Value.ref 258) _) _ _ _); (refine' use_RRows (rows_ok ?_ ?_ ?_ ?_ ?_) ?k1 ?k2 ?k3 ?k4 ?k5 ?kK ?kd ?ku ?_)) | ((with_reducible show wpAny _ _ (call (Value.ref 137) _) _ _ _); (refine' use_RInt (count_ok ?_) ?k1 ?k2 ?k3 ?k4 ?k5 ?kK ?kd ?ku ?_)) | ((with_reducible show wpAny _ _ (call (Value.ref 154) _) _ _ _); (refine' use_RInfo (info_ok ?_ ?_ ?_ ?_) ?k1 ?k2 ?k3 ?k4 ?k5 ?kK ?kd ?ku ?_)) | ((with_reducible show wpAny _ _ (call (Value.ref 208) _) _ _ _); (first | (refine' use_ROneI (one_int (lo := 0) (hi := 255) ?qm ?ql ?_ ?_ ?_ ?_ ?_) ?k1 ?k2 ?k3 ?k4 ?k5 ?kK ?kd ?ku ?_; (case k4 => walk_at "t_news"); (case qm => walk_at "t_mem"); (case ql => walk_at "t_intin")) | (refine' use_ROneS (one_str (P := CollName) ?qm ?ql ?_ ?_ ?_ ?_ ?_) ?k1 ?k2 ?k3 ?k4 ?k5 ?kK ?kd ?ku ?_; (case k4 => walk_at "t_news"); (case qm => walk_at "t_mem"); (case ql => walk_at "t_colls")) | (refine' use_RVal (one_good (by assumption) ?qm ?ql ?_ ?_ ?_ ?_ ?_) ?k1 ?k2 ?k3 ?k4 ?k5 ?kK ?kd ?ku ?_; (case k4 => walk_at "t_news"); (case qm => walk_at "t_mem"); (case ql => walk_at "t_goods")) | (refine' use_ROne (one_ok ?_ ?_ ?_ ?_ ?_ ?_) ?k1 ?k2 ?k3 ?k4 ?k5 ?kK ?kd ?ku ?_))) | ((with_reducible show wpAny _ _ (call (Value.ref 201) _) _ _ _); (refine' use_RTake (take_ok ?_ ?_ ?_ ?_ ?_) ?k1 ?k2 ?k3 ?k4 ?k5 ?kK ?kd ?ku ?_))); ((try (case k4 => walk_at "t_news")); ((case k1 => k_asm); (case k2 => k_asm); (case k3 => k_asm); (case k5 => k_asm); (case kK => first | exact rfl | assumption); (case kd => first | exact room9 (by with_reducible assumption) (by decide) | ktr_room); (case ku => first | exact unit9 (by with_reducible assumption) (by decide) | ktr_units)); (all_goals first | (fail_if_success (fail_if_success (intro (h9 : Heap)))) | (fail_if_success (refine of_prop ?_)) | with_reducible assumption | walk_at "t_prem" | assumption); k_whole))); (intros; (try k_fold))) | fail "none"); k_steps)))
          refine cSpliced_cons ?_
          refine cAny (show wpAny _ _ (eval _ _) _ _ _ from ?_)
          (k_steps; repeat (any_goals ((with_reducible refine unstop ?_); (first | ((with_reducible show wpAny _ _ (call (Value.ref 194) [_, _]) _ _ _); (k_dflt (refine' (pool_base ?q1 ?q2 ?q3 ?q4) _ _ _ _ _ _ _ _ _ _ _ _ _ _ _ _ _ ?qB ?k1 ?k2 ?k3 (by k_asm) ?k5 ?kK ?kd ?ku ?_; ((case k1 => k_asm); (case k2 => k_asm); (case k3 => k_asm); (case k5 => k_asm); (case kK => first | exact rfl | assumption); (case kd => first | exact room9 (by with_reducible assumption) (by decide) | ktr_room); (case ku => first | exact unit9 (by with_reducible assumption) (by decide) | ktr_units)); (case qB => assumption); (case q1 => assumption); (case q2 => omega); (case q3 => omega); (case q4 => omega); k_whole)); (intro r9 n9 h9 tk9 hR9 F9 N9; cases hR9; (try dsimp only); (try k_fold))) | ((k_dflt ((first | ((with_reducible show wpAny _ _ (call (Value.ref 265) _) _ _ _); (refine' use_RBool (vright_ok ?_ ?_ ?_ ?_ ?_) ?k1 ?k2 ?k3 ?k4 ?k5 ?kK ?kd ?ku ?_)) | ((with_reducible show wpAny _ _ (call (Value.ref 258) _) _ _ _); (refine' use_RRows (rows_ok ?_ ?_ ?_ ?_ ?_) ?k1 ?k2 ?k3 ?k4 ?k5 ?kK ?kd ?ku ?_)) | ((with_reducible show wpAny _ _ (call (Value.ref 137) _) _ _ _); (refine' use_RInt (count_ok ?_) ?k1 ?k2 ?k3 ?k4 ?k5 ?kK ?kd ?ku ?_)) | ((with_reducible show wpAny _ _ (call (Value.ref 154) _) _ _ _); (refine' use_RInfo (info_ok ?_ ?_ ?_ ?_) ?k1 ?k2 ?k3 ?k4 ?k5 ?kK ?kd ?ku ?_)) | ((with_reducible show wpAny _ _ (call (Value.ref 208) _) _ _ _); (first | (refine' use_ROneI (one_int (lo := 0) (hi := 255) ?qm ?ql ?_ ?_ ?_ ?_ ?_) ?k1 ?k2 ?k3 ?k4 ?k5 ?kK ?kd ?ku ?_; (case k4 => walk_at "t_news"); (case qm => walk_at "t_mem"); (case ql => walk_at "t_intin")) | (refine' use_ROneS (one_str (P := CollName) ?qm ?ql ?_ ?_ ?_ ?_ ?_) ?k1 ?k2 ?k3 ?k4 ?k5 ?kK ?kd ?ku ?_; (case k4 => walk_at "t_news"); (case qm => walk_at "t_mem"); (case ql => walk_at "t_colls")) | (refine' use_RVal (one_good (by assumption) ?qm ?ql ?_ ?_ ?_ ?_ ?_) ?k1 ?k2 ?k3 ?k4 ?k5 ?kK ?kd ?ku ?_; (case k4 => walk_at "t_news"); (case qm => walk_at "t_mem"); (case ql => walk_at "t_goods")) | (refine' use_ROne (one_ok ?_ ?_ ?_ ?_ ?_ ?_) ?k1 ?k2 ?k3 ?k4 ?k5 ?kK ?kd ?ku ?_))) | ((with_reducible show wpAny _ _ (call (Value.ref 201) _) _ _ _); (refine' use_RTake (take_ok ?_ ?_ ?_ ?_ ?_) ?k1 ?k2 ?k3 ?k4 ?k5 ?kK ?kd ?ku ?_))); ((try (case k4 => walk_at "t_news")); ((case k1 => k_asm); (case k2 => k_asm); (case k3 => k_asm); (case k5 => k_asm); (case kK => first | exact rfl | assumption); (case kd => first | exact room9 (by with_reducible assumption) (by decide) | ktr_room); (case ku => first | exact unit9 (by with_reducible assumption) (by decide) | ktr_units)); (all_goals first | (fail_if_success (fail_if_success (intro (h9 : Heap)))) | (fail_if_success (refine of_prop ?_)) | with_reducible assumption | walk_at "t_prem" | assumption); k_whole))); (intros; (try k_fold))) | fail "none"); k_steps)))
          refine cSpliced_nil ?_
          refine ⟨by k_in, ?_⟩
          ((k_dflt (((with_reducible show wpC _ _ (call (Value.ref 272) _) _ _); (refine' use_RYesC (pair_ok ?_ ?_ ?_ ?_ ?_ ?_ ?_ ?_ ?_ ?_ ?_ ?_ ?_ ?_ ?_ ?_) ?k1 ?k2 ?k3 ?k4 ?k5 ?kK ?kd ?ku ?_)); ((try (case k4 => walk_at "t_news")); ((case k1 => k_asm); (case k2 => k_asm); (case k3 => k_asm); (case k5 => k_asm); (case kK => first | exact rfl | assumption); (case kd => first | exact room9 (by with_reducible assumption) (by decide) | ktr_room); (case ku => first | exact unit9 (by with_reducible assumption) (by decide) | ktr_units)); (all_goals first | (fail_if_success (fail_if_success (intro (h9 : Heap)))) | (fail_if_success (refine of_prop ?_)) | with_reducible assumption | walk_at "t_prem" | assumption); k_whole))); (intros; (try k_fold)))
          (k_steps; repeat (any_goals ((with_reducible refine unstop ?_); (first | ((with_reducible show wpAny _ _ (call (Value.ref 194) [_, _]) _ _ _); (k_dflt (refine' (pool_base ?q1 ?q2 ?q3 ?q4) _ _ _ _ _ _ _ _ _ _ _ _ _ _ _ _ _ ?qB ?k1 ?k2 ?k3 (by k_asm) ?k5 ?kK ?kd ?ku ?_; ((case k1 => k_asm); (case k2 => k_asm); (case k3 => k_asm); (case k5 => k_asm); (case kK => first | exact rfl | assumption); (case kd => first | exact room9 (by with_reducible assumption) (by decide) | ktr_room); (case ku => first | exact unit9 (by with_reducible assumption) (by decide) | ktr_units)); (case qB => assumption); (case q1 => assumption); (case q2 => omega); (case q3 => omega); (case q4 => omega); k_whole)); (intro r9 n9 h9 tk9 hR9 F9 N9; cases hR9; (try dsimp only); (try k_fold))) | ((k_dflt ((first | ((with_reducible show wpAny _ _ (call (Value.ref 265) _) _ _ _); (refine' use_RBool (vright_ok ?_ ?_ ?_ ?_ ?_) ?k1 ?k2 ?k3 ?k4 ?k5 ?kK ?kd ?ku ?_)) | ((with_reducible show wpAny _ _ (call (Value.ref 258) _) _ _ _); (refine' use_RRows (rows_ok ?_ ?_ ?_ ?_ ?_) ?k1 ?k2 ?k3 ?k4 ?k5 ?kK ?kd ?ku ?_)) | ((with_reducible show wpAny _ _ (call (Value.ref 137) _) _ _ _); (refine' use_RInt (count_ok ?_) ?k1 ?k2 ?k3 ?k4 ?k5 ?kK ?kd ?ku ?_)) | ((with_reducible show wpAny _ _ (call (Value.ref 154) _) _ _ _); (refine' use_RInfo (info_ok ?_ ?_ ?_ ?_) ?k1 ?k2 ?k3 ?k4 ?k5 ?kK ?kd ?ku ?_)) | ((with_reducible show wpAny _ _ (call (Value.ref 208) _) _ _ _); (first | (refine' use_ROneI (one_int (lo := 0) (hi := 255) ?qm ?ql ?_ ?_ ?_ ?_ ?_) ?k1 ?k2 ?k3 ?k4 ?k5 ?kK ?kd ?ku ?_; (case k4 => walk_at "t_news"); (case qm => walk_at "t_mem"); (case ql => walk_at "t_intin")) | (refine' use_ROneS (one_str (P := CollName) ?qm ?ql ?_ ?_ ?_ ?_ ?_) ?k1 ?k2 ?k3 ?k4 ?k5 ?kK ?kd ?ku ?_; (case k4 => walk_at "t_news"); (case qm => walk_at "t_mem"); (case ql => walk_at "t_colls")) | (refine' use_RVal (one_good (by assumption) ?qm ?ql ?_ ?_ ?_ ?_ ?_) ?k1 ?k2 ?k3 ?k4 ?k5 ?kK ?kd ?ku ?_; (case k4 => walk_at "t_news"); (case qm => walk_at "t_mem"); (case ql => walk_at "t_goods")) | (refine' use_ROne (one_ok ?_ ?_ ?_ ?_ ?_ ?_) ?k1 ?k2 ?k3 ?k4 ?k5 ?kK ?kd ?ku ?_))) | ((with_reducible show wpAny _ _ (call (Value.ref 201) _) _ _ _); (refine' use_RTake (take_ok ?_ ?_ ?_ ?_ ?_) ?k1 ?k2 ?k3 ?k4 ?k5 ?kK ?kd ?ku ?_))); ((try (case k4 => walk_at "t_news")); ((case k1 => k_asm); (case k2 => k_asm); (case k3 => k_asm); (case k5 => k_asm); (case kK => first | exact rfl | assumption); (case kd => first | exact room9 (by with_reducible assumption) (by decide) | ktr_room); (case ku => first | exact unit9 (by with_reducible assumption) (by decide) | ktr_units)); (all_goals first | (fail_if_success (fail_if_success (intro (h9 : Heap)))) | (fail_if_success (refine of_prop ?_)) | with_reducible assumption | walk_at "t_prem" | assumption); k_whole))); (intros; (try k_fold))) | fail "none"); k_steps)))
          (repeat (refine cExecs_nil ?_; (try dsimp only)))
          refine cForS ?_
          (k_steps; repeat (any_goals ((with_reducible refine unstop ?_); (first | ((with_reducible show wpAny _ _ (call (Value.ref 194) [_, _]) _ _ _); (k_dflt (refine' (pool_base ?q1 ?q2 ?q3 ?q4) _ _ _ _ _ _ _ _ _ _ _ _ _ _ _ _ _ ?qB ?k1 ?k2 ?k3 (by k_asm) ?k5 ?kK ?kd ?ku ?_; ((case k1 => k_asm); (case k2 => k_asm); (case k3 => k_asm); (case k5 => k_asm); (case kK => first | exact rfl | assumption); (case kd => first | exact room9 (by with_reducible assumption) (by decide) | ktr_room); (case ku => first | exact unit9 (by with_reducible assumption) (by decide) | ktr_units)); (case qB => assumption); (case q1 => assumption); (case q2 => omega); (case q3 => omega); (case q4 => omega); k_whole)); (intro r9 n9 h9 tk9 hR9 F9 N9; cases hR9; (try dsimp only); (try k_fold))) | ((k_dflt ((first | ((with_reducible show wpAny _ _ (call (Value.ref 265) _) _ _ _); (refine' use_RBool (vright_ok ?_ ?_ ?_ ?_ ?_) ?k1 ?k2 ?k3 ?k4 ?k5 ?kK ?kd ?ku ?_)) | ((with_reducible show wpAny _ _ (call (Value.ref 258) _) _ _ _); (refine' use_RRows (rows_ok ?_ ?_ ?_ ?_ ?_) ?k1 ?k2 ?k3 ?k4 ?k5 ?kK ?kd ?ku ?_)) | ((with_reducible show wpAny _ _ (call (Value.ref 137) _) _ _ _); (refine' use_RInt (count_ok ?_) ?k1 ?k2 ?k3 ?k4 ?k5 ?kK ?kd ?ku ?_)) | ((with_reducible show wpAny _ _ (call (Value.ref 154) _) _ _ _); (refine' use_RInfo (info_ok ?_ ?_ ?_ ?_) ?k1 ?k2 ?k3 ?k4 ?k5 ?kK ?kd ?ku ?_)) | ((with_reducible show wpAny _ _ (call (Value.ref 208) _) _ _ _); (first | (refine' use_ROneI (one_int (lo := 0) (hi := 255) ?qm ?ql ?_ ?_ ?_ ?_ ?_) ?k1 ?k2 ?k3 ?k4 ?k5 ?kK ?kd ?ku ?_; (case k4 => walk_at "t_news"); (case qm => walk_at "t_mem"); (case ql => walk_at "t_intin")) | (refine' use_ROneS (one_str (P := CollName) ?qm ?ql ?_ ?_ ?_ ?_ ?_) ?k1 ?k2 ?k3 ?k4 ?k5 ?kK ?kd ?ku ?_; (case k4 => walk_at "t_news"); (case qm => walk_at "t_mem"); (case ql => walk_at "t_colls")) | (refine' use_RVal (one_good (by assumption) ?qm ?ql ?_ ?_ ?_ ?_ ?_) ?k1 ?k2 ?k3 ?k4 ?k5 ?kK ?kd ?ku ?_; (case k4 => walk_at "t_news"); (case qm => walk_at "t_mem"); (case ql => walk_at "t_goods")) | (refine' use_ROne (one_ok ?_ ?_ ?_ ?_ ?_ ?_) ?k1 ?k2 ?k3 ?k4 ?k5 ?kK ?kd ?ku ?_))) | ((with_reducible show wpAny _ _ (call (Value.ref 201) _) _ _ _); (refine' use_RTake (take_ok ?_ ?_ ?_ ?_ ?_) ?k1 ?k2 ?k3 ?k4 ?k5 ?kK ?kd ?ku ?_))); ((try (case k4 => walk_at "t_news")); ((case k1 => k_asm); (case k2 => k_asm); (case k3 => k_asm); (case k5 => k_asm); (case kK => first | exact rfl | assumption); (case kd => first | exact room9 (by with_reducible assumption) (by decide) | ktr_room); (case ku => first | exact unit9 (by with_reducible assumption) (by decide) | ktr_units)); (all_goals first | (fail_if_success (fail_if_success (intro (h9 : Heap)))) | (fail_if_success (refine of_prop ?_)) | with_reducible assumption | walk_at "t_prem" | assumption); k_whole))); (intros; (try k_fold))) | fail "none"); k_steps)))
          unfold Stop
          (rename Fr _ _ _ _ => F13)
          (rename News _ _ _ _ => N13)
          rename_i a5 b5 ta5 tb5 es5 hb8 hb9 N9 DD hh ll
          refine for_listC (l := DD) (vs := rs.drop ((j : Int) + 1).toNat) (nl := 0) (σ := Sr) (fun c => [(src, SO c.x c.y c.tx c.ty c.n)]) [Str.ofString "row"] (fun _ c _ => 0 ≤ c.y ∧ c.y < 2147483647) ⟨a5, b5, ta5, tb5, es5⟩ rfl rfl rfl F13 (news0 := (s₁.heap.objs.size + 1, oc) :: rest2) N13 (by dsimp only [List.cons_append, List.nil_append]; walk_at "t_off") (fun _ => rfl) ⟨hb8, hb9⟩ ?_ ?_
          · rintro j2 v hv ⟨a6, b6, ta6, tb6, es6⟩ m₃ h8 tk8 rest3 ⟨hc0, hc2⟩ hu3 hsub3 hoff3 F14 N14
            have hs3 := hoff3 src (List.mem_singleton.mpr rfl) (Off.cons hsC hs2)
            dsimp only [List.cons_append, List.nil_append] at N14 hc0 hc2
            have hob3 : ∀ p ∈ objs, p ∈ rest3 := fun p hp => hsub3 _ (.tail _ (hob2 p hp))
            obtain ⟨ra, rv, rn, rfl, hrm, hrl, hrg⟩ := row_at hrs hrow hob3 (List.mem_of_mem_drop (List.mem_of_getElem? hv))
            have hcell3 := hsub3 _ (.head _)
            have N15 := news_add N14 (.tail _ hcell3)
            have hR3 := hsub3 _ (.tail _ hR2)
            have hI13 : InfoIn w.params x ks ts rest3 := hI12.mono fun p hp => hsub3 _ (.tail _ hp)
            have htc3 := hsub3 _ (.tail _ htc2)
            have htd3 := hsub3 _ (.tail _ htd2)
            clear N14
            refine cCaseC (cNotCall ?_)
            refine cCall_Name ?_
            (k_steps; repeat (any_goals ((with_reducible refine unstop ?_); (first | ((with_reducible show wpAny _ _ (call (Value.ref 194) [_, _]) _ _ _); (k_dflt (refine' (pool_base ?q1 ?q2 ?q3 ?q4) _ _ _ _ _ _ _ _ _ _ _ _ _ _ _ _ _ ?qB ?k1 ?k2 ?k3 (by k_asm) ?k5 ?kK ?kd ?ku ?_; ((case k1 => k_asm); (case k2 => k_asm); (case k3 => k_asm); (case k5 => k_asm); (case kK => first | exact rfl | assumption); (case kd => first | exact room9 (by with_reducible assumption) (by decide) | ktr_room); (case ku => first | exact unit9 (by with_reducible assumption) (by decide) | ktr_units)); (case qB => assumption); (case q1 => assumption); (case q2 => omega); (case q3 => omega); (case q4 => omega); k_whole)); (intro r9 n9 h9 tk9 hR9 F9 N9; cases hR9; (try dsimp only); (try k_fold))) | ((k_dflt ((first | ((with_reducible show wpAny _ _ (call (Value.ref 265) _) _ _ _); (refine' use_RBool (vright_ok ?_ ?_ ?_ ?_ ?_) ?k1 ?k2 ?k3 ?k4 ?k5 ?kK ?kd ?ku ?_)) | ((with_reducible show wpAny _ _ (call (Value.ref 258) _) _ _ _); (refine' use_RRows (rows_ok ?_ ?_ ?_ ?_ ?_) ?k1 ?k2 ?k3 ?k4 ?k5 ?kK ?kd ?ku ?_)) | ((with_reducible show wpAny _ _ (call (Value.ref 137) _) _ _ _); (refine' use_RInt (count_ok ?_) ?k1 ?k2 ?k3 ?k4 ?k5 ?kK ?kd ?ku ?_)) | ((with_reducible show wpAny _ _ (call (Value.ref 154) _) _ _ _); (refine' use_RInfo (info_ok ?_ ?_ ?_ ?_) ?k1 ?k2 ?k3 ?k4 ?k5 ?kK ?kd ?ku ?_)) | ((with_reducible show wpAny _ _ (call (Value.ref 208) _) _ _ _); (first | (refine' use_ROneI (one_int (lo := 0) (hi := 255) ?qm ?ql ?_ ?_ ?_ ?_ ?_) ?k1 ?k2 ?k3 ?k4 ?k5 ?kK ?kd ?ku ?_; (case k4 => walk_at "t_news"); (case qm => walk_at "t_mem"); (case ql => walk_at "t_intin")) | (refine' use_ROneS (one_str (P := CollName) ?qm ?ql ?_ ?_ ?_ ?_ ?_) ?k1 ?k2 ?k3 ?k4 ?k5 ?kK ?kd ?ku ?_; (case k4 => walk_at "t_news"); (case qm => walk_at "t_mem"); (case ql => walk_at "t_colls")) | (refine' use_RVal (one_good (by assumption) ?qm ?ql ?_ ?_ ?_ ?_ ?_) ?k1 ?k2 ?k3 ?k4 ?k5 ?kK ?kd ?ku ?_; (case k4 => walk_at "t_news"); (case qm => walk_at "t_mem"); (case ql => walk_at "t_goods")) | (refine' use_ROne (one_ok ?_ ?_ ?_ ?_ ?_ ?_) ?k1 ?k2 ?k3 ?k4 ?k5 ?kK ?kd ?ku ?_))) | ((with_reducible show wpAny _ _ (call (Value.ref 201) _) _ _ _); (refine' use_RTake (take_ok ?_ ?_ ?_ ?_ ?_) ?k1 ?k2 ?k3 ?k4 ?k5 ?kK ?kd ?ku ?_))); ((try (case k4 => walk_at "t_news")); ((case k1 => k_asm); (case k2 => k_asm); (case k3 => k_asm); (case k5 => k_asm); (case kK => first | exact rfl | assumption); (case kd => first | exact room9 (by with_reducible assumption) (by decide) | ktr_room); (case ku => first | exact unit9 (by with_reducible assumption) (by decide) | ktr_units)); (all_goals first | (fail_if_success (fail_if_success (intro (h9 : Heap)))) | (fail_if_success (refine of_prop ?_)) | with_reducible assumption | walk_at "t_prem" | assumption); k_whole))); (intros; (try k_fold))) | fail "none"); k_steps)))
            refine cCallWith_K (K := hd.heap_39 w.params) (by k_is) rfl (cSpliced_cons ?_)
            refine cAny (show wpAny _ _ (eval _ _) _ _ _ from ?_)
            (k_steps; repeat (any_goals ((with_reducible refine unstop ?_); (first | ((with_reducible show wpAny _ _ (call (Value.ref 194) [_, _]) _ _ _); (k_dflt (refine' (pool_base ?q1 ?q2 ?q3 ?q4) _ _ _ _ _ _ _ _ _ _ _ _ _ _ _ _ _ ?qB ?k1 ?k2 ?k3 (by k_asm) ?k5 ?kK ?kd ?ku ?_; ((case k1 => k_asm); (case k2 => k_asm); (case k3 => k_asm); (case k5 => k_asm); (case kK => first | exact rfl | assumption); (case kd => first | exact room9 (by with_reducible assumption) (by decide) | ktr_room); (case ku => first | exact unit9 (by with_reducible assumption) (by decide) | ktr_units)); (case qB => assumption); (case q1 => assumption); (case q2 => omega); (case q3 => omega); (case q4 => omega); k_whole)); (intro r9 n9 h9 tk9 hR9 F9 N9; cases hR9; (try dsimp only); (try k_fold))) | ((k_dflt ((first | ((with_reducible show wpAny _ _ (call (Value.ref 265) _) _ _ _); (refine' use_RBool (vright_ok ?_ ?_ ?_ ?_ ?_) ?k1 ?k2 ?k3 ?k4 ?k5 ?kK ?kd ?ku ?_)) | ((with_reducible show wpAny _ _ (call (Value.ref 258) _) _ _ _); (refine' use_RRows (rows_ok ?_ ?_ ?_ ?_ ?_) ?k1 ?k2 ?k3 ?k4 ?k5 ?kK ?kd ?ku ?_)) | ((with_reducible show wpAny _ _ (call (Value.ref 137) _) _ _ _); (refine' use_RInt (count_ok ?_) ?k1 ?k2 ?k3 ?k4 ?k5 ?kK ?kd ?ku ?_)) | ((with_reducible show wpAny _ _ (call (Value.ref 154) _) _ _ _); (refine' use_RInfo (info_ok ?_ ?_ ?_ ?_) ?k1 ?k2 ?k3 ?k4 ?k5 ?kK ?kd ?ku ?_)) | ((with_reducible show wpAny _ _ (call (Value.ref 208) _) _ _ _); (first | (refine' use_ROneI (one_int (lo := 0) (hi := 255) ?qm ?ql ?_ ?_ ?_ ?_ ?_) ?k1 ?k2 ?k3 ?k4 ?k5 ?kK ?kd ?ku ?_; (case k4 => walk_at "t_news"); (case qm => walk_at "t_mem"); (case ql => walk_at "t_intin")) | (refine' use_ROneS (one_str (P := CollName) ?qm ?ql ?_ ?_ ?_ ?_ ?_) ?k1 ?k2 ?k3 ?k4 ?k5 ?kK ?kd ?ku ?_; (case k4 => walk_at "t_news"); (case qm => walk_at "t_mem"); (case ql => walk_at "t_colls")) | (refine' use_RVal (one_good (by assumption) ?qm ?ql ?_ ?_ ?_ ?_ ?_) ?k1 ?k2 ?k3 ?k4 ?k5 ?kK ?kd ?ku ?_; (case k4 => walk_at "t_news"); (case qm => walk_at "t_mem"); (case ql => walk_at "t_goods")) | (refine' use_ROne (one_ok ?_ ?_ ?_ ?_ ?_ ?_) ?k1 ?k2 ?k3 ?k4 ?k5 ?kK ?kd ?ku ?_))) | ((with_reducible show wpAny _ _ (call (Value.ref 201) _) _ _ _); (refine' use_RTake (take_ok ?_ ?_ ?_ ?_ ?_) ?k1 ?k2 ?k3 ?k4 ?k5 ?kK ?kd ?ku ?_))); ((try (case k4 => walk_at "t_news")); ((case k1 => k_asm); (case k2 => k_asm); (case k3 => k_asm); (case k5 => k_asm); (case kK => first | exact rfl | assumption); (case kd => first | exact room9 (by with_reducible assumption) (by decide) | ktr_room); (case ku => first | exact unit9 (by with_reducible assumption) (by decide) | ktr_units)); (all_goals first | (fail_if_success (fail_if_success (intro (h9 : Heap)))) | (fail_if_success (refine of_prop ?_)) | with_reducible assumption | walk_at "t_prem" | assumption); k_whole))); (intros; (try k_fold))) | fail "none"); k_steps)))
            refine cSpliced_cons ?_
            refine cAny (show wpAny _ _ (eval _ _) _ _ _ from ?_)
            (k_steps; repeat (any_goals ((with_reducible refine unstop ?_); (first | ((with_reducible show wpAny _ _ (call (Value.ref 194) [_, _]) _ _ _); (k_dflt (refine' (pool_base ?q1 ?q2 ?q3 ?q4) _ _ _ _ _ _ _ _ _ _ _ _ _ _ _ _ _ ?qB ?k1 ?k2 ?k3 (by k_asm) ?k5 ?kK ?kd ?ku ?_; ((case k1 => k_asm); (case k2 => k_asm); (case k3 => k_asm); (case k5 => k_asm); (case kK => first | exact rfl | assumption); (case kd => first | exact room9 (by with_reducible assumption) (by decide) | ktr_room); (case ku => first | exact unit9 (by with_reducible assumption) (by decide) | ktr_units)); (case qB => assumption); (case q1 => assumption); (case q2 => omega); (case q3 => omega); (case q4 => omega); k_whole)); (intro r9 n9 h9 tk9 hR9 F9 N9; cases hR9; (try dsimp only); (try k_fold))) | ((k_dflt ((first | ((with_reducible show wpAny _ _ (call (Value.ref 265) _) _ _ _); (refine' use_RBool (vright_ok ?_ ?_ ?_ ?_ ?_) ?k1 ?k2 ?k3 ?k4 ?k5 ?kK ?kd ?ku ?_)) | ((with_reducible show wpAny _ _ (call (Value.ref 258) _) _ _ _); (refine' use_RRows (rows_ok ?_ ?_ ?_ ?_ ?_) ?k1 ?k2 ?k3 ?k4 ?k5 ?kK ?kd ?ku ?_)) | ((with_reducible show wpAny _ _ (call (Value.ref 137) _) _ _ _); (refine' use_RInt (count_ok ?_) ?k1 ?k2 ?k3 ?k4 ?k5 ?kK ?kd ?ku ?_)) | ((with_reducible show wpAny _ _ (call (Value.ref 154) _) _ _ _); (refine' use_RInfo (info_ok ?_ ?_ ?_ ?_) ?k1 ?k2 ?k3 ?k4 ?k5 ?kK ?kd ?ku ?_)) | ((with_reducible show wpAny _ _ (call (Value.ref 208) _) _ _ _); (first | (refine' use_ROneI (one_int (lo := 0) (hi := 255) ?qm ?ql ?_ ?_ ?_ ?_ ?_) ?k1 ?k2 ?k3 ?k4 ?k5 ?kK ?kd ?ku ?_; (case k4 => walk_at "t_news"); (case qm => walk_at "t_mem"); (case ql => walk_at "t_intin")) | (refine' use_ROneS (one_str (P := CollName) ?qm ?ql ?_ ?_ ?_ ?_ ?_) ?k1 ?k2 ?k3 ?k4 ?k5 ?kK ?kd ?ku ?_; (case k4 => walk_at "t_news"); (case qm => walk_at "t_mem"); (case ql => walk_at "t_colls")) | (refine' use_RVal (one_good (by assumption) ?qm ?ql ?_ ?_ ?_ ?_ ?_) ?k1 ?k2 ?k3 ?k4 ?k5 ?kK ?kd ?ku ?_; (case k4 => walk_at "t_news"); (case qm => walk_at "t_mem"); (case ql => walk_at "t_goods")) | (refine' use_ROne (one_ok ?_ ?_ ?_ ?_ ?_ ?_) ?k1 ?k2 ?k3 ?k4 ?k5 ?kK ?kd ?ku ?_))) | ((with_reducible show wpAny _ _ (call (Value.ref 201) _) _ _ _); (refine' use_RTake (take_ok ?_ ?_ ?_ ?_ ?_) ?k1 ?k2 ?k3 ?k4 ?k5 ?kK ?kd ?ku ?_))); ((try (case k4 => walk_at "t_news")); ((case k1 => k_asm); (case k2 => k_asm); (case k3 => k_asm); (case k5 => k_asm); (case kK => first | exact rfl | assumption); (case kd => first | exact room9 (by with_reducible assumption) (by decide) | ktr_room); (case ku => first | exact unit9 (by with_reducible assumption) (by decide) | ktr_units)); (all_goals first | (fail_if_success (fail_if_success (intro (h9 : Heap)))) | (fail_if_success (refine of_prop ?_)) | with_reducible assumption | walk_at "t_prem" | assumption); k_whole))); (intros; (try k_fold))) | fail "none"); k_steps)))
            refine cSpliced_cons ?_
            refine cAny (show wpAny _ _ (eval _ _) _ _ _ from ?_)
            (k_steps; repeat (any_goals ((with_reducible refine unstop ?_); (first | ((with_reducible show wpAny _ _ (call (Value.ref 194) [_, _]) _ _ _); (k_dflt (refine' (pool_base ?q1 ?q2 ?q3 ?q4) _ _ _ _ _ _ _ _ _ _ _ _ _ _ _ _ _ ?qB ?k1 ?k2 ?k3 (by k_asm) ?k5 ?kK ?kd ?ku ?_; ((case k1 => k_asm); (case k2 => k_asm); (case k3 => k_asm); (case k5 => k_asm); (case kK => first | exact rfl | assumption); (case kd => first | exact room9 (by with_reducible assumption) (by decide) | ktr_room); (case ku => first | exact unit9 (by with_reducible assumption) (by decide) | ktr_units)); (case qB => assumption); (case q1 => assumption); (case q2 => omega); (case q3 => omega); (case q4 => omega); k_whole)); (intro r9 n9 h9 tk9 hR9 F9 N9; cases hR9; (try dsimp only); (try k_fold))) | ((k_dflt ((first | ((with_reducible show wpAny _ _ (call (Value.ref 265) _) _ _ _); (refine' use_RBool (vright_ok ?_ ?_ ?_ ?_ ?_) ?k1 ?k2 ?k3 ?k4 ?k5 ?kK ?kd ?ku ?_)) | ((with_reducible show wpAny _ _ (call (Value.ref 258) _) _ _ _); (refine' use_RRows (rows_ok ?_ ?_ ?_ ?_ ?_) ?k1 ?k2 ?k3 ?k4 ?k5 ?kK ?kd ?ku ?_)) | ((with_reducible show wpAny _ _ (call (Value.ref 137) _) _ _ _); (refine' use_RInt (count_ok ?_) ?k1 ?k2 ?k3 ?k4 ?k5 ?kK ?kd ?ku ?_)) | ((with_reducible show wpAny _ _ (call (Value.ref 154) _) _ _ _); (refine' use_RInfo (info_ok ?_ ?_ ?_ ?_) ?k1 ?k2 ?k3 ?k4 ?k5 ?kK ?kd ?ku ?_)) | ((with_reducible show wpAny _ _ (call (Value.ref 208) _) _ _ _); (first | (refine' use_ROneI (one_int (lo := 0) (hi := 255) ?qm ?ql ?_ ?_ ?_ ?_ ?_) ?k1 ?k2 ?k3 ?k4 ?k5 ?kK ?kd ?ku ?_; (case k4 => walk_at "t_news"); (case qm => walk_at "t_mem"); (case ql => walk_at "t_intin")) | (refine' use_ROneS (one_str (P := CollName) ?qm ?ql ?_ ?_ ?_ ?_ ?_) ?k1 ?k2 ?k3 ?k4 ?k5 ?kK ?kd ?ku ?_; (case k4 => walk_at "t_news"); (case qm => walk_at "t_mem"); (case ql => walk_at "t_colls")) | (refine' use_RVal (one_good (by assumption) ?qm ?ql ?_ ?_ ?_ ?_ ?_) ?k1 ?k2 ?k3 ?k4 ?k5 ?kK ?kd ?ku ?_; (case k4 => walk_at "t_news"); (case qm => walk_at "t_mem"); (case ql => walk_at "t_goods")) | (refine' use_ROne (one_ok ?_ ?_ ?_ ?_ ?_ ?_) ?k1 ?k2 ?k3 ?k4 ?k5 ?kK ?kd ?ku ?_))) | ((with_reducible show wpAny _ _ (call (Value.ref 201) _) _ _ _); (refine' use_RTake (take_ok ?_ ?_ ?_ ?_ ?_) ?k1 ?k2 ?k3 ?k4 ?k5 ?kK ?kd ?ku ?_))); ((try (case k4 => walk_at "t_news")); ((case k1 => k_asm); (case k2 => k_asm); (case k3 => k_asm); (case k5 => k_asm); (case kK => first | exact rfl | assumption); (case kd => first | exact room9 (by with_reducible assumption) (by decide) | ktr_room); (case ku => first | exact unit9 (by with_reducible assumption) (by decide) | ktr_units)); (all_goals first | (fail_if_success (fail_if_success (intro (h9 : Heap)))) | (fail_if_success (refine of_prop ?_)) | with_reducible assumption | walk_at "t_prem" | assumption); k_whole))); (intros; (try k_fold))) | fail "none"); k_steps)))
            refine cSpliced_cons ?_
            refine cAny (show wpAny _ _ (eval _ _) _ _ _ from ?_)
            (k_steps; repeat (any_goals ((with_reducible refine unstop ?_); (first | ((with_reducible show wpAny _ _ (call (Value.ref 194) [_, _]) _ _ _); (k_dflt (refine' (pool_base ?q1 ?q2 ?q3 ?q4) _ _ _ _ _ _ _ _ _ _ _ _ _ _ _ _ _ ?qB ?k1 ?k2 ?k3 (by k_asm) ?k5 ?kK ?kd ?ku ?_; ((case k1 => k_asm); (case k2 => k_asm); (case k3 => k_asm); (case k5 => k_asm); (case kK => first | exact rfl | assumption); (case kd => first | exact room9 (by with_reducible assumption) (by decide) | ktr_room); (case ku => first | exact unit9 (by with_reducible assumption) (by decide) | ktr_units)); (case qB => assumption); (case q1 => assumption); (case q2 => omega); (case q3 => omega); (case q4 => omega); k_whole)); (intro r9 n9 h9 tk9 hR9 F9 N9; cases hR9; (try dsimp only); (try k_fold))) | ((k_dflt ((first | ((with_reducible show wpAny _ _ (call (Value.ref 265) _) _ _ _); (refine' use_RBool (vright_ok ?_ ?_ ?_ ?_ ?_) ?k1 ?k2 ?k3 ?k4 ?k5 ?kK ?kd ?ku ?_)) | ((with_reducible show wpAny _ _ (call (Value.ref 258) _) _ _ _); (refine' use_RRows (rows_ok ?_ ?_ ?_ ?_ ?_) ?k1 ?k2 ?k3 ?k4 ?k5 ?kK ?kd ?ku ?_)) | ((with_reducible show wpAny _ _ (call (Value.ref 137) _) _ _ _); (refine' use_RInt (count_ok ?_) ?k1 ?k2 ?k3 ?k4 ?k5 ?kK ?kd ?ku ?_)) | ((with_reducible show wpAny _ _ (call (Value.ref 154) _) _ _ _); (refine' use_RInfo (info_ok ?_ ?_ ?_ ?_) ?k1 ?k2 ?k3 ?k4 ?k5 ?kK ?kd ?ku ?_)) | ((with_reducible show wpAny _ _ (call (Value.ref 208) _) _ _ _); (first | (refine' use_ROneI (one_int (lo := 0) (hi := 255) ?qm ?ql ?_ ?_ ?_ ?_ ?_) ?k1 ?k2 ?k3 ?k4 ?k5 ?kK ?kd ?ku ?_; (case k4 => walk_at "t_news"); (case qm => walk_at "t_mem"); (case ql => walk_at "t_intin")) | (refine' use_ROneS (one_str (P := CollName) ?qm ?ql ?_ ?_ ?_ ?_ ?_) ?k1 ?k2 ?k3 ?k4 ?k5 ?kK ?kd ?ku ?_; (case k4 => walk_at "t_news"); (case qm => walk_at "t_mem"); (case ql => walk_at "t_colls")) | (refine' use_RVal (one_good (by assumption) ?qm ?ql ?_ ?_ ?_ ?_ ?_) ?k1 ?k2 ?k3 ?k4 ?k5 ?kK ?kd ?ku ?_; (case k4 => walk_at "t_news"); (case qm => walk_at "t_mem"); (case ql => walk_at "t_goods")) | (refine' use_ROne (one_ok ?_ ?_ ?_ ?_ ?_ ?_) ?k1 ?k2 ?k3 ?k4 ?k5 ?kK ?kd ?ku ?_))) | ((with_reducible show wpAny _ _ (call (Value.ref 201) _) _ _ _); (refine' use_RTake (take_ok ?_ ?_ ?_ ?_ ?_) ?k1 ?k2 ?k3 ?k4 ?k5 ?kK ?kd ?ku ?_))); ((try (case k4 => walk_at "t_news")); ((case k1 => k_asm); (case k2 => k_asm); (case k3 => k_asm); (case k5 => k_asm); (case kK => first | exact rfl | assumption); (case kd => first | exact room9 (by with_reducible assumption) (by decide) | ktr_room); (case ku => first | exact unit9 (by with_reducible assumption) (by decide) | ktr_units)); (all_goals first | (fail_if_success (fail_if_success (intro (h9 : Heap)))) | (fail_if_success (refine of_prop ?_)) | with_reducible assumption | walk_at "t_prem" | assumption); k_whole))); (intros; (try k_fold))) | fail "none"); k_steps)))
            refine cSpliced_cons ?_
            refine cAny (show wpAny _ _ (eval _ _) _ _ _ from ?_)
            (k_steps; repeat (any_goals ((with_reducible refine unstop ?_); (first | ((with_reducible show wpAny _ _ (call (Value.ref 194) [_, _]) _ _ _); (k_dflt (refine' (pool_base ?q1 ?q2 ?q3 ?q4) _ _ _ _ _ _ _ _ _ _ _ _ _ _ _ _ _ ?qB ?k1 ?k2 ?k3 (by k_asm) ?k5 ?kK ?kd ?ku ?_; ((case k1 => k_asm); (case k2 => k_asm); (case k3 => k_asm); (case k5 => k_asm); (case kK => first | exact rfl | assumption); (case kd => first | exact room9 (by with_reducible assumption) (by decide) | ktr_room); (case ku => first | exact unit9 (by with_reducible assumption) (by decide) | ktr_units)); (case qB => assumption); (case q1 => assumption); (case q2 => omega); (case q3 => omega); (case q4 => omega); k_whole)); (intro r9 n9 h9 tk9 hR9 F9 N9; cases hR9; (try dsimp only); (try k_fold))) | ((k_dflt ((first | ((with_reducible show wpAny _ _ (call (Value.ref 265) _) _ _ _); (refine' use_RBool (vright_ok ?_ ?_ ?_ ?_ ?_) ?k1 ?k2 ?k3 ?k4 ?k5 ?kK ?kd ?ku ?_)) | ((with_reducible show wpAny _ _ (call (Value.ref 258) _) _ _ _); (refine' use_RRows (rows_ok ?_ ?_ ?_ ?_ ?_) ?k1 ?k2 ?k3 ?k4 ?k5 ?kK ?kd ?ku ?_)) | ((with_reducible show wpAny _ _ (call (Value.ref 137) _) _ _ _); (refine' use_RInt (count_ok ?_) ?k1 ?k2 ?k3 ?k4 ?k5 ?kK ?kd ?ku ?_)) | ((with_reducible show wpAny _ _ (call (Value.ref 154) _) _ _ _); (refine' use_RInfo (info_ok ?_ ?_ ?_ ?_) ?k1 ?k2 ?k3 ?k4 ?k5 ?kK ?kd ?ku ?_)) | ((with_reducible show wpAny _ _ (call (Value.ref 208) _) _ _ _); (first | (refine' use_ROneI (one_int (lo := 0) (hi := 255) ?qm ?ql ?_ ?_ ?_ ?_ ?_) ?k1 ?k2 ?k3 ?k4 ?k5 ?kK ?kd ?ku ?_; (case k4 => walk_at "t_news"); (case qm => walk_at "t_mem"); (case ql => walk_at "t_intin")) | (refine' use_ROneS (one_str (P := CollName) ?qm ?ql ?_ ?_ ?_ ?_ ?_) ?k1 ?k2 ?k3 ?k4 ?k5 ?kK ?kd ?ku ?_; (case k4 => walk_at "t_news"); (case qm => walk_at "t_mem"); (case ql => walk_at "t_colls")) | (refine' use_RVal (one_good (by assumption) ?qm ?ql ?_ ?_ ?_ ?_ ?_) ?k1 ?k2 ?k3 ?k4 ?k5 ?kK ?kd ?ku ?_; (case k4 => walk_at "t_news"); (case qm => walk_at "t_mem"); (case ql => walk_at "t_goods")) | (refine' use_ROne (one_ok ?_ ?_ ?_ ?_ ?_ ?_) ?k1 ?k2 ?k3 ?k4 ?k5 ?kK ?kd ?ku ?_))) | ((with_reducible show wpAny _ _ (call (Value.ref 201) _) _ _ _); (refine' use_RTake (take_ok ?_ ?_ ?_ ?_ ?_) ?k1 ?k2 ?k3 ?k4 ?k5 ?kK ?kd ?ku ?_))); ((try (case k4 => walk_at "t_news")); ((case k1 => k_asm); (case k2 => k_asm); (case k3 => k_asm); (case k5 => k_asm); (case kK => first | exact rfl | assumption); (case kd => first | exact room9 (by with_reducible assumption) (by decide) | ktr_room); (case ku => first | exact unit9 (by with_reducible assumption) (by decide) | ktr_units)); (all_goals first | (fail_if_success (fail_if_success (intro (h9 : Heap)))) | (fail_if_success (refine of_prop ?_)) | with_reducible assumption | walk_at "t_prem" | assumption); k_whole))); (intros; (try k_fold))) | fail "none"); k_steps)))
            refine cSpliced_cons ?_
            refine cAny (show wpAny _ _ (eval _ _) _ _ _ from ?_)
            (k_steps; repeat (any_goals ((with_reducible refine unstop ?_); (first | ((with_reducible show wpAny _ _ (call (Value.ref 194) [_, _]) _ _ _); (k_dflt (refine' (pool_base ?q1 ?q2 ?q3 ?q4) _ _ _ _ _ _ _ _ _ _ _ _ _ _ _ _ _ ?qB ?k1 ?k2 ?k3 (by k_asm) ?k5 ?kK ?kd ?ku ?_; ((case k1 => k_asm); (case k2 => k_asm); (case k3 => k_asm); (case k5 => k_asm); (case kK => first | exact rfl | assumption); (case kd => first | exact room9 (by with_reducible assumption) (by decide) | ktr_room); (case ku => first | exact unit9 (by with_reducible assumption) (by decide) | ktr_units)); (case qB => assumption); (case q1 => assumption); (case q2 => omega); (case q3 => omega); (case q4 => omega); k_whole)); (intro r9 n9 h9 tk9 hR9 F9 N9; cases hR9; (try dsimp only); (try k_fold))) | ((k_dflt ((first | ((with_reducible show wpAny _ _ (call (Value.ref 265) _) _ _ _); (refine' use_RBool (vright_ok ?_ ?_ ?_ ?_ ?_) ?k1 ?k2 ?k3 ?k4 ?k5 ?kK ?kd ?ku ?_)) | ((with_reducible show wpAny _ _ (call (Value.ref 258) _) _ _ _); (refine' use_RRows (rows_ok ?_ ?_ ?_ ?_ ?_) ?k1 ?k2 ?k3 ?k4 ?k5 ?kK ?kd ?ku ?_)) | ((with_reducible show wpAny _ _ (call (Value.ref 137) _) _ _ _); (refine' use_RInt (count_ok ?_) ?k1 ?k2 ?k3 ?k4 ?k5 ?kK ?kd ?ku ?_)) | ((with_reducible show wpAny _ _ (call (Value.ref 154) _) _ _ _); (refine' use_RInfo (info_ok ?_ ?_ ?_ ?_) ?k1 ?k2 ?k3 ?k4 ?k5 ?kK ?kd ?ku ?_)) | ((with_reducible show wpAny _ _ (call (Value.ref 208) _) _ _ _); (first | (refine' use_ROneI (one_int (lo := 0) (hi := 255) ?qm ?ql ?_ ?_ ?_ ?_ ?_) ?k1 ?k2 ?k3 ?k4 ?k5 ?kK ?kd ?ku ?_; (case k4 => walk_at "t_news"); (case qm => walk_at "t_mem"); (case ql => walk_at "t_intin")) | (refine' use_ROneS (one_str (P := CollName) ?qm ?ql ?_ ?_ ?_ ?_ ?_) ?k1 ?k2 ?k3 ?k4 ?k5 ?kK ?kd ?ku ?_; (case k4 => walk_at "t_news"); (case qm => walk_at "t_mem"); (case ql => walk_at "t_colls")) | (refine' use_RVal (one_good (by assumption) ?qm ?ql ?_ ?_ ?_ ?_ ?_) ?k1 ?k2 ?k3 ?k4 ?k5 ?kK ?kd ?ku ?_; (case k4 => walk_at "t_news"); (case qm => walk_at "t_mem"); (case ql => walk_at "t_goods")) | (refine' use_ROne (one_ok ?_ ?_ ?_ ?_ ?_ ?_) ?k1 ?k2 ?k3 ?k4 ?k5 ?kK ?kd ?ku ?_))) | ((with_reducible show wpAny _ _ (call (Value.ref 201) _) _ _ _); (refine' use_RTake (take_ok ?_ ?_ ?_ ?_ ?_) ?k1 ?k2 ?k3 ?k4 ?k5 ?kK ?kd ?ku ?_))); ((try (case k4 => walk_at "t_news")); ((case k1 => k_asm); (case k2 => k_asm); (case k3 => k_asm); (case k5 => k_asm); (case kK => first | exact rfl | assumption); (case kd => first | exact room9 (by with_reducible assumption) (by decide) | ktr_room); (case ku => first | exact unit9 (by with_reducible assumption) (by decide) | ktr_units)); (all_goals first | (fail_if_success (fail_if_success (intro (h9 : Heap)))) | (fail_if_success (refine of_prop ?_)) | with_reducible assumption | walk_at "t_prem" | assumption); k_whole))); (intros; (try k_fold))) | fail "none"); k_steps)))
            refine cSpliced_nil ?_
            refine ⟨by k_in, ?_⟩
            ((k_dflt (((with_reducible show wpC _ _ (call (Value.ref 272) _) _ _); (refine' use_RYesC (pair_ok ?_ ?_ ?_ ?_ ?_ ?_ ?_ ?_ ?_ ?_ ?_ ?_ ?_ ?_ ?_ ?_) ?k1 ?k2 ?k3 ?k4 ?k5 ?kK ?kd ?ku ?_)); ((try (case k4 => walk_at "t_news")); ((case k1 => k_asm); (case k2 => k_asm); (case k3 => k_asm); (case k5 => k_asm); (case kK => first | exact rfl | assumption); (case kd => first | exact room9 (by with_reducible assumption) (by decide) | ktr_room); (case ku => first | exact unit9 (by with_reducible assumption) (by decide) | ktr_units)); (all_goals first | (fail_if_success (fail_if_success (intro (h9 : Heap)))) | (fail_if_success (refine of_prop ?_)) | with_reducible assumption | walk_at "t_prem" | assumption); k_whole))); (intros; (try k_fold)))
            (k_steps; repeat (any_goals ((with_reducible refine unstop ?_); (first | ((with_reducible show wpAny _ _ (call (Value.ref 194) [_, _]) _ _ _); (k_dflt (refine' (pool_base ?q1 ?q2 ?q3 ?q4) _ _ _ _ _ _ _ _ _ _ _ _ _ _ _ _ _ ?qB ?k1 ?k2 ?k3 (by k_asm) ?k5 ?kK ?kd ?ku ?_; ((case k1 => k_asm); (case k2 => k_asm); (case k3 => k_asm); (case k5 => k_asm); (case kK => first | exact rfl | assumption); (case kd => first | exact room9 (by with_reducible assumption) (by decide) | ktr_room); (case ku => first | exact unit9 (by with_reducible assumption) (by decide) | ktr_units)); (case qB => assumption); (case q1 => assumption); (case q2 => omega); (case q3 => omega); (case q4 => omega); k_whole)); (intro r9 n9 h9 tk9 hR9 F9 N9; cases hR9; (try dsimp only); (try k_fold))) | ((k_dflt ((first | ((with_reducible show wpAny _ _ (call (Value.ref 265) _) _ _ _); (refine' use_RBool (vright_ok ?_ ?_ ?_ ?_ ?_) ?k1 ?k2 ?k3 ?k4 ?k5 ?kK ?kd ?ku ?_)) | ((with_reducible show wpAny _ _ (call (Value.ref 258) _) _ _ _); (refine' use_RRows (rows_ok ?_ ?_ ?_ ?_ ?_) ?k1 ?k2 ?k3 ?k4 ?k5 ?kK ?kd ?ku ?_)) | ((with_reducible show wpAny _ _ (call (Value.ref 137) _) _ _ _); (refine' use_RInt (count_ok ?_) ?k1 ?k2 ?k3 ?k4 ?k5 ?kK ?kd ?ku ?_)) | ((with_reducible show wpAny _ _ (call (Value.ref 154) _) _ _ _); (refine' use_RInfo (info_ok ?_ ?_ ?_ ?_) ?k1 ?k2 ?k3 ?k4 ?k5 ?kK ?kd ?ku ?_)) | ((with_reducible show wpAny _ _ (call (Value.ref 208) _) _ _ _); (first | (refine' use_ROneI (one_int (lo := 0) (hi := 255) ?qm ?ql ?_ ?_ ?_ ?_ ?_) ?k1 ?k2 ?k3 ?k4 ?k5 ?kK ?kd ?ku ?_; (case k4 => walk_at "t_news"); (case qm => walk_at "t_mem"); (case ql => walk_at "t_intin")) | (refine' use_ROneS (one_str (P := CollName) ?qm ?ql ?_ ?_ ?_ ?_ ?_) ?k1 ?k2 ?k3 ?k4 ?k5 ?kK ?kd ?ku ?_; (case k4 => walk_at "t_news"); (case qm => walk_at "t_mem"); (case ql => walk_at "t_colls")) | (refine' use_RVal (one_good (by assumption) ?qm ?ql ?_ ?_ ?_ ?_ ?_) ?k1 ?k2 ?k3 ?k4 ?k5 ?kK ?kd ?ku ?_; (case k4 => walk_at "t_news"); (case qm => walk_at "t_mem"); (case ql => walk_at "t_goods")) | (refine' use_ROne (one_ok ?_ ?_ ?_ ?_ ?_ ?_) ?k1 ?k2 ?k3 ?k4 ?k5 ?kK ?kd ?ku ?_))) | ((with_reducible show wpAny _ _ (call (Value.ref 201) _) _ _ _); (refine' use_RTake (take_ok ?_ ?_ ?_ ?_ ?_) ?k1 ?k2 ?k3 ?k4 ?k5 ?kK ?kd ?ku ?_))); ((try (case k4 => walk_at "t_news")); ((case k1 => k_asm); (case k2 => k_asm); (case k3 => k_asm); (case k5 => k_asm); (case kK => first | exact rfl | assumption); (case kd => first | exact room9 (by with_reducible assumption) (by decide) | ktr_room); (case ku => first | exact unit9 (by with_reducible assumption) (by decide) | ktr_units)); (all_goals first | (fail_if_success (fail_if_success (intro (h9 : Heap)))) | (fail_if_success (refine of_prop ?_)) | with_reducible assumption | walk_at "t_prem" | assumption); k_whole))); (intros; (try k_fold))) | fail "none"); k_steps)))
            (repeat (refine cExecs_nil ?_; (try dsimp only)))
            refine cCase ?_
            (k_steps; repeat (any_goals ((with_reducible refine unstop ?_); (first | ((with_reducible show wpAny _ _ (call (Value.ref 194) [_, _]) _ _ _); (k_dflt (refine' (pool_base ?q1 ?q2 ?q3 ?q4) _ _ _ _ _ _ _ _ _ _ _ _ _ _ _ _ _ ?qB ?k1 ?k2 ?k3 (by k_asm) ?k5 ?kK ?kd ?ku ?_; ((case k1 => k_asm); (case k2 => k_asm); (case k3 => k_asm); (case k5 => k_asm); (case kK => first | exact rfl | assumption); (case kd => first | exact room9 (by with_reducible assumption) (by decide) | ktr_room); (case ku => first | exact unit9 (by with_reducible assumption) (by decide) | ktr_units)); (case qB => assumption); (case q1 => assumption); (case q2 => omega); (case q3 => omega); (case q4 => omega); k_whole)); (intro r9 n9 h9 tk9 hR9 F9 N9; cases hR9; (try dsimp only); (try k_fold))) | ((k_dflt ((first | ((with_reducible show wpAny _ _ (call (Value.ref 265) _) _ _ _); (refine' use_RBool (vright_ok ?_ ?_ ?_ ?_ ?_) ?k1 ?k2 ?k3 ?k4 ?k5 ?kK ?kd ?ku ?_)) | ((with_reducible show wpAny _ _ (call (Value.ref 258) _) _ _ _); (refine' use_RRows (rows_ok ?_ ?_ ?_ ?_ ?_) ?k1 ?k2 ?k3 ?k4 ?k5 ?kK ?kd ?ku ?_)) | ((with_reducible show wpAny _ _ (call (Value.ref 137) _) _ _ _); (refine' use_RInt (count_ok ?_) ?k1 ?k2 ?k3 ?k4 ?k5 ?kK ?kd ?ku ?_)) | ((with_reducible show wpAny _ _ (call (Value.ref 154) _) _ _ _); (refine' use_RInfo (info_ok ?_ ?_ ?_ ?_) ?k1 ?k2 ?k3 ?k4 ?k5 ?kK ?kd ?ku ?_)) | ((with_reducible show wpAny _ _ (call (Value.ref 208) _) _ _ _); (first | (refine' use_ROneI (one_int (lo := 0) (hi := 255) ?qm ?ql ?_ ?_ ?_ ?_ ?_) ?k1 ?k2 ?k3 ?k4 ?k5 ?kK ?kd ?ku ?_; (case k4 => walk_at "t_news"); (case qm => walk_at "t_mem"); (case ql => walk_at "t_intin")) | (refine' use_ROneS (one_str (P := CollName) ?qm ?ql ?_ ?_ ?_ ?_ ?_) ?k1 ?k2 ?k3 ?k4 ?k5 ?kK ?kd ?ku ?_; (case k4 => walk_at "t_news"); (case qm => walk_at "t_mem"); (case ql => walk_at "t_colls")) | (refine' use_RVal (one_good (by assumption) ?qm ?ql ?_ ?_ ?_ ?_ ?_) ?k1 ?k2 ?k3 ?k4 ?k5 ?kK ?kd ?ku ?_; (case k4 => walk_at "t_news"); (case qm => walk_at "t_mem"); (case ql => walk_at "t_goods")) | (refine' use_ROne (one_ok ?_ ?_ ?_ ?_ ?_ ?_) ?k1 ?k2 ?k3 ?k4 ?k5 ?kK ?kd ?ku ?_))) | ((with_reducible show wpAny _ _ (call (Value.ref 201) _) _ _ _); (refine' use_RTake (take_ok ?_ ?_ ?_ ?_ ?_) ?k1 ?k2 ?k3 ?k4 ?k5 ?kK ?kd ?ku ?_))); ((try (case k4 => walk_at "t_news")); ((case k1 => k_asm); (case k2 => k_asm); (case k3 => k_asm); (case k5 => k_asm); (case kK => first | exact rfl | assumption); (case kd => first | exact room9 (by with_reducible assumption) (by decide) | ktr_room); (case ku => first | exact unit9 (by with_reducible assumption) (by decide) | ktr_units)); (all_goals first | (fail_if_success (fail_if_success (intro (h9 : Heap)))) | (fail_if_success (refine of_prop ?_)) | with_reducible assumption | walk_at "t_prem" | assumption); k_whole))); (intros; (try k_fold))) | fail "none"); k_steps)))
            (repeat (refine cExecs_nil ?_; (try dsimp only)))
            refine' ⟨_, _, _, _, rfl, ?eF, ?eN, ⟨?ea, ?eb, ?eta, ?etb, ?en⟩, rfl, ⟨?e0, ?e1⟩, ?eU⟩
            case eF => k_asm
            case eN =>
              dsimp only [List.cons_append, List.nil_append]
              walk_at "t_led"
            case e0 =>
              dsimp only
              assumption
            case e1 =>
              dsimp only
              assumption
            case eU =>
              intro y hy
              simp at hy
              simp [hy]
          · rintro ⟨a6, b6, ta6, tb6, es6⟩ m₃ h8 tk8 ⟨hb10, hb11⟩ hu3 F14 N14
            dsimp only [List.cons_append, List.nil_append] at N14 hb10 hb11
            dsimp only
            (repeat (refine cExecs_nil ?_; (try dsimp only)))
            refine ⟨_, _, _, _, rfl, by k_asm, news_sub N14 (fun p hp => by rcases List.mem_cons.mp hp with rfl | hp; exact .head _; exact .tail _ (.tail _ hp)), ⟨a6, b6, ta6, tb6, es6⟩, rfl, ⟨hb10, hb11⟩, ?_⟩
            intro y hy
            simp at hy
            simp [hy]
        · rintro ⟨a4, b4, ta4, tb4, es4⟩ m₂ h7 tk7 ⟨hb6, hb7⟩ hu2 F11 N11
          dsimp only [List.cons_append, List.nil_append] at N11 hb6 hb7
          dsimp only
          (repeat (refine cExecs_nil ?_; (try dsimp only)))
          refine ⟨_, _, _, _, rfl, by k_asm, news_sub N11 (fun p hp => by rcases List.mem_cons.mp hp with rfl | hp; exact .tail _ (.head _); exact .tail _ (.tail _ (hnl _ (hrn7 _ hp)))), oc, rfl, ⟨_, hoc⟩, ?_⟩
          intro y hy
          simp at hy
          simp [hy]
      · rintro c m₁ h tk _ hu F2 N2
        dsimp only
        (refine cStep ?_; (k_steps; repeat (any_goals ((with_reducible refine unstop ?_); (first | ((with_reducible show wpAny _ _ (call (Value.ref 194) [_, _]) _ _ _); (k_dflt (refine' (pool_base ?q1 ?q2 ?q3 ?q4) _ _ _ _ _ _ _ _ _ _ _ _ _ _ _ _ _ ?qB ?k1 ?k2 ?k3 (by k_asm) ?k5 ?kK ?kd ?ku ?_; ((case k1 => k_asm); (case k2 => k_asm); (case k3 => k_asm); (case k5 => k_asm); (case kK => first | exact rfl | assumption); (case kd => first | exact room9 (by with_reducible assumption) (by decide) | ktr_room); (case ku => first | exact unit9 (by with_reducible assumption) (by decide) | ktr_units)); (case qB => assumption); (case q1 => assumption); (case q2 => omega); (case q3 => omega); (case q4 => omega); k_whole)); (intro r9 n9 h9 tk9 hR9 F9 N9; cases hR9; (try dsimp only); (try k_fold))) | ((k_dflt ((first | ((with_reducible show wpAny _ _ (call (Value.ref 265) _) _ _ _); (refine' use_RBool (vright_ok ?_ ?_ ?_ ?_ ?_) ?k1 ?k2 ?k3 ?k4 ?k5 ?kK ?kd ?ku ?_)) | ((with_reducible show wpAny _ _ (call (Value.ref 258) _) _ _ _); (refine' use_RRows (rows_ok ?_ ?_ ?_ ?_ ?_) ?k1 ?k2 ?k3 ?k4 ?k5 ?kK ?kd ?ku ?_)) | ((with_reducible show wpAny _ _ (call (Value.ref 137) _) _ _ _); (refine' use_RInt (count_ok ?_) ?k1 ?k2 ?k3 ?k4 ?k5 ?kK ?kd ?ku ?_)) | ((with_reducible show wpAny _ _ (call (Value.ref 154) _) _ _ _); (refine' use_RInfo (info_ok ?_ ?_ ?_ ?_) ?k1 ?k2 ?k3 ?k4 ?k5 ?kK ?kd ?ku ?_)) | ((with_reducible show wpAny _ _ (call (Value.ref 208) _) _ _ _); (first | (refine' use_ROneI (one_int (lo := 0) (hi := 255) ?qm ?ql ?_ ?_ ?_ ?_ ?_) ?k1 ?k2 ?k3 ?k4 ?k5 ?kK ?kd ?ku ?_; (case k4 => walk_at "t_news"); (case qm => walk_at "t_mem"); (case ql => walk_at "t_intin")) | (refine' use_ROneS (one_str (P := CollName) ?qm ?ql ?_ ?_ ?_ ?_ ?_) ?k1 ?k2 ?k3 ?k4 ?k5 ?kK ?kd ?ku ?_; (case k4 => walk_at "t_news"); (case qm => walk_at "t_mem"); (case ql => walk_at "t_colls")) | (refine' use_RVal (one_good (by assumption) ?qm ?ql ?_ ?_ ?_ ?_ ?_) ?k1 ?k2 ?k3 ?k4 ?k5 ?kK ?kd ?ku ?_; (case k4 => walk_at "t_news"); (case qm => walk_at "t_mem"); (case ql => walk_at "t_goods")) | (refine' use_ROne (one_ok ?_ ?_ ?_ ?_ ?_ ?_) ?k1 ?k2 ?k3 ?k4 ?k5 ?kK ?kd ?ku ?_))) | ((with_reducible show wpAny _ _ (call (Value.ref 201) _) _ _ _); (refine' use_RTake (take_ok ?_ ?_ ?_ ?_ ?_) ?k1 ?k2 ?k3 ?k4 ?k5 ?kK ?kd ?ku ?_))); ((try (case k4 => walk_at "t_news")); ((case k1 => k_asm); (case k2 => k_asm); (case k3 => k_asm); (case k5 => k_asm); (case kK => first | exact rfl | assumption); (case kd => first | exact room9 (by with_reducible assumption) (by decide) | ktr_room); (case ku => first | exact unit9 (by with_reducible assumption) (by decide) | ktr_units)); (all_goals first | (fail_if_success (fail_if_success (intro (h9 : Heap)))) | (fail_if_success (refine of_prop ?_)) | with_reducible assumption | walk_at "t_prem" | assumption); k_whole))); (intros; (try k_fold))) | fail "none"); k_steps))); (try dsimp only))
    · rintro r s' hr
      cases r with
      | error e => exact hr.elim
      | ok f => cases f with
        | next => exact hr.elim
        | brk => exact hr.elim
        | cont => exact hr.elim
        | ret v => cases v with
          | bool b => cases b with
            | true =>
              obtain ⟨hk, hos, hgn⟩ := hr
              refine GoodW.toG ⟨.inl ⟨_, .bool true, [], rfl, ?_, ?_, ?_, ?_⟩, hk, hos, hgn.trans hg⟩
              · first | exact fun _ => rfl | exact raisesW_false (by wrow_none_raised)
              · first | exact .bool _ | exact readsW_of_reads (.bool _)
              · first | rfl | exact postW_of (by wrow_shape) (w_eq_bool (w_res rfl) w_lit) (by str_meet; first | done | w_fin)
              · first | exact unshared_nil | exact fun h => absurd h (by decide)
            | false => exact hr.elim
          | _ => exact hr.elim
  · refine GoodW.toG ⟨.inl ⟨_, .bool true, [], rfl, ?_, ?_, ?_, ?_⟩, fun _ _ e => e, rfl, hg⟩
    · first | exact fun _ => rfl | exact raisesW_false (by wrow_none_raised)
    · first | exact .bool _ | exact readsW_of_reads (.bool _)
    · first | rfl | exact postW_of (by wrow_shape) (w_eq_bool (w_res rfl) w_lit) (by str_meet; first | done | w_fin)
    · first | exact unshared_nil | exact fun h => absurd h (by decide)
end
end
end Mine
theorem PySem.Challenge.cw_nt0098_01_holds : PySem.Challenge.rw_nt0098_01.Holds :=
  Mine.final
